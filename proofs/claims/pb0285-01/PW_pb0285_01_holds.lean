import PyProof.Rows.All
import Wide.All
import OpenK.AllK
import Wide.FinOn
import Lean
import PySem.Challenge.RW_pb0285_01
set_option Elab.async false
set_option maxRecDepth 100000
set_option maxHeartbeats 8000000
set_option linter.unusedVariables false
set_option linter.unusedSimpArgs false
set_option linter.constructorNameAsVariable false
set_option tactic.hygienic false
set_option genInjectivity false
set_option genCtorIdx false
set_option backward.eqns.nonrecursive false
set_option bootstrap.genMatcherCode false
set_option genSizeOf false
set_option genSizeOfSpec false
namespace Mine
abbrev QV0:=PySem.Value->PySem.Shared->Prop
abbrev QA0:=PySem.Addr->PySem.Shared->Prop
open _root_.List renaming append_assoc → iq0, mem_singleton → iq4, length_append → iq6, append_nil → iq7, length_map → iq9, all_eq_true → iz0, size_toArray → iz1, lookup_cons → iz2, mem_append → iz5, mem_cons_self → iz6, getElem?_eq_some_iff → iz7, getElem?_append_left → iz8, getElem?_set_ne → iz9, cons_append → ix2, mem_cons_of_mem → ix3, getElem?_append_right → ix5, mem_cons → ix7, all_cons → ij1, map_cons → ij2, getElem?_eq_getElem → ij6, zip_cons_cons → ik1, isEmpty_iff → ik3, mem_map → ik5, getElem?_set_self → ik7, length_cons → ik8, mem_of_getElem? → iv0, map_append → iv6, all_nil → iw0, length_drop → iw1, getElem?_map → iw2, any_eq_true → iw9, take_of_length_le → oq1, getElem?_toArray → oq3, not_mem_nil → oq4, drop_drop → oq5, find?_cons → oq7, filterMap_cons → oq8, forIn_cons → oq9, getElem?_eq_none → oz2, nodup_append → oz7, nil_append → oz8, length_eq_zero_iff → ox0, length_reverse → ox2, length_set → ox6, any_cons → ox7
open _root_.Nat renaming le_refl → iq1, le_trans → iq2, lt_of_lt_of_le → iq3, sub_add_cancel → iq8, le_max_right → iz3, le_max_left → iz4, ne_of_gt → ix0, le_of_ble_eq_true → ix4, le_antisymm → ix9, add_le_add_left → ij0, le_of_eq → ij3, le_add_right → ij4, ne_of_lt → ij5, lt_succ_self → ij7, add_le_add → ij8, le_of_not_lt → ik2, le_add_left → ik4, le_of_succ_le → ik9, succ_le_succ → iv1, sub_self → iv4, mul_le_mul_left → iv5, succ_pos → iv7, zero_le → iv8, add_le_add_right → iw7, lt_of_not_le → oq0, lt_irrefl → oq2, lt_succ_of_le → oq6, lt_of_lt_of_eq → oz4, le_succ → oz5, lt_succ_of_lt → oz6, le_of_lt → oz9, min_le_right → ox3, lt_of_le_of_lt → ox4
open _root_.Bool renaming and_eq_true → iq5, false_ne_true → ix8, not_eq_true' → ij9, or_eq_true → iw3, true_and → iw5, and_true → iw6, not_eq_true → oz0, false_eq_true → oz3, false_or → ox8
open _root_.Option renaming map_eq_some_iff → ix1, isSome_iff_exists → ik0, isNone_iff_eq_none → iv3, bind_eq_some_iff → ox1
open _root_.Int renaming ofNat_le → ix6, ofNat_lt → ik6, not_lt → iv2, lt_of_le_of_lt → iv9, natCast_nonneg → iw4, le_trans → iw8, le_of_lt → oz1, lt_of_lt_of_le → ox5
section

theorem zz9  {p1:Prop} {p2:Prop} {c:Prop} (h:p1/\p2) (k:p1->p2->c):c:=k h.1 h.2
theorem zg6  {p1:Prop} {p2:Prop} {p3:Prop} {c:Prop} (h:p1/\p2/\p3) (k:p1->p2->p3->c):c:=k h.1 (h.2).1 h.2.2
theorem el03  {p1:Prop} {p2:Prop} {p3:Prop} {p4:Prop} {c:Prop} (h:p1/\p2/\p3/\p4) (k:p1->p2->p3->p4->c):c:=k h.1 (h.2).1 (h.2.2).1 h.2.2.2
theorem el05  {p1:Prop} {p2:Prop} {p3:Prop} {p4:Prop} {p5:Prop} {p6:Prop} {c:Prop} (h:p1/\p2/\p3/\p4/\p5/\p6) (k:p1->p2->p3->p4->p5->p6->c):c:=k h.1 (h.2).1 (h.2.2).1 (h.2.2.2).1 (h.2.2.2.2).1 h.2.2.2.2.2
theorem el06  {p1:Prop} {p2:Prop} {p3:Prop} {p4:Prop} {p5:Prop} {p6:Prop} {p7:Prop} {c:Prop} (h:p1/\p2/\p3/\p4/\p5/\p6/\p7) (k:p1->p2->p3->p4->p5->p6->p7->c):c:=k h.1 (h.2).1 (h.2.2).1 (h.2.2.2).1 (h.2.2.2.2).1 (h.2.2.2.2.2).1 h.2.2.2.2.2.2
theorem el10.{u1} {a1:Sort u1} {p1:a1->Prop} {c:Prop} (h:∃ x1:a1,p1 x1) (k:∀ (x1:a1),p1 x1->c):c:=Exists.elim h fun x1 q1=>k x1 q1
theorem el11.{u1} {a1:Sort u1} {p1:a1->Prop} {p2:a1->Prop} {c:Prop} (h:∃ x1:a1,p1 x1/\p2 x1) (k:∀ (x1:a1),p1 x1->p2 x1->c):c:=Exists.elim h fun x1 q1=>k x1 q1.1 q1.2
theorem el12.{u1} {a1:Sort u1} {p1:a1->Prop} {p2:a1->Prop} {p3:a1->Prop} {c:Prop} (h:∃ x1:a1,p1 x1/\p2 x1/\p3 x1) (k:∀ (x1:a1),p1 x1->p2 x1->p3 x1->c):c:=Exists.elim h fun x1 q1=>k x1 q1.1 q1.2.1 q1.2.2
theorem el20.{u1,u2} {a1:Sort u1} {a2:Sort u2} {p1:a1->a2->Prop} {c:Prop} (h:∃ x1:a1,∃ x2:a2,p1 x1 x2) (k:∀ (x1:a1) (x2:a2),p1 x1 x2->c):c:=Exists.elim h fun x1 q1=>Exists.elim q1 fun x2 q2=>k x1 x2 q2
theorem el21.{u1,u2} {a1:Sort u1} {a2:Sort u2} {p1:a1->a2->Prop} {p2:a1->a2->Prop} {c:Prop} (h:∃ x1:a1,∃ x2:a2,p1 x1 x2/\p2 x1 x2) (k:∀ (x1:a1) (x2:a2),p1 x1 x2->p2 x1 x2->c):c:=Exists.elim h fun x1 q1=>Exists.elim q1 fun x2 q2=>k x1 x2 q2.1 q2.2
theorem el22.{u1,u2} {a1:Sort u1} {a2:Sort u2} {p1:a1->a2->Prop} {p2:a1->a2->Prop} {p3:a1->a2->Prop} {c:Prop} (h:∃ x1:a1,∃ x2:a2,p1 x1 x2/\p2 x1 x2/\p3 x1 x2) (k:∀ (x1:a1) (x2:a2),p1 x1 x2->p2 x1 x2->p3 x1 x2->c):c:=Exists.elim h fun x1 q1=>Exists.elim q1 fun x2 q2=>k x1 x2 q2.1 q2.2.1 q2.2.2
theorem el23.{u1,u2} {a1:Sort u1} {a2:Sort u2} {p1:a1->a2->Prop} {p2:a1->a2->Prop} {p3:a1->a2->Prop} {p4:a1->a2->Prop} {c:Prop} (h:∃ x1:a1,∃ x2:a2,p1 x1 x2/\p2 x1 x2/\p3 x1 x2/\p4 x1 x2) (k:∀ (x1:a1) (x2:a2),p1 x1 x2->p2 x1 x2->p3 x1 x2->p4 x1 x2->c):c:=Exists.elim h fun x1 q1=>Exists.elim q1 fun x2 q2=>k x1 x2 q2.1 q2.2.1 q2.2.2.1 q2.2.2.2
theorem el24.{u1,u2} {a1:Sort u1} {a2:Sort u2} {p1:a1->a2->Prop} {p2:a1->a2->Prop} {p3:a1->a2->Prop} {p4:a1->a2->Prop} {p5:a1->a2->Prop} {c:Prop} (h:∃ x1:a1,∃ x2:a2,p1 x1 x2/\p2 x1 x2/\p3 x1 x2/\p4 x1 x2/\p5 x1 x2) (k:∀ (x1:a1) (x2:a2),p1 x1 x2->p2 x1 x2->p3 x1 x2->p4 x1 x2->p5 x1 x2->c):c:=Exists.elim h fun x1 q1=>Exists.elim q1 fun x2 q2=>k x1 x2 q2.1 q2.2.1 q2.2.2.1 q2.2.2.2.1 q2.2.2.2.2
theorem el25.{u1,u2} {a1:Sort u1} {a2:Sort u2} {p1:a1->a2->Prop} {p2:a1->a2->Prop} {p3:a1->a2->Prop} {p4:a1->a2->Prop} {p5:a1->a2->Prop} {p6:a1->a2->Prop} {c:Prop} (h:∃ x1:a1,∃ x2:a2,p1 x1 x2/\p2 x1 x2/\p3 x1 x2/\p4 x1 x2/\p5 x1 x2/\p6 x1 x2) (k:∀ (x1:a1) (x2:a2),p1 x1 x2->p2 x1 x2->p3 x1 x2->p4 x1 x2->p5 x1 x2->p6 x1 x2->c):c:=Exists.elim h fun x1 q1=>Exists.elim q1 fun x2 q2=>k x1 x2 q2.1 q2.2.1 q2.2.2.1 q2.2.2.2.1 q2.2.2.2.2.1 q2.2.2.2.2.2
theorem el30.{u1,u2,u3} {a1:Sort u1} {a2:Sort u2} {a3:Sort u3} {p1:a1->a2->a3->Prop} {c:Prop} (h:∃ x1:a1,∃ x2:a2,∃ x3:a3,p1 x1 x2 x3) (k:∀ (x1:a1) (x2:a2) (x3:a3),p1 x1 x2 x3->c):c:=Exists.elim h fun x1 q1=>Exists.elim q1 fun x2 q2=>Exists.elim q2 fun x3 q3=>k x1 x2 x3 q3
theorem el31.{u1,u2,u3} {a1:Sort u1} {a2:Sort u2} {a3:Sort u3} {p1:a1->a2->a3->Prop} {p2:a1->a2->a3->Prop} {c:Prop} (h:∃ x1:a1,∃ x2:a2,∃ x3:a3,p1 x1 x2 x3/\p2 x1 x2 x3) (k:∀ (x1:a1) (x2:a2) (x3:a3),p1 x1 x2 x3->p2 x1 x2 x3->c):c:=Exists.elim h fun x1 q1=>Exists.elim q1 fun x2 q2=>Exists.elim q2 fun x3 q3=>k x1 x2 x3 q3.1 q3.2
theorem el32.{u1,u2,u3} {a1:Sort u1} {a2:Sort u2} {a3:Sort u3} {p1:a1->a2->a3->Prop} {p2:a1->a2->a3->Prop} {p3:a1->a2->a3->Prop} {c:Prop} (h:∃ x1:a1,∃ x2:a2,∃ x3:a3,p1 x1 x2 x3/\p2 x1 x2 x3/\p3 x1 x2 x3) (k:∀ (x1:a1) (x2:a2) (x3:a3),p1 x1 x2 x3->p2 x1 x2 x3->p3 x1 x2 x3->c):c:=Exists.elim h fun x1 q1=>Exists.elim q1 fun x2 q2=>Exists.elim q2 fun x3 q3=>k x1 x2 x3 q3.1 q3.2.1 q3.2.2
theorem el33.{u1,u2,u3} {a1:Sort u1} {a2:Sort u2} {a3:Sort u3} {p1:a1->a2->a3->Prop} {p2:a1->a2->a3->Prop} {p3:a1->a2->a3->Prop} {p4:a1->a2->a3->Prop} {c:Prop} (h:∃ x1:a1,∃ x2:a2,∃ x3:a3,p1 x1 x2 x3/\p2 x1 x2 x3/\p3 x1 x2 x3/\p4 x1 x2 x3) (k:∀ (x1:a1) (x2:a2) (x3:a3),p1 x1 x2 x3->p2 x1 x2 x3->p3 x1 x2 x3->p4 x1 x2 x3->c):c:=Exists.elim h fun x1 q1=>Exists.elim q1 fun x2 q2=>Exists.elim q2 fun x3 q3=>k x1 x2 x3 q3.1 q3.2.1 q3.2.2.1 q3.2.2.2
theorem el34.{u1,u2,u3} {a1:Sort u1} {a2:Sort u2} {a3:Sort u3} {p1:a1->a2->a3->Prop} {p2:a1->a2->a3->Prop} {p3:a1->a2->a3->Prop} {p4:a1->a2->a3->Prop} {p5:a1->a2->a3->Prop} {c:Prop} (h:∃ x1:a1,∃ x2:a2,∃ x3:a3,p1 x1 x2 x3/\p2 x1 x2 x3/\p3 x1 x2 x3/\p4 x1 x2 x3/\p5 x1 x2 x3) (k:∀ (x1:a1) (x2:a2) (x3:a3),p1 x1 x2 x3->p2 x1 x2 x3->p3 x1 x2 x3->p4 x1 x2 x3->p5 x1 x2 x3->c):c:=Exists.elim h fun x1 q1=>Exists.elim q1 fun x2 q2=>Exists.elim q2 fun x3 q3=>k x1 x2 x3 q3.1 q3.2.1 q3.2.2.1 q3.2.2.2.1 q3.2.2.2.2
theorem el35.{u1,u2,u3} {a1:Sort u1} {a2:Sort u2} {a3:Sort u3} {p1:a1->a2->a3->Prop} {p2:a1->a2->a3->Prop} {p3:a1->a2->a3->Prop} {p4:a1->a2->a3->Prop} {p5:a1->a2->a3->Prop} {p6:a1->a2->a3->Prop} {c:Prop} (h:∃ x1:a1,∃ x2:a2,∃ x3:a3,p1 x1 x2 x3/\p2 x1 x2 x3/\p3 x1 x2 x3/\p4 x1 x2 x3/\p5 x1 x2 x3/\p6 x1 x2 x3) (k:∀ (x1:a1) (x2:a2) (x3:a3),p1 x1 x2 x3->p2 x1 x2 x3->p3 x1 x2 x3->p4 x1 x2 x3->p5 x1 x2 x3->p6 x1 x2 x3->c):c:=Exists.elim h fun x1 q1=>Exists.elim q1 fun x2 q2=>Exists.elim q2 fun x3 q3=>k x1 x2 x3 q3.1 q3.2.1 q3.2.2.1 q3.2.2.2.1 q3.2.2.2.2.1 q3.2.2.2.2.2
theorem el40.{u1,u2,u3,u4} {a1:Sort u1} {a2:Sort u2} {a3:Sort u3} {a4:Sort u4} {p1:a1->a2->a3->a4->Prop} {c:Prop} (h:∃ x1:a1,∃ x2:a2,∃ x3:a3,∃ x4:a4,p1 x1 x2 x3 x4) (k:∀ (x1:a1) (x2:a2) (x3:a3) (x4:a4),p1 x1 x2 x3 x4->c):c:=Exists.elim h fun x1 q1=>Exists.elim q1 fun x2 q2=>Exists.elim q2 fun x3 q3=>Exists.elim q3 fun x4 q4=>k x1 x2 x3 x4 q4
theorem el42.{u1,u2,u3,u4} {a1:Sort u1} {a2:Sort u2} {a3:Sort u3} {a4:Sort u4} {p1:a1->a2->a3->a4->Prop} {p2:a1->a2->a3->a4->Prop} {p3:a1->a2->a3->a4->Prop} {c:Prop} (h:∃ x1:a1,∃ x2:a2,∃ x3:a3,∃ x4:a4,p1 x1 x2 x3 x4/\p2 x1 x2 x3 x4/\p3 x1 x2 x3 x4) (k:∀ (x1:a1) (x2:a2) (x3:a3) (x4:a4),p1 x1 x2 x3 x4->p2 x1 x2 x3 x4->p3 x1 x2 x3 x4->c):c:=Exists.elim h fun x1 q1=>Exists.elim q1 fun x2 q2=>Exists.elim q2 fun x3 q3=>Exists.elim q3 fun x4 q4=>k x1 x2 x3 x4 q4.1 q4.2.1 q4.2.2
theorem el43.{u1,u2,u3,u4} {a1:Sort u1} {a2:Sort u2} {a3:Sort u3} {a4:Sort u4} {p1:a1->a2->a3->a4->Prop} {p2:a1->a2->a3->a4->Prop} {p3:a1->a2->a3->a4->Prop} {p4:a1->a2->a3->a4->Prop} {c:Prop} (h:∃ x1:a1,∃ x2:a2,∃ x3:a3,∃ x4:a4,p1 x1 x2 x3 x4/\p2 x1 x2 x3 x4/\p3 x1 x2 x3 x4/\p4 x1 x2 x3 x4) (k:∀ (x1:a1) (x2:a2) (x3:a3) (x4:a4),p1 x1 x2 x3 x4->p2 x1 x2 x3 x4->p3 x1 x2 x3 x4->p4 x1 x2 x3 x4->c):c:=Exists.elim h fun x1 q1=>Exists.elim q1 fun x2 q2=>Exists.elim q2 fun x3 q3=>Exists.elim q3 fun x4 q4=>k x1 x2 x3 x4 q4.1 q4.2.1 q4.2.2.1 q4.2.2.2
theorem el44.{u1,u2,u3,u4} {a1:Sort u1} {a2:Sort u2} {a3:Sort u3} {a4:Sort u4} {p1:a1->a2->a3->a4->Prop} {p2:a1->a2->a3->a4->Prop} {p3:a1->a2->a3->a4->Prop} {p4:a1->a2->a3->a4->Prop} {p5:a1->a2->a3->a4->Prop} {c:Prop} (h:∃ x1:a1,∃ x2:a2,∃ x3:a3,∃ x4:a4,p1 x1 x2 x3 x4/\p2 x1 x2 x3 x4/\p3 x1 x2 x3 x4/\p4 x1 x2 x3 x4/\p5 x1 x2 x3 x4) (k:∀ (x1:a1) (x2:a2) (x3:a3) (x4:a4),p1 x1 x2 x3 x4->p2 x1 x2 x3 x4->p3 x1 x2 x3 x4->p4 x1 x2 x3 x4->p5 x1 x2 x3 x4->c):c:=Exists.elim h fun x1 q1=>Exists.elim q1 fun x2 q2=>Exists.elim q2 fun x3 q3=>Exists.elim q3 fun x4 q4=>k x1 x2 x3 x4 q4.1 q4.2.1 q4.2.2.1 q4.2.2.2.1 q4.2.2.2.2
theorem bcs (b:Bool) {c:Prop} (t:b=true->c) (f:b=false->c):c:=by
 cases b with
 | true=>exact t rfl
 | false=>exact f rfl
theorem ocs.{u} {α:Type u} (o:Option α) {c:Prop} (n:o=none->c) (s:∀ a,o=some a->c):c:=by
 cases o with
 | none=>exact n rfl
 | some a=>exact s a rfl
theorem lcs.{u} {α:Type u} (l:List α) {c:Prop} (n:l=[]->c) (k:∀ t r,l=t::r->c):c:=by
 cases l with
 | nil=>exact n rfl
 | cons t r=>exact k t r rfl
theorem hid {p:Prop} (h:∀ G:Prop,(p->G)->G):p:=h p id
theorem nl {a b:Nat} (h:Nat.ble a b=true):a<=b:=ix4 h
theorem ld {a b c:Nat} (h:a<=b) (k:Nat.ble b c=true):a<=c:=iq2 h (nl k)
theorem sb {F k m:Nat} (h:F + k<=m):m=m - k + k:=(iq8 (iq2 (ik4 _ _) h)).symm
theorem upk0 {k m:Nat} (h:k<=m):∃ p,m=p + k:=⟨m - k,(iq8 h).symm⟩
theorem fits {lo hi k:Int} (a:lo<=k) (b:k < hi):(decide (k < lo)||decide (k>=hi))=false:=by
 rw [decide_eq_false (iv2.mpr a),decide_eq_false (Int.not_le.mpr b)];rfl
theorem cmin (a b:Nat):((min a b:Nat):Int)=min (a:Int) b:=by
 rcases Nat.le_total a b with h|h
 ·rw [Nat.min_eq_left h,Int.min_eq_left (ix6.mpr h)]
 ·rw [Nat.min_eq_right h,Int.min_eq_right (ix6.mpr h)]
theorem nabs {i:Int} {n:Nat} (a:-(n:Int)<=i) (b:i<=n):i.natAbs<=n:=by
 cases i with
 | ofNat m=>exact ix6.mp b
 | negSucc m=>exact ix6.mp (Int.le_of_neg_le_neg a)
theorem tsub {t r:Nat} (h:r + 1<=t):t - (r + 1) + 1=t - r:=Nat.succ_pred_eq_of_pos (Nat.sub_pos_of_lt h)
theorem turn {i m w:Nat} (hi:i + m=w) (h:i < w):m - 1 < m/\i + 1 + (m - 1)=w:=
 have hm:0 < m:=Nat.pos_of_lt_add_right (hi.symm▸h)
 ⟨Nat.sub_lt hm Nat.zero_lt_one,(Nat.succ_add_eq_add_succ i _).trans ((congrArg (fun U=>i + U) (iq8 hm)).trans hi)⟩
theorem mxl {a b c:Nat} (h:max a b<=c):a<=c:=iq2 (iz4 _ _) h
theorem mxr {a b c:Nat} (h:max a b<=c):b<=c:=iq2 (iz3 _ _) h
theorem al {a b c:Nat} (h:a + b<=c):a<=c:=iq2 (ij4 _ _) h
theorem ar {a b c:Nat} (h:a + b<=c):b<=c:=iq2 (ik4 _ _) h
theorem up1 {F m:Nat} (h:F + 1<=m):∃ p,m=p + 1/\F<=p:=by
 cases m with
 | zero=>cases h
 | succ p=>exact ⟨p,rfl,Nat.le_of_succ_le_succ h⟩
theorem ifs {α:Type} {c:Prop} [Decidable c] {a b:α} (h:(if c then some a else none)=some b):c/\a=b:=by
 by_cases q:c
 ·rw [if_pos q] at h;exact ⟨q,Option.some.inj h⟩
 ·rw [if_neg q] at h;cases h
theorem bb {a b:Bool} (h:(a&&b)=true):a=true/\b=true:=(iq5 a b).mp h
theorem bd {p q:Prop} [Decidable p] [Decidable q] (h:(decide p&&decide q)=true):p/\q:=⟨of_decide_eq_true (bb h).1,of_decide_eq_true (bb h).2⟩
theorem el50 {a1 a2 a3 a4 a5:Type} {p:a1->a2->a3->a4->a5->Prop} {c:Prop} (h:∃ x1 x2 x3 x4 x5,p x1 x2 x3 x4 x5) (k:∀ x1 x2 x3 x4 x5,p x1 x2 x3 x4 x5->c):c:=el40 h fun x1 x2 x3 x4 q=>Exists.elim q fun x5 q=>k x1 x2 x3 x4 x5 q
theorem zz7 {α:Type} {a:α} {P:Prop} (h:Option.none=some a):P:=nomatch h
theorem upk2 {F k m:Nat} (h:F + k<=m):∃ p,m=p + k/\F<=p:=⟨m - k,sb h,Nat.le_sub_of_add_le h⟩
theorem exI.{u,v} {α:Sort u} {β:Sort v} {c:Prop} (P:α->β->Prop) (h:∀ I:α->β->Prop,(∀ x y,I x y->P x y)->(∀ x y,P x y->I x y)->c):c:=h P (fun U U z=>z) fun U U z=>z
inductive LnT where
 | v (i:Nat)
 | n (k:Nat)
 | a (x y:LnT)
 | m (k:Nat) (x:LnT)
 | r (x:LnT) (k:Nat)
noncomputable def LnT.ctorIdx (x:LnT):Nat:=LnT.casesOn (motive:=fun U=>Nat) x (fun U=>0) (fun U=>1) (fun U U=>2) (fun U U=>3) (fun U U=>4)
noncomputable def LnT.d (c:Nat->Nat):LnT->Nat:=LnT.rec c (fun k=>k) (fun U U x y=>x + y) (fun k U x=>k * x) (fun U k x=>x * k)
noncomputable def LnT.k:LnT->Nat:=LnT.rec (fun U=>0) (fun k=>k) (fun U U x y=>Nat.add x y) (fun k U x=>Nat.mul k x) (fun U k x=>Nat.mul k x)
noncomputable def LnT.c (j:Nat):LnT->Nat:=LnT.rec (fun i=>bif Nat.beq i j then 1 else 0) (fun U=>0) (fun U U x y=>Nat.add x y) (fun k U x=>Nat.mul k x) (fun U k x=>Nat.mul k x)
noncomputable def zh1 (c:Nat->Nat) (f:Nat->Nat):Nat->Nat:=Nat.rec 0 fun j s=>s + f j * c j
theorem uk9 {c f g:Nat->Nat} (n:Nat):zh1 c (fun j=>f j + g j) n=zh1 c f n + zh1 c g n:=by
 induction n with
 | zero=>rfl
 | succ n ih=>show zh1 c _ n + (f n + g n) * c n=(zh1 c f n + f n * c n) + (zh1 c g n + g n * c n);rw [ih,Nat.add_mul];exact Nat.add_add_add_comm _ _ _ _
theorem xp9 {c f:Nat->Nat} (k n:Nat):zh1 c (fun j=>k * f j) n=k * zh1 c f n:=by
 induction n with
 | zero=>rfl
 | succ n ih=>show zh1 c _ n + (k * f n) * c n=k * (zh1 c f n + f n * c n);rw [ih,Nat.mul_add,Nat.mul_assoc]
theorem lnsum_le {c f g:Nat->Nat} (n:Nat) (h:∀ j,j < n->f j<=g j):zh1 c f n<=zh1 c g n:=by
 induction n with
 | zero=>exact iq1 _
 | succ n ih=>exact ij8 (ih fun j q=>h j (oz6 q)) (Nat.mul_le_mul_right _ (h n (ij7 n)))
theorem vv5 {c:Nat->Nat} (n:Nat):zh1 c (fun U=>0) n=0:=by
 induction n with
 | zero=>rfl
 | succ n ih=>show zh1 c _ n + 0 * c n=0;rw [ih,Nat.zero_mul]
theorem uk8 {c:Nat->Nat} (i n:Nat):zh1 c (fun j=>bif Nat.beq i j then 1 else 0) n=if i < n then c i else 0:=by
 induction n with
 | zero=>rfl
 | succ n ih=>
  show zh1 c _ n + (bif Nat.beq i n then 1 else 0) * c n=_;rw [ih];by_cases h:i=n
  ·subst h;rw [if_neg (oq2 _),if_pos (ij7 _),Nat.beq_refl];show 0 + 1 * c i=c i;rw [Nat.zero_add,Nat.one_mul]
  ·cases e:Nat.beq i n with
   | true=>exact absurd (Nat.eq_of_beq_eq_true e) h
   | false=>
    show _ + 0 * c n=_;rw [Nat.zero_mul];by_cases q:i < n
    ·rw [if_pos q,if_pos (oz6 q)];rfl
    ·rw [if_neg q,if_neg fun z=>(Nat.lt_succ_iff_lt_or_eq.mp z).elim q h]
noncomputable def LnT.ok:LnT->Bool:=LnT.rec (fun i=>Nat.ble (i + 1) 10) (fun U=>true) (fun U U x y=>x&&y) (fun U U x=>x) (fun U U x=>x)
theorem LnT.val {c:Nat->Nat}:∀ t:LnT,t.ok=true->t.d c=t.k + zh1 c (fun j=>t.c j) 10
 | .v i,h=>by
  show c i=0 + zh1 c (fun j=>bif Nat.beq i j then 1 else 0) 10;rw [uk8,if_pos (show i < 10 from ix4 h)];exact (Nat.zero_add _).symm
 | .n k,_=>by show k=k + zh1 c (fun U=>0) 10;rw [vv5];rfl
 | .a x y,h=>by
  have h':(x.ok&&y.ok)=true:=h;rw [iq5] at h';show x.d c + y.d c=(x.k + y.k) + zh1 c (fun j=>x.c j + y.c j) 10;rw [uk9,x.val h'.1,y.val h'.2];exact Nat.add_add_add_comm _ _ _ _
 | .m k x,h=>by
  show k * x.d c=k * x.k + zh1 c (fun j=>k * x.c j) 10;rw [xp9,x.val h,Nat.mul_add]
 | .r x k,h=>by
  show x.d c * k=k * x.k + zh1 c (fun j=>k * x.c j) 10;rw [xp9,x.val h,Nat.mul_comm,Nat.mul_add]
noncomputable def xw0 (x y:LnT):Bool:=x.ok&&y.ok&&Nat.ble x.k y.k&&Nat.rec true (fun j r=>Nat.ble (x.c j) (y.c j)&&r) 10
theorem wp8 {c:Nat->Nat} {x y:LnT} (h:xw0 x y=true):x.d c<=y.d c:=by
 unfold xw0 at h;rw [iq5,iq5,iq5] at h;obtain ⟨⟨⟨h1,h2⟩,h3⟩,h4⟩:=h;rw [x.val h1,y.val h2];refine ij8 (ix4 h3) (lnsum_le 10 ?_);have:∀ n:Nat,(Nat.rec true (fun j r=>Nat.ble (x.c j) (y.c j)&&r) n:Bool)=true->∀ j,j < n->x.c j<=y.c j:=by
  intro n;induction n with
  | zero=>intro _ j q;cases q
  | succ n ih=>
   intro q j hj;have q':(Nat.ble (x.c n) (y.c n)&&(Nat.rec true (fun j r=>Nat.ble (x.c j) (y.c j)&&r) n:Bool))=true:=q;rw [iq5] at q';rcases Nat.lt_succ_iff_lt_or_eq.mp hj with z|z
   ·exact ih q'.2 j z
   ·subst z;exact ix4 q'.1
 exact this 10 h4
structure LnR where
 t:LnT
 r:Nat
noncomputable def xz3:Nat->Nat->LnR:=Nat.rec (fun c=>⟨.n 0,c⟩) fun U ih c=>
 bif Nat.beq (Nat.mod c 16) 1 then ⟨.a (ih (Nat.div c 16)).t (ih (ih (Nat.div c 16)).r).t,(ih (ih (Nat.div c 16)).r).r⟩
 else bif Nat.beq (Nat.mod c 16) 2 then ⟨.m (Nat.mod (Nat.div c 16) 16) (ih (Nat.div c 256)).t,(ih (Nat.div c 256)).r⟩
 else bif Nat.beq (Nat.mod c 16) 3 then ⟨.n (Nat.mod (Nat.div c 16) 16),Nat.div c 256⟩
 else bif Nat.beq (Nat.mod c 16) 4 then ⟨.n (Nat.mod (Nat.div c 16) 268435456),Nat.div c 4294967296⟩
 else bif Nat.beq (Nat.mod c 16) 5 then ⟨.r (ih (Nat.div c 256)).t (Nat.mod (Nat.div c 16) 16),(ih (Nat.div c 256)).r⟩
 else bif Nat.beq (Nat.mod c 16) 6 then ⟨.n (Nat.mod (Nat.div c 16) 256),Nat.div c 4096⟩
 else ⟨.v (Nat.sub (Nat.mod c 16) 7),Nat.div c 16⟩
structure LnF where
 k:Nat
 x:LnT
 y:LnT
 r:Nat
noncomputable def uv1 (c:Nat):LnF:=⟨Nat.mod c 16,(xz3 30 (Nat.div c 16)).t,(xz3 30 (xz3 30 (Nat.div c 16)).r).t,(xz3 30 (xz3 30 (Nat.div c 16)).r).r⟩
noncomputable def LnF.p (f:LnF) (c:Nat->Nat):Prop:=bif Nat.ble 8 f.k then f.x.d c=f.y.d c else f.x.d c<=f.y.d c
noncomputable def LnF.s (f:LnF):LnT:=bif Nat.ble 12 f.k then .m (Nat.sub f.k 12) f.y else bif Nat.ble 8 f.k then .m (Nat.sub f.k 8) f.x else .m f.k f.x
noncomputable def LnF.l (f:LnF):LnT:=bif Nat.ble 12 f.k then .m (Nat.sub f.k 12) f.x else bif Nat.ble 8 f.k then .m (Nat.sub f.k 8) f.y else .m f.k f.y
theorem LnF.le {f:LnF} {c:Nat->Nat} (h:f.p c):f.s.d c<=f.l.d c:=by
 unfold LnF.p at h;unfold LnF.s LnF.l;cases q:Nat.ble 8 f.k with
 | true=>
  rw [q] at h;have h:f.x.d c=f.y.d c:=h;cases q2:Nat.ble 12 f.k with
  | true=>exact iv5 _ (ij3 h.symm)
  | false=>exact iv5 _ (ij3 h)
 | false=>
  rw [q] at h;have:Nat.ble 12 f.k=false:=by
   cases q2:Nat.ble 12 f.k with
   | false=>rfl
   | true=>have:=ix4 q2;have z:Nat.ble 8 f.k=true:=Nat.ble_eq_true_of_le (iq2 (by decide) this);rw [z] at q;cases q
  rw [this];exact iv5 _ h
theorem uv0 {c:Nat->Nat} {x y s l:LnT} (h:xw0 (.a x l) (.a y s)=true) (q:s.d c<=l.d c):x.d c<=y.d c:=by
 have:=wp8 (c:=c) h;have:x.d c + l.d c<=y.d c + s.d c:=this;exact Nat.le_of_add_le_add_right (iq2 this (ij0 q _))
noncomputable def lv1 (a:Nat):Nat->Nat:=fun U=>a
noncomputable def lv2 (a b:Nat):Nat->Nat:=fun i=>Nat.rec a (fun j U=>lv1 b j) i
noncomputable def lv3 (a b d:Nat):Nat->Nat:=fun i=>Nat.rec a (fun j U=>lv2 b d j) i
noncomputable def lv4 (a b d e:Nat):Nat->Nat:=fun i=>Nat.rec a (fun j U=>lv3 b d e j) i
noncomputable def lv5 (a b d e f:Nat):Nat->Nat:=fun i=>Nat.rec a (fun j U=>lv4 b d e f j) i
noncomputable def lv6 (a b d e f g:Nat):Nat->Nat:=fun i=>Nat.rec a (fun j U=>lv5 b d e f g j) i
noncomputable def lgx (c:Nat):LnT:=(xz3 30 c).t
noncomputable def lgy (c:Nat):LnT:=(xz3 30 (xz3 30 c).r).t
noncomputable def lg1 (c:Nat):LnF:=uv1 (xz3 30 (xz3 30 c).r).r
noncomputable def lg2 (c:Nat):LnF:=uv1 (lg1 c).r
noncomputable def lg3 (c:Nat):LnF:=uv1 (lg2 c).r
noncomputable def lg4 (c:Nat):LnF:=uv1 (lg3 c).r
noncomputable def lg5 (c:Nat):LnF:=uv1 (lg4 c).r
noncomputable def lc0 (c:Nat):Bool:=xw0 (lgx c) (lgy c)
noncomputable def lc1 (c:Nat):Bool:=xw0 (.a (lgx c) (lg1 c).l) (.a (lgy c) (lg1 c).s)
noncomputable def lc2 (c:Nat):Bool:=xw0 (.a (lgx c) (.a (lg1 c).l (lg2 c).l)) (.a (lgy c) (.a (lg1 c).s (lg2 c).s))
noncomputable def lc3 (c:Nat):Bool:=xw0 (.a (lgx c) (.a (lg1 c).l (.a (lg2 c).l (lg3 c).l))) (.a (lgy c) (.a (lg1 c).s (.a (lg2 c).s (lg3 c).s)))
noncomputable def lc4 (c:Nat):Bool:=xw0 (.a (lgx c) (.a (lg1 c).l (.a (lg2 c).l (.a (lg3 c).l (lg4 c).l)))) (.a (lgy c) (.a (lg1 c).s (.a (lg2 c).s (.a (lg3 c).s (lg4 c).s))))
noncomputable def lc5 (c:Nat):Bool:=xw0 (.a (lgx c) (.a (lg1 c).l (.a (lg2 c).l (.a (lg3 c).l (.a (lg4 c).l (lg5 c).l))))) (.a (lgy c) (.a (lg1 c).s (.a (lg2 c).s (.a (lg3 c).s (.a (lg4 c).s (lg5 c).s)))))
theorem ln0 {c:Nat->Nat} (n:Nat) (h:lc0 n=true):(lgx n).d c<=(lgy n).d c:=wp8 h
theorem ln1 {c:Nat->Nat} (n:Nat) (h:lc1 n=true) (a:(lg1 n).p c):(lgx n).d c<=(lgy n).d c:=uv0 h (LnF.le a)
theorem ln2 {c:Nat->Nat} (n:Nat) (h:lc2 n=true) (a:(lg1 n).p c) (b:(lg2 n).p c):(lgx n).d c<=(lgy n).d c:=uv0 h (ij8 (LnF.le a) (LnF.le b))
theorem ln3 {c:Nat->Nat} (n:Nat) (h:lc3 n=true) (a:(lg1 n).p c) (b:(lg2 n).p c) (d:(lg3 n).p c):(lgx n).d c<=(lgy n).d c:=uv0 h (ij8 (LnF.le a) (ij8 (LnF.le b) (LnF.le d)))
theorem ln4 {c:Nat->Nat} (n:Nat) (h:lc4 n=true) (a:(lg1 n).p c) (b:(lg2 n).p c) (d:(lg3 n).p c) (e:(lg4 n).p c):(lgx n).d c<=(lgy n).d c:=uv0 h (ij8 (LnF.le a) (ij8 (LnF.le b) (ij8 (LnF.le d) (LnF.le e))))
theorem ln5 {c:Nat->Nat} (n:Nat) (h:lc5 n=true) (a:(lg1 n).p c) (b:(lg2 n).p c) (d:(lg3 n).p c) (e:(lg4 n).p c) (f:(lg5 n).p c):(lgx n).d c<=(lgy n).d c:=uv0 h (ij8 (LnF.le a) (ij8 (LnF.le b) (ij8 (LnF.le d) (ij8 (LnF.le e) (LnF.le f)))))
theorem l00 {a b:Nat} (h:Nat.ble a b=true:=by rfl):a<=b:=ix4 h
theorem l10 {a:Nat} (n:Nat) (z:lc0 n=true:=by rfl):(lgx n).d (lv1 a)<=(lgy n).d (lv1 a):=ln0 n z
theorem l11 {a:Nat} (n:Nat) (p:(lg1 n).p (lv1 a)) (z:lc1 n=true:=by rfl):(lgx n).d (lv1 a)<=(lgy n).d (lv1 a):=ln1 n z p
theorem l12 {a:Nat} (n:Nat) (p:(lg1 n).p (lv1 a)) (q:(lg2 n).p (lv1 a)) (z:lc2 n=true:=by rfl):(lgx n).d (lv1 a)<=(lgy n).d (lv1 a):=ln2 n z p q
theorem l20 {a b:Nat} (n:Nat) (z:lc0 n=true:=by rfl):(lgx n).d (lv2 a b)<=(lgy n).d (lv2 a b):=ln0 n z
theorem l21 {a b:Nat} (n:Nat) (p:(lg1 n).p (lv2 a b)) (z:lc1 n=true:=by rfl):(lgx n).d (lv2 a b)<=(lgy n).d (lv2 a b):=ln1 n z p
theorem l22 {a b:Nat} (n:Nat) (p:(lg1 n).p (lv2 a b)) (q:(lg2 n).p (lv2 a b)) (z:lc2 n=true:=by rfl):(lgx n).d (lv2 a b)<=(lgy n).d (lv2 a b):=ln2 n z p q
theorem l30 {a b d:Nat} (n:Nat) (z:lc0 n=true:=by rfl):(lgx n).d (lv3 a b d)<=(lgy n).d (lv3 a b d):=ln0 n z
theorem l31 {a b d:Nat} (n:Nat) (p:(lg1 n).p (lv3 a b d)) (z:lc1 n=true:=by rfl):(lgx n).d (lv3 a b d)<=(lgy n).d (lv3 a b d):=ln1 n z p
theorem l32 {a b d:Nat} (n:Nat) (p:(lg1 n).p (lv3 a b d)) (q:(lg2 n).p (lv3 a b d)) (z:lc2 n=true:=by rfl):(lgx n).d (lv3 a b d)<=(lgy n).d (lv3 a b d):=ln2 n z p q
theorem l33 {a b d:Nat} (n:Nat) (p:(lg1 n).p (lv3 a b d)) (q:(lg2 n).p (lv3 a b d)) (r:(lg3 n).p (lv3 a b d)) (z:lc3 n=true:=by rfl):(lgx n).d (lv3 a b d)<=(lgy n).d (lv3 a b d):=ln3 n z p q r
theorem l41 {a b d e:Nat} (n:Nat) (p:(lg1 n).p (lv4 a b d e)) (z:lc1 n=true:=by rfl):(lgx n).d (lv4 a b d e)<=(lgy n).d (lv4 a b d e):=ln1 n z p
theorem l42 {a b d e:Nat} (n:Nat) (p:(lg1 n).p (lv4 a b d e)) (q:(lg2 n).p (lv4 a b d e)) (z:lc2 n=true:=by rfl):(lgx n).d (lv4 a b d e)<=(lgy n).d (lv4 a b d e):=ln2 n z p q
theorem l43 {a b d e:Nat} (n:Nat) (p:(lg1 n).p (lv4 a b d e)) (q:(lg2 n).p (lv4 a b d e)) (r:(lg3 n).p (lv4 a b d e)) (z:lc3 n=true:=by rfl):(lgx n).d (lv4 a b d e)<=(lgy n).d (lv4 a b d e):=ln3 n z p q r
theorem l44 {a b d e:Nat} (n:Nat) (p:(lg1 n).p (lv4 a b d e)) (q:(lg2 n).p (lv4 a b d e)) (r:(lg3 n).p (lv4 a b d e)) (s:(lg4 n).p (lv4 a b d e)) (z:lc4 n=true:=by rfl):(lgx n).d (lv4 a b d e)<=(lgy n).d (lv4 a b d e):=ln4 n z p q r s
theorem l52 {a b d e f:Nat} (n:Nat) (p:(lg1 n).p (lv5 a b d e f)) (q:(lg2 n).p (lv5 a b d e f)) (z:lc2 n=true:=by rfl):(lgx n).d (lv5 a b d e f)<=(lgy n).d (lv5 a b d e f):=ln2 n z p q
theorem l54 {a b d e f:Nat} (n:Nat) (p:(lg1 n).p (lv5 a b d e f)) (q:(lg2 n).p (lv5 a b d e f)) (r:(lg3 n).p (lv5 a b d e f)) (s:(lg4 n).p (lv5 a b d e f)) (z:lc4 n=true:=by rfl):(lgx n).d (lv5 a b d e f)<=(lgy n).d (lv5 a b d e f):=ln4 n z p q r s
theorem l55 {a b d e f:Nat} (n:Nat) (p:(lg1 n).p (lv5 a b d e f)) (q:(lg2 n).p (lv5 a b d e f)) (r:(lg3 n).p (lv5 a b d e f)) (s:(lg4 n).p (lv5 a b d e f)) (t:(lg5 n).p (lv5 a b d e f)) (z:lc5 n=true:=by rfl):(lgx n).d (lv5 a b d e f)<=(lgy n).d (lv5 a b d e f):=ln5 n z p q r s t
theorem l65 {a b d e f g:Nat} (n:Nat) (p:(lg1 n).p (lv6 a b d e f g)) (q:(lg2 n).p (lv6 a b d e f g)) (r:(lg3 n).p (lv6 a b d e f g)) (s:(lg4 n).p (lv6 a b d e f g)) (t:(lg5 n).p (lv6 a b d e f g)) (z:lc5 n=true:=by rfl):(lgx n).d (lv6 a b d e f g)<=(lgy n).d (lv6 a b d e f g):=ln5 n z p q r s t
end
section
open PySem
noncomputable abbrev exName.{u} {α:Type u} (e:Expr) (d:α) (c0:Str->Pos->α):α:=Expr.casesOn (motive_1:=fun U=>α) e (fun U U U=>d) (fun U U U=>d) (fun U U U U=>d) (fun U U U=>d) (fun U U U U=>d) (fun U U U U=>d) (fun U U U=>d) (fun U U U=>d) (fun U U U U=>d) (fun U U U U=>d) (fun U U U U U=>d) (fun U U U U=>d) (fun U U=>d) (fun U U=>d) (fun U U=>d) (fun U U U U=>d) (fun U U U U=>d) (fun U U U U=>d) (fun U U=>d) (fun U U U=>d) (fun U U U=>d) (fun U U U=>d) (fun U U=>d) c0 (fun U U=>d) (fun U U U=>d) (fun U U U U=>d)
theorem exName_ind.{u} {α:Type u} {M:Expr->α->Prop} {e:Expr} {d:α} {c0:Str->Pos->α} (h0:∀ a b,M (.Name a b) (c0 a b)) (z:∀ e,M e d):M e (exName e d c0):=by
 cases e with
 | Name a b=>exact h0 a b
 | _=>exact z _
noncomputable abbrev exAttr.{u} {α:Type u} (e:Expr) (d:α) (c0:Expr->Str->Pos->α):α:=Expr.casesOn (motive_1:=fun U=>α) e (fun U U U=>d) (fun U U U=>d) (fun U U U U=>d) (fun U U U=>d) (fun U U U U=>d) (fun U U U U=>d) (fun U U U=>d) (fun U U U=>d) (fun U U U U=>d) (fun U U U U=>d) (fun U U U U U=>d) (fun U U U U=>d) (fun U U=>d) (fun U U=>d) (fun U U=>d) (fun U U U U=>d) (fun U U U U=>d) (fun U U U U=>d) (fun U U=>d) (fun U U U=>d) c0 (fun U U U=>d) (fun U U=>d) (fun U U=>d) (fun U U=>d) (fun U U U=>d) (fun U U U U=>d)
theorem exAttr_ind.{u} {α:Type u} {M:Expr->α->Prop} {e:Expr} {d:α} {c0:Expr->Str->Pos->α} (h0:∀ a b c,M (.Attribute a b c) (c0 a b c)) (z:∀ e,M e d):M e (exAttr e d c0):=by
 cases e with
 | Attribute a b c=>exact h0 a b c
 | _=>exact z _
noncomputable abbrev exSlice.{u} {α:Type u} (e:Expr) (d:α) (c0:Option Expr->Option Expr->Option Expr->Pos->α):α:=Expr.casesOn (motive_1:=fun U=>α) e (fun U U U=>d) (fun U U U=>d) (fun U U U U=>d) (fun U U U=>d) (fun U U U U=>d) (fun U U U U=>d) (fun U U U=>d) (fun U U U=>d) (fun U U U U=>d) (fun U U U U=>d) (fun U U U U U=>d) (fun U U U U=>d) (fun U U=>d) (fun U U=>d) (fun U U=>d) (fun U U U U=>d) (fun U U U U=>d) (fun U U U U=>d) (fun U U=>d) (fun U U U=>d) (fun U U U=>d) (fun U U U=>d) (fun U U=>d) (fun U U=>d) (fun U U=>d) (fun U U U=>d) c0
theorem exSlice_ind.{u} {α:Type u} {M:Expr->α->Prop} {e:Expr} {d:α} {c0:Option Expr->Option Expr->Option Expr->Pos->α} (h0:∀ a b c f,M (.Slice a b c f) (c0 a b c f)) (z:∀ e,M e d):M e (exSlice e d c0):=by
 cases e with
 | Slice a b c f=>exact h0 a b c f
 | _=>exact z _
noncomputable abbrev exDict.{u} {α:Type u} (e:Expr) (d:α) (c0:List (Option Expr)->List Expr->Pos->α):α:=Expr.casesOn (motive_1:=fun U=>α) e (fun U U U=>d) (fun U U U=>d) (fun U U U U=>d) (fun U U U=>d) (fun U U U U=>d) (fun U U U U=>d) c0 (fun U U U=>d) (fun U U U U=>d) (fun U U U U=>d) (fun U U U U U=>d) (fun U U U U=>d) (fun U U=>d) (fun U U=>d) (fun U U=>d) (fun U U U U=>d) (fun U U U U=>d) (fun U U U U=>d) (fun U U=>d) (fun U U U=>d) (fun U U U=>d) (fun U U U=>d) (fun U U=>d) (fun U U=>d) (fun U U=>d) (fun U U U=>d) (fun U U U U=>d)
theorem exDict_ind.{u} {α:Type u} {M:Expr->α->Prop} {e:Expr} {d:α} {c0:List (Option Expr)->List Expr->Pos->α} (h0:∀ a b c,M (.Dict a b c) (c0 a b c)) (z:∀ e,M e d):M e (exDict e d c0):=by
 cases e with
 | Dict a b c=>exact h0 a b c
 | _=>exact z _
noncomputable abbrev exConst.{u} {α:Type u} (e:Expr) (d:α) (c0:Const->Nat->Pos->α):α:=Expr.casesOn (motive_1:=fun U=>α) e (fun U U U=>d) (fun U U U=>d) (fun U U U U=>d) (fun U U U=>d) (fun U U U U=>d) (fun U U U U=>d) (fun U U U=>d) (fun U U U=>d) (fun U U U U=>d) (fun U U U U=>d) (fun U U U U U=>d) (fun U U U U=>d) (fun U U=>d) (fun U U=>d) (fun U U=>d) (fun U U U U=>d) (fun U U U U=>d) (fun U U U U=>d) (fun U U=>d) c0 (fun U U U=>d) (fun U U U=>d) (fun U U=>d) (fun U U=>d) (fun U U=>d) (fun U U U=>d) (fun U U U U=>d)
theorem exConst_ind.{u} {α:Type u} {M:Expr->α->Prop} {e:Expr} {d:α} {c0:Const->Nat->Pos->α} (h0:∀ a b c,M (.Constant a b c) (c0 a b c)) (z:∀ e,M e d):M e (exConst e d c0):=by
 cases e with
 | Constant a b c=>exact h0 a b c
 | _=>exact z _
noncomputable abbrev exTuple.{u} {α:Type u} (e:Expr) (d:α) (c0:List Expr->Nat->Pos->α):α:=Expr.casesOn (motive_1:=fun U=>α) e (fun U U U=>d) (fun U U U=>d) (fun U U U U=>d) (fun U U U=>d) (fun U U U U=>d) (fun U U U U=>d) (fun U U U=>d) (fun U U U=>d) (fun U U U U=>d) (fun U U U U=>d) (fun U U U U U=>d) (fun U U U U=>d) (fun U U=>d) (fun U U=>d) (fun U U=>d) (fun U U U U=>d) (fun U U U U=>d) (fun U U U U=>d) (fun U U=>d) (fun U U U=>d) (fun U U U=>d) (fun U U U=>d) (fun U U=>d) (fun U U=>d) (fun U U=>d) c0 (fun U U U U=>d)
noncomputable abbrev exCall.{u} {α:Type u} (e:Expr) (d:α) (c0:Expr->List Expr->List Keyword->Pos->α):α:=Expr.casesOn (motive_1:=fun U=>α) e (fun U U U=>d) (fun U U U=>d) (fun U U U U=>d) (fun U U U=>d) (fun U U U U=>d) (fun U U U U=>d) (fun U U U=>d) (fun U U U=>d) (fun U U U U=>d) (fun U U U U=>d) (fun U U U U U=>d) (fun U U U U=>d) (fun U U=>d) (fun U U=>d) (fun U U=>d) (fun U U U U=>d) c0 (fun U U U U=>d) (fun U U=>d) (fun U U U=>d) (fun U U U=>d) (fun U U U=>d) (fun U U=>d) (fun U U=>d) (fun U U=>d) (fun U U U=>d) (fun U U U U=>d)
theorem exCall_ind.{u} {α:Type u} {M:Expr->α->Prop} {e:Expr} {d:α} {c0:Expr->List Expr->List Keyword->Pos->α} (h0:∀ a b c f,M (.Call a b c f) (c0 a b c f)) (z:∀ e,M e d):M e (exCall e d c0):=by
 cases e with
 | Call a b c f=>exact h0 a b c f
 | _=>exact z _
noncomputable abbrev exStar.{u} {α:Type u} (e:Expr) (d:α) (c0:Expr->Pos->α):α:=Expr.casesOn (motive_1:=fun U=>α) e (fun U U U=>d) (fun U U U=>d) (fun U U U U=>d) (fun U U U=>d) (fun U U U U=>d) (fun U U U U=>d) (fun U U U=>d) (fun U U U=>d) (fun U U U U=>d) (fun U U U U=>d) (fun U U U U U=>d) (fun U U U U=>d) (fun U U=>d) (fun U U=>d) (fun U U=>d) (fun U U U U=>d) (fun U U U U=>d) (fun U U U U=>d) (fun U U=>d) (fun U U U=>d) (fun U U U=>d) (fun U U U=>d) c0 (fun U U=>d) (fun U U=>d) (fun U U U=>d) (fun U U U U=>d)
noncomputable abbrev exTest.{u} {α:Type u} (e:Expr) (d:α) (c0:BoolOp->List Expr->Pos->α) (c1:UnaryOp->Expr->Pos->α) (c2:Expr->Expr->Expr->Pos->α) (c3:Expr->List CmpOp->List Expr->Pos->α):α:=Expr.casesOn (motive_1:=fun U=>α) e c0 (fun U U U=>d) (fun U U U U=>d) c1 (fun U U U U=>d) c2 (fun U U U=>d) (fun U U U=>d) (fun U U U U=>d) (fun U U U U=>d) (fun U U U U U=>d) (fun U U U U=>d) (fun U U=>d) (fun U U=>d) (fun U U=>d) c3 (fun U U U U=>d) (fun U U U U=>d) (fun U U=>d) (fun U U U=>d) (fun U U U=>d) (fun U U U=>d) (fun U U=>d) (fun U U=>d) (fun U U=>d) (fun U U U=>d) (fun U U U U=>d)
theorem exCall_rel.{u,v} {α:Type u} {β:Type v} {R:α->β->Prop} {e:Expr} {d:α} {d2:β} {c0:Expr->List Expr->List Keyword->Pos->α} {k0:Expr->List Expr->List Keyword->Pos->β} (z:R d d2) (h0:∀ a b c f,R (c0 a b c f) (k0 a b c f)):R (exCall e d c0) (exCall e d2 k0):=by
 cases e with
 | Call=>exact h0 _ _ _ _
 | _=>exact z
theorem exTest_rel.{u,v} {α:Type u} {β:Type v} {R:α->β->Prop} {e:Expr} {d:α} {d2:β} {c0:BoolOp->List Expr->Pos->α} {k0:BoolOp->List Expr->Pos->β} {c1:UnaryOp->Expr->Pos->α} {k1:UnaryOp->Expr->Pos->β} {c2:Expr->Expr->Expr->Pos->α} {k2:Expr->Expr->Expr->Pos->β} {c3:Expr->List CmpOp->List Expr->Pos->α} {k3:Expr->List CmpOp->List Expr->Pos->β} (z:R d d2) (h0:∀ a b c,R (c0 a b c) (k0 a b c)) (h1:∀ a b c,R (c1 a b c) (k1 a b c)) (h2:∀ a b c f,R (c2 a b c f) (k2 a b c f)) (h3:∀ a b c f,R (c3 a b c f) (k3 a b c f)):R (exTest e d c0 c1 c2 c3) (exTest e d2 k0 k1 k2 k3):=by
 cases e with
 | BoolOp=>exact h0 _ _ _
 | UnaryOp=>exact h1 _ _ _
 | IfExp=>exact h2 _ _ _ _
 | Compare=>exact h3 _ _ _ _
 | _=>exact z
noncomputable def strC (c:Const):Option Str:=Const.casesOn (motive:=fun U=>Option Str) c (.none) (fun U=>.none) (fun U=>.none) (fun U=>.none) (fun U U=>.none) (fun a=>some a) (fun U=>.none) (.none)
noncomputable def cnst (e:Expr):Option Const:=exConst e Option.none (fun c U U=>some c)
noncomputable def fdN (s:Stmt):Option (Str×Arguments×List Stmt×Scope):=Stmt.casesOn (motive_2:=fun U=>Option (Str×Arguments×List Stmt×Scope)) s (fun n ps body U U U sc U U U=>some (n,ps,body,sc)) (fun U U U U U U U U U U=>.none) (fun U U U U U U U U U U U=>.none) (fun U U=>.none) (fun U U=>.none) (fun U U U=>.none) (fun U U U U U U U=>.none) (fun U U U U=>.none) (fun U U U U U=>.none) (fun U U U U U=>.none) (fun U U U U U=>.none) (fun U U U U=>.none) (fun U U U U=>.none) (fun U U U=>.none) (fun U U U=>.none) (fun U U U=>.none) (fun U U U=>.none) (fun U U U U U=>.none) (fun U U U U U=>.none) (fun U U U=>.none) (fun U U=>.none) (fun U U U U=>.none) (fun U U=>.none) (fun U U=>.none) (fun U U=>.none) (fun U=>.none) (fun U=>.none) (fun U=>.none)
noncomputable def asgE (s:Stmt):Option Expr:=Stmt.casesOn (motive_2:=fun U=>Option Expr) s (fun U U U U U U U U U U=>.none) (fun U U U U U U U U U U=>.none) (fun U U U U U U U U U U U=>.none) (fun U U=>.none) (fun U U=>.none) (fun U e U=>some e) (fun U U U U U U U=>.none) (fun U U U U=>.none) (fun U U U U U=>.none) (fun U U U U U=>.none) (fun U U U U U=>.none) (fun U U U U=>.none) (fun U U U U=>.none) (fun U U U=>.none) (fun U U U=>.none) (fun U U U=>.none) (fun U U U=>.none) (fun U U U U U=>.none) (fun U U U U U=>.none) (fun U U U=>.none) (fun U U=>.none) (fun U U U U=>.none) (fun U U=>.none) (fun U U=>.none) (fun U U=>.none) (fun U=>.none) (fun U=>.none) (fun U=>.none)
noncomputable def clsB (s:Stmt):Option (List Stmt):=Stmt.casesOn (motive_2:=fun U=>Option (List Stmt)) s (fun U U U U U U U U U U=>.none) (fun U U U U U U U U U U=>.none) (fun U U U b U U U U U U U=>some b) (fun U U=>.none) (fun U U=>.none) (fun U U U=>.none) (fun U U U U U U U=>.none) (fun U U U U=>.none) (fun U U U U U=>.none) (fun U U U U U=>.none) (fun U U U U U=>.none) (fun U U U U=>.none) (fun U U U U=>.none) (fun U U U=>.none) (fun U U U=>.none) (fun U U U=>.none) (fun U U U=>.none) (fun U U U U U=>.none) (fun U U U U U=>.none) (fun U U U=>.none) (fun U U=>.none) (fun U U U U=>.none) (fun U U=>.none) (fun U U=>.none) (fun U U=>.none) (fun U=>.none) (fun U=>.none) (fun U=>.none)
end
section
open PySem PySem.W PyProof.Rows
noncomputable def bn:List Str:= "_wall":: "__name__":: "LedgerError":: "TokenFault":: "GrammarFault":: "FIGURES_decimals":: "cut_quotient":: "decimal":: "negated":: "units_at":: "is_whole":: "whole_of":: "worth_of":: "read_decimal":: "write_decimal":: "QUOTES":: "Line":: "LETTERS":: "FIGURES_tokens":: "WORD_SIGNS":: "SINGLE_SIGNS":: "DOUBLE_SIGNS":: "ENDS":: "MOST_WORD":: "MOST_FIGURES":: "MOST_LITERAL":: "Token":: "capital_of":: "capitals":: "is_word_sign":: "is_parted":: "line_fault":: "run_end":: "number_end":: "literal_end":: "picture_end":: "checked_word":: "checked_number":: "checked_literal":: "checked_picture":: "need_apart":: "mark_at":: "worth_at":: "is_blank_at":: "is_picture_next":: "add_tokens":: "is_word_is":: "tokens_of":: "quoted":: "MOST_SUBSCRIPTS":: "FIGURE_NAMES":: "FIGURE_SHOWN":: "is_part_next":: "read_subscripts":: "read_part":: "read_ref":: "read_all":: "read_figure":: "read_operand":: "shown_octets":: "shown_subscripts":: "show_ref":: "show_operand":: "MOST_DEEP":: "SIGNED":: "RAISED":: "BARE":: "LEVELS":: "read_expression":: "sign_among":: "read_sum":: "read_product":: "read_factor":: "is_lone_number":: "read_power":: "read_primary":: "level_of":: "bracketed":: "show_expression":: "right_part":: "show_signed":: "MOST_OCTET":: "RESERVED":: "is_reserved":: "octets_of_text":: "Reader":: "BRANCHED":: "exchanged_bodies":: "is_ref":: "refs_within":: "_law_draw":: "_law_numbers":: "_law_expr":: "_law_plain":: "_law_read":: "law"::[]
theorem bn_eq:PySem.Challenge.pw_pb0285_01.boundNames=bn:=by decide +kernel
noncomputable abbrev P:Program:=PySem.Challenge.pw_pb0285_01
theorem nr:namesResolve PySem.Challenge.pw_pb0285_01=true:=by
 unfold namesResolve;rw [bn_eq];decide +kernel
theorem xp8 (p:Program) (h1:sreFenced p.main=true) (h2:((moduleNames p.main.body).isEmpty||lookedIntoSs (moduleNames p.main.body) p.main.body)=true)
 (h3:namesResolve p=true) (h4:(p.boundNames.all (fun n=>!worldNames.contains n))=true)
 (h5:(noRoadLSs { strict:=!(importedModules p.main.body).all cThrough.contains,foot:=none,bare:=(["vars","dir","locals"]:List Str).filter (readsOut p p.main.body)} p.main.body)=true)
 (h6:(namesMeet p p.main.body fun U n=>attrL n)=true):looksOpen p=true:=by
 unfold looksOpen;rw [h1,h2,h3,h4,h5,h6];rfl
theorem imps:((importedModules P.main.body).all cThrough.contains)=true:=by decide +kernel
theorem bare_eq:((["vars","dir","locals"]:List Str).filter (readsOut P P.main.body))=([]:List Str):=by
 have h1:(!readsOut P P.main.body "vars")=true:=by decide +kernel
 have h2:(!readsOut P P.main.body "dir")=true:=by decide +kernel
 have h3:(!readsOut P P.main.body "locals")=true:=by decide +kernel
 rw [ij9] at h1 h2 h3;simp only [List.filter,h1,h2,h3]
noncomputable abbrev L0:Look:={ strict:=false,foot:=none,bare:=[]}
theorem nrd1:(noRoadLSs L0 (P.main.body.take 88))=true:=by decide +kernel
theorem nrd2:(noRoadLSs L0 (P.main.body.drop 89))=true:=by decide +kernel
noncomputable def resOf (p:Program):Str:=(((p.main.body[88]?.elim Option.none asgE).elim Option.none cnst).elim Option.none strC).getD Str.empty
noncomputable def RES:Str:=resOf P
theorem res_get:∃ ps p1 p2,P.main.body[88]?=some (Stmt.Assign [Expr.Name "RESERVED" p1] (Expr.Constant (Const.str RES) 0 p2) ps):=⟨_,_,_,rfl⟩
theorem xf6:∃ l:List Char,RES=(⟨(l.map Char.toNat).toArray⟩:Str)/\(l.length.beq 1860&&!((l.map Char.toNat).any fun c=>c == 123||c == 125||c == 46||c == 95))=true:=
 ⟨_,PySem.W.Fast.ofString_ofList _,by decide +kernel⟩
theorem xk7 {p:Nat->Bool} (h:∀ c,p c=true->(c == 123||c == 125||c == 46||c == 95)=true):RES.cps.any p=false:=by
 obtain ⟨l,e,hl⟩:=xf6;rw [e];simp only [iq5,ij9,List.any_eq_false] at hl;rw [Bool.eq_false_iff,Ne,Array.any_eq_true'];rintro ⟨x,hx,hp⟩;exact hl.2 x (by simpa using hx) (h x hp)
theorem res_road:roadStr RES=false:=by
 unfold roadStr;rw [xk7 fun c h=>by rw [h];rfl,xk7 fun c (h:(c == 46)=true)=>by rw [h,Bool.or_true];rfl];rfl
theorem res_open:RES.opensWith "__" = false:=by
 obtain ⟨l,e,hl⟩:=xf6;unfold Str.opensWith;rw [beq_eq_false_iff_ne];intro h;have h1:(Str.ofString "__").cps[0]?=some 95:=by decide +kernel
 rw [<-h] at h1;have h2:RES.cps[0]?=some 95:=by
  rw [Array.getElem?_extract] at h1;split at h1 <;> simp_all
 have h3:RES.cps.any (fun c=>c == 95)=true:=by
  rw [Array.any_eq_true'];exact ⟨95,Array.mem_of_getElem? h2,rfl⟩
 rw [xk7 fun c (h:(c == 95)=true)=>by rw [h,Bool.or_true]] at h3;cases h3
theorem uz3:frameAttrs.contains RES=false:=by
 rw [Bool.eq_false_iff];intro h;rw [List.contains_iff_mem] at h;have h1:(frameAttrs.all fun a=>a.cps.any (fun c=>c == 95))=true:=by decide +kernel
 have h2:=iz0.mp h1 _ h;rw [xk7 fun c (h:(c == 95)=true)=>by rw [h,Bool.or_true]] at h2;cases h2
theorem res_word:L0.word RES=true:=by
 unfold Look.word attrL;rw [uz3,res_open];rfl
theorem res_str:L0.str RES=true:=by
 unfold Look.str;rw [res_road,res_word];simp
theorem vy9:P.main.body=P.main.body.take 88++(P.main.body[88]?.toList++P.main.body.drop 89):=rfl
theorem nrdA:∀ (a b:List Stmt) (k:Look),noRoadLSs k (a++b)=(noRoadLSs k a&&noRoadLSs k b):=by
 intro a;induction a with
 | nil=>
  intro U U;exact rfl
 | cons s a ih0=>
  intro b k;show (noRoadLS k s&&noRoadLSs k (a++b))=_;rw [ih0 b k,<-Bool.and_assoc];rfl
theorem nrd:noRoadLSs L0 P.main.body=true:=by
 obtain ⟨ps,p1,p2,h⟩:=res_get;rw [vy9,nrdA,nrdA,nrd1,nrd2,h];have e3:L0.name "RESERVED" = true:=by decide +kernel
 show (true&&(((L0.stores [Expr.Name "RESERVED" p1]&&(L0.name "RESERVED"&&true)&&L0.str RES)&&true)&&true))=true;rw [e3,res_str];rfl
theorem xp7:looksOpen P=true:=by
 refine xp8 _ ?_ ?_ nr ?_ ?_ ?_
 ·decide +kernel
 ·decide +kernel
 ·rw [bn_eq];decide +kernel
 ·rw [bare_eq,imps];exact nrd
 ·decide +kernel
noncomputable abbrev R:OpenLaw:=PySem.Challenge.rw_pb0285_01
theorem wv0 (r:OpenRow) (h1:looksOpen r.prog=true) (h2:r.loose.isEmpty=true) (h3:r.makers.isEmpty=true)
 (h4:(r.records.isEmpty||r.raises.all fun ct=>ct.1 != .builtin "AttributeError"&&ct.1 != .builtin "TypeError")=true)
 (h5:(r.raises.all fun ct=>match ct.1 with|.builtin n=>!r.prog.boundNames.contains (Str.ofString n)&&!ofTheWorld.contains n|.own _=>true)=true)
 (h6:decide (r.records.map (fun U=>U.1)).Nodup=true) (h7:(r.records.all fun x=>!x.1.opensWith "__"&&!builtinNamed x.1&&r.prog.boundNames.contains x.1&&x.2.all fun f=>!f.1.opensWith "__")=true)
 (h8:r.toRowW.solid=true) (h9:r.pre.litsOk=true) (h10:r.post.litsOk=true) (h11:r.raises.all (fun U=>U.2.litsOk)=true)
 (h12:r.mutates.all (fun i=>match r.args[i]? with
  | some sh=>!sh.arms.any WShape.isObj
  | none=>false)=true)
 (h13:r.within.all (fun i=>decide (i < r.args.length))=true) (h14:r.same.all (fun i=>decide (i < r.args.length))=true):r.partSaid=true:=by
 unfold OpenRow.partSaid
 (with_reducible repeat' apply look_both)
 all_goals assumption
theorem wk9:R.row.partSaid=true:=by
 refine wv0 _ xp7 ?_ ?_ ?_ ?_ ?_ ?_ ?_ ?_ ?_ ?_ ?_ ?_ ?_
 ·rfl
 ·rfl
 ·rfl
 ·rfl
 ·rfl
 ·rfl
 all_goals decide +kernel
theorem vj8 (r:OpenRow) (h1:r.partSaid=true) (h2:r.prog.boundNames.contains r.name=true) (h3:startupNames.contains r.name=false):r.wellSaid=true:=by
 unfold OpenRow.wellSaid;rw [h1,h2,h3];rfl
theorem bnR:R.row.prog.boundNames=bn:=bn_eq
theorem vj7:R.row.wellSaid=true:=by
 refine vj8 _ wk9 ?_ ?_
 ·rw [bnR];decide +kernel
 ·decide +kernel
theorem wj4 (l:OpenLaw) (h1:l.row.wellSaid=true) (h2:decide (l.foot<=(behindTheImports l.prog).length)=true) (h3:l.footing.all footLine=true) (h4:noClassBlock l.prog l.footing=true)
 (h5:l.most.all (fun n=>decide (63<=n))=true) (h6:l.bound.all (fun n=>decide (2 ^ 63<=n))=true)
 (h7:noRoadLSs { strict:=true,foot:=some l.bound',writes:=l.writes,may:=l.may } l.footing=true)
 (h8:defStands l.about l.above=true) (h9:l.namesIt=true)
 (h10:((["type","isinstance","issubclass","getattr","hasattr"]:List Str).all (fun n=>l.about != [n]))=true)
 (h11:l.bound'.all (fun n=>!builtinNamed n||l.about == [n]||!l.reads n)=true)
 (h12:(!l.writes||(l.prog.main.body.flatMap importedNames).all fun n=>!l.reads n)=true)
 (h13:((l.prog.main.body.flatMap importedNames).all (fun n=>!l.reads n||(drawsOf n l.prog.main.body).all fun mn=>mn.2 != ("attrgetter" : Str)&&mn.2 != ("methodcaller" : Str)))=true)
 (h14:namesMeet l.prog l.footing (fun sc n=>(!(["type","isinstance","issubclass","getattr","hasattr"]:List Str).contains n||sc.names.lookup n == some .globalImplicit)&&
  (l.may != some n||sc.kind == .module||sc.names.lookup n == some .globalImplicit))=true)
 (h15:l.own.contains l.name=true) (h16:(l.own.eraseDups.length == l.own.length)=true) (h17:l.own.all (fun n=>!builtinNamed n)=true)
 (h18:namesMeet l.prog l.above (fun U n=>!l.own.contains n)=true) (h19:(namesMeet l.prog l.footing fun sc n=>sc.kind == .module||sc.names.lookup n != some .globalExplicit)=true):l.wellSaid=true:=by
 unfold OpenLaw.wellSaid
 (with_reducible repeat' apply look_both)
 all_goals assumption
theorem said:R.wellSaid=true:=by
 refine wj4 _ vj7 ?_ ?_ ?_ ?_ ?_ ?_ ?_ ?_ ?_ ?_ ?_ ?_ ?_ ?_ ?_ ?_ ?_ ?_;all_goals decide +kernel
noncomputable def topT (tb:String->Option Builtin) (p:Program) (w:World) (n₀:Nat) (ann:Option Value):Nat->SharedT->Thread->Option SharedT
 | 0,_,_=>none
 | n + 1,s,t=>match through t with
  | true=>some s
  | false=>match stepOk n₀ ann t with
   | false=>none
   | true=>match stepT (denote tb) p w s t with
    | some (s',t')=>topT tb p w n₀ ann n s' t'
    | none=>none
theorem vg7 {tb:String->Option Builtin} {p:Program} {w:World} {n₀:Nat} {ann:Option Value}:∀ (n:Nat) (s:SharedT) (t:Thread) (s':SharedT),
 topT tb p w n₀ ann n s t=some s'->topRun tb p w n₀ ann n s.abs t=some s'.abs:=by
 intro n;induction n with
 | zero=>
  intro U U U h;cases h
 | succ n ih0=>
  intro s t s' h;unfold topT at h;unfold topRun;cases ht:through t with
  | true=>rw [ht] at h;cases h;rfl
  | false=>
   rw [ht] at h;cases hk:stepOk n₀ ann t with
   | false=>rw [hk] at h;cases h
   | true=>
    rw [hk] at h;cases hs:stepT (denote tb) p w s t with
    | none=>rw [hs] at h;cases h
    | some q=>
     obtain ⟨s₁,t₁⟩:=q;rw [hs] at h;dsimp only;rw [stepT_spec hs];exact ih0 s₁ t₁ s' h
noncomputable def wf6:List Obj->Nat->BT->BT
 | [],_,t=>t
 | o::r,n,t=>wf6 r (n + 1) (t.ins n o)
noncomputable def bootT (p:Params) (os:OsState):SharedT:=⟨wf6 (boot_heap p).objs.toList 0 .nil,11,(boot_heap p).life,Array.mk [],boot_drawn,boot_toks,os⟩
theorem up9 (p:Params) (os:OsState):(bootT p os).abs=⟨boot_heap p,Array.mk [],boot_drawn,boot_toks,os⟩:=by kernel_rfl
noncomputable abbrev looks (p q:Program) (loose:List Str) (Xt:Shared->Bool) {α:Type} (Yf:Shared->α) (H₀:Heap) (s:Shared):=
 ((staticsOk (importedModules p.main.body) H₀ s.heap&&namesBound p s.heap&&gensDone s&&laidKept H₀ s.heap),openSeen q loose (importedModules p.main.body) Xt true s,Yf s)
theorem xw2 {p q:Program} {loose:List Str} {Xt:Shared->Bool} {α:Type} {Yf:Shared->α} {Ya:World->α} {N:Nat}
 (e:opening p=plainProg p.main.scope.names) (hN:Nat.ble 600 N=true) (f:∀ s,fenceModules? p s=some s)
 (size:∀ w:World,((boot_heap w.params).isNs mainGlobals,(boot_heap w.params).objs.size,(boot_heap w.params).nsMap mainGlobals "__annotations__")=(true,11,some (.ref 6)))
 (run:∀ (w:World) (os:OsState),(topT treeTable p w 11 (some (.ref 6)) N (bootT w.params os) (topStub p)).map (fun s=>looks p q loose Xt Yf (boot_heap w.params) s.abs)=some (true,openGood q loose,Ya w)) :
 LeftO p q loose Xt Yf Ya N:=fun w=>by
 obtain ⟨⟨h,gs,d,k,os⟩,e,e'⟩:=ix1.mp (boot_open e hN f w);obtain ⟨rfl,rfl,rfl,rfl⟩:h=boot_heap w.params/\gs=Array.mk []/\d=boot_drawn/\k=boot_toks:=by simpa using e'
 obtain ⟨z1,z2,z3⟩:_/\_/\_:=by simpa only [Prod.mk.injEq] using size w
 obtain ⟨s',r,l⟩:=ix1.mp (run w os);have r:=vg7 _ _ _ _ r;rw [up9] at r;obtain ⟨l1,l2,l3⟩:_/\_/\_:=by simpa only [looks,Prod.mk.injEq] using l
 have t:topFrom treeTable p w N ⟨boot_heap w.params,Array.mk [],boot_drawn,boot_toks,os⟩=some s'.abs:=by
  unfold topFrom;dsimp only;rw [z1,z2,z3,r];show (match staticsOk (importedModules p.main.body) (boot_heap w.params) s'.abs.heap&&namesBound p s'.abs.heap&&gensDone s'.abs&&laidKept (boot_heap w.params) s'.abs.heap with|true=>_|false=>_)=_
  rw [l1]
 unfold openEnds;rw [e];show (topFrom treeTable p w N _).map _=_;rw [t];exact congrArg some (Prod.ext l2 l3)
theorem by_row {f:World->Prop} (row:String) (h:∀ (w:World) b,f (w.withFollow row b)):∀ w,f w:=fun w=>by
 have e:=World.withFollow_self w row;rw [<-e];exact h w _
theorem open_eq:opening P=plainProg P.main.scope.names:=rfl
theorem fence_eq:∀ s,fenceModules? P s=some s:=fun U=>rfl
theorem size_eq:∀ w:World,((boot_heap w.params).isNs mainGlobals,(boot_heap w.params).objs.size,(boot_heap w.params).nsMap mainGlobals "__annotations__")=(true,11,some (.ref 6)):=by
 intro w;kernel_rfl
noncomputable def zg1 (i:Nat) (j:Option Nat):Option Stmt:=j.elim P.main.body[i]? fun j=>(P.main.body[i]?.elim Option.none clsB).elim Option.none fun b=>b[j]?
noncomputable def fnObj (st:Option Stmt) (q:Str) (dfl:Value) (md:Str) (mt:Tok) (c:Addr):Obj:=(st.elim Option.none fdN).elim default fun p=>{ cls:=.type "function",data:=.func { name:=p.1,qualname:=q,params:=p.2.1,body:=.stmts p.2.2.1,scope:=p.2.2.2,globals:=mainGlobals,closure:=[],defaults:=dfl,kwdefaults:=.none,doc:=.none,pyModule:=.str md mt,annotations:=none,code:=.ref c,closureTuple:=.none,builtins:=0 }}
structure Fn where
 q:Str
 i:Nat
 j:Option Nat
 a:Addr
 dfl:Value
 md:Str
 mt:Tok
 c:Addr
 ct:Tok
noncomputable def Fn.obj (f:Fn):Obj:=fnObj (zg1 f.i f.j) f.q f.dfl f.md f.mt f.c
noncomputable abbrev en (P:Params) (k:String) (t:Tok) (v:Value):DictEntry:=⟨PyData.keyHash P (Str.ofString k),.str (Str.ofString k) t,v⟩
noncomputable def fns:List Fn:=[
 ⟨"decimal",8,none,89,.ref 82,"ledgerspeak.decimals",268,88,282⟩,
 ⟨"negated",9,none,96,.none,"ledgerspeak.decimals",268,95,290⟩,
 ⟨"worth_of",13,none,124,.none,"ledgerspeak.decimals",268,123,322⟩,
 ⟨"read_decimal",14,none,131,.none,"ledgerspeak.decimals",268,130,331⟩,
 ⟨"write_decimal",15,none,138,.none,"ledgerspeak.decimals",268,137,344⟩,
 ⟨"capital_of",30,none,203,.none,"ledgerspeak.tokens",393,202,460⟩,
 ⟨"capitals",31,none,208,.none,"ledgerspeak.tokens",393,207,467⟩,
 ⟨"is_word_sign",32,none,215,.none,"ledgerspeak.tokens",393,214,473⟩,
 ⟨"is_parted",33,none,222,.none,"ledgerspeak.tokens",393,221,480⟩,
 ⟨"run_end",35,none,236,.none,"ledgerspeak.tokens",393,235,497⟩,
 ⟨"number_end",36,none,243,.none,"ledgerspeak.tokens",393,242,506⟩,
 ⟨"checked_word",39,none,262,.none,"ledgerspeak.tokens",393,261,534⟩,
 ⟨"checked_number",40,none,269,.none,"ledgerspeak.tokens",393,268,540⟩,
 ⟨"need_apart",43,none,290,.none,"ledgerspeak.tokens",393,289,570⟩,
 ⟨"mark_at",44,none,297,.none,"ledgerspeak.tokens",393,296,579⟩,
 ⟨"worth_at",45,none,304,.none,"ledgerspeak.tokens",393,303,589⟩,
 ⟨"is_blank_at",46,none,311,.none,"ledgerspeak.tokens",393,310,602⟩,
 ⟨"is_picture_next",47,none,318,.none,"ledgerspeak.tokens",393,317,610⟩,
 ⟨"add_tokens",48,none,325,.none,"ledgerspeak.tokens",393,324,617⟩,
 ⟨"tokens_of",50,none,339,.none,"ledgerspeak.tokens",393,338,639⟩,
 ⟨"is_part_next",56,none,355,.none,"ledgerspeak.references",654,354,709⟩,
 ⟨"read_subscripts",57,none,362,.none,"ledgerspeak.references",654,361,718⟩,
 ⟨"read_part",58,none,369,.none,"ledgerspeak.references",654,368,727⟩,
 ⟨"read_ref",59,none,376,.none,"ledgerspeak.references",654,375,737⟩,
 ⟨"read_figure",61,none,390,.none,"ledgerspeak.references",654,389,757⟩,
 ⟨"read_operand",62,none,397,.none,"ledgerspeak.references",654,396,764⟩,
 ⟨"shown_subscripts",64,none,407,.none,"ledgerspeak.references",654,406,779⟩,
 ⟨"show_ref",65,none,414,.none,"ledgerspeak.references",654,413,785⟩,
 ⟨"show_operand",66,none,421,.none,"ledgerspeak.references",654,420,795⟩,
 ⟨"read_expression",73,none,429,.none,"ledgerspeak.expressions",802,428,829⟩,
 ⟨"sign_among",74,none,436,.none,"ledgerspeak.expressions",802,435,836⟩,
 ⟨"read_sum",75,none,443,.none,"ledgerspeak.expressions",802,442,845⟩,
 ⟨"read_product",76,none,450,.none,"ledgerspeak.expressions",802,449,855⟩,
 ⟨"read_factor",77,none,457,.none,"ledgerspeak.expressions",802,456,865⟩,
 ⟨"is_lone_number",78,none,464,.none,"ledgerspeak.expressions",802,463,876⟩,
 ⟨"read_power",79,none,471,.none,"ledgerspeak.expressions",802,470,885⟩,
 ⟨"read_primary",80,none,478,.none,"ledgerspeak.expressions",802,477,894⟩,
 ⟨"level_of",81,none,485,.none,"ledgerspeak.expressions",802,484,904⟩,
 ⟨"bracketed",82,none,492,.none,"ledgerspeak.expressions",802,491,911⟩,
 ⟨"show_expression",83,none,499,.none,"ledgerspeak.expressions",802,498,920⟩,
 ⟨"right_part",84,none,506,.none,"ledgerspeak.expressions",802,505,929⟩,
 ⟨"show_signed",85,none,513,.none,"ledgerspeak.expressions",802,512,936⟩,
 ⟨"is_reserved",89,none,520,.none,"ledgerspeak.reader",942,519,949⟩,
 ⟨"exchanged_bodies",94,none,704,.none,"ledgerspeak.tree",1167,703,1185⟩,
 ⟨"is_ref",95,none,711,.none,"ledgerspeak.tree",1167,710,1191⟩,
 ⟨"refs_within",96,none,718,.none,"ledgerspeak.tree",1167,717,1198⟩,
 ⟨"_law_draw",98,none,725,.none,"law_pb0285_01",1207,724,1210⟩,
 ⟨"_law_expr",100,none,736,.none,"law_pb0285_01",1207,735,1234⟩,
 ⟨"_law_plain",101,none,741,.none,"law_pb0285_01",1207,740,1240⟩,
 ⟨"_law_read",102,none,746,.none,"law_pb0285_01",1207,745,1246⟩,
 ⟨"law",103,none,753,.none,"law_pb0285_01",1207,752,1252⟩,
 ⟨"LedgerError.__init__",2,some 0,37,.ref 30,"ledgerspeak.errors",194,36,211⟩,
 ⟨"Line.__init__",18,some 0,152,.none,"ledgerspeak.columns",351,151,368⟩,
 ⟨"Token.__init__",29,some 0,182,.ref 175,"ledgerspeak.tokens",393,181,430⟩,
 ⟨"Reader.__init__",91,some 0,540,.ref 533,"ledgerspeak.reader",942,539,975⟩,
 ⟨"Reader.peek",91,some 1,548,.ref 541,"ledgerspeak.reader",942,547,985⟩,
 ⟨"Reader.fault",91,some 3,562,.none,"ledgerspeak.reader",942,561,1000⟩,
 ⟨"Reader.take",91,some 4,569,.none,"ledgerspeak.reader",942,568,1008⟩,
 ⟨"Reader.is_kind",91,some 5,577,.ref 570,"ledgerspeak.reader",942,576,1017⟩,
 ⟨"Reader.is_word",91,some 6,584,.none,"ledgerspeak.reader",942,583,1027⟩,
 ⟨"Reader.skip",91,some 7,591,.none,"ledgerspeak.reader",942,590,1037⟩,
 ⟨"Reader.one_of",91,some 9,605,.none,"ledgerspeak.reader",942,604,1053⟩,
 ⟨"Reader.is_name",91,some 11,620,.ref 613,"ledgerspeak.reader",942,619,1070⟩,
 ⟨"Reader.name",91,some 12,627,.none,"ledgerspeak.reader",942,626,1078⟩,
 ⟨"Reader.is_sign",91,some 14,642,.ref 635,"ledgerspeak.reader",942,641,1093⟩,
 ⟨"Reader.skip_sign",91,some 15,649,.none,"ledgerspeak.reader",942,648,1102⟩,
 ⟨"Reader.need_sign",91,some 16,656,.none,"ledgerspeak.reader",942,655,1110⟩,
 ⟨"Reader.is_number",91,some 17,663,.none,"ledgerspeak.reader",942,662,1118⟩,
 ⟨"Reader.signed",91,some 18,670,.none,"ledgerspeak.reader",942,669,1125⟩]
noncomputable def objs0 (P:Params):Frag:=[
 (29,⟨.type "tuple",none,.seq [.int 0 208,.int 0 209].toArray 0,#[]⟩),
 (30,⟨.type "tuple",none,.seq [.ref 29].toArray 0,#[]⟩),
 (46,⟨.type "dict",none,.dict [en P "__module__" 203 (.str "ledgerspeak.errors" 194),en P "__firstlineno__" 207 (.int 5 206),en P "__init__" 218 (.ref 37),en P "told" 225 (.ref 44),en P "__static_attributes__" 228 (.ref 45),en P "__weakref__" 230 (.ref 48),en P "__doc__" 231 (.none)].toArray 3,#[]⟩),
 (47,⟨.type "type",none,.cls { name:= "LedgerError",bases:=[.type "Exception"],mro:=[.ref 47,.type "Exception",.type "BaseException",.type "object"],ns:=46,qualname:= "LedgerError",hasDict:=true,slotNames:=[],subclasses:=[.ref 60,.ref 72],abstract:=false,collection:=none,hasDel:=false },#[some (.ref 22),none,some (.str "LedgerError" 196),some (.str "LedgerError" 204),some (.builtin "Exception.__new__"),some (.bool true)]⟩),
 (59,⟨.type "dict",none,.dict [en P "__module__" 243 (.str "ledgerspeak.errors" 194),en P "__firstlineno__" 247 (.int 14 246),en P "__static_attributes__" 248 (.ref 58),en P "__doc__" 249 (.none)].toArray 2,#[]⟩),
 (60,⟨.type "type",none,.cls { name:= "TokenFault",bases:=[.ref 47],mro:=[.ref 60,.ref 47,.type "Exception",.type "BaseException",.type "object"],ns:=59,qualname:= "TokenFault",hasDict:=true,slotNames:=[],subclasses:=[],abstract:=false,collection:=none,hasDel:=false },#[some (.ref 51),none,some (.str "TokenFault" 236),some (.str "TokenFault" 244),some (.builtin "Exception.__new__"),some (.bool true)]⟩),
 (71,⟨.type "dict",none,.dict [en P "__module__" 259 (.str "ledgerspeak.errors" 194),en P "__firstlineno__" 263 (.int 16 262),en P "__static_attributes__" 264 (.ref 70),en P "__doc__" 265 (.none)].toArray 2,#[]⟩),
 (72,⟨.type "type",none,.cls { name:= "GrammarFault",bases:=[.ref 47],mro:=[.ref 72,.ref 47,.type "Exception",.type "BaseException",.type "object"],ns:=71,qualname:= "GrammarFault",hasDict:=true,slotNames:=[],subclasses:=[],abstract:=false,collection:=none,hasDel:=false },#[some (.ref 63),none,some (.str "GrammarFault" 252),some (.str "GrammarFault" 260),some (.builtin "Exception.__new__"),some (.bool true)]⟩),
 (82,⟨.type "tuple",none,.seq [.int 0 280].toArray 0,#[]⟩),
 (161,⟨.type "dict",none,.dict [en P "__module__" 362 (.str "ledgerspeak.columns" 351),en P "__firstlineno__" 366 (.int 73 365),en P "__init__" 375 (.ref 152),en P "told" 382 (.ref 159),en P "__static_attributes__" 385 (.ref 160),en P "__dict__" 387 (.ref 163),en P "__weakref__" 389 (.ref 164),en P "__doc__" 390 (.none)].toArray 4,#[]⟩),
 (162,⟨.type "type",none,.cls { name:= "Line",bases:=[.type "object"],mro:=[.ref 162,.type "object"],ns:=161,qualname:= "Line",hasDict:=true,slotNames:=[],subclasses:=[],abstract:=false,collection:=none,hasDel:=false },#[none,none,some (.str "Line" 355),some (.str "Line" 363),some (.builtin "object.__new__"),some (.bool true)]⟩),
 (174,⟨.type "tuple",none,.seq [.int 0 427,.int 0 428].toArray 0,#[]⟩),
 (175,⟨.type "tuple",none,.seq [.ref 174,.bool false].toArray 0,#[]⟩),
 (191,⟨.type "dict",none,.dict [en P "__module__" 422 (.str "ledgerspeak.tokens" 393),en P "__firstlineno__" 426 (.int 91 425),en P "__init__" 439 (.ref 182),en P "told" 446 (.ref 189),en P "__static_attributes__" 451 (.ref 190),en P "__dict__" 453 (.ref 193),en P "__weakref__" 455 (.ref 194),en P "__doc__" 456 (.none)].toArray 4,#[]⟩),
 (192,⟨.type "type",none,.cls { name:= "Token",bases:=[.type "object"],mro:=[.ref 192,.type "object"],ns:=191,qualname:= "Token",hasDict:=true,slotNames:=[],subclasses:=[],abstract:=false,collection:=none,hasDel:=false },#[none,none,some (.str "Token" 415),some (.str "Token" 423),some (.builtin "object.__new__"),some (.bool true)]⟩),
 (347,⟨.type "dict",none,.dict [en P "ZERO" 658 (.str "ZERO" 659),en P "ZEROS" 660 (.str "ZERO" 661),en P "ZEROES" 662 (.str "ZERO" 663),en P "SPACE" 664 (.str "SPACE" 665),en P "SPACES" 666 (.str "SPACE" 667),en P "HIGH-VALUE" 668 (.str "HIGH" 669),en P "HIGH-VALUES" 670 (.str "HIGH" 671),en P "LOW-VALUE" 672 (.str "LOW" 673),en P "LOW-VALUES" 674 (.str "LOW" 675),en P "QUOTE" 676 (.str "QUOTE" 677),en P "QUOTES" 678 (.str "QUOTE" 679)].toArray 11,#[]⟩),
 (422,⟨.type "dict",none,.dict [en P "+" 812 (.int 1 813),en P "-" 814 (.int 1 815),en P "*" 816 (.int 2 817),en P "/" 818 (.int 2 819),en P "**" 820 (.int 4 821)].toArray 5,#[]⟩),
 (477,⟨.type "code",none,.fields [.str "read_primary" 893,.str "read_primary" 894,.str "/claim/cut.py" 895,.int 365 0,.int 2 0,.int 0 0,.int 0 0,.int 3 0,.ref 472,.bool true,.int 181 0,.ref 473,.none,.ref 474,.ref 475,.ref 476,.int 900 0,.int 365 0,.str "/claim/cut.py" 901].toArray,#[]⟩),
 (533,⟨.type "tuple",none,.seq [.int 0 973].toArray 0,#[]⟩),
 (541,⟨.type "tuple",none,.seq [.int 0 983].toArray 0,#[]⟩),
 (570,⟨.type "tuple",none,.seq [.int 0 1015].toArray 0,#[]⟩),
 (613,⟨.type "tuple",none,.seq [.int 0 1068].toArray 0,#[]⟩),
 (635,⟨.type "tuple",none,.seq [.int 0 1091].toArray 0,#[]⟩),
 (693,⟨.type "dict",none,.dict [en P "__module__" 968 (.str "ledgerspeak.reader" 942),en P "__firstlineno__" 972 (.int 409 971),en P "__init__" 982 (.ref 540),en P "peek" 991 (.ref 548),en P "is_done" 998 (.ref 555),en P "fault" 1006 (.ref 562),en P "take" 1014 (.ref 569),en P "is_kind" 1025 (.ref 577),en P "is_word" 1035 (.ref 584),en P "skip" 1043 (.ref 591),en P "need" 1051 (.ref 598),en P "one_of" 1060 (.ref 605),en P "word" 1067 (.ref 612),en P "is_name" 1076 (.ref 620),en P "name" 1083 (.ref 627),en P "names" 1090 (.ref 634),en P "is_sign" 1100 (.ref 642),en P "skip_sign" 1108 (.ref 649),en P "need_sign" 1116 (.ref 656),en P "is_number" 1123 (.ref 663),en P "signed" 1132 (.ref 670),en P "whole" 1140 (.ref 677),en P "literal" 1147 (.ref 684),en P "octets" 1155 (.ref 691),en P "__static_attributes__" 1159 (.ref 692),en P "__dict__" 1161 (.ref 695),en P "__weakref__" 1163 (.ref 696),en P "__doc__" 1164 (.none)].toArray 4,#[]⟩),
 (694,⟨.type "type",none,.cls { name:= "Reader",bases:=[.type "object"],mro:=[.ref 694,.type "object"],ns:=693,qualname:= "Reader",hasDict:=true,slotNames:=[],subclasses:=[],abstract:=false,collection:=none,hasDel:=false },#[none,none,some (.str "Reader" 961),some (.str "Reader" 969),some (.builtin "object.__new__"),some (.bool true)]⟩),
 (699,⟨.type "tuple",none,.seq [.str "arith" 1169,.str "divide" 1170,.str "corr" 1171,.str "search" 1172,.str "search-all" 1173,.str "string" 1174,.str "unstring" 1175,.str "read" 1176,.str "write" 1177,.str "rewrite" 1178,.str "delete" 1179,.str "start" 1180,.str "return" 1181,.str "call" 1182].toArray 0,#[]⟩),
 (717,⟨.type "code",none,.fields [.str "refs_within" 1197,.str "refs_within" 1198,.str "/claim/cut.py" 1199,.int 544 0,.int 1 0,.int 0 0,.int 0 0,.int 3 0,.ref 712,.bool true,.int 181 0,.ref 713,.none,.ref 714,.ref 715,.ref 716,.int 1204 0,.int 544 0,.str "/claim/cut.py" 1205].toArray,#[]⟩),
 (726,⟨.type "tuple",none,.seq [.int 0 1220,.int 0 1221].toArray 0,#[]⟩),
 (727,⟨.type "tuple",none,.seq [.int 5 1222,.int 0 1223].toArray 0,#[]⟩),
 (728,⟨.type "tuple",none,.seq [.int (-5) 1225,.int 0 1226].toArray 0,#[]⟩),
 (729,⟨.type "tuple",none,.seq [.int 25 1227,.int 2 1228].toArray 0,#[]⟩),
 (730,⟨.type "tuple",none,.seq [.int (-75) 1230,.int 1 1231].toArray 0,#[]⟩),
 (731,⟨.type "tuple",none,.seq [.ref 726,.ref 727,.ref 728,.ref 729,.ref 730].toArray 0,#[]⟩)]
noncomputable def globs:List (Str×Value):=
 ("LedgerError",.ref 47)::
 ("TokenFault",.ref 60)::
 ("GrammarFault",.ref 72)::
 ("FIGURES_decimals",.str "0123456789" 270)::
 ("decimal",.ref 89)::
 ("negated",.ref 96)::
 ("worth_of",.ref 124)::
 ("read_decimal",.ref 131)::
 ("write_decimal",.ref 138)::
 ("QUOTES",.str "\"'" 353)::
 ("Line",.ref 162)::
 ("LETTERS",.str "ABCDEFGHIJKLMNOPQRSTUVWXYZ" 395)::
 ("FIGURES_tokens",.str "0123456789" 397)::
 ("WORD_SIGNS",.str "ABCDEFGHIJKLMNOPQRSTUVWXYZ0123456789-" 401)::
 ("SINGLE_SIGNS",.str "():+-*/=<>" 403)::
 ("DOUBLE_SIGNS",.str "** <= >=" 405)::
 ("ENDS",.str ".,;" 407)::
 ("MOST_WORD",.int 30 409)::
 ("MOST_FIGURES",.int 18 411)::
 ("MOST_LITERAL",.int 160 413)::
 ("Token",.ref 192)::
 ("capital_of",.ref 203)::
 ("capitals",.ref 208)::
 ("is_word_sign",.ref 215)::
 ("is_parted",.ref 222)::
 ("run_end",.ref 236)::
 ("number_end",.ref 243)::
 ("checked_word",.ref 262)::
 ("checked_number",.ref 269)::
 ("need_apart",.ref 290)::
 ("mark_at",.ref 297)::
 ("worth_at",.ref 304)::
 ("is_blank_at",.ref 311)::
 ("is_picture_next",.ref 318)::
 ("add_tokens",.ref 325)::
 ("tokens_of",.ref 339)::
 ("MOST_SUBSCRIPTS",.int 7 656)::
 ("FIGURE_NAMES",.ref 347)::
 ("is_part_next",.ref 355)::
 ("read_subscripts",.ref 362)::
 ("read_part",.ref 369)::
 ("read_ref",.ref 376)::
 ("read_figure",.ref 390)::
 ("read_operand",.ref 397)::
 ("shown_subscripts",.ref 407)::
 ("show_ref",.ref 414)::
 ("show_operand",.ref 421)::
 ("MOST_DEEP",.int 20 804)::
 ("SIGNED",.int 3 806)::
 ("RAISED",.int 4 808)::
 ("BARE",.int 5 810)::
 ("LEVELS",.ref 422)::
 ("read_expression",.ref 429)::
 ("sign_among",.ref 436)::
 ("read_sum",.ref 443)::
 ("read_product",.ref 450)::
 ("read_factor",.ref 457)::
 ("is_lone_number",.ref 464)::
 ("read_power",.ref 471)::
 ("read_primary",.ref 478)::
 ("level_of",.ref 485)::
 ("bracketed",.ref 492)::
 ("show_expression",.ref 499)::
 ("right_part",.ref 506)::
 ("show_signed",.ref 513)::
 ("MOST_OCTET",.int 255 944)::
 ("is_reserved",.ref 520)::
 ("Reader",.ref 694)::
 ("BRANCHED",.ref 699)::
 ("exchanged_bodies",.ref 704)::
 ("is_ref",.ref 711)::
 ("refs_within",.ref 718)::
 ("_law_draw",.ref 725)::
 ("_law_numbers",.ref 731)::
 ("_law_expr",.ref 736)::
 ("_law_plain",.ref 741)::
 ("_law_read",.ref 746)::
 ("law",.ref 753)::
 ("RESERVED",.str RES 946)::[]
noncomputable section
noncomputable def K0 (P:Params):Frag:=fns.map (fun f=>(f.a,f.obj))++objs0 P
noncomputable def as0:List Addr:=fns.map (fun U=>U.a)++[29,30,46,47,59,60,71,72,82,161,162,174,175,191,192,347,422,477,533,541,570,613,635,693,694,699,717,726,727,728,729,730,731]
theorem as0_eq:∀ P,as0=(K0 P).map (fun U=>U.1):=fun U=>by kernel_rfl
noncomputable def yf2 (o:Option Obj):Option Value:=match o with
 | some ⟨_,_,.fields vs,_⟩=>vs[1]?
 | _=>none
noncomputable def zk9:List Addr:=[473,713]
structure Seen where
 objs:List (Option Obj)
 codes:List (Option Value)
 globs:List (Option Value)
 tabs:List (Option Obj)
 isMain:Bool
noncomputable def see (h:Heap):Seen:=⟨as0.map h.get?,fns.map fun f=>yf2 (h.get? f.c),globs.map fun g=>h.nsMap mainGlobals g.1,zk9.map h.get?,(h.get? mainGlobals).isSome⟩
noncomputable def vj5 (w:World):Seen:=⟨(K0 w.params).map fun p=>some p.2,fns.map fun f=>some (.str f.q f.ct),globs.map fun g=>some g.2,zk9.map fun U=>some (tabObj #[]),true⟩
structure Says (w:World) (h:Heap):Prop where
 objs:(K0 w.params).In h
 codes:∀ f∈fns,yf2 (h.get? f.c)=some (.str f.q f.ct)
 globs:∀ g∈globs,h.nsMap mainGlobals g.1=some g.2
 tabs:∀ a∈zk9,h.get? a=some (tabObj #[])
 isMain:(h.get? mainGlobals).isSome=true
theorem says_of (w:World) (h:Heap) (e:see h=vj5 w):Says w h:=by
 unfold see vj5 at e;exact ⟨Frag.in_of (as0_eq _) (congrArg Seen.objs e),List.map_inj_left.mp (congrArg Seen.codes e),List.map_inj_left.mp (congrArg Seen.globs e),List.map_inj_left.mp (congrArg Seen.tabs e),congrArg Seen.isMain e⟩
theorem xf4 {h h':Heap} {a:Addr} {v:Value} (k:∀ b o,h.get? b=some o->h'.get? b=some o) (e:yf2 (h.get? a)=some v):yf2 (h'.get? a)=some v:=by
 cases q:h.get? a with
 | none=>rw [q] at e;cases e
 | some o=>rw [k _ _ q];rw [q] at e;exact e
theorem Says.keeps {w:World} {h h':Heap} (x:Says w h) (k:∀ b o,h.get? b=some o->h'.get? b=some o):Says w h':=by
 obtain ⟨o,ho⟩:=ik0.mp x.isMain;have e:h'.get? mainGlobals=h.get? mainGlobals:=by rw [ho];exact k _ _ ho
 exact ⟨Frag.In.keeps x.objs k,fun f hf=>xf4 k (x.codes f hf),fun g hg=>by
  have:=x.globs g hg;unfold Heap.nsMap at this ⊢;rw [e];exact this,fun a ha=>k _ _ (x.tabs a ha),by rw [e];exact x.isMain⟩
noncomputable def q0:Program:={ P with main:={ P.main with body:=P.main.body.drop 103 }}
noncomputable def zb7:List Str:=bn.dropLast
noncomputable def topQ (tb:String->Option Builtin) (p:Program) (w:World) (n₀:Nat) (ann:Option Value):Nat->SharedT->Thread->Option SharedT
 | 0,_,_=>none
 | n + 1,s,t=>match through t with
  | true=>some s
  | false=>match PySem.W.Fast.tw6613529449190102663 n₀ ann t with
   | false=>none
   | true=>match PySem.W.Fast.tw10156331382660048174 (PySem.W.Fast.tw11892475500146522536 tb) p w s t with
    | some (s',t')=>topQ tb p w n₀ ann n s' t'
    | none=>none
theorem vg8:@topT = @topQ:=by
 funext tb p w n₀ ann n;induction n with
 | zero=>rfl
 | succ n ih=>
  funext s t;unfold topT topQ;rw [ih,PySem.W.Fast.te6613529449190102663,PySem.W.Fast.te10156331382660048174,PySem.W.Fast.te11892475500146522536]
  try rfl
noncomputable abbrev RunOk (b:Bool):Prop:=∀ (w:World) (os:OsState),(topT treeTable P (w.withFollow "special-get-raises" b) 11 (some (.ref 6)) 5000 (bootT (w.withFollow "special-get-raises" b).params os) (topStub P)).map (fun s=>looks P q0 zb7 (fun U=>true) (fun s=>see s.heap) (boot_heap (w.withFollow "special-get-raises" b).params) s.abs)=some (true,openGood q0 zb7,vj5 (w.withFollow "special-get-raises" b))
theorem run0:RunOk false:=by
 intro w os;rw [vg8,PySem.W.Fast.te14364793385576792824]
 kernel_rfl
theorem run1:RunOk true:=by
 intro w os;rw [vg8,PySem.W.Fast.te14364793385576792824]
 kernel_rfl
theorem left0:LeftO P q0 zb7 (fun U=>true) (fun s=>see s.heap) vj5 5000:=by
 refine xw2 open_eq rfl fence_eq size_eq ?_;refine by_row (f:=fun w=>∀ os,(topT treeTable P w 11 (some (.ref 6)) 5000 (bootT w.params os) (topStub P)).map (fun s=>looks P q0 zb7 (fun U=>true) (fun s=>see s.heap) (boot_heap w.params) s.abs)=some (true,openGood q0 zb7,vj5 w)) "special-get-raises" ?_;intro w b;cases b
 ·exact run0 w
 ·exact run1 w
end
end
section
open PySem
noncomputable def scOf (o:Option Stmt):Option Scope:=(o.elim Option.none fdN).elim Option.none fun p=>some p.2.2.2
noncomputable def xw5 (sc:Scope):Bool:=fns.any fun f=>(f.c == 477||f.c == 717)&&(scOf (zg1 f.i f.j) == some sc)
noncomputable def yw5:List (Addr×Addr):=[(477,473),(717,713)]
noncomputable def yg9 (P:Addr):Str:=if P=473 then "read_primary.<locals>.<lambda>" else "refs_within.<locals>.<lambda>"
noncomputable def S (x:String):List Nat:=(Str.ofString x).cps.toList
inductive V where
 | none
 | bool (b:Bool)
 | int (i:Int)
 | str (l:List Nat)
 | tup (l:List V)
 | loc (i:Nat)
 | fn (k:Str)
 | cls (k:Str)
 | blt (id:String)
 | typ (n:String)
 | map (ks vs:List V)
 | clo (ps:Arguments) (b:Expr) (sc:Scope) (ns:List Str) (vs:List V)
 | fz (l:List V)
noncomputable def V.ctorIdx (x:V):Nat:=V.casesOn (motive_1:=fun U=>Nat) x 0 (fun U=>1) (fun U=>2) (fun U=>3) (fun U=>4) (fun U=>5) (fun U=>6) (fun U=>7) (fun U=>8) (fun U=>9) (fun U U=>10) (fun U U U U U=>11) (fun U=>12)
inductive O where
 | lst (l:List V)
 | inst (c:Str) (f:List (Str×V))
noncomputable def O.ctorIdx (x:O):Nat:=O.casesOn (motive:=fun U=>Nat) x (fun U=>0) (fun U U=>1)
noncomputable abbrev zz0:=List O
noncomputable abbrev Rho:=List (Str×V)
inductive Out (α:Type) where
 | ok (a:α) (σ:zz0)
 | exc (σ:zz0)
 | ex (σ:zz0)
 | bad
noncomputable def Out.ctorIdx {α:Type} (x:Out α):Nat:=Out.casesOn (motive:=fun U=>Nat) x (fun U U=>0) (fun U=>1) (fun U=>2) 3
noncomputable def Out.bnd {α β:Type} (r:Out α) (f:α->zz0->Out β):Out β:=match r with
 | .ok a σ=>f a σ
 | .exc σ=>.exc σ
 | .ex _=>.bad
 | .bad=>.bad
inductive Fl where
 | next|cont
 | ret (v:V)
 | retex
noncomputable def Fl.ctorIdx (x:Fl):Nat:=Fl.casesOn (motive:=fun U=>Nat) x 0 1 (fun U=>2) 3
noncomputable def upd:Rho->Str->V->Rho
 | [],x,v=>[(x,v)]
 | (y,u)::r,x,v=>if y=x then (y,v)::r else (y,u)::upd r x v
noncomputable abbrev SL:Nat:=16777216
noncomputable abbrev big:Int:=9223372036854775808
noncomputable def zj9 (v:V):Option Int:=V.casesOn (motive_1:=fun U=>Option Int) v (.none) (fun U=>.none) (fun i=>some i) (fun U=>.none) (fun U=>.none) (fun U=>.none) (fun U=>.none) (fun U=>.none) (fun U=>.none) (fun U=>.none) (fun U U=>.none) (fun U U U U U=>.none) (fun U=>.none)
noncomputable def zx9 (v:V):Option (List Nat):=V.casesOn (motive_1:=fun U=>Option (List Nat)) v (.none) (fun U=>.none) (fun U=>.none) (fun l=>some l) (fun U=>.none) (fun U=>.none) (fun U=>.none) (fun U=>.none) (fun U=>.none) (fun U=>.none) (fun U U=>.none) (fun U U U U U=>.none) (fun U=>.none)
noncomputable def zj2 (v:V):Option (List V):=V.casesOn (motive_1:=fun U=>Option (List V)) v (.none) (fun U=>.none) (fun U=>.none) (fun U=>.none) (fun l=>some l) (fun U=>.none) (fun U=>.none) (fun U=>.none) (fun U=>.none) (fun U=>.none) (fun U U=>.none) (fun U U U U U=>.none) (fun U=>.none)
noncomputable def zj8 (v:V):Option Nat:=V.casesOn (motive_1:=fun U=>Option Nat) v (.none) (fun U=>.none) (fun U=>.none) (fun U=>.none) (fun U=>.none) (fun i=>some i) (fun U=>.none) (fun U=>.none) (fun U=>.none) (fun U=>.none) (fun U U=>.none) (fun U U U U U=>.none) (fun U=>.none)
noncomputable def vh3 (v:V):Option (List V×List V):=V.casesOn (motive_1:=fun U=>Option (List V×List V)) v (.none) (fun U=>.none) (fun U=>.none) (fun U=>.none) (fun U=>.none) (fun U=>.none) (fun U=>.none) (fun U=>.none) (fun U=>.none) (fun U=>.none) (fun k v=>some (k,v)) (fun U U U U U=>.none) (fun U=>.none)
noncomputable def asFz (v:V):Option (List V):=V.casesOn (motive_1:=fun U=>Option (List V)) v (.none) (fun U=>.none) (fun U=>.none) (fun U=>.none) (fun U=>.none) (fun U=>.none) (fun U=>.none) (fun U=>.none) (fun U=>.none) (fun U=>.none) (fun U U=>.none) (fun U U U U U=>.none) (fun l=>some l)
noncomputable def asTyp (v:V):Option String:=V.casesOn (motive_1:=fun U=>Option String) v (.none) (fun U=>.none) (fun U=>.none) (fun U=>.none) (fun U=>.none) (fun U=>.none) (fun U=>.none) (fun U=>.none) (fun U=>.none) (fun l=>some l) (fun U U=>.none) (fun U U U U U=>.none) (fun U=>.none)
noncomputable def isNone (v:V):Option Bool:=V.casesOn (motive_1:=fun U=>Option Bool) v (some true) (fun U=>some false) (fun U=>some false) (fun U=>some false) (fun U=>some false) (fun U=>some false) (fun U=>some false) (fun U=>some false) (fun U=>.none) (fun U=>some false) (fun U U=>some false) (fun U U U U U=>some false) (fun U=>some false)
noncomputable def uj3 (v:V):Option V:=V.casesOn (motive_1:=fun U=>Option V) v (some v) (fun U=>some v) (fun U=>some v) (fun U=>some v) (fun U=>some v) (fun U=>some v) (fun U=>some v) (fun U=>some v) (fun U=>.none) (fun U=>some v) (fun U U=>some v) (fun U U U U U=>some v) (fun U=>some v)
noncomputable def isTup (v:V):Option Bool:=V.casesOn (motive_1:=fun U=>Option Bool) v (some false) (fun U=>some false) (fun U=>some false) (fun U=>some false) (fun U=>some true) (fun U=>.none) (fun U=>.none) (fun U=>.none) (fun U=>.none) (fun U=>.none) (fun U U=>.none) (fun U U U U U=>.none) (fun U=>.none)
noncomputable def lf (v:V):Option PyData:=V.casesOn (motive_1:=fun U=>Option PyData) v (some .none) (fun U=>.none) (fun i=>some (.int i)) (fun l=>if l.all (fun U=>U < 1114112) then some (.str ⟨l.toArray⟩) else Option.none) (fun U=>.none) (fun U=>.none) (fun U=>.none) (fun U=>.none) (fun U=>.none) (fun U=>.none) (fun U U=>.none) (fun U U U U U=>.none) (fun U=>.none)
noncomputable def bit (v:V):Option Bool:=V.casesOn (motive_1:=fun U=>Option Bool) v (some false) (fun b=>some b) (fun i=>some (i != 0)) (fun U=>.none) (fun U=>.none) (fun U=>.none) (fun U=>.none) (fun U=>.none) (fun U=>.none) (fun U=>.none) (fun U U=>.none) (fun U U U U U=>.none) (fun U=>.none)
noncomputable def lstO (o:O):Option (List V):=O.casesOn o (fun l=>some l) fun U U=>.none
noncomputable def insO (o:O):Option (Str×List (Str×V)):=O.casesOn o (fun U=>.none) fun c f=>some (c,f)
noncomputable def zj3 (σ:zz0) (i:Nat):Option (List V):=σ[i]?.elim .none lstO
noncomputable def wz5 (σ:zz0) (i:Nat):Option (Str×List (Str×V)):=σ[i]?.elim .none insO
theorem xx2 {σ:zz0} {i:Nat} {l:List V} (h:σ[i]?=some (.lst l)):zj3 σ i=some l:=congrArg (fun o=>Option.elim o Option.none lstO) h
theorem ins_of {σ:zz0} {i:Nat} {c:Str} {f:List (Str×V)} (h:σ[i]?=some (.inst c f)):wz5 σ i=some (c,f):=congrArg (fun o=>Option.elim o Option.none insO) h
noncomputable def on1 {α:Type} (l:List V) (f:V->Out α):Out α:=List.casesOn l .bad fun v r=>List.casesOn r (f v) fun U U=>.bad
noncomputable def on2 {α:Type} (l:List V) (f:V->V->Out α):Out α:=List.casesOn l .bad fun v r=>on1 r (f v)
noncomputable def sgl1 (l:List Nat):Option Nat:=List.casesOn l Option.none fun v r=>List.casesOn r (some v) fun U U=>.none
noncomputable def wq9:Const->Option V
 | .none=>some .none
 | .bool b=>some (.bool b)
 | .int i=>some (.int i)
 | .str s=>some (.str s.cps.toList)
 | _=>.none
noncomputable def liftO {α:Type} (x:Option α) (σ:zz0):Out α:=x.elim .bad fun a=>.ok a σ
noncomputable def zv4:Nat->V->Bool:=Nat.rec (fun v=>(lf v).isSome) fun U ih v=>(zj2 v).elim (lf v).isSome fun l=>l.all ih
noncomputable def xz0:Nat->V->PyData:=Nat.rec (fun v=>(lf v).getD .none) fun U ih v=>(zj2 v).elim ((lf v).getD .none) fun l=>.tuple (l.map ih)
noncomputable def zy2 (a b:List V):Option Bool:=if a.all (zv4 60)&&b.all (zv4 60) then some (PyData.eqvAll (a.map (xz0 60)) (b.map (xz0 60))) else Option.none
noncomputable def pyEq (a b:V):Option Bool:=(zx9 a).elim
 ((zj9 a).elim ((zj2 a).elim .none fun l=>(zj2 b).elim .none fun m=>zy2 l m) fun i=>(zj9 b).elim .none fun j=>some (i == j))
 fun l=>(zx9 b).elim .none fun m=>some (l == m)
noncomputable def zg9 (k:Int) (n:Nat):Option Nat:=if n<=SL then seqIndex? k n else Option.none
noncomputable def zb2 (k:Int) (n:Nat):Nat:=if k < 0 then (k + n).toNat else min k.toNat n
noncomputable def zj4 {α:Type} (l:List α) (lo hi:Option Int):List α:=(l.take (hi.elim l.length fun k=>zb2 k l.length)).drop (lo.elim 0 fun k=>zb2 k l.length)
noncomputable def subAt (x y:List Nat):Bool:=x.take y.length == y
noncomputable def subIn (x y:List Nat):Bool:=List.rec y.isEmpty (fun c r ih=>subAt (c::r) y||ih) x
noncomputable def wp4 (ks vs:List V) (x:List Nat):Option V:=List.rec (motive:=fun U=>List V->Option V) (fun U=>.none) (fun k U ih vs=>List.casesOn vs Option.none fun v vs=>(zx9 k).elim .none fun y=>if y == x then some v else ih vs) ks vs
noncomputable def yx1 (l:List V) (x:List Nat):Option Bool:=List.rec (some false) (fun v U ih=>(zx9 v).elim .none fun y=>if y == x then some true else ih) l
noncomputable def zh0 (i:Int):Bool:=decide (-big<=i)&&decide (i < big)
noncomputable def addL (i j:Nat) (σ:zz0):Out V:=(zj3 σ i).elim .bad fun a=>(zj3 σ j).elim .bad fun b=>if a.length + b.length<=1000 then .ok (.loc σ.length) (σ++[.lst (a++b)]) else .bad
noncomputable def onI2 (a b:V) (f:Int->Int->Out V):Out V:=(zj9 a).elim .bad fun i=>(zj9 b).elim .bad fun j=>f i j
noncomputable def yv6 (op:Operator) (a b:V) (σ:zz0):Out V:=match op with
 | .Add=>(zj9 a).elim ((zx9 a).elim ((zj8 a).elim .bad fun i=>(zj8 b).elim .bad fun j=>addL i j σ)
  fun l=>(zx9 b).elim .bad fun m=>if l.length + m.length<=SL then .ok (.str (l++m)) σ else .bad)
  fun i=>(zj9 b).elim .bad fun j=>.ok (.int (i + j)) σ
 | .Sub=>onI2 a b fun i j=>.ok (.int (i - j)) σ
 | .Mult=>(zj9 a).elim ((zx9 a).elim .bad fun l=>(zj9 b).elim .bad fun n=>if decide (n < 1000)&&decide (l.length<=1)&&decide (-1000 < n) then .ok (.str ((List.replicate n.toNat l).flatten)) σ else .bad)
  fun i=>(zj9 b).elim .bad fun j=>if zh0 i&&zh0 j then .ok (.int (i * j)) σ else .bad
 | .FloorDiv=>onI2 a b fun i j=>if decide (0 < j)&&decide (j < 1073741824) then .ok (.int (i.fdiv j)) σ else .bad
 | .Mod=>onI2 a b fun i j=>if decide (0 < j)&&decide (j < 1073741824) then .ok (.int (i.fmod j)) σ else .bad
 | _=>.bad
noncomputable def eqV (a b:V) (σ:zz0):Option Bool:=(zj8 a).elim (pyEq a b) fun i=>(zj8 b).elim .none fun j=>(zj3 σ i).elim .none fun l=>(zj3 σ j).elim .none fun m=>zy2 l m
noncomputable def inL (y:List Nat) (l:List V):Option Bool:=if y.all (fun U=>U < 1114112)&&l.all (zv4 1) then yx1 l y else Option.none
noncomputable def inV (a b:V) (σ:zz0):Option Bool:=(zx9 a).elim .none fun y=>(zj8 b).elim ((zx9 b).elim ((zj2 b).elim ((vh3 b).elim .none fun m=>if m.1.isEmpty then Option.none else yx1 m.1 y)
 fun l=>inL y l) fun x=>some (subIn x y)) fun i=>(zj3 σ i).elim .none fun l=>inL y l
noncomputable def cmpI (a b:V) (σ:zz0) (f:Int->Int->Bool):Out V:=onI2 a b fun i j=>.ok (.bool (f i j)) σ
noncomputable def zy8 (op:CmpOp) (a b:V) (σ:zz0):Out V:=match op with
 | .Eq=>liftO ((eqV a b σ).map V.bool) σ
 | .NotEq=>liftO ((eqV a b σ).map fun x=>V.bool !x) σ
 | .Lt=>cmpI a b σ fun i j=>decide (i < j)
 | .LtE=>(zx9 a).elim (cmpI a b σ fun i j=>decide (i<=j)) fun l=>(zx9 b).elim .bad fun m=>(sgl1 l).elim .bad fun c=>(sgl1 m).elim .bad fun d=>.ok (.bool (decide (c<=d))) σ
 | .Gt=>cmpI a b σ fun i j=>decide (i > j)
 | .GtE=>cmpI a b σ fun i j=>decide (i>=j)
 | .In=>liftO ((inV a b σ).map V.bool) σ
 | .NotIn=>liftO ((inV a b σ).map fun x=>V.bool !x) σ
 | .Is=>if isNone b=some true then liftO ((isNone a).map V.bool) σ else .bad
 | .IsNot=>if isNone b=some true then liftO ((isNone a).map fun x=>V.bool !x) σ else .bad
noncomputable def zv5 (v:V) (σ:zz0):Option Bool:=(zj8 v).elim (bit v) fun i=>(zj3 σ i).elim .none fun l=>if (l.length:Int) < big then some (!l.isEmpty) else Option.none
noncomputable def atP (l:List V) (k:Int) (σ:zz0):Out V:=liftO ((zg9 k l.length).bind fun j=>l[j]?) σ
noncomputable def zv7 (v k:V) (σ:zz0):Out V:=(zj9 k).elim ((vh3 v).elim .bad fun m=>(zx9 k).elim .bad fun x=>if m.1.isEmpty then .bad else liftO (wp4 m.1 m.2 x) σ)
 fun k=>(zj2 v).elim ((zj8 v).elim ((zx9 v).elim .bad fun l=>liftO (((zg9 k l.length).bind fun j=>l[j]?).map fun c=>V.str [c]) σ) fun i=>(zj3 σ i).elim .bad fun l=>atP l k σ) fun l=>atP l k σ
noncomputable def zy6 (v:V) (a b:Option Int) (σ:zz0):Out V:=(zx9 v).elim ((zj8 v).elim ((asFz v).elim ((zj2 v).elim .bad
 fun l=>a.elim (b.elim .bad fun k=>if l.length<=SL/\0<=k then .ok (.tup (zj4 l Option.none (some k))) σ else .bad) fun U=>.bad)
 fun l=>if l.length<=SL then .ok (.loc σ.length) (σ++[.lst (zj4 l a b)]) else .bad)
 fun i=>(zj3 σ i).elim .bad fun l=>if l.length<=SL then .ok (.loc σ.length) (σ++[.lst (zj4 l a b)]) else .bad)
 fun l=>if l.length<=SL then .ok (.str (zj4 l a b)) σ else .bad
noncomputable def zb1:List (Str×Str):=[("Line","text"),("Line","places"),("Token","kind"),("Token","worth"),("Token","at"),("Token","is_in_a"),("Reader","tokens"),("Reader","at"),("Reader","named")]
noncomputable def wx7 (v:V) (n:Str) (σ:zz0):Out V:=(zj8 v).elim .bad fun i=>(wz5 σ i).elim .bad fun p=>if zb1.contains (p.1,n)=true then liftO ((p.2.lookup n).bind uj3) σ else .bad
noncomputable def zg2 (o:V) (n:Str) (v:V) (σ:zz0):Out Unit:=(zj8 o).elim .bad fun i=>(wz5 σ i).elim .bad fun p=>if zb1.contains (p.1,n)=true/\p.2.length<=900 then .ok () (σ.set i (.inst p.1 (upd p.2 n v))) else .bad
noncomputable def zb4 (o k v:V) (σ:zz0):Out Unit:=(zj8 o).elim .bad fun i=>(zj9 k).elim .bad fun k=>(zj3 σ i).elim .bad fun l=>if 0<=k/\k.toNat < l.length/\l.length<=SL then .ok () (σ.set i (.lst (l.set k.toNat v))) else .bad
noncomputable def yj2 (sep:List Nat) (l:List (List Nat)):List Nat:=List.rec [] (fun x r ih=>List.casesOn r x fun U U=>x++sep++ih) l
noncomputable def textsOf (l:List V):Option (List (List Nat)):=List.rec (some []) (fun v U ih=>(zx9 v).elim .none fun x=>ih.map (fun U=>x::U)) l
noncomputable def vv7 (sep:List Nat) (l:List V) (σ:zz0):Out V:=(textsOf l).elim .bad fun xs=>if (xs.map List.length).sum + xs.length * sep.length<=SL then .ok (.str (yj2 sep xs)) σ else .bad
noncomputable def ww1 (l:List V) (i:Nat) (σ:zz0) (as:List V):Out V:=on1 as fun v=>if l.length < SL then .ok .none (σ.set i (.lst (l++[v]))) else .bad
noncomputable def mPop (l:List V) (i:Nat) (σ:zz0) (as:List V):Out V:=if as.isEmpty=true/\l.length<=SL then l.getLast?.elim .bad fun v=>.ok v (σ.set i (.lst l.dropLast)) else .bad
noncomputable def ww0 (l:List V) (i:Nat) (σ:zz0) (as:List V):Out V:=on1 as fun v=>(zj2 v).elim .bad fun m=>if l.length + m.length<=SL then .ok .none (σ.set i (.lst (l++m))) else .bad
noncomputable def mJoin (x:List Nat) (σ:zz0) (as:List V):Out V:=on1 as fun v=>(zj8 v).elim .bad fun i=>(zj3 σ i).elim .bad fun l=>vv7 x l σ
noncomputable def mIndex (x:List Nat) (σ:zz0) (as:List V):Out V:=on1 as fun v=>(zx9 v).elim .bad fun y=>(Builtin.Str.occurrences ⟨x.toArray⟩ ⟨y.toArray⟩ 0 (⟨x.toArray⟩:Str).length 1).head?.elim .bad fun k=>.ok (.int k) σ
noncomputable def uk3 (x:List Nat) (σ:zz0) (as:List V):Out V:=on1 as fun v=>(zx9 v).elim .bad fun y=>if y.length≠0/\x.length<=SL/\(Txt.split ⟨x.toArray⟩ ⟨y.toArray⟩).length<=SL then
 .ok (.loc σ.length) (σ++[.lst ((Txt.split ⟨x.toArray⟩ ⟨y.toArray⟩).map fun z=>V.str z.cps.toList)]) else .bad
noncomputable def xf8 (v:V) (a b:Str) (σ:zz0):Out V:=(zx9 v).elim .bad fun x=>if (a == b)=false/\x.length + (x.length + 1) * b.length<=SL then .ok (.str (Txt.replace ⟨x.toArray⟩ a b).cps.toList) σ else .bad
noncomputable def mGet (ks vs:List V) (σ:zz0) (as:List V):Out V:=on2 as fun k d=>(zx9 k).elim .bad fun y=>(yx1 ks y).elim .bad fun b=>bif b then liftO (wp4 ks vs y) σ else .ok d σ
inductive MK where
 | bm (id:String)
 | fm (q:Str)
noncomputable def MK.ctorIdx (x:MK):Nat:=MK.casesOn (motive:=fun U=>Nat) x (fun U=>0) (fun U=>1)
noncomputable def zx3 (v:V) (n:Str) (σ:zz0):Option String:=(zj8 v).elim ((zx9 v).elim ((vh3 v).elim .none fun m=>if n = "get"/\m.1.isEmpty=false then some "dict.get" else Option.none)
 fun U=>if n = "join" then some "str.join" else if n = "index" then some "str.index" else if n = "split" then some "str.split" else Option.none)
 fun i=>(zj3 σ i).elim .none fun U=>if n = "append" then some "list.append" else if n = "pop" then some "list.pop" else if n = "extend" then some "list.extend" else Option.none
noncomputable def vv0 (r:V) (σ:zz0) (f:List V->Nat->Out V):Out V:=(zj8 r).elim .bad fun i=>(zj3 σ i).elim .bad fun l=>f l i
noncomputable def vk9 (r:V) (f:List Nat->Out V):Out V:=(zx9 r).elim .bad f
noncomputable def zq7 (id:String) (r:V) (args:List V) (σ:zz0):Out V:=
 if id = "list.append" then vv0 r σ fun l i=>ww1 l i σ args
 else if id = "list.pop" then vv0 r σ fun l i=>mPop l i σ args
 else if id = "list.extend" then vv0 r σ fun l i=>ww0 l i σ args
 else if id = "str.join" then vk9 r fun x=>mJoin x σ args
 else if id = "str.index" then vk9 r fun x=>mIndex x σ args
 else if id = "str.split" then vk9 r fun x=>uk3 x σ args
 else if id = "dict.get" then (vh3 r).elim .bad fun m=>if m.1.isEmpty then .bad else mGet m.1 m.2 σ args
 else .bad
noncomputable def wh0 (i:Int):List Nat:=S (toString i)
noncomputable def lenOf (v:V) (σ:zz0):Option Nat:=(zx9 v).elim ((zj2 v).elim ((zj8 v).elim .none fun i=>(zj3 σ i).elim .none fun l=>some l.length) fun l=>some l.length) fun l=>some l.length
noncomputable def bLen (σ:zz0) (as:List V):Out V:=on1 as fun v=>(lenOf v σ).elim .bad fun n=>if (n:Int) < big then .ok (.int n) σ else .bad
noncomputable def bChr (σ:zz0) (as:List V):Out V:=on1 as fun v=>(zj9 v).elim .bad fun i=>if decide (0<=i)&&decide (i<=1114111) then .ok (.str [i.toNat]) σ else .bad
noncomputable def bOrd (σ:zz0) (as:List V):Out V:=on1 as fun v=>(zx9 v).elim .bad fun l=>(sgl1 l).elim .bad fun c=>.ok (.int c) σ
noncomputable def bAbs (σ:zz0) (as:List V):Out V:=on1 as fun v=>(zj9 v).elim .bad fun i=>.ok (.int i.natAbs) σ
noncomputable def bMin (σ:zz0) (as:List V):Out V:=on2 as fun a b=>onI2 a b fun a b=>.ok (.int (if b < a then b else a)) σ
noncomputable def bIsi (σ:zz0) (as:List V):Out V:=on2 as fun v t=>(asTyp t).elim .bad fun n=>if n = "tuple" then liftO ((isTup v).map V.bool) σ else .bad
noncomputable def yp3 (id:String) (args:List V) (σ:zz0):Out V:=
 if id = "len" then bLen σ args
 else if id = "chr" then bChr σ args
 else if id = "ord" then bOrd σ args
 else if id = "abs" then bAbs σ args
 else if id = "min" then bMin σ args
 else if id = "isinstance" then bIsi σ args
 else .bad
noncomputable def tStr (σ:zz0) (as:List V):Out V:=on1 as fun v=>(zj9 v).elim .bad fun i=>if decide (-1000000 < i)&&decide (i < 1000000) then .ok (.str (wh0 i)) σ else .bad
noncomputable def tTuple (σ:zz0) (as:List V):Out V:=on1 as fun v=>(zj8 v).elim .bad fun i=>(zj3 σ i).elim .bad fun l=>if l.length<=SL then .ok (.tup l) σ else .bad
noncomputable def tList (σ:zz0) (as:List V):Out V:=on1 as fun v=>(zj2 v).elim ((zj8 v).elim .bad fun i=>(zj3 σ i).elim .bad fun l=>if l.length<=SL then .ok (.loc σ.length) (σ++[.lst l]) else .bad) fun l=>if l.length<=SL then .ok (.loc σ.length) (σ++[.lst l]) else .bad
noncomputable def vg1 (n:String) (args:List V) (σ:zz0):Out V:=
 if n = "str" then tStr σ args
 else if n = "tuple" then tTuple σ args
 else if n = "list" then tList σ args
 else .bad
noncomputable def unOp (op:UnaryOp) (v:V) (σ:zz0):Out V:=match op with
 | .USub=>(zj9 v).elim .bad fun i=>.ok (.int (-i)) σ
 | .Not=>liftO ((zv5 v σ).map fun b=>V.bool !b) σ
 | _=>.bad
end
section
open PySem PySem.W PyProof.Rows
theorem oel {α β:Type} {o:Option α} {v:α} {z:β} {f:α->β} {x:β} (h:o=some v) (k:f v=x):o.elim z f=x:=by rw [h];exact k
theorem bnd_ok {α β:Type} {r:Out α} {f:α->zz0->Out β} {b:β} {σ:zz0} (h:r.bnd f=.ok b σ):∃ a s,r=.ok a s/\f a s=.ok b σ:=by
 cases r with
 | ok a s=>exact ⟨a,s,rfl,h⟩
 | _=>nomatch h
theorem yj7 {v:V} {i:Int} (e:zj9 v=some i):v=.int i:=by cases v <;> first|exact zz7 e|exact congrArg V.int (Option.some.inj e)
theorem yj6 {v:V} {l:List Nat} (e:zx9 v=some l):v=.str l:=by cases v <;> first|exact zz7 e|exact congrArg V.str (Option.some.inj e)
theorem zf7 {v:V} {l:List V} (e:zj2 v=some l):v=.tup l:=by cases v <;> first|exact zz7 e|exact congrArg V.tup (Option.some.inj e)
theorem qz7 {v:V} {l:List V} (e:asFz v=some l):v=.fz l:=by cases v <;> first|exact zz7 e|exact congrArg V.fz (Option.some.inj e)
theorem yg3 {v:V} {i:Nat} (e:zj8 v=some i):v=.loc i:=by cases v <;> first|exact zz7 e|exact congrArg V.loc (Option.some.inj e)
theorem asTyp_eq {v:V} {i:String} (e:asTyp v=some i):v=.typ i:=by cases v <;> first|exact zz7 e|exact congrArg V.typ (Option.some.inj e)
theorem yg2 {v:V} {m:List V×List V} (e:vh3 v=some m):v=.map m.1 m.2:=by cases v <;> first|exact zz7 e|exact congrArg (fun m:List V×List V=>V.map m.1 m.2) (Option.some.inj e)
theorem ww3 {σ:zz0} {i:Nat} {l:List V} (e:zj3 σ i=some l):σ[i]?=some (.lst l):=by
 unfold zj3 at e;revert e;cases σ[i]? with
 | none=>exact zz7
 | some o=>cases o with
  | lst m=>exact fun e=>congrArg (fun m=>some (O.lst m)) (Option.some.inj e)
  | inst=>exact zz7
theorem wy2 {σ:zz0} {i:Nat} {p:Str×List (Str×V)} (e:wz5 σ i=some p):σ[i]?=some (.inst p.1 p.2):=by
 unfold wz5 at e;revert e;cases σ[i]? with
 | none=>exact zz7
 | some o=>cases o with
  | lst m=>exact zz7
  | inst c f=>exact fun e=>congrArg (fun p:Str×List (Str×V)=>some (O.inst p.1 p.2)) (Option.some.inj e)
theorem xj8 {l:List Nat} (h:(l.all (fun U=>U < 1114112))=true):PyData.strOk ⟨l.toArray⟩=true:=by
 unfold PyData.strOk;rw [<-Array.all_toList];exact h
theorem uv7 {l:List Nat} {d:PyData} (e:lf (.str l)=some d):(l.all (fun U=>U < 1114112))=true/\d=.str ⟨l.toArray⟩:=by
 have:=ifs (show (if l.all (fun U=>U < 1114112) then some (PyData.str ⟨l.toArray⟩) else Option.none)=some d from e);exact ⟨this.1,this.2.symm⟩
theorem lay_s {l:List Nat} (h:l.all (fun U=>U < 1114112)=true) (k:Nat):zv4 k (.str l)=true:=by
 have z:(if l.all (fun U=>U < 1114112) then some (PyData.str ⟨l.toArray⟩) else Option.none).isSome=true:=by rw [if_pos h];rfl
 cases k <;> exact z
theorem lf_ok {v:V} {d:PyData} (n:Nat) (e:lf v=some d):d.canLay0=true/\d.depth<=n:=by
 cases v <;> first|exact zz7 e|skip
 case none=>cases Option.some.inj e;exact ⟨rfl,iv8 n⟩
 case int=>cases Option.some.inj e;exact ⟨rfl,iv8 n⟩
 case str=>obtain ⟨h,rfl⟩:=uv7 e;exact ⟨xj8 h,iv8 n⟩
theorem pys_of {n:Nat} (ih:∀ v,zv4 n v=true->(xz0 n v).canLay0=true/\(xz0 n v).depth<=n) (l:List V) (h:l.all (zv4 n)=true):PyData.canLayAll0 (l.map (xz0 n))=true/\PyData.depthAll (l.map (xz0 n))<=n:=by
 induction l with
 | nil=>exact ⟨rfl,iv8 n⟩
 | cons v r jh=>
  rw [ij1,iq5] at h;refine zz9 (ih v h.1) fun a b=>?_;refine zz9 (jh h.2) fun c d=>?_;exact ⟨(iq5 _ _).mpr ⟨a,c⟩,Nat.max_le.mpr ⟨b,d⟩⟩
theorem py_ok (n:Nat):∀ v:V,zv4 n v=true->(xz0 n v).canLay0=true/\(xz0 n v).depth<=n:=by
 have leaf:∀ (n:Nat) (v:V),(lf v).isSome=true->((lf v).getD .none).canLay0=true/\((lf v).getD .none).depth<=n:=fun n v=>by
  cases e:lf v with
  | none=>exact fun h=>nomatch h
  | some d=>exact fun U=>lf_ok n e
 induction n with
 | zero=>exact leaf 0
 | succ n ih=>
  intro v;show (zj2 v).elim (lf v).isSome (fun l=>l.all (zv4 n))=true->((zj2 v).elim ((lf v).getD .none) fun l=>PyData.tuple (l.map (xz0 n))).canLay0=true/\((zj2 v).elim ((lf v).getD .none) fun l=>PyData.tuple (l.map (xz0 n))).depth<=n + 1;cases zj2 v with
  | none=>exact leaf _ v
  | some l=>exact fun h=>zz9 (pys_of ih l h) fun a b=>⟨a,iv1 b⟩
theorem yf5 {n:Nat} (l:List V) (h:l.all (zv4 n)=true):PyData.canLayAll0 (l.map (xz0 n))=true/\PyData.depthAll (l.map (xz0 n))<=n:=pys_of (py_ok n) l h
end
section
open PySem
noncomputable abbrev LF:Nat:=1048576
noncomputable def zh2 {α β:Type} (f:α->zz0->Out β):List α->zz0->Out (List β)
 | [],σ=>.ok [] σ
 | e::r,σ=>(f e σ).bnd fun v σ=>(zh2 f r σ).bnd fun vs σ=>.ok (v::vs) σ
noncomputable def Out.bnd' {α β:Type} (r:Out α) (f:α->zz0->Out β):Out β:=match r with
 | .ok a σ=>f a σ
 | _=>.bad
noncomputable def seqS (f:Stmt->Rho->zz0->Out (Fl×Rho)):List Stmt->Rho->zz0->Out (Fl×Rho)
 | [],ρ,σ=>.ok (.next,ρ) σ
 | s::r,ρ,σ=>(f s ρ σ).bnd fun x σ=>match x.1 with
  | .next=>seqS f r x.2 σ
  | _=>.ok x σ
noncomputable def zx2 (T:Rho->zz0->Out Bool) (B:Rho->zz0->Out (Fl×Rho)):Nat->Rho->zz0->Out (Fl×Rho)
 | 0,_,_=>.bad
 | n + 1,ρ,σ=>(T ρ σ).bnd fun b σ=>match b with
  | false=>.ok (.next,ρ) σ
  | true=>(B ρ σ).bnd fun x σ=>match x.1 with
   | .next=>zx2 T B n x.2 σ
   | .cont=>zx2 T B n x.2 σ
   | .ret v=>.ok (.ret v,x.2) σ
   | .retex=>.bad
inductive It where
 | seq (l:List V)
 | lst (i:Nat) (n:Nat)
noncomputable def It.ctorIdx (x:It):Nat:=It.casesOn (motive:=fun U=>Nat) x (fun U=>0) (fun U U=>1)
noncomputable def lstAt (i n k:Nat) (σ:zz0):Option V:=(zj3 σ i).elim .none fun l=>if l.length=n then l[k]? else Option.none
noncomputable def uk5 (i n:Nat) (σ:zz0):Bool:=(zj3 σ i).elim false fun l=>decide (l.length=n)
noncomputable def zq5:It->Nat
 | .seq l=>l.length
 | .lst _ n=>n
noncomputable def yb9 (it:It) (k:Nat) (σ:zz0):Option V:=match it with
 | .seq l=>l[k]?
 | .lst i n=>lstAt i n k σ
noncomputable def uy0 (it:It) (σ:zz0):Bool:=match it with
 | .seq _=>true
 | .lst i n=>uk5 i n σ
noncomputable def forK (B:V->Rho->zz0->Out (Fl×Rho)) (it:It):Nat->Rho->zz0->Out (Fl×Rho)
 | 0,ρ,σ=>if uy0 it σ then .ok (.next,ρ) σ else .bad
 | r + 1,ρ,σ=>(yb9 it (zq5 it - (r + 1)) σ).elim .bad fun v=>(B v ρ σ).bnd' fun x σ=>match x.1 with
  | .next=>forK B it r x.2 σ
  | .cont=>forK B it r x.2 σ
  | .ret v=>.ok (.ret v,x.2) σ
  | .retex=>.bad
noncomputable def forIt (B:V->Rho->zz0->Out (Fl×Rho)) (it:It) (ρ:Rho) (σ:zz0):Out (Fl×Rho):=forK B it (zq5 it) ρ σ
noncomputable def wg0 (f:V->zz0->Out (Option V)) (it:It):Nat->zz0->Out (List V)
 | 0,σ=>if uy0 it σ then .ok [] σ else .bad
 | r + 1,σ=>(yb9 it (zq5 it - (r + 1)) σ).elim .bad fun v=>(f v σ).bnd' fun x σ=>(wg0 f it r σ).bnd fun xs σ=>.ok (x.toList++xs) σ
noncomputable def stops (op:BoolOp) (t:Bool):Bool:=BoolOp.rec (!t) t op
noncomputable def vy8 (f:Expr->zz0->Out Bool) (op:BoolOp):List Expr->zz0->Out Bool
 | [],σ=>.ok (op == .And) σ
 | e::r,σ=>(f e σ).bnd fun t σ=>bif stops op t then .ok t σ else vy8 f op r σ
noncomputable def compF (ft:Expr->zz0->V->Out Bool) (fe:Expr->zz0->V->Out V) (ifs:List Expr) (elt:Expr) (v:V) (σ:zz0):Out (Option V):=
 (vy8 (fun e σ=>ft e σ v) .And ifs σ).bnd fun t σ=>match t with
  | false=>.ok Option.none σ
  | true=>(fe elt σ v).bnd fun u σ=>.ok (some u) σ
noncomputable def yz5 (f:V->zz0->Out (Option V)) (it:It) (σ:zz0):Out (List V):=wg0 f it (zq5 it) σ
noncomputable def itO (v:V) (σ:zz0):Option It:=(zj8 v).elim ((zx9 v).elim ((zj2 v).elim .none fun l=>some (.seq l)) fun l=>some (.seq (l.map fun c=>V.str [c]))) fun i=>(zj3 σ i).elim .none fun l=>some (.lst i l.length)
noncomputable def itOf (v:V) (σ:zz0):Out It:=liftO (itO v σ) σ
noncomputable def zj6 (a:Int) (n:Nat):List V:=Nat.rec (motive:=fun U=>Int->List V) (fun U=>[]) (fun U ih a=>.int a::ih (a + 1)) n a
noncomputable def vw2 (i:Int):Bool:=decide (-1000000 < i)&&decide (i < 1000000)
noncomputable def yk3 (as:List V):Option (List V):=List.casesOn as Option.none fun a r=>List.casesOn r ((zj9 a).elim .none fun b=>if vw2 b then some (zj6 0 b.toNat) else Option.none)
 fun b r=>if r.isEmpty then (zj9 a).elim .none fun i=>(zj9 b).elim .none fun j=>if vw2 i&&vw2 j then some (zj6 i (j - i).toNat) else Option.none else Option.none
noncomputable def one1 {α β:Type} (l:List α) (f:α->Option β):Option β:=List.casesOn l Option.none fun a r=>List.casesOn r (f a) fun U U=>.none
noncomputable def tupE (e:Expr):Option (List Expr):=exTuple e Option.none (fun l U U=>some l)
noncomputable def cstV (e:Expr):Option V:=(cnst e).elim .none wq9
noncomputable def constE (e:Expr):Option V:=(tupE e).elim (cstV e) fun l=>List.casesOn l Option.none fun a r=>one1 r fun b=>(cstV a).elim .none fun x=>(cstV b).elim .none fun y=>some (.tup [x,y])
noncomputable def xy1 (l:List Expr):Option (List V):=List.rec (some []) (fun e U ih=>(constE e).elim .none fun v=>ih.elim .none fun vs=>some (v::vs)) l
noncomputable def yp4 (ps:Arguments) (args:List V):Option Rho:=(xy1 ps.defaults).elim .none fun ds=>if args.length<=ps.args.length/\ps.args.length<=args.length + ds.length then some ((ps.args.map (fun U=>U.arg)).zip (args++ds.drop (ds.length - (ps.args.length - args.length)))) else Option.none
noncomputable def fnAt (q:Str):Option Fn:=fns.find? (fun U=>U.q == q)
noncomputable def yw8 (q:Str):Option Stmt:=(fnAt q).bind fun f=>zg1 f.i f.j
noncomputable def cmap (l:List (String×V)):V:=.map (l.map fun x=>V.str (S x.1)) (l.map (fun U=>U.2))
noncomputable def txt (s:String):V:=.str (S s)
noncomputable def yp2:List (Str×V):=
 ((fns.filter fun f=>f.j.isNone).map fun f=>(f.q,V.fn f.q))++
 ((["Line","Token","Reader","GrammarFault"]:List String).map fun c=>(Str.ofString c,V.cls (Str.ofString c)))++
 ((["len","chr","ord","abs","min","isinstance"]:List String).map fun c=>(Str.ofString c,V.blt c))++
 ((["str","tuple","list"]:List String).map fun c=>(Str.ofString c,V.typ c))++
 (globs.filterMap fun g=>match g.2 with
  | .str s _=>some (g.1,V.str s.cps.toList)
  | .int i _=>some (g.1,V.int i)
  | _=>.none)++
 ([("FIGURE_NAMES",cmap [("ZERO",txt "ZERO"),("ZEROS",txt "ZERO"),("ZEROES",txt "ZERO"),("SPACE",txt "SPACE"),("SPACES",txt "SPACE"),("HIGH-VALUE",txt "HIGH"),("HIGH-VALUES",txt "HIGH"),("LOW-VALUE",txt "LOW"),("LOW-VALUES",txt "LOW"),("QUOTE",txt "QUOTE"),("QUOTES",txt "QUOTE")]),
  ("LEVELS",cmap [("+",.int 1),("-",.int 1),("*",.int 2),("/",.int 2),("**",.int 4)]),
  ("BRANCHED",.tup ((["arith","divide","corr","search","search-all","string","unstring","read","write","rewrite","delete","start","return","call"]:List String).map txt)),
  ("_law_numbers",.tup [.tup [.int 0,.int 0],.tup [.int 5,.int 0],.tup [.int (-5),.int 0],.tup [.int 25,.int 2],.tup [.int (-75),.int 1]])]:List (String×V)).map (fun x=>(Str.ofString x.1,x.2))
noncomputable def uh1 (x:Str):Option V:=yp2.lookup x
noncomputable def vv3 (sc:Scope) (ρ:Rho) (x:Str):Option V:=if x == "__debug__"||x == "__classdict__"||x == "super" then Option.none else match sc.names.lookup x with
 | some .local=>ρ.lookup x
 | some .cell=>ρ.lookup x
 | some .free=>ρ.lookup x
 | some .globalImplicit=>uh1 x
 | _=>.none
noncomputable def wv7:List ((Str×Str)×Str):=fns.filterMap fun f=>match f.j with
 | some _=>if f.i=91 then some ((Str.ofString "Reader",⟨(f.q.cps.toList.drop 7).toArray⟩),f.q) else Option.none
 | Option.none=>.none
noncomputable def xp5 (c n:Str):Option Str:=wv7.lookup (c,n)
noncomputable def wz6 (c:Str):Option Str:=([("Line","Line.__init__"),("Token","Token.__init__"),("Reader","Reader.__init__")]:List (String×String)).lookup c.toString |>.map Str.ofString
inductive CF where
 | meth (o:Expr) (n:Str)
 | revjoin (sep arg:Expr)
 | repl (o:Expr) (a b:Str)
 | call (f:Expr)
 | no
noncomputable def CF.ctorIdx (x:CF):Nat:=CF.casesOn (motive:=fun U=>Nat) x (fun U U=>0) (fun U U=>1) (fun U U U=>2) (fun U=>3) 4
noncomputable def zw6 (sc:Scope) (x:Str):Bool:=sc.names.lookup x == some .globalImplicit
noncomputable def zy7 (e:Expr):Bool:=exStar e false (fun U U=>true)
noncomputable def uj4 (e:Expr):Option Str:=exName e Option.none (fun r U=>some r)
noncomputable def att (e:Expr):Option (Expr×Str×Pos):=exAttr e Option.none (fun o n p=>some (o,n,p))
noncomputable def revOf (e:Expr):Option Expr:=exCall e Option.none (fun g as ks U=>(uj4 g).elim .none fun r=>one1 as fun a=>if r = "reversed"/\ks.isEmpty=true then some a else Option.none)
noncomputable def wk0 (e:Expr):Option Str:=exConst e Option.none (fun c U U=>strC c)
noncomputable def zf6 (o:Expr) (n:Str) (args:List Expr):CF:=List.casesOn args (.meth o n) fun e1 r=>List.casesOn r ((revOf e1).elim (.meth o n) fun a=>if n = "join" then .revjoin o a else .meth o n)
 fun e2 r=>List.casesOn r ((wk0 e1).elim (.meth o n) fun a=>(wk0 e2).elim (.meth o n) fun b=>if n = "replace" then .repl o a b else .meth o n) fun U U=>.meth o n
noncomputable def zw3 (f:Expr) (args:List Expr) (kws:List Keyword) (pos:Pos):CF:=if (decide (20<=args.length)||args.any zy7||!kws.isEmpty)=true then .no else (att f).elim (.call f) fun p=>if (p.2.2.endLine == pos.line)=false then .no else zf6 p.1 p.2.1 args
noncomputable def xw6 (f:Expr):Bool:=(uj4 f).elim false fun r=>r == "range"
noncomputable def optE (f:Expr->zz0->Out V) (o:Option Expr) (σ:zz0):Out (Option Int):=o.elim (.ok Option.none σ) fun e=>(f e σ).bnd fun v σ=>(zj9 v).elim .bad fun i=>.ok (some i) σ
noncomputable def wx3 (f:Expr->zz0->Out V):V->List CmpOp->List Expr->zz0->Out V
 | a,[op],[c],σ=>(f c σ).bnd fun b σ=>zy8 op a b σ
 | a,op::o2::ops,c::c2::cs,σ=>(f c σ).bnd fun b σ=>(zy8 op a b σ).bnd fun r σ=>(liftO (zv5 r σ) σ).bnd fun t σ=>match t with
  | true=>wx3 f b (o2::ops) (c2::cs) σ
  | false=>.ok r σ
 | _,_,_,_=>.bad
noncomputable def wx4 (f:Expr->zz0->Out V):V->List CmpOp->List Expr->zz0->Out Bool
 | a,[op],[c],σ=>(f c σ).bnd fun b σ=>(zy8 op a b σ).bnd fun r σ=>liftO (zv5 r σ) σ
 | a,op::o2::ops,c::c2::cs,σ=>(f c σ).bnd fun b σ=>(zy8 op a b σ).bnd fun r σ=>(liftO (zv5 r σ) σ).bnd fun t σ=>match t with
  | true=>wx4 f b (o2::ops) (c2::cs) σ
  | false=>.ok false σ
 | _,_,_,_=>.bad
noncomputable def boolV (f:Expr->zz0->Out V) (op:BoolOp):List Expr->zz0->Out V
 | [],_=>.bad
 | [e],σ=>f e σ
 | e::e2::r,σ=>(f e σ).bnd fun v σ=>(liftO (zv5 v σ) σ).bnd fun t σ=>match op,t with
  | .And,false=>.ok v σ
  | .Or,true=>.ok v σ
  | _,_=>boolV f op (e2::r) σ
noncomputable def yk6:List (Option Expr)->Option (List Expr)
 | []=>some []
 | some e::r=>(yk6 r).map (fun U=>e::U)
 | Option.none::_=>.none
noncomputable def zh9 (l:List V):Option (List Int):=List.rec (some []) (fun v U ih=>(zj9 v).elim .none fun i=>ih.map (fun U=>i::U)) l
noncomputable def wj7 (l:List V):Option (List (List Int)):=List.rec (some []) (fun v U ih=>(zj2 v).elim .none fun l=>(zh9 l).elim .none fun k=>ih.map (fun U=>k::U)) l
inductive KK where
 | ints (ks:List Int)
 | tups (ks:List (List Int))
noncomputable def KK.ctorIdx (x:KK):Nat:=KK.casesOn (motive:=fun U=>Nat) x (fun U=>0) (fun U=>1)
noncomputable def vz6 (l:List V):Option KK:=(zh9 l).elim ((wj7 l).elim .none fun ks=>if ks.Nodup then some (.tups ks) else Option.none) fun ks=>if ks.Nodup then some (.ints ks) else Option.none
noncomputable def zp1 {K:Type} [DecidableEq K] (ks:List K) (vs:List V) (k:K):Option V:=((ks.zip vs).find? fun p=>decide (p.1=k)).map (fun U=>U.2)
noncomputable def wh6 (kk:KK) (vals:List V) (i:V):Option V:=KK.casesOn kk (fun ks=>(zj9 i).elim .none fun j=>zp1 ks vals j) fun ks=>(zj2 i).elim .none fun l=>(zh9 l).elim .none fun js=>zp1 ks vals js
noncomputable def xv3 (f:Expr->zz0->Out V) (p:Expr×Expr) (σ:zz0):Out (V×V):=(f p.1 σ).bnd fun a σ=>(f p.2 σ).bnd fun b σ=>.ok (a,b) σ
noncomputable def xy9 (sc lsc:Scope) (ρ:Rho):Option (List Str×List V):=if ((lsc.names.filter fun x=>x.2 == .free).map (fun U=>U.1)).all (fun x=>sc.names.lookup x == some .cell||sc.names.lookup x == some .free)=true then
 (((lsc.names.filter fun x=>x.2 == .free).map (fun U=>U.1)).mapM fun n=>ρ.lookup n).elim .none fun vs=>some ((lsc.names.filter fun x=>x.2 == .free).map (fun U=>U.1),vs) else Option.none
noncomputable def vv1 (ps:Arguments) (sc:Scope):Bool:=ps.posonlyargs.isEmpty&&ps.vararg.isNone&&ps.kwonlyargs.isEmpty&&ps.kw_defaults.isEmpty&&ps.kwarg.isNone&&ps.defaults.isEmpty&&
 sc.kind == .function&&!sc.isGenerator&&!sc.isCoroutine&&sc.names.all (fun x=>x.2 != .cell)&&(ps.args.map (fun U=>U.arg)).all (fun a=>sc.names.lookup a == some .local)&&decide (ps.args.map (fun U=>U.arg)).Nodup&&!xw5 sc
noncomputable def zg3 (sc csc:Scope) (ρ:Rho) (x:Str):Bool:=(xy9 sc csc ρ).isSome&&csc.kind == .function&&csc.names.lookup x == some .local&&!xw5 csc&&
 csc.names.all (fun p=>p.2 != .cell&&(p.2 != .local||(csc.names.lookup p.1 == some .local&&(p.1 == x||(ρ.lookup p.1).isNone))))
noncomputable abbrev zz5:=V->List V->zz0->Out V
noncomputable def zk3 (r:V) (n:Str) (σ:zz0):Option MK:=((zj8 r).elim .none fun i=>wz5 σ i).elim ((zx3 r n σ).map MK.bm) fun p=>if (p.2.lookup n).isSome=true then Option.none else (xp5 p.1 n).map MK.fm
noncomputable def yh0 (C:zz5) (m:MK) (r:V) (args:List V) (σ:zz0):Out V:=match m with
 | .fm q=>C (.fn q) (r::args) σ
 | .bm id=>zq7 id r args σ
noncomputable def xk6 (x:List Nat) (arg:V) (σ:zz0):Out V:=(zj8 arg).elim .bad fun i=>(zj3 σ i).elim .bad fun l=>if l.length<=SL then vv7 x l.reverse σ else .bad
noncomputable def slOf (e:Expr):Option (Option Expr×Option Expr×Option Expr):=exSlice e Option.none (fun lo hi st U=>some (lo,hi,st))
noncomputable def vy2 (e:Expr):Option (List (Option Expr)×List Expr):=exDict e Option.none (fun ks vs U=>some (ks,vs))
noncomputable def lcOf (l:List Comprehension):Option (Str×Expr×List Expr):=one1 l fun g=>(uj4 g.target).elim .none fun x=>if (g.is_async == 0)=true then some (x,g.iter,g.ifs) else Option.none
noncomputable def revV (v w:V) (σ:zz0):Out V:=(zj2 v).elim .bad fun l=>(zj9 w).elim .bad fun i=>if i = -1/\l.length<=SL then .ok (.tup l.reverse) σ else .bad
noncomputable def evSl (f:Expr->zz0->Out V) (o:Expr) (p:Option Expr×Option Expr×Option Expr) (σ:zz0):Out V:=p.2.2.elim
 ((f o σ).bnd fun v σ=>(optE f p.1 σ).bnd fun a σ=>(optE f p.2.1 σ).bnd fun b σ=>zy6 v a b σ)
 fun e=>if (p.1.isNone&&p.2.1.isNone)=true then (f o σ).bnd fun v σ=>(f e σ).bnd fun w σ=>revV v w σ else .bad
noncomputable def evDs (f:Expr->zz0->Out V) (p:List (Option Expr)×List Expr) (s:Expr) (σ:zz0):Out V:=(yk6 p.1).elim .bad
 fun es=>if es.length=p.2.length/\0 < es.length/\es.length<=15 then
  (zh2 (xv3 f) (es.zip p.2) σ).bnd fun xs σ=>(liftO (vz6 (xs.map (fun U=>U.1))) σ).bnd fun kk σ=>(f s σ).bnd fun i σ=>liftO (wh6 kk (xs.map (fun U=>U.2)) i) σ
  else .bad
noncomputable def evIx (f:Expr->zz0->Out V) (o s:Expr) (σ:zz0):Out V:=(vy2 o).elim
 ((f o σ).bnd fun v σ=>(f s σ).bnd fun i σ=>zv7 v i σ)
 fun p=>evDs f p s σ
noncomputable def evRj (f:Expr->zz0->Out V) (a:Expr) (r:V) (σ:zz0):Out V:=(zx9 r).elim .bad fun x=>(f a σ).bnd fun v σ=>xk6 x v σ
noncomputable def wq5 (f:Expr->zz0->Out V) (C:zz5) (sc:Scope) (args:List Expr) (cf:CF) (σ:zz0):Out V:=match cf with
 | .meth o n=>(f o σ).bnd fun r σ=>(liftO (zk3 r n σ) σ).bnd fun m σ=>(zh2 f args σ).bnd fun vs σ=>yh0 C m r vs σ
 | .repl o a b=>(f o σ).bnd fun v σ=>xf8 v a b σ
 | .revjoin o a=>if zw6 sc "reversed" = false then .bad else (f o σ).bnd fun r σ=>evRj f a r σ
 | .call g=>(f g σ).bnd fun g σ=>(zh2 f args σ).bnd fun vs σ=>C g vs σ
 | .no=>.bad
noncomputable abbrev Evs:Type:=(Scope->Rho->Expr->zz0->Out V)×(Scope->Rho->Expr->zz0->Out Bool)×(Scope->Rho->Expr->zz0->Out It)
noncomputable def evD (f:Evs) (sc:Scope) (ρ:Rho) (e:Expr) (σ:zz0):Out Bool:=(f.1 sc ρ e σ).bnd fun v σ=>liftO (zv5 v σ) σ
noncomputable def evI (f:Evs) (sc:Scope) (ρ:Rho) (e:Expr) (σ:zz0):Out It:=(f.1 sc ρ e σ).bnd fun v σ=>itOf v σ
noncomputable def evEs (C:zz5) (f:Evs) (sc:Scope) (ρ:Rho) (e:Expr) (σ:zz0):Out V:=Expr.casesOn (motive_1:=fun U=>Out V) e (fun op vs U=>boolV (fun e σ=>f.1 sc ρ e σ) op vs σ) (fun U U U=>.bad) (fun l op r U=>(f.1 sc ρ l σ).bnd fun a σ=>(f.1 sc ρ r σ).bnd fun b σ=>yv6 op a b σ) (fun op x U=>(f.1 sc ρ x σ).bnd fun a σ=>unOp op a σ) (fun ps b lsc U=>if (vv1 ps lsc&&xw5 sc)=true then (xy9 sc lsc ρ).elim .bad fun p=>.ok (.clo ps b lsc p.1 p.2) σ else .bad) (fun t b o U=>(f.2.1 sc ρ t σ).bnd fun c σ=>bif c then f.1 sc ρ b σ else f.1 sc ρ o σ) (fun ks vs U=>if (ks.isEmpty&&vs.isEmpty)=true then .ok (.map [] []) σ else .bad) (fun U U U=>.bad) (fun elt gens csc U=>(lcOf gens).elim .bad fun x=>if zg3 sc csc ρ x.1=false then .bad else (f.2.2 sc ρ x.2.1 σ).bnd fun i σ=>
 if zq5 i < SL then (yz5 (compF (fun e σ v=>f.2.1 csc ((x.1,v)::ρ) e σ) (fun e σ v=>f.1 csc ((x.1,v)::ρ) e σ) x.2.2 elt) i σ).bnd fun vs σ=>.ok (.loc σ.length) (σ++[.lst vs]) else .bad) (fun U U U U=>.bad) (fun U U U U U=>.bad) (fun U U U U=>.bad) (fun U U=>.bad) (fun U U=>.bad) (fun U U=>.bad) (fun l ops cs U=>if lastMarks ops cs=true then .bad else (f.1 sc ρ l σ).bnd fun a σ=>wx3 (fun e σ=>f.1 sc ρ e σ) a ops cs σ) (fun g args kws pos=>wq5 (fun e σ=>f.1 sc ρ e σ) C sc args (zw3 g args kws pos) σ) (fun U U U U=>.bad) (fun U U=>.bad) (fun c U U=>liftO (wq9 c) σ) (fun o a U=>(f.1 sc ρ o σ).bnd fun v σ=>wx7 v a σ) (fun o s U=>(slOf s).elim (evIx (fun e σ=>f.1 sc ρ e σ) o s σ) fun p=>evSl (fun e σ=>f.1 sc ρ e σ) o p σ) (fun U U=>.bad) (fun x U=>liftO (vv3 sc ρ x) σ) (fun es U=>(zh2 (fun e σ=>f.1 sc ρ e σ) es σ).bnd fun vs σ=>if vs.length<=1000 then .ok (.loc σ.length) (σ++[.lst vs]) else .bad) (fun es U U=>(zh2 (fun e σ=>f.1 sc ρ e σ) es σ).bnd fun vs σ=>if vs.length<=1000 then .ok (.tup vs) σ else .bad) (fun U U U U=>.bad)
noncomputable def evTs (f:Evs) (sc:Scope) (ρ:Rho) (e:Expr) (σ:zz0):Out Bool:=exTest e (evD f sc ρ e σ) (fun op vs U=>vy8 (fun e σ=>f.2.1 sc ρ e σ) op vs σ) (fun op x U=>if op=.Not then (f.2.1 sc ρ x σ).bnd fun b σ=>.ok (!b) σ else evD f sc ρ e σ) (fun t b o U=>(f.2.1 sc ρ t σ).bnd fun c σ=>bif c then f.2.1 sc ρ b σ else f.2.1 sc ρ o σ) (fun l ops cs U=>if lastMarks ops cs=true then .bad else (f.1 sc ρ l σ).bnd fun a σ=>wx4 (fun e σ=>f.1 sc ρ e σ) a ops cs σ)
noncomputable def evIs (f:Evs) (sc:Scope) (ρ:Rho) (e:Expr) (σ:zz0):Out It:=exCall e (evI f sc ρ e σ) (fun g args kws U=>if xw6 g=true then if (!zw6 sc "range"||args.any zy7||!kws.isEmpty)=true then .bad else (zh2 (fun e σ=>f.1 sc ρ e σ) args σ).bnd fun vs σ=>liftO ((yk3 vs).map It.seq) σ else evI f sc ρ e σ)
noncomputable def evAll (C:zz5) (k:Nat):Evs:=Nat.rec (fun U U U U=>.bad,fun U U U U=>.bad,fun U U U U=>.bad) (fun U f=>(evEs C f,evTs f,evIs f)) k
noncomputable def evE (C:zz5) (k:Nat):Scope->Rho->Expr->zz0->Out V:=(evAll C k).1
noncomputable def evT (C:zz5) (k:Nat):Scope->Rho->Expr->zz0->Out Bool:=(evAll C k).2.1
noncomputable def evIt (C:zz5) (k:Nat):Scope->Rho->Expr->zz0->Out It:=(evAll C k).2.2
noncomputable def yz4 (e:Expr):Bool:=Expr.casesOn (motive_1:=fun U=>Bool) e (fun U U U=>false) (fun U U U=>false) (fun U U U U=>false) (fun U U U=>false) (fun U U U U=>false) (fun U U U U=>false) (fun U U U=>false) (fun U U U=>false) (fun U U U U=>true) (fun U U U U=>true) (fun U U U U U=>true) (fun U U U U=>false) (fun U U=>false) (fun U U=>false) (fun U U=>false) (fun U U U U=>false) (fun U U U U=>false) (fun U U U U=>false) (fun U U=>false) (fun U U U=>false) (fun U U U=>false) (fun U U U=>false) (fun U U=>false) (fun U U=>false) (fun U U=>false) (fun U U U=>false) (fun U U U U=>false)
noncomputable def noStm (e:Expr):Bool:=Expr.casesOn (motive_1:=fun U=>Bool) e (fun U U U=>true) (fun U U U=>true) (fun U U U U=>true) (fun U U U=>true) (fun U U U U=>true) (fun U U U U=>true) (fun U U U=>true) (fun U U U=>true) (fun U U U U=>true) (fun U U U U=>true) (fun U U U U U=>true) (fun U U U U=>true) (fun U U=>true) (fun U U=>true) (fun U U=>true) (fun U U U U=>true) (fun U U U U=>false) (fun U U U U=>true) (fun U U=>true) (fun U U U=>false) (fun U U U=>true) (fun U U U=>true) (fun U U=>true) (fun U U=>true) (fun U U=>true) (fun U U U=>true) (fun U U U U=>true)
noncomputable def zj0 (sc:Scope) (x:Str):Bool:=sc.names.lookup x == some .local
noncomputable def zy3 (sc:Scope) (l:List Expr):Option (List Str):=List.rec (some []) (fun e U ih=>(uj4 e).elim .none fun x=>if zj0 sc x=true then ih.map (fun U=>x::U) else Option.none) l
noncomputable def updAll (ρ:Rho) (l:List (Str×V)):Rho:=List.rec (motive:=fun U=>Rho->Rho) (fun ρ=>ρ) (fun p U ih ρ=>ih (upd ρ p.1 p.2)) l ρ
noncomputable def xz8 (sc:Scope) (t e:Expr):Bool:=Expr.casesOn (motive_1:=fun U=>Bool) e (fun U U U=>true) (fun U U U=>true) (fun U U U U=>true) (fun U U U=>true) (fun U U U U=>true) (fun U U U U=>true) (fun U U U=>true) (fun U U U=>true) (fun U U csc vpos=>exName t false (fun x tpos=>zj0 sc x&&tpos.line == vpos.line&&!(csc.names.any fun p=>p.1 == x&&(p.2 == .local||p.2 == .cell)))) (fun U U U U=>false) (fun U U U U U=>false) (fun U U U U=>true) (fun U U=>true) (fun U U=>true) (fun U U=>true) (fun U U U U=>true) (fun U U U U=>true) (fun U U U U=>true) (fun U U=>true) (fun U U U=>true) (fun U U U=>true) (fun U U U=>true) (fun U U=>true) (fun U U=>true) (fun U U=>true) (fun vs U U=>(tupE t).elim true fun U=>vs.all (foldedForSure 8)||!vs.all (constantsAlone 8)) (fun U U U U=>true)
noncomputable def zg0 (f:Expr->zz0->Out V) (sc:Scope) (t:Expr) (v:V) (ρ:Rho) (σ:zz0):Out Rho:=Expr.casesOn (motive_1:=fun U=>Out Rho) t (fun U U U=>.bad) (fun U U U=>.bad) (fun U U U U=>.bad) (fun U U U=>.bad) (fun U U U U=>.bad) (fun U U U U=>.bad) (fun U U U=>.bad) (fun U U U=>.bad) (fun U U U U=>.bad) (fun U U U U=>.bad) (fun U U U U U=>.bad) (fun U U U U=>.bad) (fun U U=>.bad) (fun U U=>.bad) (fun U U=>.bad) (fun U U U U=>.bad) (fun U U U U=>.bad) (fun U U U U=>.bad) (fun U U=>.bad) (fun U U U=>.bad) (fun o a U=>(f o σ).bnd fun r σ=>(zg2 r a v σ).bnd fun U σ=>.ok ρ σ) (fun o i U=>(f o σ).bnd fun r σ=>(f i σ).bnd fun j σ=>(zb4 r j v σ).bnd fun U σ=>.ok ρ σ) (fun U U=>.bad) (fun x U=>if zj0 sc x=true then .ok (upd ρ x v) σ else .bad) (fun U U=>.bad) (fun ts U U=>(zj2 v).elim .bad fun vs=>(zy3 sc ts).elim .bad fun ns=>if ns.Nodup/\ns.length=vs.length then .ok (updAll ρ (ns.zip vs)) σ else .bad) (fun U U U U=>.bad)
noncomputable def retE (s:Stmt):Option Expr:=Stmt.casesOn (motive_2:=fun U=>Option Expr) s (fun U U U U U U U U U U=>.none) (fun U U U U U U U U U U=>.none) (fun U U U U U U U U U U U=>.none) (fun o U=>o) (fun U U=>.none) (fun U U U=>.none) (fun U U U U U U U=>.none) (fun U U U U=>.none) (fun U U U U U=>.none) (fun U U U U U=>.none) (fun U U U U U=>.none) (fun U U U U=>.none) (fun U U U U=>.none) (fun U U U=>.none) (fun U U U=>.none) (fun U U U=>.none) (fun U U U=>.none) (fun U U U U U=>.none) (fun U U U U U=>.none) (fun U U U=>.none) (fun U U=>.none) (fun U U U U=>.none) (fun U U=>.none) (fun U U=>.none) (fun U U=>.none) (fun U=>.none) (fun U=>.none) (fun U=>.none)
noncomputable def noneC (c:Const):Bool:=Const.casesOn (motive:=fun U=>Bool) c (true) (fun U=>false) (fun U=>false) (fun U=>false) (fun U U=>false) (fun U=>false) (fun U=>false) (false)
noncomputable def wk5 (s:Stmt):Bool:=((retE s).elim .none cnst).elim false noneC
noncomputable def hdlG (h:ExceptHandler):Option Str:=ExceptHandler.casesOn (motive_4:=fun U=>Option Str) h fun t n b U=>if n.isNone=true then (t.elim .none uj4).elim .none fun g=>one1 b fun s=>if wk5 s=true then some g else Option.none else Option.none
noncomputable def retO (ρ:Rho) (r:Out V):Out (Fl×Rho):=match r with
 | .ok v σ=>.ok (.ret v,ρ) σ
 | .ex σ=>.ok (.retex,ρ) σ
 | .exc σ=>.exc σ
 | .bad=>.bad
noncomputable def uq1 (r:Out V):Out (Fl×Rho):=match r with
 | .ex σ=>.exc σ
 | .exc σ=>.exc σ
 | _=>.bad
noncomputable def tryO (ρ:Rho) (r:Out V):Out (Fl×Rho):=match r with
 | .ok v σ=>.ok (.ret v,ρ) σ
 | .exc σ=>.ok (.ret .none,ρ) σ
 | _=>.bad
noncomputable def evSs (C:zz5) (k:Nat) (sc:Scope) (f:Stmt->Rho->zz0->Out (Fl×Rho)) (s:Stmt) (ρ:Rho) (σ:zz0):Out (Fl×Rho):=Stmt.casesOn (motive_2:=fun U=>Out (Fl×Rho)) s (fun U U U U U U U U U U=>.bad) (fun U U U U U U U U U U=>.bad) (fun U U U U U U U U U U U=>.bad) (fun o U=>o.elim (.ok (.ret .none,ρ) σ) fun e=>retO ρ (evE C k sc ρ e σ)) (fun U U=>.bad) (fun ts e U=>(one1 ts some).elim .bad fun t=>if xz8 sc t e=true then (if yz4 e=true then (uj4 t).elim .bad fun x=>(evE C k sc ρ e σ).bnd' fun v σ=>.ok (.next,upd ρ x v) σ
 else (evE C k sc ρ e σ).bnd fun v σ=>(zg0 (fun e σ=>evE C k sc ρ e σ) sc t v ρ σ).bnd fun ρ σ=>.ok (.next,ρ) σ) else .bad) (fun U U U U U U U=>.bad) (fun U U U U=>.bad) (fun U U U U U=>.bad) (fun t it b o U=>List.casesOn o ((uj4 t).elim .bad fun x=>if zj0 sc x=true then (evIt C k sc ρ it σ).bnd' fun i σ=>forIt (fun v ρ σ=>seqS (fun s ρ σ=>f s ρ σ) b (upd ρ x v) σ) i ρ σ else .bad) fun U U=>.bad) (fun U U U U U=>.bad) (fun t b o U=>List.casesOn o (zx2 (fun ρ σ=>evT C k sc ρ t σ) (fun ρ σ=>seqS (fun s ρ σ=>f s ρ σ) b ρ σ) LF ρ σ) fun U U=>.bad) (fun t b o U=>(evT C k sc ρ t σ).bnd fun c σ=>bif c then seqS (fun s ρ σ=>f s ρ σ) b ρ σ else seqS (fun s ρ σ=>f s ρ σ) o ρ σ) (fun U U U=>.bad) (fun U U U=>.bad) (fun U U U=>.bad) (fun e c U=>if c.isNone=true then e.elim .bad fun e=>uq1 (evE C k sc ρ e σ) else .bad) (fun b hs o g U=>if (o.isEmpty&&g.isEmpty)=true then (one1 b some).elim .bad fun st=>(one1 hs some).elim .bad fun hd=>(retE st).elim .bad fun e=>(hdlG hd).elim .bad fun x=>if x = "GrammarFault"/\zw6 sc "GrammarFault" = true then tryO ρ (evE C k sc ρ e σ) else .bad else .bad) (fun U U U U U=>.bad) (fun U U U=>.bad) (fun U U=>.bad) (fun U U U U=>.bad) (fun U U=>.bad) (fun U U=>.bad) (fun e U=>if noStm e=true then .bad else (evE C k sc ρ e σ).bnd fun U σ=>.ok (.next,ρ) σ) (fun U=>.ok (.next,ρ) σ) (fun U=>.bad) (fun U=>.ok (.cont,ρ) σ)
noncomputable def evS (C:zz5) (k:Nat) (sc:Scope) (s:Stmt) (ρ:Rho) (σ:zz0):Out (Fl×Rho):=Nat.rec (motive:=fun U=>Stmt->Rho->zz0->Out (Fl×Rho)) (fun U U U=>.bad) (fun k f=>evSs C k sc f) k s ρ σ
noncomputable def xg1 (r:Out (Fl×Rho)):Out V:=match r with
 | .ok (.ret v,_) σ=>.ok v σ
 | .ok (.next,_) σ=>.ok .none σ
 | .ok (.retex,_) σ=>.ex σ
 | .ok (.cont,_) _=>.bad
 | .exc σ=>.exc σ
 | .ex _=>.bad
 | .bad=>.bad
noncomputable abbrev KD:Nat:=40
noncomputable def fdS (s:Stmt):Option (Arguments×List Stmt×Scope):=(fdN s).elim .none fun p=>some p.2
noncomputable def fdOf (o:Option Stmt):Option (Arguments×List Stmt×Scope):=o.elim .none fdS
noncomputable def vp8 (C:zz5) (st:Option Stmt) (args:List V) (σ:zz0):Out V:=(fdOf st).elim .bad fun f=>(yp4 f.1 args).elim .bad fun ρ=>xg1 (seqS (fun s ρ σ=>evS C KD f.2.2 s ρ σ) f.2.1 ρ σ)
noncomputable def xk4 (C:zz5) (q:Str) (args:List V) (σ:zz0):Out V:=vp8 C (yw8 q) args σ
noncomputable def fault (σ:zz0) (as:List V):Out V:=on2 as fun a b=>(zx9 a).elim .bad fun U=>(zj2 b).elim .bad fun U=>.ex σ
noncomputable def made (σ:zz0) (r:Out V):Out V:=Out.casesOn r (fun v σ'=>if isNone v=some true then .ok (.loc σ.length) σ' else .bad) (fun σ'=>.exc σ') (fun U=>.bad) .bad
noncomputable def callS (C:zz5) (f:V) (args:List V) (σ:zz0):Out V:=V.casesOn (motive_1:=fun U=>Out V) f (.bad) (fun U=>.bad) (fun U=>.bad) (fun U=>.bad) (fun U=>.bad) (fun U=>.bad) (fun q=>xk4 C q args σ) (fun c=>if c = "GrammarFault" then fault σ args else (wz6 c).elim .bad fun q=>made σ (xk4 C q (.loc σ.length::args) (σ++[.inst c []]))) (fun id=>yp3 id args σ) (fun t=>vg1 t args σ) (fun U U=>.bad) (fun ps b sc ns vs=>if (vv1 ps sc&&ns.all fun x=>sc.names.lookup x == some .free)=false then .bad else (yp4 ps args).elim .bad fun ρ=>evE C KD sc (ρ++ns.zip vs) b σ) (fun U=>.bad)
noncomputable def zz4:Nat->zz5
 | 0,_,_,_=>.bad
 | n + 1,f,args,σ=>callS (zz4 n) f args σ
end
section
open PySem PySem.W PyProof.Rows
noncomputable abbrev rw0:OpenLaw:=PySem.Challenge.rw_pb0285_01
noncomputable abbrev r0:RowW:=rw0.row.toRowW
structure At0 where
 w:World
 a:Shared
 s:Shared
 mg:Str->Option Value
 mb:Str->Option Value
theorem vx8:Nonempty At0:=⟨⟨fun U U=>0,{ strHash:=fun U=>0,shareClass:=fun U=>0,mergeTok:=id,idOf:=fun U=>0,idOfShared:=fun U U=>0,followText:=fun U=>false,idOfImm:=fun U=>0 }⟩,{},{},fun U=>none,fun U=>none⟩
section
variable {F:DefRec->List (Str×Expr)->World->Shared->Shared->(Str->Option Value)->(Str->Option Value)->Prop}
noncomputable def pick (_:(∀ d k,d.name=("law" : Str)->∀ w a s mg mb,F d k w a s mg mb)->True):At0:=@Classical.epsilon At0 vx8 fun x=>¬ ∀ d k,d.name=("law" : Str)->F d k x.w x.a x.s x.mg x.mb
theorem picked (q:(∀ d k,d.name=("law" : Str)->∀ w a s mg mb,F d k w a s mg mb)->True)
 (h:∀ d k,d.name=("law" : Str)->F d k (pick q).w (pick q).a (pick q).s (pick q).mg (pick q).mb):∀ d k,d.name=("law" : Str)->∀ w a s mg mb,F d k w a s mg mb:=fun d k hd w a s mg mb=>
 Classical.byContradiction fun n=>Classical.epsilon_spec_aux vx8 (fun x=>¬ ∀ d k,d.name=("law" : Str)->F d k x.w x.a x.s x.mg x.mb) ⟨(⟨w,a,s,mg,mb⟩:At0),fun z=>n (z d k hd)⟩ h
end
theorem at0_q:(∀ d k,d.name=("law" : Str)->WalkO q0 zb7 (fun U U=>True) (fun w h=>Says w h) r0 d k fun f vs=>PySem.call f vs)->True:=fun U=>trivial
noncomputable def at0:At0:=pick at0_q
@[irreducible] noncomputable def w:World:=at0.w
@[irreducible] noncomputable def hb:Heap:=hideAll at0.s.heap zk9
@[irreducible] noncomputable def os0:OsState:=at0.s.os
@[irreducible] noncomputable def mg:Str->Option Value:=at0.mg
@[irreducible] noncomputable def mb:Str->Option Value:=at0.mb
theorem w_eq:at0.w=w:=by unfold w;rfl
theorem mg_eq:at0.mg=mg:=by unfold mg;rfl
theorem mb_eq:at0.mb=mb:=by unfold mb;rfl
theorem os_eq:at0.s.os=os0:=by unfold os0;rfl
theorem xx7 {a:Addr} {o:Obj} (e:at0.s.heap.get? a=some o) (q:a∉zk9):hb.get? a=some o:=by unfold hb;exact hideAll_get _ e q
theorem hb_of {a:Addr} {o:Obj} (e:hb.get? a=some o):at0.s.heap.get? a=some o:=by unfold hb at e;exact of_hideAll _ e
theorem hb_none {a:Addr} (q:a∈zk9):hb.get? a=none:=by unfold hb;exact hideAll_none _ q
noncomputable abbrev Lay:=List (Addr×Addr)
noncomputable def zw9:List (Str×Addr):=[("Line",162),("Token",192),("Reader",694),("GrammarFault",72)]
section
structure zf9:Prop where
 g:hb.Ns mainGlobals mg
 b:hb.Ns builtinsNs mb
 globs:∀ g∈globs,mg g.1=some g.2
 free:∀ x∈(["len","chr","ord","abs","min","isinstance","str","tuple","list","range","reversed","Exception"]:List Str),mg x=none
 blt:∀ x:Str,x ≠ "__name__"->mb x=bootBuiltins x
 bmain:∃ bm ob,mg "__builtins__" = some (.ref bm)/\bm≠builtinsNs/\hb.get? bm=some ob/\ob.cls=.type "module"/\ob.dict=some builtinsNs/\ob.data=.plain
 nolimit:hb.NoLimit
 nodigits:∃ mc,hb.Ns cStatics mc/\mc "sys.int_max_str_digits" = none
 K:(K0 w.params).In hb
 codes:∀ f∈fns,yf2 (hb.get? f.c)=some (.str f.q f.ct)
 tabs:∀ a∈zk9,hb.get? a=none
mutual
noncomputable def Rel (ι:Lay) (h:Heap):V->Value->Prop
 | .none,v=>v=.none
 | .bool b,v=>v=.bool b
 | .int i,v=>∃ t,v=.int i t
 | .str l,v=>∃ t,v=.str ⟨l.toArray⟩ t
 | .tup l,v=>∃ a vs,v=.ref a/\IsTup h a vs.toArray/\zq2 ι h l vs
 | .loc i,v=>∃ r p,ι[i]?=some (r,p)/\v=.ref r
 | .fn q,v=>∃ f∈fns,f.q=q/\v=.ref f.a
 | .cls c,v=>∃ a,(c,a)∈zw9/\v=.ref a
 | .blt id,v=>v=.builtin id
 | .typ n,v=>v=.type n
 | .map ks vs,v=>∃ a,v=.ref a/\(ks=[]\/∃ es:List DictEntry,∃ n,hb.get? a=some (dictOf es n)/\(a == sysModules)=false/\yw9 ks es/\zq2 ι h vs (es.map (fun U=>U.val)))
 | .clo ps b sc ns vs,v=>∃ a o fd vals,v=.ref a/\h.get? a=some o/\o.data=.func fd/\fd.params=ps/\fd.body=.expr b/\fd.scope=sc/\fd.globals=mainGlobals/\fd.builtins=builtinsNs/\h.CodeRec fd.code fd.qualname/\
  fd.defaults=.none/\fd.kwdefaults=.none/\zq2 ι h vs vals/\(∀ x c,fd.closure.lookup x=some c->∃ u,(ns.zip vals).lookup x=some u/\h.IsCell c (some u))/\(∀ x u,(ns.zip vals).lookup x=some u->(fd.closure.lookup x).isSome=true)
 | .fz l,v=>∃ a o vs n,v=.ref a/\hb.get? a=some o/\o.cls=.type "list"/\o.data=.seq vs.toArray n/\zq2 ι h l vs
noncomputable def zq2 (ι:Lay) (h:Heap):List V->List Value->Prop
 | [],vs=>vs=[]
 | x::r,vs=>∃ v u,vs=v::u/\Rel ι h x v/\zq2 ι h r u
noncomputable def yw9:List V->List DictEntry->Prop
 | [],es=>es=[]
 | k::ks,es=>∃ e r l t,es=e::r/\k=.str l/\e.key=.str ⟨l.toArray⟩ t/\e.hash=PyData.keyHash w.params ⟨l.toArray⟩/\yw9 ks r
end
noncomputable def zk8 (ι:Lay) (h:Heap):List (Str×V)->List DictEntry->Prop
 | [],es=>es=[]
 | (x,v)::f,es=>∃ e r t,es=e::r/\e.key=.str x t/\e.hash=PyData.keyHash w.params x/\Rel ι h v e.val/\zk8 ι h f r
noncomputable def ORel (ι:Lay) (h:Heap) (rp:Addr×Addr):O->Prop
 | .lst l=>rp.1=rp.2/\∃ vs n,h.get? rp.2=some (listOf vs.toArray n)/\zq2 ι h l vs
 | .inst c f=>∃ C sl es n,(c,C)∈zw9/\h.get? rp.1=some ⟨.ref C,some rp.2,.plain,sl⟩/\h.get? rp.2=some (dictOf es n)/\zk8 ι h f es
structure Nx (X:List Addr) (ι ι':Lay) (h h':Heap):Prop where
 size:h.objs.size<=h'.objs.size
 pre:∃ new:Lay,ι'=ι++new/\∀ p∈new,h.objs.size<=p.1/\h.objs.size<=p.2
 keep':∀ b o,h.get? b=some o->b∉X->(∀ p∈ι,p.2≠b)->b∉zk9->∃ sl,h'.get? b=some { o with slots:=sl }/\(o.cls=.type "frame"\/sl=o.slots)
noncomputable def qq8 (P:Addr) (h:Heap) (ps:Array Value):Prop:=∀ pos cv,codeAmong pos ps.toList=some cv->h.CodeRec cv (yg9 P)
structure Inv (ι:Lay) (σ:zz0) (s:Shared):Prop where
 len:ι.length=σ.length
 objs:∀ (i:Nat) (o:O),σ[i]?=some o->∃ rp,ι[i]?=some rp/\ORel ι s.heap rp o
 nodup:(ι.map (fun U=>U.2)).Nodup
 fresh:∀ p∈ι,hb.get? p.1=none/\hb.get? p.2=none
 keep:∀ b o,hb.get? b=some o->s.heap.get? b=some o
 tabs:∀ P∈zk9,∃ ps,s.heap.get? P=some (tabObj ps)/\TriplesOk ps.toList/\qq8 P s.heap ps
 gens:s.gens = #[]
 os:s.os=os0
theorem Nx.refl {X:List Addr} {ι:Lay} {h:Heap}:Nx X ι ι h h:=⟨iq1 _,⟨[],(iq7 _).symm,fun U hp=>nomatch hp⟩,fun U o e U U U=>⟨o.slots,e,.inr rfl⟩⟩
theorem Nx.keep {X:List Addr} {ι ι':Lay} {h h':Heap} (a:Nx X ι ι' h h') (b:Addr) (o:Obj) (e:h.get? b=some o) (hx:b∉X) (hp:∀ p∈ι,p.2≠b) (ht:b∉zk9):∃ sl,h'.get? b=some { o with slots:=sl }:=
 let ⟨sl,q,_⟩:=a.keep' b o e hx hp ht;⟨sl,q⟩
theorem Nx.trans {X:List Addr} {ι ι₁ ι₂:Lay} {h h₁ h₂:Heap} (a:Nx X ι ι₁ h h₁) (b:Nx X ι₁ ι₂ h₁ h₂):Nx X ι ι₂ h h₂:=by
 refine el10 a.pre fun n1 pq2=>?_;obtain ⟨e1,f1⟩:=pq2;refine el10 b.pre fun n2 pq6=>?_;obtain ⟨e2,f2⟩:=pq6;refine ⟨iq2 a.size b.size,⟨n1++n2,by rw [e2,e1,iq0],fun p hp=>?_⟩,fun c o e hx hp ht=>?_⟩
 ·rcases iz5.mp hp with q|q
  ·exact f1 p q
  ·exact ⟨iq2 a.size (f2 p q).1,iq2 a.size (f2 p q).2⟩
 ·refine el10 (a.keep' c o e hx hp ht) fun sl pq10=>?_
  obtain ⟨e',c1⟩:=pq10;obtain ⟨sl',e'',c2⟩:=b.keep' c _ e' hx (fun p hp'=>by
   rw [e1] at hp';rcases iz5.mp hp' with q|q
   ·exact hp p q
   ·exact ix0 (iq3 (Heap.lt_size e) (f1 p q).2)) ht
  exact ⟨sl',e'',c1.elim .inl fun q1=>c2.imp id fun q2=>q2.trans q1⟩
theorem Nx.weaken {X Y:List Addr} {ι ι':Lay} {h h':Heap} (a:Nx X ι ι' h h') (hs:∀ x∈X,x∈Y):Nx Y ι ι' h h':=⟨a.size,a.pre,fun c o e hx=>a.keep' c o e fun q=>hx (hs _ q)⟩
theorem Nx.at {X:List Addr} {ι ι':Lay} {h h':Heap} (a:Nx X ι ι' h h') {i:Nat} {rp:Addr×Addr} (e:ι[i]?=some rp):ι'[i]?=some rp:=by
 refine el10 a.pre fun n pq17=>?_;obtain ⟨q,_⟩:=pq17;rw [q,iz8 (iz7.mp e).1];exact e
noncomputable def Still (X:List Addr) (ι:Lay) (a:Addr):Prop:=a∉X/\(∀ p∈ι,p.2≠a)/\a∉zk9
theorem Inv.at_ {ι:Lay} {σ:zz0} {s:Shared} (I:Inv ι σ s) {p:Addr×Addr} (hp:p∈ι):∃ (o:O),ORel ι s.heap p o:=by
 obtain ⟨i,hi,rfl⟩:=List.getElem_of_mem hp;have hs:i < σ.length:=I.len▸hi;refine el10 (I.objs i σ[i] (ij6 hs)) fun rp pq26=>?_;obtain ⟨e,r⟩:=pq26;rw [ij6 hi] at e;cases e;exact ⟨_,r⟩
theorem Inv.still {X:List Addr} {ι:Lay} {σ:zz0} {s:Shared} (I:Inv ι σ s) {a:Addr} {o:Obj} (ho:s.heap.get? a=some o) (hx:a∉X)
 (h1:o.cls≠.type "list"\/∀ xs n,o.data≠.seq xs n) (h2:∀ es n,o.data≠.dict es n) (h3:∀ ps,TriplesOk ps.toList->o≠tabObj ps):Still X ι a:=by
 refine ⟨hx,fun p hp e=>?_,fun ht=>?_⟩
 ·obtain ⟨ob,r⟩:=I.at_ hp
  cases ob with
  | lst l=>
   obtain ⟨_,vs,n,q,_⟩:=r;rw [e,ho] at q;cases q;exact h1.elim (fun z=>z rfl) fun z=>z _ _ rfl
  | inst c f=>
   refine el42 r fun C sl es n U U pq33=>?_;obtain ⟨q,_⟩:=pq33;rw [e,ho] at q;cases q;exact h2 _ _ rfl
 ·refine el11 (I.tabs a ht) fun ps q q'=>?_
  rw [ho] at q;cases q;exact h3 _ q'.1 rfl
section
variable {X:List Addr} {ι ι':Lay} {σ:zz0} {s:Shared} {h':Heap}
noncomputable def Loose (o:Obj):Prop:=(∃ es n,o.data=.dict es n)\/(∃ vs:Array Value,o.data=.fields vs/\∀ q t,vs[1]?≠some (.str q t))\/(o.cls=.type "list"/\∃ xs n,o.data=.seq xs n)
noncomputable abbrev zx4 (X:List Addr) (h:Heap):Prop:=∀ a∈X,∃ o,h.get? a=some o/\Loose o
theorem Inv.kept (I:Inv ι σ s) (hX:zx4 X s.heap) (N:Nx X ι ι' s.heap h') {a:Addr} {o:Obj} (ho:s.heap.get? a=some o)
 (h1:o.cls≠.type "list"\/∀ xs n,o.data≠.seq xs n) (h2:∀ es n,o.data≠.dict es n) (h3:∀ ps,TriplesOk ps.toList->o≠tabObj ps) (h4:∀ vs:Array Value,o.data=.fields vs->∃ q t,vs[1]?=some (.str q t)):∃ sl,h'.get? a=some { o with slots:=sl }:=by
 have z:=I.still (X:=X) ho (fun q=>by
  refine el10 (hX a q) fun o' pq38=>?_;obtain ⟨e,d⟩:=pq38;rw [ho] at e;cases e;rcases d with ⟨es,n,d⟩|⟨vs,d,z⟩|⟨c,xs,n,d⟩
  ·exact h2 _ _ d
  ·obtain ⟨q,t,e⟩:=h4 vs d
   exact z q t e
  ·exact h1.elim (fun z=>z c) fun z=>z _ _ d) h1 h2 h3
 exact N.keep a o ho z.1 z.2.1 z.2.2
theorem Inv.tup (I:Inv ι σ s) (hX:zx4 X s.heap) (N:Nx X ι ι' s.heap h') {a:Addr} {items:Array Value} (T:IsTup s.heap a items):IsTup h' a items:=by
 refine el11 T fun o ho pq43=>?_;obtain ⟨hc,n,hd⟩:=pq43;obtain ⟨sl,e⟩:=I.kept hX N ho (.inl (by rw [hc];decide)) (by rw [hd];intro _ _ q;cases q) (by intro ps _ q;subst q;cases hd) (by rw [hd];intro _ q;cases q);exact ⟨_,e,hc,n,hd⟩
theorem Inv.codeRec (I:Inv ι σ s) (hX:zx4 X s.heap) (N:Nx X ι ι' s.heap h') {cd:Value} {q:Str} (T:s.heap.CodeRec cd q):h'.CodeRec cd q:=by
 refine el42 T fun c o vs t e ho pq47=>?_;obtain ⟨hd,h1⟩:=pq47;obtain ⟨sl,e'⟩:=I.kept hX N ho (.inr (by rw [hd];intro _ _ q;cases q)) (by rw [hd];intro _ _ q;cases q) (by
  intro ps hp q;subst q;cases hd;rw [<-Array.getElem?_toList] at h1
  match h:vs.toList with
  | []=>rw [h] at h1;cases h1
  | [_]=>rw [h] at h1;cases h1
  | a::b::r=>
   rw [h] at h1 hp;simp only [List.getElem?_cons_succ,List.getElem?_cons_zero,Option.some.injEq] at h1;subst h1;exact False.elim (by cases a <;> cases r <;> exact hp)) (by rw [hd];intro vs' q';cases q';exact ⟨_,_,h1⟩)
 exact ⟨c,_,vs,t,e,e',hd,h1⟩
structure Up (ι ι':Lay) (h h':Heap):Prop where
 at_:∀ {i:Nat} {p:Addr×Addr},ι[i]?=some p->ι'[i]?=some p
 tup:∀ {a:Addr} {vs:Array Value},IsTup h a vs->IsTup h' a vs
 fn:∀ {a:Addr} {o:Obj} {fd:FuncData},h.get? a=some o->o.data=.func fd->∃ o',h'.get? a=some o'/\o'.data=.func fd
 code:∀ {cd:Value} {q:Str},h.CodeRec cd q->h'.CodeRec cd q
 cell:∀ {c:Addr} {u:Option Value},h.IsCell c u->h'.IsCell c u
theorem Rel.ups {h:Heap} (Uu:Up ι ι' h h'):(∀ (v:V) (x:Value),Rel ι h v x->Rel ι' h' v x)/\∀ (l:List V) (xs:List Value),zq2 ι h l xs->zq2 ι' h' l xs:=by
 have nil:∀ xs:List Value,zq2 ι h [] xs->zq2 ι' h' [] xs:=fun U r=>r;have cons:∀ (v:V) (l:List V),(∀ x,Rel ι h v x->Rel ι' h' v x)->(∀ xs,zq2 ι h l xs->zq2 ι' h' l xs)->∀ xs,zq2 ι h (v::l) xs->zq2 ι' h' (v::l) xs:=fun v l i j xs r=>el22 r fun y u e a b=>⟨y,u,e,i _ a,j _ b⟩;have one:∀ v:V,∀ x,Rel ι h v x->Rel ι' h' v x:=by
  intro v;refine V.rec (motive_1:=fun v=>∀ x,Rel ι h v x->Rel ι' h' v x) (motive_2:=fun l=>∀ xs,zq2 ι h l xs->zq2 ι' h' l xs)
   (fun U r=>r) (fun U U r=>r) (fun U U r=>r) (fun U U r=>r) (fun l ih x r=>el22 r fun a vs e T q=>⟨a,vs,e,Uu.tup T,ih _ q⟩) (fun i x r=>el21 r fun a p e q=>⟨a,p,Uu.at_ e,q⟩)
   (fun U U r=>r) (fun U U r=>r) (fun U U r=>r) (fun U U r=>r) (fun ks vs U ih x r=>?_) (fun ps b sc ns vs ih x r=>?_) (fun l ih x r=>el44 r fun a o vs n e q q1 q2 rs=>⟨a,o,vs,n,e,q,q1,q2,ih _ rs⟩) nil (fun v l=>cons v l) v
  ·refine el10 r fun a pq51=>?_
   obtain ⟨e,q⟩:=pq51;exact ⟨a,e,q.imp id fun ⟨es,n,q1,q1',q2,q3⟩=>⟨es,n,q1,q1',q2,ih _ q3⟩⟩
  ·refine hid fun G kG=>?_
   obtain ⟨a,o,fd,vals,e,ho,hd,r1,r2,r3,r4,r5,r7,r8,r8',r9,r10,r11⟩:=r;refine el11 (Uu.fn ho hd) fun o' ho' hd'=>?_;refine kG ?_;exact ⟨a,o',fd,vals,e,ho',hd',r1,r2,r3,r4,r5,Uu.code r7,r8,r8',ih _ r9,fun x c q=>el11 (r10 x c q) fun u q1 q2=>⟨u,q1,Uu.cell q2⟩,r11⟩
 refine ⟨one,fun l=>?_⟩;induction l with
 | nil=>exact nil
 | cons v l ih=>exact cons v l (one v) ih
theorem Inv.up (I:Inv ι σ s) (hX:zx4 X s.heap) (N:Nx X ι ι' s.heap h'):Up ι ι' s.heap h' where
 at_:=N.at
 tup:=I.tup hX N
 fn:=fun ho hd=>by
  refine el10 (I.kept hX N ho (.inr (by rw [hd];intro _ _ q;cases q)) (by rw [hd];intro _ _ q;cases q) (by intro ps _ q;subst q;cases hd) (by rw [hd];intro _ q;cases q)) fun sl e=>?_;exact ⟨_,e,hd⟩
 code:=I.codeRec hX N
 cell:=fun ⟨oc,q3,q4⟩=>by
  refine el10 (I.kept hX N q3 (.inr (by rw [q4];intro _ _ q;cases q)) (by rw [q4];intro _ _ q;cases q) (by intro ps _ q;subst q;cases q4) (by rw [q4];intro _ q;cases q)) fun sl e=>?_;exact ⟨_,e,q4⟩
theorem Rel.nx (I:Inv ι σ s) (hX:zx4 X s.heap) (N:Nx X ι ι' s.heap h') {v:V} {x:Value}:Rel ι s.heap v x->Rel ι' h' v x:=(Rel.ups (I.up hX N)).1 v x
theorem zq2.nx (I:Inv ι σ s) (hX:zx4 X s.heap) (N:Nx X ι ι' s.heap h') {v:List V} {x:List Value}:zq2 ι s.heap v x->zq2 ι' h' v x:=(Rel.ups (I.up hX N)).2 v x
end
end
section
structure Frm (sc:Scope) (ρ:Rho) (env:Env) (ι:Lay) (h:Heap):Prop where
 kind:env.scope.kind=.function
 glob:env.globals=mainGlobals
 blt:env.builtins=builtinsNs
 kinds:∀ x,env.kindOf x=sc.names.lookup x\/(sc.names.lookup x=some .free/\env.kindOf x=some .cell)
 ns:∃ m,h.Ns env.locals m/\∀ x v,ρ.lookup x=some v->sc.names.lookup x=some .local->∃ u,m x=some u/\Rel ι h v u
 cells:∀ x v,ρ.lookup x=some v->(sc.names.lookup x=some .cell\/sc.names.lookup x=some .free)->∃ c u,env.cells.lookup x=some c/\h.IsCell c (some u)/\Rel ι h v u
 lam:xw5 sc=true->∃ q∈yw5,env.code=.ref q.1/\env.qual++ "<lambda>" = yg9 q.2
 apart:(∀ p∈ι,p.2≠env.locals)/\env.locals∉zk9/\hb.get? env.locals=none
noncomputable def zf8 (n:Nat) (e:Addr) (h:Heap):Prop:=∃ oe vs,h.get? e=some oe/\n<=e/\oe.cls=.ref 72/\oe.data=.fields vs/\4 < vs.size/\vs[1]?=some .none
noncomputable def yj8 (n:Nat) (e:Addr) (h:Heap):Prop:=∃ oe vs hd,h.get? e=some oe/\n<=e/\oe.cls=.ref 72/\oe.data=.fields vs/\vs[1]?=some hd/\
 (hd=.none\/∃ T oT ts v,hd=.ref T/\T≠e/\n<=T/\h.get? T=some oT/\oT.data=.fields ts/\ts[3]?=some v/\oT.cls=.type "traceback"/\∀ q t,ts[1]?≠some (.str q t))
theorem yj8.mono {n m:Nat} {e:Addr} {h:Heap} (t:yj8 n e h) (hm:m<=n):yj8 m e h:=by
 refine hid fun G kG=>?_;refine el35 t fun oe vs hd a b c d f g=>?_;refine kG ?_;exact ⟨oe,vs,hd,a,iq2 hm b,c,d,f,g.imp id fun pq4=>el43 pq4 fun T oT ts v q1 q2 q3 q4=>⟨T,oT,ts,v,q1,q2,iq2 hm q3,q4⟩⟩
theorem zf8.mono {n m:Nat} {e:Addr} {h:Heap} (t:zf8 n e h) (hm:m<=n):zf8 m e h:=by
 refine el22 t fun oe vs a b c=>?_;exact ⟨oe,vs,a,iq2 hm b,c⟩
noncomputable def xj5 (ι:Lay) (h:Heap) (fr:List Env):Prop:=∀ env∈fr,env.scope.kind≠.module/\∃ L o,env.frame=some L/\h.get? L=some o/\(o.cls=.type "frame"/\∃ es m,o.data=.dict es m)/\(∀ p∈ι,p.2≠L)/\L∉zk9/\hb.get? L=none
structure Rm (A:Around) (n:Nat) (fr:List Env):Prop where
 depth:A.depth + 2 * n < recursionLimit
 units:A.units + 8 * n + 101<=cLine
 frames:A.frames=some fr
 handled:A.handled=none
noncomputable def zz3 {α β:Type} (R:Lay->Heap->α->β->Prop) (X:List Addr) (r:Out α) (ι:Lay) (s:Shared) (Q:β->Shared->Prop) (QX:QA0) (E:QV0):Prop:=match r with
 | .ok a σ'=>∀ ι' b s',Nx X ι ι' s.heap s'.heap->Inv ι' σ' s'->R ι' s'.heap a b->Q b s'
 | .exc σ'=>∀ ι' e s',Nx X ι ι' s.heap s'.heap->Inv ι' σ' s'->yj8 s.heap.objs.size e s'.heap->E (.ref e) s'
 | .ex σ'=>∀ ι' e s',Nx X ι ι' s.heap s'.heap->Inv ι' σ' s'->zf8 s.heap.objs.size e s'.heap->QX e s'
 | .bad=>False
end
section
variable {X:List Addr} {ι ι':Lay} {σ:zz0} {s s':Shared} {α β γ δ:Type} {R:Lay->Heap->α->β->Prop} {R':Lay->Heap->γ->δ->Prop}
 {Q:δ->Shared->Prop} {QX QX1:QA0} {E:QV0} {Q1:β->Shared->Prop}
theorem zz3.rebase {r:Out γ} (H:zz3 R' X r ι s Q QX E) (N:Nx X ι ι' s.heap s'.heap):zz3 R' X r ι' s' Q QX E:=by
 cases r with
 | ok a σ'=>exact fun ι₂ b s₂ N₂=>H ι₂ b s₂ (N.trans N₂)
 | exc σ'=>exact fun ι₂ e s₂ N₂ I t=>H ι₂ e s₂ (N.trans N₂) I (t.mono N.size)
 | ex σ'=>exact fun ι₂ e s₂ N₂ I t=>H ι₂ e s₂ (N.trans N₂) I (t.mono N.size)
 | bad=>exact H
theorem zz3.bind {r:Out α} {f:α->zz0->Out γ} (H:zz3 R' X (r.bnd f) ι s Q QX E)
 (k:∀ a σ' ι' b s',Nx X ι ι' s.heap s'.heap->Inv ι' σ' s'->R ι' s'.heap a b->zz3 R' X (f a σ') ι' s' Q QX E->Q1 b s'):zz3 R X r ι s Q1 QX1 E:=by
 cases r with
 | ok a σ'=>exact fun ι₂ b s₂ N₂ I r=>k a σ' ι₂ b s₂ N₂ I r (zz3.rebase H N₂)
 | exc σ'=>exact H
 | ex σ'=>exact H.elim
 | bad=>exact H.elim
theorem zz3.liftO {x:Option γ} (H:zz3 R' X (liftO x σ) ι s Q QX E):∃ a,x=some a/\zz3 R' X (.ok a σ) ι s Q QX E:=by
 cases x with
 | none=>exact H.elim
 | some a=>exact ⟨a,rfl,H⟩
theorem zz3.opt {o:Option α} {f:α->Out γ} (H:zz3 R' X (o.elim .bad f) ι s Q QX E):∃ x,o=some x/\zz3 R' X (f x) ι s Q QX E:=by
 cases o with
 | none=>exact H.elim
 | some a=>exact ⟨a,rfl,H⟩
theorem zz3.ifp {c:Prop} [Decidable c] {r:Out γ} (H:zz3 R' X (if c then r else .bad) ι s Q QX E):c/\zz3 R' X r ι s Q QX E:=by
 by_cases h:c
 ·rw [if_pos h] at H;exact ⟨h,H⟩
 ·rw [if_neg h] at H;exact H.elim
theorem zz3.ifn {c:Prop} [Decidable c] {r:Out γ} (H:zz3 R' X (if c then .bad else r) ι s Q QX E):¬c/\zz3 R' X r ι s Q QX E:=by
 by_cases h:c
 ·rw [if_pos h] at H;exact H.elim
 ·rw [if_neg h] at H;exact ⟨h,H⟩
theorem zz3.lb {o:Option α} {f:α->zz0->Out γ} (H:zz3 R' X ((Mine.liftO o σ).bnd f) ι s Q QX E):∃ x,o=some x/\zz3 R' X (f x σ) ι s Q QX E:=by
 cases o with
 | none=>exact H.elim
 | some a=>exact ⟨a,rfl,H⟩
theorem zz3.bt {c:Prop} [Decidable c] {a b:Out α} {f:α->zz0->Out γ} (h:c) (H:zz3 R' X ((if c then a else b).bnd f) ι s Q QX E):zz3 R' X (a.bnd f) ι s Q QX E:=by rw [if_pos h] at H;exact H
theorem zz3.bf {c:Prop} [Decidable c] {a b:Out α} {f:α->zz0->Out γ} (h:¬c) (H:zz3 R' X ((if c then a else b).bnd f) ι s Q QX E):zz3 R' X (b.bnd f) ι s Q QX E:=by rw [if_neg h] at H;exact H
theorem zz3.nb {r:Out γ} (H:zz3 R' X r ι s Q QX E):r≠.bad:=fun e=>by rw [e] at H;exact H
theorem zz3.now {r:γ} {d:δ} {t:Nat} (H:zz3 R' X (.ok r σ) ι s Q QX E) (I:Inv ι σ s) (hr:R' ι s.heap r d):Q d { s with toks:=t }:=
 H ι d { s with toks:=t } (Nx.refl) ⟨I.len,I.objs,I.nodup,I.fresh,I.keep,I.tabs,I.gens,I.os⟩ hr
theorem zz3.here {r:γ} {d:δ} (H:zz3 R' X (.ok r σ) ι s Q QX E) (I:Inv ι σ s) (hr:R' ι s.heap r d):Q d s:=H ι d s (Nx.refl) I hr
theorem Frm.nxX {sc:Scope} {ρ:Rho} {env:Env} {h':Heap} (F:Frm sc ρ env ι s.heap) (I:Inv ι σ s) (hX:zx4 X s.heap) (hl:env.locals∉X) (N:Nx X ι ι' s.heap h'):Frm sc ρ env ι' h':=by
 refine hid fun G kG=>?_;refine zg6 F.apart fun a1 a2 a3=>?_;refine el11 N.pre fun new en fn=>?_;refine kG ?_;refine ⟨F.kind,F.glob,F.blt,F.kinds,?_,fun x v q r=>?_,F.lam,fun p hp=>?_,a2,a3⟩
 ·refine hid fun G kG=>?_
  refine Classical.byContradiction fun ng=>?_;refine el11 F.ns fun m pq5 hm=>?_;refine el32 pq5 fun o es n ho hd r=>?_;obtain ⟨sl,e⟩:=N.keep _ _ ho hl a1 a2;refine ng (kG ?_);exact ⟨m,⟨_,es,n,e,hd,r⟩,fun x v q1 q2=>(hm x v q1 q2).elim fun u q=>⟨u,q.1,q.2.nx I hX N⟩⟩
 ·refine hid fun G kG=>?_
  refine el22 (F.cells x v q r) fun c u q1 pq6 q5=>?_;refine el11 pq6 fun oc q3 q4=>?_;obtain ⟨sl,e⟩:=I.kept hX N q3 (.inr (by rw [q4];intro _ _ q;cases q)) (by rw [q4];intro _ _ q;cases q) (by intro ps _ q;subst q;cases q4) (by rw [q4];intro _ q;cases q);refine kG ?_;exact ⟨c,u,q1,⟨_,e,q4⟩,q5.nx I hX N⟩
 ·rw [en] at hp
  rcases iz5.mp hp with q|q
  ·exact a1 p q
  ·refine el11 F.ns fun m pq7 U=>?_
   refine el31 pq7 fun o es n ho U=>?_;exact ix0 (iq3 (Heap.lt_size ho) (fn p q).2)
theorem Frm.nx {sc:Scope} {ρ:Rho} {env:Env} {h':Heap} (F:Frm sc ρ env ι s.heap) (I:Inv ι σ s) (N:Nx [] ι ι' s.heap h'):Frm sc ρ env ι' h':=F.nxX (X:=[]) I (fun U q=>nomatch q) (fun q=>nomatch q) N
end
section
variable {X:List Addr} {ι ι':Lay} {σ:zz0} {s s':Shared} {h':Heap}
theorem zq1 (h:Heap):zx4 [] h:=fun U q=>nomatch q
theorem Nx.ext {new:Lay} (hz:s.heap.objs.size<=h'.objs.size) (k:∀ b o,s.heap.get? b=some o->h'.get? b=some o) (hn:∀ p∈new,s.heap.objs.size<=p.1/\s.heap.objs.size<=p.2):Nx [] ι (ι++new) s.heap h':=
 ⟨hz,⟨new,rfl,hn⟩,fun b o e U U U=>⟨o.slots,k b o e,.inr rfl⟩⟩
theorem zk8.nx (I:Inv ι σ s) (N:Nx [] ι ι' s.heap h'):∀ {f:List (Str×V)} {es:List DictEntry},zk8 ι s.heap f es->zk8 ι' h' f es:=by
 intro f;induction f with
 | nil=>
  intro U r;exact r
 | cons p0 r0 ih0=>
  obtain ⟨_,_⟩:=p0;rintro U ⟨e,u,t,a,b,c,d,r⟩;exact ⟨e,u,t,a,b,c,d.nx I (zq1 _) N,ih0 r⟩
theorem ORel.ext (I:Inv ι σ s) (N:Nx [] ι ι' s.heap h') {rp:Addr×Addr} {o:O} (r:ORel ι s.heap rp o)
 (k1:∀ x,s.heap.get? rp.1=some x->h'.get? rp.1=some x) (k2:∀ x,s.heap.get? rp.2=some x->h'.get? rp.2=some x):ORel ι' h' rp o:=by
 cases o with
 | lst l=>
  refine hid fun G kG=>?_;obtain ⟨e,vs,n,a,b⟩:=r;refine kG ?_;exact ⟨e,vs,n,k2 _ a,b.nx I (zq1 _) N⟩
 | inst c f=>
  refine el42 r fun C sl es n a b pq6=>?_;obtain ⟨d,e⟩:=pq6;exact ⟨C,sl,es,n,a,k1 _ b,k2 _ d,e.nx I N⟩
theorem Inv.size_of (I:Inv ι σ s) {p:Addr×Addr} (hp:p∈ι):p.1 < s.heap.objs.size/\p.2 < s.heap.objs.size:=by
 obtain ⟨o,r⟩:=I.at_ hp;cases o with
 | lst l=>
  refine hid fun G kG=>?_;obtain ⟨e,vs,n,a,b⟩:=r;refine kG ?_;exact ⟨e▸Heap.lt_size a,Heap.lt_size a⟩
 | inst c f=>
  refine el42 r fun C sl es n a b pq15=>?_;obtain ⟨d,e⟩:=pq15;exact ⟨Heap.lt_size b,Heap.lt_size d⟩
theorem zw0 (I:Inv ι σ s) {a:Addr} (ha:s.heap.objs.size<=a):hb.get? a=none:=by
 cases q:hb.get? a with
 | none=>rfl
 | some o=>exact absurd (Heap.lt_size (I.keep a o q)) (Nat.not_lt.mpr ha)
theorem Inv.more (I:Inv ι σ s) (hz:s.heap.objs.size<=h'.objs.size) (k:∀ b o,s.heap.get? b=some o->h'.get? b=some o) (t:Nat) :
 Inv ι σ { s with heap:=h',toks:=t }/\Nx [] ι ι s.heap h':=by
 have N:Nx [] ι ι s.heap h':=by simpa using (Nx.ext (ι:=ι) (new:=[]) hz k (fun U hp=>nomatch hp))
 refine ⟨⟨I.len,fun i o e=>?_,I.nodup,I.fresh,fun b o e=>k _ _ (I.keep b o e),fun P hP=>?_,I.gens,I.os⟩,N⟩
 ·refine el10 (I.objs i o e) fun rp pq19=>?_
  obtain ⟨q,r⟩:=pq19;exact ⟨rp,q,r.ext I N (fun U=>k _ _) fun U=>k _ _⟩
 ·refine el11 (I.tabs P hP) fun ps q r=>?_
  exact ⟨ps,k _ _ q,r.1,fun pos cv e=>(r.2 pos cv e).keeps k⟩
theorem Inv.alloc (I:Inv ι σ s) (hz:s.heap.objs.size<=h'.objs.size) (k:∀ b o,s.heap.get? b=some o->h'.get? b=some o) {rp:Addr×Addr} (hr:s.heap.objs.size<=rp.1/\s.heap.objs.size<=rp.2) (t:Nat) {o:O}
 (ho:ORel (ι++[rp]) h' rp o):Inv (ι++[rp]) (σ++[o]) { s with heap:=h',toks:=t }/\Nx [] ι (ι++[rp]) s.heap h'/\Rel (ι++[rp]) h' (.loc σ.length) (.ref rp.1):=by
 have N:Nx [] ι (ι++[rp]) s.heap h':=Nx.ext hz k (fun p hp=>by rw [iq4] at hp;subst hp;exact hr);refine ⟨⟨by simp [I.len],fun i x e=>?_,?_,fun p hp=>?_,fun b o e=>k _ _ (I.keep b o e),fun P hP=>?_,I.gens,I.os⟩,N,?_⟩
 ·by_cases hi:i < σ.length
  ·rw [iz8 hi] at e
   obtain ⟨rp',q,r⟩:=I.objs i x e;exact ⟨rp',by rw [iz8 (I.len▸hi)];exact q,r.ext I N (fun U=>k _ _) fun U=>k _ _⟩
  ·have hi':i=σ.length:=by
    have:=(iz7.mp e).1;rw [iq6,List.length_singleton] at this;exact ix9 (l21 0x13811371187 this) (l21 0x87187 (ik2 hi))
   subst hi';rw [ix5 (iq1 _),iv4] at e;cases e;exact ⟨rp,by rw [ix5 (I.len.symm▸iq1 _),I.len,iv4];rfl,ho⟩
 ·rw [iv6,List.map_singleton,oz7]
  refine ⟨I.nodup,by simp,fun a ha b hb'=>?_⟩;rw [iq4] at hb';subst hb';obtain ⟨p,hp,rfl⟩:=ik5.mp ha;exact ij5 (iq3 (I.size_of hp).2 hr.2)
 ·rcases iz5.mp hp with q|q
  ·exact I.fresh p q
  ·rw [iq4] at q;subst q;exact ⟨zw0 I hr.1,zw0 I hr.2⟩
 ·refine el11 (I.tabs P hP) fun ps q r=>?_
  exact ⟨ps,k _ _ q,r.1,fun pos cv e=>(r.2 pos cv e).keeps k⟩
 ·delta Rel
  exact ⟨rp.1,rp.2,by rw [ix5 (I.len.symm▸iq1 _),I.len,iv4];rfl,rfl⟩
set_option tactic.hygienic true in
theorem Inv.update (I:Inv ι σ s) {i:Nat} {rp:Addr×Addr} (hi:ι[i]?=some rp) (hs:Heap.SameBut rp.2 s.heap h') (t:Nat) {o':O} (ho:∀ _:Nx [] ι ι s.heap h',ORel ι h' rp o') :
 Inv ι (σ.set i o') { s with heap:=h',toks:=t }/\Nx [] ι ι s.heap h':=by
 have hm:rp∈ι:=iv0 hi;have N:Nx [] ι ι s.heap h':=⟨ij3 hs.1.symm,⟨[],(iq7 _).symm,fun U hp=>nomatch hp⟩,fun b o e U hp U=>⟨o.slots,(hs.2 b (Ne.symm (hp rp hm))).trans e,.inr rfl⟩⟩;obtain ⟨oi,ri⟩:=I.at_ hm;have hl:=(iz7.mp hi).1;refine ⟨⟨by rw [ox6];exact I.len,fun j x e=>?_,I.nodup,I.fresh,fun b o e=>(hs.2 b fun q=>?_).trans (I.keep b o e),fun P hP=>?_,I.gens,I.os⟩,N⟩
 ·rw [List.getElem?_set] at e
  split at e
  ·rename_i hij
   subst hij;rw [if_pos (I.len▸hl)] at e;cases e;exact ⟨rp,hi,ho N⟩
  ·rename_i hij
   refine el10 (I.objs j x e) fun rj pq30=>?_;obtain ⟨q,r⟩:=pq30;have hne:rj.2≠rp.2:=fun z=>hij (by
    have nd:=I.nodup;have h1:(ι.map (fun U=>U.2))[i]?=some rp.2:=by rw [iw2,hi];rfl
    have h2:(ι.map (fun U=>U.2))[j]?=some rp.2:=by rw [iw2,q];exact congrArg some z
    have hl':i < (ι.map (fun U=>U.2)).length:=by rw [iq9];exact hl
    exact (List.getElem?_inj hl' nd).mp (h1.trans h2.symm))
   refine ⟨rj,q,r.ext I N (fun y hy=>(hs.2 _ fun z=>?_).trans hy) fun y hy=>(hs.2 _ hne).trans hy⟩;cases x with
   | lst l=>exact hne (r.1▸z)
   | inst c f=>
    refine el42 r fun C sl es n U b U=>?_;replace b:=z▸b;cases oi with
    | lst l=>obtain ⟨_,vs,n,q',_⟩:=ri;rw [b] at q';cases q'
    | inst c f=>obtain ⟨_,_,_,_,_,_,q',_⟩:=ri;rw [b] at q';cases q'
 ·subst q
  rw [(I.fresh rp hm).2] at e;cases e
 ·refine el11 (I.tabs P hP) fun ps q r=>?_
  refine ⟨ps,(hs.2 P fun z=>?_).trans q,r.1,fun pos cv e=>I.codeRec (zq1 _) N (r.2 pos cv e)⟩;replace q:=z▸q;cases oi with
  | lst l=>obtain ⟨_,vs,n,q',_⟩:=ri;rw [q] at q';cases q'
  | inst c f=>obtain ⟨_,_,_,_,_,_,q',_⟩:=ri;rw [q] at q';cases q'
end
section
variable {ι:Lay} {h:Heap}
theorem wb5 {n:Nat} (ih:∀ (v:V) (x:Value),zv4 n v=true->Rel ι h v x->∃ as,Reads h x (xz0 n v) as) (l:List V):∀ xs:List Value,l.all (zv4 n)=true->zq2 ι h l xs->∃ as,ReadsAll h xs (l.map (xz0 n)) as:=by
 induction l with
 | nil=>intro xs _ r;cases (show xs=[] from r);exact ⟨_,.nil⟩
 | cons v l jh=>
  intro xs hn r;rw [ij1,iq5] at hn;refine el22 r fun x u e a b=>?_;refine el10 (ih v x hn.1 a) fun as p=>?_;refine el10 (jh u hn.2 b) fun bs q=>?_;cases e;exact ⟨_,.cons p q⟩
theorem Rel.reads (n:Nat):∀ (v:V) (x:Value),zv4 n v=true->Rel ι h v x->∃ as,Reads h x (xz0 n v) as:=by
 have leaf:∀ (v:V) (x:Value),(lf v).isSome=true->Rel ι h v x->∃ as,Reads h x ((lf v).getD .none) as:=fun v x=>by
  cases e:lf v with
  | none=>exact fun h=>nomatch h
  | some d=>
   intro _ r;cases v <;> first|exact zz7 e|skip
   case none=>cases Option.some.inj e;cases (show x=.none from r);exact ⟨_,.none⟩
   case int=>cases Option.some.inj e;obtain ⟨t,rfl⟩:=r;exact ⟨_,.int _ _⟩
   case str=>cases (uv7 e).2;obtain ⟨t,rfl⟩:=r;exact ⟨_,.str _ _⟩
 induction n with
 | zero=>exact leaf
 | succ n ih=>
  intro v x;show (zj2 v).elim (lf v).isSome (fun l=>l.all (zv4 n))=true->Rel ι h v x->∃ as,Reads h x ((zj2 v).elim ((lf v).getD .none) fun l=>PyData.tuple (l.map (xz0 n))) as;cases e:zj2 v with
  | none=>exact leaf v x
  | some l=>
   intro hn r;rw [zf7 e] at r;refine el22 r fun a vs e q r=>?_;refine el12 q fun o ho hc p=>?_;refine el10 p fun k hd=>?_;refine el10 (wb5 ih l vs hn r) fun as z=>?_;cases e;exact ⟨_,Reads.tuple ho hc hd z⟩
theorem zq2.reads (n:Nat) (l:List V) (xs:List Value) (hn:l.all (zv4 n)=true) (r:zq2 ι h l xs):∃ as,ReadsAll h xs (l.map (xz0 n)) as:=wb5 (Rel.reads n) l xs hn r
end
section
variable {X:List Addr} {ι ι':Lay} {σ:zz0} {s s':Shared} {A:Around} {Q:QV0} {QX:QA0} {E:QV0}
noncomputable abbrev zx6:Lay->Heap->V->Value->Prop:=fun ι h v x=>Rel ι h v x
theorem zw5:sizeLine=16777216:=by decide +kernel
theorem zv6 (l:List Nat):(⟨l.toArray⟩:Str).length=l.length:=by show l.toArray.size=_;rw [iz1]
theorem qq3 (a b:List Nat):(⟨a.toArray⟩:Str)++(⟨b.toArray⟩:Str)=⟨(a++b).toArray⟩:=by
 show (⟨a.toArray++b.toArray⟩:Str)=_;rw [List.append_toArray]
theorem rep_mk (k:Nat) (l:List Nat):(⟨(List.replicate k l.toArray).foldl (·++·) #[]⟩:Str)=⟨(List.replicate k l).flatten.toArray⟩:=by
 have g:∀ (k:Nat) (a:List Nat),(List.replicate k l.toArray).foldl (·++·) a.toArray=(a++(List.replicate k l).flatten).toArray:=by
  intro k;induction k with
  | zero=>intro a;simp
  | succ k ih=>
   intro a;rw [List.replicate_succ,List.foldl_cons,List.replicate_succ,List.flatten_cons,List.append_toArray,ih,iq0]
 have:=g k [];simpa using this
theorem zq2.length:∀ {l:List V} {vs:List Value} {h:Heap},zq2 ι h l vs->vs.length=l.length
 | [],_,_,r=>by subst r;rfl
 | _::_,_,_,r=>by
  obtain ⟨v,u,rfl,_,q⟩:=r;simp [q.length]
theorem zq2.append:∀ {l m:List V} {vs us:List Value} {h:Heap},zq2 ι h l vs->zq2 ι h m us->zq2 ι h (l++m) (vs++us)
 | [],_,_,_,_,r,q=>by subst r;exact q
 | _::_,_,_,_,_,r,q=>by
  obtain ⟨v,u,rfl,a,b⟩:=r;show zq2 ι _ (_::_) (v::(u++_));exact ⟨v,_,rfl,a,b.append q⟩
theorem zz3.ne {r:Out V} (H:zz3 (zx6) X r ι s Q QX E):r≠.bad:=fun e=>by rw [e] at H;exact H
theorem zz3.if_ {c:Prop} [Decidable c] {r:Out V} (H:zz3 (zx6) X (if c then r else .bad) ι s Q QX E):c/\zz3 (zx6) X r ι s Q QX E:=by
 by_cases h:c
 ·rw [if_pos h] at H;exact ⟨h,H⟩
 ·rw [if_neg h] at H;exact H.elim
theorem mul_ok' {i j:Int} {t u:Tok} (I:Inv ι σ s) (H:zz3 (zx6) X (if zh0 i&&zh0 j then .ok (.int (i * j)) σ else .bad) ι s Q QX E):wpAny (model P w) A (binaryOp .Mult (.int i t) (.int j u)) Q E s:=by
 refine zz9 (zz3.if_ H) fun hc H=>P.mul_int (zz3.now H I ⟨_,rfl⟩) ?_;have hc:=bd (Bool.and_eq_true_iff.mp hc).1;exact .of_left (intBits_le_iff.mpr (ox4 (nabs (n:=9223372036854775808) hc.1 (oz1 hc.2)) (by decide)))
theorem fdiv_ok {i j:Int} {t u:Tok} (I:Inv ι σ s) (H:zz3 (zx6) X (if decide (0 < j)&&decide (j < 1073741824) then .ok (.int (i.fdiv j)) σ else .bad) ι s Q QX E):wpAny (model P w) A (binaryOp .FloorDiv (.int i t) (.int j u)) Q E s:=by
 refine zz9 (zz3.if_ H) fun hc H=>?_;have hc:=bd hc;exact floordiv_int (Int.ne_of_gt hc.1) (zz3.now H I ⟨_,rfl⟩) (.inl (PyProof.noPylong_small (ik6.mp ((Int.natAbs_of_nonneg (oz1 hc.1)).symm▸hc.2))))
theorem fmod_ok {i j:Int} {t u:Tok} (I:Inv ι σ s) (H:zz3 (zx6) X (if decide (0 < j)&&decide (j < 1073741824) then .ok (.int (i.fmod j)) σ else .bad) ι s Q QX E):wpAny (model P w) A (binaryOp .Mod (.int i t) (.int j u)) Q E s:=by
 refine zz9 (zz3.if_ H) fun hc H=>?_;exact mod_int' (Int.ne_of_gt (bd hc).1) (zz3.now H I ⟨_,rfl⟩)
set_option tactic.hygienic true in
theorem vb1 {l m:List Nat} {t u:Tok} (I:Inv ι σ s) (H:zz3 (zx6) X (if l.length + m.length<=SL then .ok (.str (l++m)) σ else .bad) ι s Q QX E) :
 wpAny (model P w) A (binaryOp .Add (.str ⟨l.toArray⟩ t) (.str ⟨m.toArray⟩ u)) Q E s:=by
 refine zz9 (zz3.if_ H) fun hc H=>P.add_str ?_;rw [zv6,zv6];split
 ·rename_i h0
  have e0:l=[]:=ox0.mp (beq_iff_eq.mp h0);subst e0;exact (show Q _ s from zz3.here H I ⟨u,rfl⟩)
 ·split
  ·rename_i h0
   have e0:m=[]:=ox0.mp (beq_iff_eq.mp h0);subst e0;exact (show Q _ s from zz3.here H I ⟨t,by rw [iq7]⟩)
  ·rw [qq3]
   exact ⟨by rw [zv6,iq6,zw5];exact hc,zz3.now H I ⟨_,rfl⟩⟩
set_option tactic.hygienic true in
theorem vb0 {l:List Nat} {n:Int} {t u:Tok} (I:Inv ι σ s) (H:zz3 (zx6) X (if decide (n < 1000)&&decide (l.length<=1)&&decide (-1000 < n) then .ok (.str ((List.replicate n.toNat l).flatten)) σ else .bad) ι s Q QX E) :
 wpAny (model P w) A (binaryOp .Mult (.str ⟨l.toArray⟩ t) (.int n u)) Q E s:=by
 refine zz9 (zz3.if_ H) fun hc H=>?_;have c:=Bool.and_eq_true_iff.mp hc;have c3:=of_decide_eq_true c.2;have c1:=(bd c.1).1;have h1:l.length * n.toNat<=1 * 999:=Nat.mul_le_mul (bd c.1).2 (Int.toNat_le.mpr (Int.le_sub_one_of_lt c1));refine P.mul_str (fits (iw8 (by decide) (oz1 c3)) (Int.lt_trans c1 (by decide))) (fun q U=>?_) (fun U U=>?_) ?_
 ·rw [zv6]
  refine iv2.mpr (iw8 (ix6.mpr (bd c.1).2) (Int.le_ediv_of_mul_le (ox5 (by decide) (iv2.mp q)) ?_));exact iw8 (Int.le_of_eq (Int.one_mul _)) (iw8 (oz1 c1) (by decide))
 ·rw [zv6]
  unfold Builtin.Str.tooLong;rw [zw5,decide_eq_false_iff_not];exact Nat.not_lt.mpr (ld h1 rfl)
 ·rw [zv6]
  split
  ·rename_i h1
   have e0:n.toNat=0:=Int.toNat_eq_zero.mpr (Int.le_sub_one_of_lt h1);rw [e0] at H;refine ⟨by rw [zw5];exact iv8 _,zz3.now H I ⟨_,rfl⟩⟩
  ·split
   ·rename_i h1 h2
    refine (show Q _ s from zz3.here H I ⟨t,?_⟩);rw [iw3,beq_iff_eq,beq_iff_eq] at h2;rcases h2 with h2|h2
    ·subst h2;simp
    ·have:=ox0.mp h2;subst this;simp
   ·rw [rep_mk]
    refine ⟨?_,zz3.now H I ⟨_,rfl⟩⟩;rw [zv6,zw5,List.length_flatten,List.map_replicate,List.sum_replicate_nat,Nat.mul_comm];exact l11 0x00003e741271100000047 h1
theorem Inv.list_of (I:Inv ι σ s) {i:Nat} {l:List V} {x:Value} (e:σ[i]?=some (.lst l)) (ra:Rel ι s.heap (.loc i) x) :
 ∃ a vs n,x=.ref a/\ι[i]?=some (a,a)/\s.heap.get? a=some (listOf vs.toArray n)/\zq2 ι s.heap l vs/\s.heap.IsList a vs.toArray:=by
 refine el20 ra fun xa ya pq4=>?_;refine hid fun G kG=>?_;obtain ⟨za,rfl⟩:=pq4;refine el10 (I.objs _ _ e) fun pa pq8=>?_;obtain ⟨qa,ha,va,na,ga,ra'⟩:=pq8;refine kG ?_;rw [qa] at za;cases za;cases (show xa=ya from ha);exact ⟨_,va,na,rfl,qa,ga,ra',⟨_,ga,rfl,_,rfl⟩⟩
section
variable {γ δ:Type} {R':Lay->Heap->γ->δ->Prop} {Q':δ->Shared->Prop} {C:Value->Prop} {v:V} {x:Value} {h:Heap}
@[elab_as_elim] theorem Rel.oi {i:Int} (e:zj9 v=some i) (r:Rel ι h v x) (k:∀ t,C (.int i t)):C x:=by
 rw [yj7 e] at r;obtain ⟨t,rfl⟩:=r;exact k t
@[elab_as_elim] theorem Rel.os {l:List Nat} (e:zx9 v=some l) (r:Rel ι h v x) (k:∀ t,C (.str ⟨l.toArray⟩ t)):C x:=by
 rw [yj6 e] at r;obtain ⟨t,rfl⟩:=r;exact k t
@[elab_as_elim] theorem Rel.ot {l:List V} (e:zj2 v=some l) (r:Rel ι h v x) (k:∀ a vs,IsTup h a vs.toArray->zq2 ι h l vs->C (.ref a)):C x:=by
 rw [zf7 e] at r;obtain ⟨a,vs,rfl,p,q⟩:=r;exact k a vs p q
@[elab_as_elim] theorem Inv.ol (I:Inv ι σ s) {i:Nat} {l:List V} (e:zj8 v=some i) (e2:zj3 σ i=some l) (r:Rel ι s.heap v x)
 (k:∀ a vs n,ι[i]?=some (a,a)->s.heap.get? a=some (listOf vs.toArray n)->zq2 ι s.heap l vs->s.heap.IsList a vs.toArray->C (.ref a)):C x:=by
 rw [yg3 e] at r;obtain ⟨a,vs,n,rfl,h1,h2,h3,h4⟩:=I.list_of (ww3 e2) r;exact k a vs n h1 h2 h3 h4
@[elab_as_elim] theorem zz3.oi {d:Out γ} {f:Int->Out γ} (H:zz3 R' X ((zj9 v).elim d f) ι s Q' QX E) (r:Rel ι h v x) (k:∀ i t,zz3 R' X (f i) ι s Q' QX E->C (.int i t)) (z:zz3 R' X d ι s Q' QX E->C x):C x:=by
 cases e:zj9 v with
 | none=>rw [e] at H;exact z H
 | some i=>rw [e] at H;exact r.oi e fun t=>k i t H
@[elab_as_elim] theorem zz3.os {d:Out γ} {f:List Nat->Out γ} (H:zz3 R' X ((zx9 v).elim d f) ι s Q' QX E) (r:Rel ι h v x) (k:∀ i t,zz3 R' X (f i) ι s Q' QX E->C (.str ⟨i.toArray⟩ t)) (z:zz3 R' X d ι s Q' QX E->C x):C x:=by
 cases e:zx9 v with
 | none=>rw [e] at H;exact z H
 | some i=>rw [e] at H;exact r.os e fun t=>k i t H
@[elab_as_elim] theorem zz3.ot {d:Out γ} {f:List V->Out γ} (H:zz3 R' X ((zj2 v).elim d f) ι s Q' QX E) (r:Rel ι h v x) (k:∀ l a vs,IsTup h a vs.toArray->zq2 ι h l vs->zz3 R' X (f l) ι s Q' QX E->C (.ref a)) (z:zz3 R' X d ι s Q' QX E->C x):C x:=by
 cases e:zj2 v with
 | none=>rw [e] at H;exact z H
 | some i=>rw [e] at H;exact r.ot e fun a vs p q=>k i a vs p q H
@[elab_as_elim] theorem zz3.ol {d:Out γ} {f:Nat->List V->Out γ} (I:Inv ι σ s) (H:zz3 R' X ((zj8 v).elim d fun i=>(zj3 σ i).elim .bad fun l=>f i l) ι s Q' QX E) (r:Rel ι s.heap v x)
 (k:∀ i l a vs n,ι[i]?=some (a,a)->s.heap.get? a=some (listOf vs.toArray n)->zq2 ι s.heap l vs->s.heap.IsList a vs.toArray->zz3 R' X (f i l) ι s Q' QX E->C (.ref a)) (z:zz3 R' X d ι s Q' QX E->C x):C x:=by
 cases e:zj8 v with
 | none=>rw [e] at H;exact z H
 | some i=>
  rw [e] at H;refine el11 (zz3.opt H) fun l e2 H=>?_;exact I.ol e e2 r fun a vs n h1 h2 h3 h4=>k i l a vs n h1 h2 h3 h4 H
@[elab_as_elim] theorem zz3.o1 {C:List Value->Prop} {args:List V} {vals:List Value} {f:V->Out γ} (H:zz3 R' X (on1 args f) ι s Q' QX E) (r:zq2 ι h args vals) (k:∀ v x,Rel ι h v x->zz3 R' X (f v) ι s Q' QX E->C [x]):C vals:=by
 cases args with
 | nil=>exact False.elim H
 | cons v l=>cases l with
  | cons=>exact False.elim H
  | nil=>
   obtain ⟨x,u,rfl,r1,r2⟩:=r;cases (show u=[] from r2);exact k v x r1 H
@[elab_as_elim] theorem zz3.o2 {C:List Value->Prop} {args:List V} {vals:List Value} {f:V->V->Out γ} (H:zz3 R' X (on2 args f) ι s Q' QX E) (r:zq2 ι h args vals) (k:∀ v v' x y,Rel ι h v x->Rel ι h v' y->zz3 R' X (f v v') ι s Q' QX E->C [x,y]):C vals:=by
 cases args with
 | nil=>exact False.elim H
 | cons v l=>
  obtain ⟨x,u,rfl,r1,r2⟩:=r;exact zz3.o1 (C:=fun u=>C (x::u)) H r2 fun v' y r3 H=>k v v' x y r1 r3 H
end
theorem uk6 {a b:V} {x y:Value} (I:Inv ι σ s) (ra:Rel ι s.heap a x) (rb:Rel ι s.heap b y)
 (H:zz3 (zx6) X ((zj8 a).elim .bad fun i=>(zj8 b).elim .bad fun j=>addL i j σ) ι s Q QX E):wpAny (model P w) A (binaryOp .Add x y) Q E s:=by
 refine el11 (zz3.opt H) fun i e1 H=>?_;refine el11 (zz3.opt H) fun j e2 H=>?_;refine el11 (zz3.opt H) fun la e3 H=>?_;refine el11 (zz3.opt H) fun lb e4 H=>?_;refine zz9 (zz3.ifp H) fun hc H=>?_;refine I.ol e1 e3 ra fun xa va na U ga ra' U=>?_;refine I.ol e2 e4 rb fun xb vb nb U gb rb' U=>?_;refine concat_meets ⟨_,ga,rfl⟩ ⟨_,gb,rfl⟩ noFill_list_add seq_list_add PySem.F.slot_list_add PySem.F.entry_list_add (PySem.F.args_list_add_2 _ _) (list_addW _ _ va.toArray vb.toArray na nb none none #[] #[] (by
  rw [iz1,iz1,ra'.length,rb'.length,zw5];exact l21 0x00003e84871110000004871 hc)) ⟨ga,gb,?_⟩
 rw [List.append_toArray];have hz:s.heap.objs.size<=(s.heap.push { cls:=.type "list",data:=.seq (va++vb).toArray }).objs.size:=by rw [Heap.size_push];exact oz5 _
 have N:Nx [] ι (ι++[(s.heap.objs.size,s.heap.objs.size)]) s.heap (s.heap.push { cls:=.type "list",data:=.seq (va++vb).toArray }):=Nx.ext (new:=[(s.heap.objs.size,s.heap.objs.size)]) hz (fun b o q=>Heap.get?_push_of_some _ q) (by intro p hp;rw [iq4.mp hp];exact ⟨iq1 _,iq1 _⟩);obtain ⟨I',N',R'⟩:=I.alloc (o:=.lst (la++lb)) (rp:=(s.heap.objs.size,s.heap.objs.size)) hz (fun b o q=>Heap.get?_push_of_some _ q) ⟨iq1 _,iq1 _⟩ s.toks
  ⟨rfl,va++vb,0,Heap.get?_push_size _ rfl,zq2.append (ra'.nx I (zq1 _) N) (rb'.nx I (zq1 _) N)⟩
 exact H _ _ _ (N'.weaken fun U q=>nomatch q) I' R'
theorem binOp_ok {op:Operator} {a b:V} {x y:Value} (I:Inv ι σ s) (ra:Rel ι s.heap a x) (rb:Rel ι s.heap b y)
 (H:zz3 (zx6) X (yv6 op a b σ) ι s Q QX E):wpAny (model P w) A (binaryOp op x y) Q E s:=by
 cases op <;> first|exact False.elim H|skip
 case Add=>
  exact zz3.oi H ra (fun i t H=>zz3.oi H rb (fun j u H=>P.add_int (H.now I ⟨_,rfl⟩)) False.elim) fun H=>zz3.os H ra (fun l t H=>zz3.os H rb (fun m u H=>vb1 I H) False.elim) fun H=>uk6 I ra rb H
 case Sub=>exact zz3.oi H ra (fun i t H=>zz3.oi H rb (fun j u H=>P.sub_int (H.now I ⟨_,rfl⟩)) False.elim) False.elim
 case Mult=>exact zz3.oi H ra (fun i t H=>zz3.oi H rb (fun j u H=>mul_ok' I H) False.elim) fun H=>zz3.os H ra (fun l t H=>zz3.oi H rb (fun m u H=>vb0 I H) False.elim) False.elim
 case FloorDiv=>exact zz3.oi H ra (fun i t H=>zz3.oi H rb (fun j u H=>fdiv_ok I H) False.elim) False.elim
 case Mod=>exact zz3.oi H ra (fun i t H=>zz3.oi H rb (fun j u H=>fmod_ok I H) False.elim) False.elim
end
theorem oe {α β:Type} {o:Option α} {f:α->Option β} {b:β} {c:Prop} (h:o.elim .none f=some b) (k:∀ a,o=some a->f a=some b->c):c:=by
 cases o with
 | none=>exact zz7 h
 | some a=>exact k a rfl h
theorem ift {α:Type} {c:Prop} [Decidable c] {o:Option α} {b:α} (h:(if c then o else Option.none)=some b):c/\o=some b:=by
 by_cases q:c
 ·rw [if_pos q] at h;exact ⟨q,h⟩
 ·rw [if_neg q] at h;exact zz7 h
theorem iff_ {α:Type} {c:Prop} [Decidable c] {o:Option α} {b:α} (h:(if c then Option.none else o)=some b):¬c/\o=some b:=by
 by_cases q:c
 ·rw [if_pos q] at h;exact zz7 h
 ·rw [if_neg q] at h;exact ⟨q,h⟩
theorem wk3 {l:List Nat} {c:Nat} (e:sgl1 l=some c):l=[c]:=by
 cases l with
 | nil=>exact zz7 e
 | cons d r=>cases r with
  | nil=>exact congrArg (fun d=>[d]) (Option.some.inj e)
  | cons=>exact zz7 e
section
variable {X:List Addr} {ι ι':Lay} {σ:zz0} {s s':Shared} {A:Around} {Q:QV0} {QX:QA0} {E:QV0}
theorem zx6.bool {h:Heap} {b:Bool}:zx6 ι h (.bool b) (.bool b):=(rfl:Value.bool b=.bool b)
theorem zx6.none {h:Heap}:zx6 ι h .none .none:=(rfl:Value.none=.none)
theorem zx6.int {h:Heap} {i:Int} {t:Tok}:zx6 ι h (.int i) (.int i t):=⟨t,rfl⟩
theorem zx6.str {h:Heap} {l:List Nat} {t:Tok}:zx6 ι h (.str l) (.str ⟨l.toArray⟩ t):=⟨t,rfl⟩
theorem vf6 (x y:List Nat):subIn x y=true ↔ ∃ i,i + y.length<=x.length/\((x.drop i).take y.length == y)=true:=by
 induction x with
 | nil=>
  refine ⟨fun h=>⟨0,?_,?_⟩,?_⟩
  ·rw [ik3.mp h];exact iq1 _
  ·rw [ik3.mp h];rfl
  ·rintro ⟨i,h,_⟩
   exact ik3.mpr (ox0.mp (Nat.le_zero.mp (iq2 (ik4 _ _) h)))
 | cons c r ih=>
  show (subAt (c::r) y||subIn r y)=true ↔ _;rw [iw3,ih];refine ⟨fun h=>h.elim (fun h=>⟨0,?_,h⟩) fun ⟨i,h1,h2⟩=>⟨i + 1,?_,h2⟩,fun ⟨i,h1,h2⟩=>?_⟩
  ·have:=congrArg List.length (beq_iff_eq.mp h)
   rw [List.length_take] at this;rw [Nat.zero_add,<-this];exact ox3 _ _
  ·rw [Nat.add_right_comm];exact iv1 h1
  ·cases i with
   | zero=>exact .inl h2
   | succ i=>rw [Nat.add_right_comm] at h1;exact .inr ⟨i,Nat.le_of_succ_le_succ h1,h2⟩
theorem wh8 (x y:List Nat):(!(Builtin.Str.occurrences ⟨x.toArray⟩ ⟨y.toArray⟩ 0 (⟨x.toArray⟩:Str).length 1).isEmpty)=subIn x y:=by
 rw [Bool.eq_iff_iff,StrLaws.found_iff,vf6];simp only [zv6,StrLaws.subAt_eq]
theorem wj9 (x y:List Nat):((⟨x.toArray⟩:Str) == ⟨y.toArray⟩)=(x == y):=by
 rw [Bool.eq_iff_iff,beq_iff_eq,beq_iff_eq];exact ⟨fun q=>congrArg (fun z:Str=>z.cps.toList) q,fun q=>congrArg (fun l:List Nat=>(⟨l.toArray⟩:Str)) q⟩
theorem wx9 {n:Nat} (x:List Nat) (l:List V):∀ b:Bool,l.all (zv4 n)=true->yx1 l x=some b->((l.map (xz0 n)).any fun y=>PyData.eqv y (.str ⟨x.toArray⟩))=b:=by
 induction l with
 | nil=>exact fun b U h=>Option.some.inj h
 | cons v r ih=>
  intro b hl h;rw [ij1,iq5] at hl;refine ocs (zx9 v) (fun e=>?_) fun y e=>?_
  ·exact zz7 ((congrArg (fun o=>Option.elim o Option.none fun y:List Nat=>if y == x then some true else yx1 r x) e).symm.trans h)
  ·have h:(if y == x then some true else yx1 r x)=some b:=(congrArg (fun o=>Option.elim o Option.none fun y:List Nat=>if y == x then some true else yx1 r x) e).symm.trans h
   rw [yj6 e] at hl ⊢;have hv:xz0 n (.str y)=.str ⟨y.toArray⟩:=by
    have:lf (.str y)=some (.str ⟨y.toArray⟩):=by
     have z:(lf (.str y)).isSome=true:=by cases n <;> exact hl.1
     cases q:lf (.str y) with
     | none=>rw [q] at z;cases z
     | some d=>rw [(uv7 q).2]
    cases n <;> exact congrArg (fun U=>U.getD PyData.none) this
   rw [ij2,ox7,hv,PyData.eqv,wj9];cases q:y == x with
   | true=>rw [q] at h;exact Option.some.inj h
   | false=>rw [q] at h;exact ih b hl.2 h
theorem xq4 {a b:List V} {r:Bool} (e:zy2 a b=some r):a.all (zv4 60)=true/\b.all (zv4 60)=true/\PyData.eqvAll (a.map (xz0 60)) (b.map (xz0 60))=r:=by
 refine zz9 (ifs e) fun h q=>?_;exact ⟨(bb h).1,(bb h).2,q⟩
theorem cmp_ok {op:CmpOp} (f:Bool->Bool) {a b:V} {x y:Value} {r:Bool} (I:Inv ι σ s) (ra:Rel ι s.heap a x) (rb:Rel ι s.heap b y) (hu:A.units + 100 < cLine) (e:eqV a b σ=some r)
 (hd:∀ {x y:Value} {da db:PyData} {as bs:List Addr},Reads s.heap x da as->Reads s.heap y db bs->da.canLay0=true->db.canLay0=true->A.units + min da.depth db.depth < cLine->Q (.bool (f (PyData.eqv da db))) s->wpAny (model P w) A (compareOp op x y) Q E s)
 (hs:∀ {l m:List Nat} {t u:Tok},Q (.bool (f (l == m))) s->wpAny (model P w) A (compareOp op (.str ⟨l.toArray⟩ t) (.str ⟨m.toArray⟩ u)) Q E s)
 (h1:Q (.bool (f r)) s):wpAny (model P w) A (compareOp op x y) Q E s:=by
 have dep:∀ {a b:List PyData},PyData.depthAll a<=60->A.units + min (PyData.depthAll a + 1) (PyData.depthAll b + 1) < cLine:=fun {a b} q=>ox4 (ij0 (iq2 (Nat.min_le_left _ _) (iv1 (iq2 q (nl (b:=99) rfl)))) _) hu;refine ocs (zj8 a) (fun e1=>?_) fun i e1=>?_
 ·have e:pyEq a b=some r:=(congrArg (fun o=>Option.elim o (pyEq a b) fun i=>(zj8 b).elim .none fun j=>(zj3 σ i).elim .none fun l=>(zj3 σ j).elim .none fun m=>zy2 l m) e1).symm.trans e
  unfold pyEq at e;refine ocs (zx9 a) (fun e2=>?_) fun l e2=>?_
  ·replace e:=e2▸e
   refine ocs (zj9 a) (fun e3=>?_) fun i e3=>?_
   ·replace e:=e3▸e
    refine oe e fun la e4 e=>oe e fun lb e5 e=>?_;refine zg6 (xq4 e) fun l1 l2 l3=>?_;refine ra.ot e4 fun pa va ⟨oa,ga,ca,na,da⟩ ra'=>rb.ot e5 fun pb vb ⟨ob,gb,cb,nb,db⟩ rb'=>?_;refine el10 (zq2.reads _ _ _ l1 ra') fun as r1=>?_;refine el10 (zq2.reads _ _ _ l2 rb') fun bs r2=>?_;refine zz9 (yf5 _ l1) fun k1 d1=>?_;refine hd (Reads.tuple ga ca da r1) (Reads.tuple gb cb db r2) k1 (yf5 _ l2).1 (dep d1) ?_;rw [PyData.eqv,l3];exact h1
   ·rw [e3] at e
    refine oe e fun j e4 e=>?_;refine ra.oi e3 fun t=>rb.oi e4 fun u=>hd (.int i t) (.int j u) rfl rfl (ox4 (ij0 (nl (a:=min 0 0) (b:=100) rfl) _) hu) ?_;show Q (.bool (f (i == j))) s;rw [Option.some.inj e];exact h1
  ·rw [e2] at e
   refine oe e fun m e3 e=>?_;refine ra.os e2 fun t=>rb.os e3 fun u=>hs ?_;exact (Option.some.inj e).symm▸h1
 ·have e:((zj8 b).elim .none fun j=>(zj3 σ i).elim .none fun l=>(zj3 σ j).elim .none fun m=>zy2 l m)=some r:=(congrArg (fun o=>Option.elim o (pyEq a b) fun i=>(zj8 b).elim .none fun j=>(zj3 σ i).elim .none fun l=>(zj3 σ j).elim .none fun m=>zy2 l m) e1).symm.trans e
  refine oe e fun j e2 e=>oe e fun la e3 e=>oe e fun lb e4 e=>?_;refine zg6 (xq4 e) fun l1 l2 l3=>?_;refine I.ol e1 e3 ra fun xa va na U ga ra' U=>?_;refine I.ol e2 e4 rb fun xb vb nb U gb rb' U=>?_;refine el10 (zq2.reads _ _ _ l1 ra') fun as r1=>?_;refine el10 (zq2.reads _ _ _ l2 rb') fun bs r2=>?_;refine zz9 (yf5 _ l1) fun k1 d1=>?_;refine hd (Reads.list ga rfl rfl r1) (Reads.list gb rfl rfl r2) k1 (yf5 _ l2).1 (dep d1) ?_;rw [PyData.eqv,l3];exact h1
theorem cmpEq_ok {a b:V} {x y:Value} {r:Bool} (I:Inv ι σ s) (ra:Rel ι s.heap a x) (rb:Rel ι s.heap b y) (hu:A.units + 100 < cLine) (e:eqV a b σ=some r)
 (h1:Q (.bool r) s):wpAny (model P w) A (compareOp .Eq x y) Q E s:=
 cmp_ok id I ra rb hu e (fun a b c d e f=>SeqAt.compareEq_reads a b c d e f) (fun q=>P.eq_str q) h1
theorem cmpNe_ok {a b:V} {x y:Value} {r:Bool} (I:Inv ι σ s) (ra:Rel ι s.heap a x) (rb:Rel ι s.heap b y) (hu:A.units + 100 < cLine) (e:eqV a b σ=some r)
 (h1:Q (.bool (!r)) s):wpAny (model P w) A (compareOp .NotEq x y) Q E s:=
 cmp_ok (fun b=>!b) I ra rb hu e (fun a b c d e f=>SeqAt.compareNe_reads a b c d e f) (fun q=>P.ne_str q) h1
theorem xx9 (y:List Nat) (ks:List V):∀ (es:List DictEntry) (b:Bool),yw9 ks es->yx1 ks y=some b->((es.find? fun d=>Value.isStrOf ⟨y.toArray⟩ d.key).map (fun U=>U.val)).isSome=b:=by
 induction ks with
 | nil=>exact fun es b r h=>by cases (show es=[] from r);exact Option.some.inj h
 | cons k ks ih=>
  intro _ b r h;refine el44 r fun e r' l t eq7 eq8 hk U hr=>?_;subst eq7;subst eq8;have h:(if l == y then some true else yx1 ks y)=some b:=h;rw [oq7,hk];rw [show Value.isStrOf ⟨y.toArray⟩ (.str ⟨l.toArray⟩ t)=(l == y) from wj9 l y];cases q:l == y with
  | true=>rw [q] at h;exact Option.some.inj h
  | false=>rw [q] at h;exact ih r' b hr h
theorem wp3 {ks:List V} {a:Addr} {es:List DictEntry} {n:Nat} (I:Inv ι σ s) (hd:hb.get? a=some (dictOf es n)) (hk:yw9 ks es):s.heap.MapOf (strKind P w) a (fun k=>findBy Value.isStrOf es.toArray k):=by
 refine ⟨_,es.toArray,n,I.keep _ _ hd,⟨rfl,rfl,rfl⟩,rfl,fun e he=>?_,fun U=>rfl⟩;have go:∀ (ks:List V) (es:List DictEntry),yw9 ks es->∀ e∈es,∃ k,(strKind P w).is k e.key=true/\e.hash=(strKind P w).hash k:=by
  intro ks;induction ks with
  | nil=>intro es r e he;subst r;cases he
  | cons k ks ih=>
   intro es r e he;refine el44 r fun e' r' l t eq9 eq10 hk hh hr=>?_;subst eq9;rcases ix7.mp he with rfl|he
   ·exact ⟨⟨l.toArray⟩,by rw [hk];exact strKind_is P w _ t,hh⟩
   ·exact ih r' hr e he
 exact go ks es hk e (by simpa using he)
theorem in_ok {op:CmpOp} (f:Bool->Bool) {a b:V} {x y:Value} {r:Bool} (I:Inv ι σ s) (ra:Rel ι s.heap a x) (rb:Rel ι s.heap b y) (hu:A.units + 100 < cLine) (e:inV a b σ=some r)
 (hl:∀ {x y:Value} {xs:List PyData} {d:PyData} {as bs:List Addr},Reads s.heap y (.list xs) as->Reads s.heap x d bs->PyData.canLayAll0 xs=true->d.canLay0=true->A.units + 1 + min (PyData.depthAll xs) d.depth < cLine->Q (.bool (f (xs.any fun y=>PyData.eqv y d))) s->wpAny (model P w) A (compareOp op x y) Q E s)
 (ht:∀ {x y:Value} {xs:List PyData} {d:PyData} {as bs:List Addr},Reads s.heap y (.tuple xs) as->Reads s.heap x d bs->PyData.canLayAll0 xs=true->d.canLay0=true->A.units + 1 + min (PyData.depthAll xs) d.depth < cLine->Q (.bool (f (xs.any fun y=>PyData.eqv y d))) s->wpAny (model P w) A (compareOp op x y) Q E s)
 (hs:∀ {l m:Str} {t u:Tok},Q (.bool (f (!(Builtin.Str.occurrences m l 0 m.length 1).isEmpty))) s->wpAny (model P w) A (compareOp op (.str l t) (.str m u)) Q E s)
 (hm:∀ {k:Str} {x:Value} {d:Addr} {g:Str->Option Value},(strKind P w).is k x=true->(d == sysModules)=false->s.heap.MapOf (strKind P w) d g->Q (.bool (f (g k).isSome)) { s with toks:=s.toks + 1 }->wpAny (model P w) A (compareOp op x (.ref d)) Q E s)
 (h1:∀ t,Q (.bool (f r)) { s with toks:=t }):wpAny (model P w) A (compareOp op x y) Q E s:=by
 have dep:∀ {xs:List PyData},A.units + 1 + min (PyData.depthAll xs) 0 < cLine:=fun {xs}=>ox4 (ij0 (iq2 (ox3 _ _) (nl (b:=99) rfl)) _) hu;refine oe e fun l e1 e=>?_;refine ra.os e1 fun t=>?_;refine ocs (zj8 b) (fun e2=>?_) fun i e2=>?_
 ·rw [e2] at e
  refine ocs (zx9 b) (fun e3=>?_) fun m e3=>?_
  ·rw [e3] at e
   refine ocs (zj2 b) (fun e4=>?_) fun m e4=>?_
   ·replace e:=e4▸e
    refine oe e fun m e5 e=>?_;rw [yg2 e5] at rb;refine el11 rb fun d eq17 q=>?_;subst eq17;refine zz9 (iff_ e) fun hne e=>?_;rcases q with q|⟨es,n,q1,q1',q2,q3⟩
    ·rw [q] at hne;exact absurd rfl hne
    ·refine hm (strKind_is P w _ t) q1' (wp3 I q1 q2) ?_
     have:((fun k=>findBy Value.isStrOf es.toArray k) (⟨l.toArray⟩:Str)).isSome=r:=by
      show (findBy Value.isStrOf es.toArray _).isSome=r;unfold findBy;rw [List.find?_toArray];exact xx9 l m.1 es r q2 e
     exact this▸h1 _
   ·replace e:=e4▸e
    refine zz9 (ift e) fun hc e=>?_;refine rb.ot e4 fun pb vb ⟨ob,gb,cb,nb,db⟩ rb'=>?_;refine el10 (zq2.reads _ _ _ (bb hc).2 rb') fun as r1=>?_;refine ht (Reads.tuple gb cb db r1) (.str _ _) (yf5 _ (bb hc).2).1 (xj8 (bb hc).1) dep ?_;rw [wx9 _ _ _ (bb hc).2 e];exact h1 s.toks
  ·rw [e3] at e
   refine rb.os e3 fun u=>hs ?_;rw [wh8,Option.some.inj e];exact h1 s.toks
 ·rw [e2] at e
  refine oe e fun la e3 e=>?_;refine zz9 (ift e) fun hc e=>?_;refine I.ol e2 e3 rb fun xb vb nb U gb rb' U=>?_;refine el10 (zq2.reads _ _ _ (bb hc).2 rb') fun as r1=>?_;refine hl (Reads.list gb rfl rfl r1) (.str _ _) (yf5 _ (bb hc).2).1 (xj8 (bb hc).1) dep ?_;rw [wx9 _ _ _ (bb hc).2 e];exact h1 s.toks
theorem wz4 {a:V} {x:Value} {r:Bool} {h:Heap} (e:isNone a=some r) (ra:Rel ι h a x):plainIs x .none=true/\(x == .none)=r:=by
 cases a
 case blt=>exact zz7 e
 all_goals cases Option.some.inj e
 case none|bool|typ=>cases ra;exact ⟨rfl,rfl⟩
 case int|str=>obtain ⟨t,rfl⟩:=ra;exact ⟨rfl,rfl⟩
 case tup|cls=>obtain ⟨_,_,rfl,_⟩:=ra;exact ⟨rfl,rfl⟩
 case loc|fn=>obtain ⟨_,_,_,rfl⟩:=ra;exact ⟨rfl,rfl⟩
 case map=>obtain ⟨_,rfl,_⟩:=ra;exact ⟨rfl,rfl⟩
 case clo|fz=>obtain ⟨_,_,_,_,rfl,_⟩:=ra;exact ⟨rfl,rfl⟩
theorem wv4 {b:V} (e:isNone b=some true):b=.none:=by cases b <;> first|rfl|exact zz7 e|exact nomatch Option.some.inj e
theorem xy6 {op:CmpOp} {a b:V} {x y:Value} {f:Int->Int->Bool} (I:Inv ι σ s) (ra:Rel ι s.heap a x) (rb:Rel ι s.heap b y) (H:zz3 (zx6) X (cmpI a b σ f) ι s Q QX E)
 (k:∀ i j t u,Q (.bool (f i j)) s->wpAny (model P w) A (compareOp op (.int i t) (.int j u)) Q E s):wpAny (model P w) A (compareOp op x y) Q E s:=
 zz3.oi H ra (fun i t H=>zz3.oi H rb (fun j u H=>k i j t u (H.here I zx6.bool)) False.elim) False.elim
theorem yg1 {op:CmpOp} {a b:V} {x y:Value} (I:Inv ι σ s) (ra:Rel ι s.heap a x) (rb:Rel ι s.heap b y) (hu:A.units + 100 < cLine)
 (H:zz3 (zx6) X (zy8 op a b σ) ι s Q QX E):wpAny (model P w) A (compareOp op x y) Q E s:=by
 have lm:∀ {o:Option Bool} {f:Bool->V} {c:Prop},zz3 (zx6) X (liftO (o.map f) σ) ι s Q QX E->(∀ r,o=some r->zz3 (zx6) X (.ok (f r) σ) ι s Q QX E->c)->c:=fun {o f c} H k=>by
  cases o with
  | none=>exact False.elim H
  | some r=>exact k r rfl H
 cases op
 case Eq=>exact lm H fun r e H=>cmpEq_ok I ra rb hu e (H.here I zx6.bool)
 case NotEq=>exact lm H fun r e H=>cmpNe_ok I ra rb hu e (H.here I zx6.bool)
 case Lt=>exact xy6 I ra rb H fun U U U U q=>P.lt_int q
 case Gt=>exact xy6 I ra rb H fun U U U U q=>P.gt_int q
 case GtE=>exact xy6 I ra rb H fun U U U U q=>P.ge_int q
 case LtE=>
  refine zz3.os H ra (fun l t H=>zz3.os H rb (fun m u H=>?_) False.elim) fun H=>xy6 I ra rb H fun U U U U q=>P.le_int q;refine el11 (zz3.opt H) fun c e1 H=>el11 (zz3.opt H) fun d e2 H=>?_;rw [wk3 e1,wk3 e2];refine P.le_str ?_;have e:(!decide ([d] < [c]))=decide (c<=d):=by
   rw [StrLaws.lt_cons_cons];rw [Bool.eq_iff_iff];simp
  refine e.symm▸?_;exact H.here I zx6.bool
 case In=>
  exact lm H fun r e H=>in_ok id I ra rb hu e (fun a b c d e f=>SeqAt.in_list_reads a b c d e f) (fun a b c d e f=>SeqAt.in_tuple_reads a b c d e f) (fun q=>P.in_str q)
   (fun k d m q=>wpAny_in_of k d m q) fun t=>H.now I zx6.bool
 case NotIn=>
  exact lm H fun r e H=>in_ok (fun b=>!b) I ra rb hu e (fun a b c d e f=>SeqAt.notIn_list_reads a b c d e f) (fun a b c d e f=>SeqAt.notIn_tuple_reads a b c d e f) (fun q=>P.notIn_str q)
   (fun k d m q=>wpAny_notIn_of k d m q) fun t=>H.now I zx6.bool
 case Is=>
  refine zz9 (zz3.ifp H) fun e0 H=>lm H fun r e H=>?_;rw [wv4 e0] at rb;subst rb;refine zz9 (wz4 e ra) fun p e2=>?_;exact wpAny_is_plain p (e2▸H.here I zx6.bool)
 case IsNot=>
  refine zz9 (zz3.ifp H) fun e0 H=>lm H fun r e H=>?_;rw [wv4 e0] at rb;subst rb;refine zz9 (wz4 e ra) fun p e2=>?_;exact wpAny_isNot_plain p (e2▸H.here I zx6.bool)
end
section
variable {X:List Addr} {ι ι':Lay} {σ:zz0} {s s':Shared} {A:Around} {Q:QV0} {QX:QA0} {E:QV0}
theorem zq2.get {l:List V}:∀ {vs:List Value} {h:Heap} {j:Nat} {v:V},zq2 ι h l vs->l[j]?=some v->∃ x,vs[j]?=some x/\Rel ι h v x:=by
 induction l with
 | nil=>exact fun U e=>zz7 e
 | cons a l ih=>
  intro vs h j v r e;refine el22 r fun x u q p r2=>?_;subst q;cases j with
  | zero=>exact ⟨x,rfl,Option.some.inj e▸p⟩
  | succ j=>have:=ih r2 e;exact this
theorem xv2 {k:Int} {n j:Nat} (e:zg9 k n=some j):-(2 ^ 63)<=k/\seqIndex? k n=some j/\j < n/\-(n:Int)<=k/\k < 2 ^ 63/\(0<=k->k.toNat=j)/\(k < 0->(k + n).toNat=j):=by
 unfold zg9 at e;by_cases h:n<=SL
 ·rw [if_pos h] at e
  have hN:(n:Int)<=(16777216:Nat):=ix6.mpr h;have lo:-(n:Int)<=k->-(2 ^ 63)<=k:=iw8 (Int.neg_le_neg (iw8 hN (by decide)));have hi:k < n->k < 2 ^ 63:=fun z=>ox5 z (iw8 hN (by decide));refine hid fun G kG=>?_;have e0:=e;unfold seqIndex? at e;dsimp only at e;by_cases h0:k < 0
  ·rw [if_pos h0] at e
   by_cases q:(decide (0<=k + (n:Int))&&decide (k + (n:Int) < (n:Int)))=true
   ·rw [if_pos q] at e
    have q:=(iq5 _ _).mp q;have q1:=of_decide_eq_true q.1;have e:=Option.some.inj e;have a:-(n:Int)<=k:=Int.le_of_sub_nonneg (Int.sub_neg k n▸q1);exact kG ⟨lo a,e0,e▸(Int.toNat_lt q1).mpr (of_decide_eq_true q.2),a,Int.lt_trans h0 (by decide),fun z=>absurd h0 (iv2.mpr z),fun U=>e⟩
   ·rw [if_neg q] at e;cases e
  ·rw [if_neg h0] at e
   by_cases q:(decide (0<=k)&&decide (k < (n:Int)))=true
   ·rw [if_pos q] at e
    have q:=(iq5 _ _).mp q;have q1:=of_decide_eq_true q.1;have q2:=of_decide_eq_true q.2;have e:=Option.some.inj e;have a:-(n:Int)<=k:=iw8 (Int.neg_nonpos_of_nonneg (iw4 n)) q1;exact kG ⟨lo a,e0,e▸(Int.toNat_lt q1).mpr q2,a,hi q2,fun U=>e,fun z=>absurd z h0⟩
   ·rw [if_neg q] at e;cases e
 ·rw [if_neg h] at e;cases e
theorem xj0 (y:List Nat) (v:V) {h:Heap} (ks:List V):∀ (vs:List V) (es:List DictEntry),yw9 ks es->zq2 ι h vs (es.map (fun U=>U.val))->wp4 ks vs y=some v->
 ∃ x,(es.find? fun d=>Value.isStrOf ⟨y.toArray⟩ d.key).map (fun U=>U.val)=some x/\Rel ι h v x:=by
 induction ks with
 | nil=>exact fun U U U U e=>zz7 e
 | cons k ks ih=>
  intro vs es r q e;refine el44 r fun e' r' l t e1 e2 hk U hr=>?_;subst e1;subst e2;cases vs with
  | nil=>exact zz7 e
  | cons u vs=>
   have e:(if l == y then some u else wp4 ks vs y)=some v:=e;refine el22 q fun x us e3 p1 p2=>?_;have e4:=List.cons.inj e3;rw [oq7,hk,show Value.isStrOf ⟨y.toArray⟩ (.str ⟨l.toArray⟩ t)=(l == y) from wj9 l y];cases z:l == y with
   | true=>rw [z] at e;exact ⟨x,congrArg some e4.1,Option.some.inj e▸p1⟩
   | false=>rw [z] at e;exact ih vs r' hr (e4.2▸p2) e
noncomputable def yp7 (e:Expr):Prop:=∀ a b c p,e≠.Slice a b c p
theorem zx5 {e:Expr} (h:yp7 e) (o i:Value):subscripted e false o i=operate [o,i] (getItem o i):=by
 cases e <;> first|rfl|exact absurd rfl (h _ _ _ _)
theorem qz5 {l:List V} {k:Int} {R:Lay->Heap->V->Value->Prop} {Q:QV0} (H:zz3 R X (atP l k σ) ι s Q QX E):∃ j v,zg9 k l.length=some j/\l[j]?=some v/\zz3 R X (.ok v σ) ι s Q QX E:=by
 refine el11 (zz3.liftO H) fun v e H=>?_;refine el11 (ox1.mp e) fun j e1 e2=>?_;exact ⟨j,v,e1,e2,H⟩
theorem item_ok {value slice:Expr} {a b:V} {x y:Value} (hn:yp7 slice) (I:Inv ι σ s) (ra:Rel ι s.heap a x) (rb:Rel ι s.heap b y)
 (H:zz3 (zx6) X (zv7 a b σ) ι s Q QX E):wpAny (model P w) A (subscriptTail value slice x y) Q E s:=by
 unfold zv7 at H;refine ocs (zj9 b) (fun ek=>?_) fun k ek=>?_
 ·replace H:=ek▸H
  refine el11 (zz3.opt H) fun m em H=>?_;refine el11 (zz3.opt H) fun l el H=>?_;refine zz9 (zz3.ifn H) fun hne H=>?_;refine el11 (zz3.liftO H) fun v e H=>?_;rw [yg2 em] at ra;refine el11 ra fun d eq q=>?_;subst eq;refine rb.os el fun u=>?_;rcases q with q|⟨es,n,q1,q1',q2,q3⟩
  ·rw [q] at hne;exact absurd rfl hne
  ·refine el11 (xj0 l v m.1 m.2 es q2 q3 e) fun x g1 g2=>?_
   have hm:=wp3 I q1 q2;refine tail_any hm.typeIs slot_dict_getitem.lookup (wpAny_getItem_of (strKind_is P w _ u) hm ?_ (H.now I g2)) (zx5 hn _ _);unfold findBy;rw [List.find?_toArray];exact g1
 ·rw [ek] at H
  refine rb.oi ek fun u=>?_;refine zz3.ot H ra (fun l t vs T r H=>?_) fun H=>zz3.ol I H ra (fun i l xa va na U ga r hL H=>?_) fun H=>zz3.os H ra (fun l t H=>?_) False.elim
  ·refine el22 (qz5 H) fun j v e1 e2 H=>?_
   refine el06 (xv2 e1) fun h1 h2 h3 h4 h5 h6 h7=>?_;refine el11 (r.get e2) fun x g1 g2=>?_;exact item_tupleT T h1 h5 (r.length.symm▸h2) g1 (H.here I g2) (zx5 hn _ _)
  ·refine el22 (qz5 H) fun j v e1 e2 H=>?_
   refine el06 (xv2 e1) fun h1 h2 h3 h4 h5 h6 h7=>?_;refine el11 (r.get e2) fun x g1 g2=>?_;have hz:=r.length;refine tail_any hL.typeIs slot_list_getitem.lookup ?_ (zx5 hn _ _);by_cases hk:0<=k
   ·exact wpAny_getItem_list hL hk h5 (by rw [h6 hk,oq3];exact g1) (H.here I g2)
   ·exact wpAny_getItem_list_neg hL (Int.not_le.mp hk) (by rw [iz1,hz];exact h4) h1 (by rw [iz1,hz,h7 (Int.not_le.mp hk),oq3];exact g1) (H.here I g2)
  ·refine el11 (zz3.liftO H) fun v e H=>?_
   refine el11 (ix1.mp e) fun c e' eq=>?_;subst eq;refine el11 (ox1.mp e') fun j e1 e2=>?_;refine el06 (xv2 e1) fun h1 h2 h3 h4 h5 h6 h7=>?_;refine tail_any (typeIs_str _ _ _) PySem.F.slot_str_getitem.lookup (P.getItem_str (fits h1 h5) ?_ (H.now I zx6.str)) (zx5 hn _ _);rw [zv6,h2];exact (oq3 ..).trans e2
end
theorem xq7 {α:Type} (l:List α) (a b:Nat) (hb:b<=l.length):(sliceRange (a:Int) (b:Int) 1).filterMap (fun U=>l[U]?)=(l.take b).drop a:=by
 unfold sliceRange;simp only [show ((1:Int) > 0)=True from by decide,if_true];by_cases h:(a:Int) < b
 ·have e3:(((b:Int) - a + 1 - 1) / 1).toNat=b - a:=by simp
  simp only [h,if_true,e3];have e4:(List.range (b - a)).map (fun (k:Nat)=>((a:Int) + 1 * (k:Int)).toNat)=(List.range (b - a)).map (fun k=>a + k):=List.map_congr_left fun k U=>congrArg (a + ·) (Nat.one_mul k);rw [e4,StrLaws.picks l (b - a) a (iq2 (ij3 (Nat.add_sub_cancel' (oz9 (ik6.mp h)))) hb),List.drop_take]
 ·simp only [h,if_false]
  exact (List.drop_eq_nil_of_le (iq2 (List.length_take_le _ _) (ix6.mp (iv2.mp h)))).symm
theorem zh6 (i:Int) (n:Nat):max 0 (min (if i < 0 then i + (n:Int) else i) (n:Int))=((zb2 i n:Nat):Int):=by
 unfold zb2;cases i with
 | ofNat m=>
  have z:¬ (Int.ofNat m < 0):=iv2.mpr (Int.ofNat_zero_le m);rw [if_neg z,if_neg z];exact (congrArg (max 0) (cmin m n).symm).trans (Int.max_eq_right (iw4 _))
 | negSucc m=>
  have z:=Int.negSucc_lt_zero m;rw [if_pos z,if_pos z,Int.ofNat_toNat,Int.max_comm];exact congrArg (max · 0) (Int.min_eq_left (iw8 (Int.add_le_add_right (oz1 z) n) (Int.le_of_eq (Int.zero_add _))))
theorem cutTo_le (i:Int) (n:Nat):zb2 i n<=n:=by
 unfold zb2;by_cases h:i < 0
 ·rw [if_pos h];exact Int.toNat_le.mpr (iw8 (Int.add_le_add_right (oz1 h) n) (Int.le_of_eq (Int.zero_add _)))
 ·rw [if_neg h];exact ox3 _ _
noncomputable def cut (o:Option Int) (d n:Nat):Nat:=o.elim d fun k=>zb2 k n
theorem uf3 {o:Option Int} {d n:Nat} (h:d<=n):cut o d n<=n:=by
 cases o with
 | none=>exact h
 | some i=>exact cutTo_le i n
theorem up8 (lo hi:Option Int) (n:Nat):sliceBounds lo hi none n=((cut lo 0 n:Int),(cut hi n n:Int),1):=by
 cases lo <;> cases hi
 ·rfl
 ·exact congrArg (fun z:Int=>((0:Int),z,(1:Int))) (zh6 _ n)
 ·exact congrArg (fun z:Int=>(z,(n:Int),(1:Int))) (zh6 _ n)
 ·exact (congrArg (fun z:Int=>(z,_,(1:Int))) (zh6 _ n)).trans (congrArg (fun z:Int=>(_,z,(1:Int))) (zh6 _ n))
theorem vf9 (lo hi:Option Int) (n:Nat):Builtin.Str.strSliceIndices lo hi 1 n=sliceRange (cut lo 0 n) (cut hi n n) 1:=by
 cases lo <;> cases hi
 ·rfl
 ·exact congrArg (fun z:Int=>sliceRange 0 z 1) (zh6 _ n)
 ·exact congrArg (fun z:Int=>sliceRange z n 1) (zh6 _ n)
 ·exact (congrArg (fun z:Int=>sliceRange z _ 1) (zh6 _ n)).trans (congrArg (fun z:Int=>sliceRange _ z 1) (zh6 _ n))
theorem xf0 (l:List Value) (lo hi:Option Int):slicePick l.toArray lo hi none=(zj4 l lo hi).toArray:=by
 unfold slicePick;rw [iz1,up8];have e:(fun (i:Nat)=>l.toArray[i]?)=fun i=>l[i]?:=funext fun i=>oq3 ..;refine e.symm▸?_;exact congrArg List.toArray (xq7 l _ _ (uf3 (iq1 _)))
theorem zq2.slice {ι:Lay} {h:Heap} {l:List V} {vs:List Value} (r:zq2 ι h l vs) (lo hi:Option Int):zq2 ι h (zj4 l lo hi) (zj4 vs lo hi):=by
 have hz:=r.length;unfold zj4;refine (hz).symm▸?_;have tk:∀ (n:Nat) (l:List V) (vs:List Value),zq2 ι h l vs->zq2 ι h (l.take n) (vs.take n):=by
  intro n;induction n with
  | zero=>intro l vs _;exact rfl
  | succ n ih=>
   intro l vs r;cases l with
   | nil=>subst r;exact rfl
   | cons x l=>
    refine el22 r fun v u eq1 p q=>?_;subst eq1;exact ⟨v,_,rfl,p,ih l u q⟩
 have dr:∀ (n:Nat) (l:List V) (vs:List Value),zq2 ι h l vs->zq2 ι h (l.drop n) (vs.drop n):=by
  intro n;induction n with
  | zero=>intro l vs r;exact r
  | succ n ih=>
   intro l vs r;cases l with
   | nil=>subst r;exact rfl
   | cons x l=>
    refine el22 r fun v u eq2 p q=>?_;subst eq2;exact ih l u q
 exact dr _ _ _ (tk _ _ _ r)
section
variable {X:List Addr} {ι ι':Lay} {σ:zz0} {s s':Shared} {A:Around} {Q:QV0} {QX:QA0} {E:QV0}
noncomputable def xp0:Option Int->Value->Prop
 | Option.none,v=>v=.none
 | some i,v=>∃ t,v=.int i t
theorem xp0.isPart {o:Option Int} {v:Value} (h:xp0 o v):IsPart v o:=by
 cases o with
 | none=>unfold xp0 at h;subst h;exact .none
 | some i=>obtain ⟨t,rfl⟩:=h;exact .int _ _
theorem Inv.newList (I:Inv ι σ s) {l:List V} {vs:List Value} (r:zq2 ι s.heap l vs) (t:Nat) :
 Inv (ι++[(s.heap.objs.size,s.heap.objs.size)]) (σ++[.lst l]) { s with heap:=s.heap.push { cls:=.type "list",data:=.seq vs.toArray },toks:=t }/\
 Nx [] ι (ι++[(s.heap.objs.size,s.heap.objs.size)]) s.heap (s.heap.push { cls:=.type "list",data:=.seq vs.toArray })/\
 Rel (ι++[(s.heap.objs.size,s.heap.objs.size)]) (s.heap.push { cls:=.type "list",data:=.seq vs.toArray }) (.loc σ.length) (.ref s.heap.objs.size):=by
 have N:Nx [] ι (ι++[(s.heap.objs.size,s.heap.objs.size)]) s.heap (s.heap.push { cls:=.type "list",data:=.seq vs.toArray }):=
  Nx.ext (by rw [Heap.size_push];exact l10 0x13717) (fun b o q=>Heap.get?_push_of_some _ q) (by intro p hp;rw [iq4] at hp;subst hp;exact ⟨iq1 _,iq1 _⟩)
 exact I.alloc (o:=.lst l) (by rw [Heap.size_push];exact l10 0x13717) (fun b o q=>Heap.get?_push_of_some _ q) ⟨iq1 _,iq1 _⟩ t
  ⟨rfl,vs,0,Heap.get?_push_size _ rfl,r.nx I (zq1 _) N⟩
theorem vf8 (l:List Nat) (lo hi:Option Int):(Builtin.Str.strSliceIndices lo hi 1 l.length).filterMap ((⟨l.toArray⟩:Str).cps[·]?)=zj4 l lo hi:=by
 have e:(fun (i:Nat)=>(⟨l.toArray⟩:Str).cps[i]?)=fun i=>l[i]?:=funext fun i=>oq3 ..;rw [e,vf9];exact xq7 l _ _ (uf3 (iq1 _))
theorem vk5 {α:Type} (l:List α) (lo hi:Option Int):(zj4 l lo hi).length<=l.length:=iq2 (List.drop_sublist _ _).length_le (List.take_sublist _ _).length_le
theorem xk9 {α:Type} {l:List α} {lo hi:Option Int} (h:(zj4 l lo hi).length=l.length):zj4 l lo hi=l:=by
 have hs:(zj4 l lo hi).Sublist l:=by
  exact (List.drop_sublist _ _).trans (List.take_sublist _ _)
 exact hs.eq_of_length h
theorem uq0 (a b:Nat):(sliceRange (a:Int) (b:Int) 1).length=b - a:=by
 unfold sliceRange;simp only [show ((1:Int) > 0)=True from by decide,if_true,iq9,List.length_range];by_cases h:(a:Int) < b
 ·simp only [h,if_true];simp
 ·simp only [h,if_false];exact (Nat.sub_eq_zero_of_le (ix6.mp (iv2.mp h))).symm
theorem wy3 (l:List Nat) (lo hi:Option Int):(Builtin.Str.strSliceIndices lo hi 1 l.length).length=(zj4 l lo hi).length:=by
 rw [vf9,uq0];refine Eq.trans ?_ iw1.symm;exact congrArg (fun U=>U - cut lo 0 l.length) ((Nat.min_eq_left (uf3 (iq1 _))).symm.trans List.length_take.symm)
end
section
variable {A:Around} {E:QV0} {s:Shared}
theorem zb3 {v:Value} {o:Option Int} {Q:Option Int->Shared->Prop} (h:IsPart v o) (q:Q o s):wpAny (model P w) A (Builtin.Slice.slicePartIndex v) Q E s:=by
 cases h with
 | none=>exact slicePart_none q
 | int i t=>exact slicePart_int q
theorem yf1 {sl:Addr} {vl vu vs:Value} {lo hi st:Option Int} {n:Nat} {Q:Int×Int×Nat->Shared->Prop} (hs:s.heap.IsSliceOf sl vl vu vs) (pl:IsPart vl lo) (pu:IsPart vu hi) (ps:IsPart vs st) (h0:st.getD 1≠0)
 (h:Q ((Builtin.Slice.sliceAdjust lo hi (st.getD 1) (n:Int)).1,st.getD 1,Builtin.Slice.slicePlaces (Builtin.Slice.sliceAdjust lo hi (st.getD 1) (n:Int)).1 (Builtin.Slice.sliceAdjust lo hi (st.getD 1) (n:Int)).2 (st.getD 1)) s) :
 wpAny (model P w) A (Builtin.Slice.sliceApplied (.ref sl) (pure (n:Int))) Q E s:=by
 refine el12 (id hs) fun os hos hcs hds=>?_;refine wpAny_bind (wpAny_bind (wpAny_field hos hds (x:=vl) rfl (wpAny_bind (wpAny_field hos hds (x:=vu) rfl (wpAny_bind (wpAny_field hos hds (x:=vs) rfl (wpAny_pure ?_)))))));refine wpAny_bind (zb3 ps ?_);rw [if_neg (by simpa using h0)];exact wpAny_bind (zb3 pl (wpAny_bind (zb3 pu (wpAny_bind (wpAny_pure (wpAny_pure h))))))
theorem zg5 {t sl:Addr} {items:Array Value} {vl vu vs:Value} {lo hi st:Option Int} {Q:QV0} (ht:IsTup s.heap t items) (hs:s.heap.IsSliceOf sl vl vu vs) (pl:IsPart vl lo) (pu:IsPart vu hi) (ps:IsPart vs st) (h0:st.getD 1≠0)
 {a k:Int} {c:Nat} (hk:st.getD 1=k) (ha:(Builtin.Slice.sliceAdjust lo hi k (items.size:Int)).1=a) (hc:Builtin.Slice.slicePlaces a (Builtin.Slice.sliceAdjust lo hi k (items.size:Int)).2 k=c)
 (h1:(a == 0&&k == 1&&c == items.size)=true->Q (.ref t) s)
 (h2:(a == 0&&k == 1&&c == items.size)=false->Q (.ref s.heap.objs.size) { s with heap:=s.heap.push { cls:=.type "tuple",data:=.seq ((List.range c).filterMap fun (j:Nat)=>items[(a + (j:Int) * k).toNat]?).toArray }})
 (hsz:items.size<=sizeLine) (hcz:c<=items.size):wpAny (model P w) A (getItem (.ref t) (.ref sl)) Q E s:=by
 have hdrop:sizeOk (.seq ((List.range c).filterMap fun (j:Nat)=>items[(a + (j:Int) * k).toNat]?).toArray):=by
  refine (?_:(((List.range c).filterMap fun (j:Nat)=>items[(a + (j:Int) * k).toNat]?).toArray).size<=sizeLine);rw [iz1];have:=List.length_filterMap_le (fun (j:Nat)=>items[(a + (j:Int) * k).toNat]?) (List.range c);rw [List.length_range] at this;exact l43 0xa719a189187 hsz hcz this
 refine el12 (id hs) fun os hos hcs hds=>?_;have hTs:s.TypeIs (.ref sl) "slice":=⟨os,hos,hcs⟩;unfold getItem
 try with_reducible refine wpAny_holding ?_
 first|refine wpAny_bind (wpAny_pure ?_)|skip
 refine wpAny_bind (wpAny_sequenceKey ht.typeIs (rfl) ?_);refine wpAny_bind (wpAny_callSpecial?_slot (name:=Str.ofString "__getitem__") ht.typeIs slot_tuple_getitem
  (wpAny_call_entry slot_tuple_getitem ht.typeIs entry_tuple_getitem ?_ (args_tuple_getitem _ _)))
 refine (?_:wpAny _ _ (Builtin.Tuple.tupleItemsOf (.ref t) >>= _) _ _ s);refine wpAny_bind (tupleItemsOf_ ht ?_);refine wpAny_bind (wpAny_typeOf hTs ?_);refine wpAny_bind (yf1 hs pl pu ps h0 ?_);refine hk.symm▸ha.symm▸hc.symm▸?_;refine (?_:wpAny _ _ (if (a == 0&&k == 1&&c == items.size)=true then _ else _) _ _ s);cases hq:(a == 0&&k == 1&&c == items.size) with
 | true=>
  have h:=h1 hq;refine wpAny_bind (wpAny_bind (wpAny_typeOf ht.typeIs (wpAny_pure ?_)));first
   | (exact wpAny_bind (wpAny_rule (wpAny_pure ⟨_,rfl,wpAny_pure h⟩)))
   | trace_state
 | false=>
  have h:=h2 hq;first
   | exact wpAny_bind (m:=Builtin.Tuple.tupleExact _) (wpAny_newObj_type (wpAny_pure ⟨_,rfl,wpAny_pure h⟩) hdrop)
   | exact wpAny_bind (m:=Builtin.Tuple.tupleExact _) (wpAny_newObj_type (wpAny_bind (wpAny_pure (wpAny_pure ⟨_,rfl,wpAny_pure h⟩))) hdrop)
   | exact wpAny_bind (wpAny_bind (m:=Builtin.Tuple.tupleExact _) (wpAny_newObj_type (wpAny_pure (wpAny_pure ⟨_,rfl,wpAny_pure h⟩)) hdrop))
   | exact wpAny_bind (wpAny_bind (m:=Builtin.Tuple.tupleExact _) (wpAny_newObj_type (wpAny_pure ⟨_,rfl,wpAny_pure h⟩) hdrop))
end
theorem pickTo {α:Type} (l:List α) (c:Nat) (h:c<=l.length):((List.range c).filterMap fun (j:Nat)=>l.toArray[((0:Int) + (j:Int) * 1).toNat]?)=l.take c:=by
 have:=StrLaws.picks l c 0 (l21 0x87187031 h);rw [List.filterMap_map,List.drop_zero] at this;refine this▸?_;apply congrArg (fun f=>List.filterMap f (List.range c));funext j;simp
theorem pickRev {α:Type} (l:List α):((List.range l.length).filterMap fun (j:Nat)=>l.toArray[(((l.length:Int) - 1) + (j:Int) * (-1)).toNat]?)=l.reverse:=by
 have key:∀ c,c<=l.length->((List.range c).filterMap fun (j:Nat)=>l.toArray[(((l.length:Int) - 1) + (j:Int) * (-1)).toNat]?)=l.reverse.take c:=by
  intro c;induction c with
  | zero=>intro _;simp
  | succ c ih=>
   intro h;have h0:c < l.length:=by assumption
   rw [List.range_succ,List.filterMap_append,ih (l21 0x81371187 h),List.take_add_one];have e:((l.length:Int) - 1 + (c:Int) * (-1)).toNat=l.length - 1 - c:=by
    rw [Int.mul_neg,Int.mul_one,Int.add_neg_eq_sub,Int.sub_sub,Nat.sub_sub];exact Int.toNat_sub l.length (1 + c)
   have e2:l.toArray[((l.length:Int) - 1 + (c:Int) * (-1)).toNat]?=l.reverse[c]?:=by
    rw [e,List.getElem?_reverse h0];simp
   simp only [oq8,List.filterMap_nil,e2];rfl
 rw [key _ (iq1 _),oq1 (by simp)]
section
variable {X:List Addr} {ι ι':Lay} {σ:zz0} {s s':Shared} {A:Around} {Q:QV0} {QX:QA0} {E:QV0}
theorem Inv.newTup (I:Inv ι σ s) {l:List V} {vs:List Value} (r:zq2 ι s.heap l vs) (t:Nat) :
 Inv ι σ { s with heap:=s.heap.push { cls:=.type "tuple",data:=.seq vs.toArray },toks:=t }/\
 Nx X ι ι s.heap (s.heap.push { cls:=.type "tuple",data:=.seq vs.toArray })/\
 Rel ι (s.heap.push { cls:=.type "tuple",data:=.seq vs.toArray }) (.tup l) (.ref s.heap.objs.size):=by
 obtain ⟨I',N⟩:=I.more (h':=s.heap.push { cls:=.type "tuple",data:=.seq vs.toArray }) (by rw [Heap.size_push];exact l10 0x13717) (fun b o q=>Heap.get?_push_of_some _ q) t;refine ⟨I',N.weaken (fun U q=>nomatch q),?_⟩;exact ⟨_,vs,rfl,⟨_,Heap.get?_push_size _ rfl,rfl,_,rfl⟩,r.nx I (zq1 _) N⟩
theorem zq2.reverse {h:Heap}:∀ {l:List V} {vs:List Value},zq2 ι h l vs->zq2 ι h l.reverse vs.reverse:=by
 intro l;induction l with
 | nil=>
  intro U r;subst r;exact rfl
 | cons x0 r0 ih0=>
  intro U r;refine el22 r fun v u eq1 a b=>?_;subst eq1;rw [List.reverse_cons,List.reverse_cons];refine (ih0 b).append ?_;exact ⟨v,[],rfl,a,rfl⟩
theorem wj6 {l:List V} {k:Int} {t sl:Addr} {vs:List Value} {vu:Value} (I:Inv ι σ s) (T:IsTup s.heap t vs.toArray) (r:zq2 ι s.heap l vs) (hs:s.heap.IsSliceOf sl .none vu .none) (pu:xp0 (some k) vu)
 (hz:l.length<=SL) (h0:0<=k) (H:zz3 (zx6) X (.ok (.tup (zj4 l Option.none (some k))) σ) ι s Q QX E):wpAny (model P w) A (getItem (.ref t) (.ref sl)) Q E s:=by
 have e0:vs.toArray.size=vs.length:=iz1 ..;have hl:=r.length;have nk:¬ (k < 0):=iv2.mpr h0;have ha:Builtin.Slice.sliceAdjust none (some k) 1 (vs.toArray.size:Int)=(0,((min k.toNat vs.length:Nat):Int)):=by
  unfold Builtin.Slice.sliceAdjust;simp only [nk];refine Prod.ext rfl ?_;exact ((cmin k.toNat vs.length).trans (congrArg (min · _) (Int.toNat_of_nonneg h0))).symm
 have hc:Builtin.Slice.slicePlaces 0 ((min k.toNat vs.length:Nat):Int) 1=min k.toNat vs.length:=by
  unfold Builtin.Slice.slicePlaces;simp only [show ((1:Int) > 0) from by decide,if_true];by_cases q:(0:Int) < ((min k.toNat vs.length:Nat):Int)
  ·rw [if_pos q,Int.ediv_one,Int.sub_zero,Int.sub_add_cancel];rfl
  ·rw [if_neg q];exact (Nat.le_zero.mp (ix6.mp (iv2.mp q))).symm
 have hp:∀ {α:Type} (x:List α),x.length=l.length->zj4 x Option.none (some k)=x.take (min k.toNat vs.length):=by
  intro α x hx;show (x.take (zb2 k x.length)).drop 0=_;unfold zb2;rw [if_neg nk,List.drop_zero,hx,hl]
 refine zg5 (a:=0) (k:=1) (c:=min k.toNat vs.length) T hs .none pu.isPart .none (by decide) rfl (by rw [ha]) ((ha)▸hc) (fun q=>?_) (fun U=>?_) (by rw [e0,zw5,hl];exact hz) ((e0)▸ox3 _ _)
 ·refine H.here I ?_
  simp only [iq5,beq_iff_eq,e0] at q;rw [hp l rfl,q.2,hl,List.take_length];exact ⟨t,vs,rfl,T,r⟩
 ·rw [pickTo _ _ (ox3 _ _)]
  have R':=r.slice Option.none (some k);rw [hp vs hl] at R';refine zg6 (I.newTup (X:=X) R' s.toks) fun I' N' R2=>?_;exact H _ _ _ N' I' R2
theorem vg3 {l:List V} {t sl:Addr} {vs:List Value} {vu:Value} (I:Inv ι σ s) (T:IsTup s.heap t vs.toArray) (r:zq2 ι s.heap l vs) (hs:s.heap.IsSliceOf sl .none .none vu) (pu:xp0 (some (-1)) vu)
 (hz:l.length<=SL) (H:zz3 (zx6) X (.ok (.tup l.reverse) σ) ι s Q QX E):wpAny (model P w) A (getItem (.ref t) (.ref sl)) Q E s:=by
 have e0:vs.toArray.size=vs.length:=iz1 ..;have hl:=r.length;have hc:Builtin.Slice.slicePlaces ((vs.length:Int) - 1) (-1) (-1)=vs.length:=by
  unfold Builtin.Slice.slicePlaces;simp only [show ¬ ((-1:Int) > 0) from by decide,if_false];by_cases q:((vs.length:Int) - 1) > -1
  ·rw [if_pos q]
   show (((vs.length:Int) - 1 - -1 - 1) / 1 + 1).toNat=_;rw [Int.ediv_one,Int.sub_neg,Int.sub_add_cancel,Int.sub_add_cancel];rfl
  ·rw [if_neg q];exact (Nat.le_zero.mp (ix6.mp (Int.le_of_sub_one_lt (iv9 (iv2.mp q) (by decide))))).symm
 refine zg5 (a:=(vs.length:Int) - 1) (k:=-1) (c:=vs.length) T hs .none .none pu.isPart (by decide) rfl (by rw [e0];rfl) ((e0)▸hc) (fun q=>?_) (fun U=>?_) (by rw [e0,zw5,hl];exact hz) ((e0)▸iq1 _)
 ·simp at q
 ·rw [pickRev]
  refine zg6 (I.newTup (X:=X) r.reverse s.toks) fun I' N' R2=>?_;exact H _ _ _ N' I' R2
set_option tactic.hygienic true in
theorem slice_ok {a:V} {x vl vu:Value} {lo hi:Option Int} {sl:Addr} (I:Inv ι σ s) (ra:Rel ι s.heap a x) (hs:s.heap.IsSliceOf sl vl vu .none) (pl:xp0 lo vl) (pu:xp0 hi vu)
 (H:zz3 (zx6) X (zy6 a lo hi σ) ι s Q QX E):wpAny (model P w) A (getItem x (.ref sl)) Q E s:=by
 have lst:∀ {xa:Addr} {va:List Value} {l:List V},s.heap.IsList xa va.toArray->zq2 ι s.heap l va->zz3 (zx6) X (if l.length<=SL then .ok (.loc σ.length) (σ++[.lst (zj4 l lo hi)]) else .bad) ι s Q QX E->wpAny (model P w) A (getItem (.ref xa) (.ref sl)) Q E s:=fun {xa va l} hL r H=>by
  refine zz9 (zz3.ifp H) fun hz H=>?_;refine wpAny_getItem_list_slice hL hs pl.isPart pu.isPart .none (by decide) ?_ (by rw [iz1,r.length,zw5];exact hz);rw [xf0];refine zg6 (I.newList (r.slice lo hi) s.toks) fun I' N' R'=>?_;exact H _ _ _ (N'.weaken fun U q=>nomatch q) I' R'
 refine zz3.os H ra (fun l t H=>?_) fun H=>zz3.ol I H ra (fun i l xa va na U ga r hL H=>lst hL r H) fun H=>?_
 ·refine zz9 (zz3.ifp H) fun hz H=>?_
  obtain ⟨pl',hl⟩:∃ pl':Option (Int×Tok),vl=partValue pl'/\pl'.map (fun U=>U.1)=lo:=by
   cases lo with
   | none=>exact ⟨none,pl,rfl⟩
   | some i=>obtain ⟨t,e⟩:=pl;exact ⟨some (i,t),e,rfl⟩
  obtain ⟨pu',hu⟩:∃ pl':Option (Int×Tok),vu=partValue pl'/\pl'.map (fun U=>U.1)=hi:=by
   cases hi with
   | none=>exact ⟨none,pu,rfl⟩
   | some i=>obtain ⟨t,e⟩:=pu;exact ⟨some (i,t),e,rfl⟩
  have hsl:s.heap.IsSlice sl pl' pu' none:=by
   refine el12 hs fun o h1 h2 h3=>?_;exact ⟨o,h1,h2,by rw [h3,hl.1,hu.1];rfl⟩
  refine wpAny_getItem_str_slice hsl rfl ?_
  delta sliceMade slicePicked
  refine hl.2.symm▸hu.2.symm▸?_;simp only [Option.map_none,Option.getD_none,zv6];split
  ·rename_i hc
   refine (show Q _ s from H.here I ?_);refine ⟨t,?_⟩;simp only [beq_self_eq_true,iw5,beq_iff_eq] at hc;rw [wy3] at hc;rw [xk9 hc]
  ·rw [vf8]
   refine ⟨?_,H.now I zx6.str⟩;exact iq2 (vk5 _ _ _) hz
 ·refine ocs (asFz a) (fun ef=>?_) fun l ef=>?_
  ·replace H:=ef▸H
   cases lo with
   | some _=>exact zz3.ot H ra (fun l t vs T r H=>False.elim H) False.elim
   | none=>cases hi with
    | none=>exact zz3.ot H ra (fun l t vs T r H=>False.elim H) False.elim
    | some k=>
     refine zz3.ot H ra (fun l t vs T r H=>?_) False.elim;refine zz9 (zz3.ifp H) fun hc H=>?_;cases (show vl=.none from pl);exact wj6 I T r hs pu hc.1 hc.2 H
  ·rw [ef] at H
   rw [qz7 ef] at ra;refine el44 ra fun xa xo va na eq5 q q1 q2 r=>?_;subst eq5;exact lst ⟨_,I.keep _ _ q,q1,_,q2⟩ r H
end
section
variable {X:List Addr} {ι ι':Lay} {σ:zz0} {s s':Shared} {A:Around} {Q:QV0} {QX:QA0} {E:QV0}
theorem vk0 {h:Heap} {l:List V} {vs:List Value} (r:zq2 ι h l vs):vs.isEmpty=l.isEmpty:=by
 have hl:=r.length;cases l <;> cases vs <;> first|rfl|(simp at hl)
theorem yy4 {a:V} {x:Value} {b:Bool} {QB:Bool->Shared->Prop} (I:Inv ι σ s) (ra:Rel ι s.heap a x) (e:zv5 a σ=some b)
 (h:∀ t,QB b { s with toks:=t }):wpAny (model P w) A (truthy x) QB E s:=by
 have h0:QB b s:=h s.toks;unfold zv5 at e;cases ea:zj8 a with
 | some i=>
  rw [ea] at e;refine oe e fun l e2 e=>?_;refine zz9 (ifs e) fun hz e=>?_;refine I.ol ea e2 ra fun xa vs n U U r hL=>?_;refine wpAny_truthy_list hL (by rw [iz1,r.length];exact hz) ?_;rw [List.isEmpty_toArray,vk0 r,e];exact h _
 | none=>
  rw [ea] at e;cases a <;> first|exact zz7 e|skip
  case none=>cases ra;cases Option.some.inj e;exact truthy_none h0
  case bool=>cases ra;cases Option.some.inj e;exact wpAny_truthy_bool h0
  case int=>obtain ⟨t,rfl⟩:=ra;cases Option.some.inj e;exact P.truthy_int h0
theorem unOp_ok {op:UnaryOp} {a:V} {x:Value} (I:Inv ι σ s) (ra:Rel ι s.heap a x)
 (H:zz3 (zx6) X (unOp op a σ) ι s Q QX E):wpAny (model P w) A (unaryOp op x) Q E s:=by
 cases op <;> first|exact False.elim H|skip
 case Not=>
  refine el11 (zz3.liftO H) fun v e H=>?_;refine el11 (ix1.mp e) fun b e1 q=>?_;subst q;exact not_of (yy4 I ra e1 fun t=>H.now I zx6.bool)
 case USub=>exact zz3.oi H ra (fun i t H=>P.neg_int (H.now I zx6.int)) False.elim
end
noncomputable def uh5 (K:Frag) (C:Addr) (n:Str):Bool:=findIn K (.ref C) n == some none&&takerIn K C n == some none
noncomputable def wg2 (K:Frag) (C:Addr):Bool:=plainGet K C ""&&hasDictIn K C&&plainOver K C&&findIn K (.ref C) "__setattr__" == some (some (.builtin "object.__setattr__"))
theorem vx1 (P:Params):(zw9.all fun q=>q.2 == 72||wg2 (K0 P) q.2)=true:=by rfl
theorem fld_good (P:Params):(zb1.all fun p=>zw9.all fun q=>p.1 != q.1||uh5 (K0 P) q.2 p.2)=true:=by rfl
theorem fld_of (P:Params) {c n:Str} {C:Addr} (h:zb1.contains (c,n)=true) (hc:(c,C)∈zw9) :
 findIn (K0 P) (.ref C) n=some none/\takerIn (K0 P) C n=some none/\plainGet (K0 P) C n=true/\hasDictIn (K0 P) C=true/\plainOver (K0 P) C=true/\findIn (K0 P) (.ref C) "__setattr__" = some (some (.builtin "object.__setattr__")):=by
 have hm:(c,n)∈zb1:=List.contains_iff_mem.mp h;have h1:=iz0.mp (iz0.mp (fld_good P) _ hm) _ hc;have h2:=iz0.mp (vx1 P) _ hc;have hg:c ≠ "GrammarFault":=by
  intro q;subst q;have:(zb1.all fun p=>p.1 != "GrammarFault")=true:=by rfl
  have:=iz0.mp this _ hm;simp at this
 have hC:(C == 72)=false:=by
  rw [beq_eq_false_iff_ne];intro q;subst q;have:(zw9.all fun p=>p.2 != 72||p.1 == "GrammarFault")=true:=by rfl
  have:=iz0.mp this _ hc;simp at this;exact hg this
 simp only [bne_self_eq_false,ox8] at h1;rw [hC,ox8] at h2;unfold uh5 at h1;unfold wg2 at h2;simp only [iq5,beq_iff_eq] at h1 h2;exact ⟨h1.1,h1.2,h2.1.1.1,h2.1.1.2,h2.1.2,h2.2⟩
section
variable {X:List Addr} {ι ι':Lay} {σ:zz0} {s s':Shared} {A:Around} {Q:QV0} {QX:QA0} {E:QV0}
theorem Inv.K (I:Inv ι σ s) (B:zf9):(K0 w.params).In s.heap:=fun a o e=>I.keep a o (B.K a o e)
theorem yp0 {x n:Str} {t:Tok}:(Value.str x t).isStr n=(x == n):=rfl
theorem vw8:∀ {f:List (Str×V)} {es:List DictEntry} {h:Heap} {n:Str} {v:V},zk8 ι h f es->f.lookup n=some v->∃ x,getL n es=some (some x)/\Rel ι h v x:=by
 intro f;induction f with
 | nil=>
  intro U U U U U e;cases e
 | cons p0 f ih0=>
  obtain ⟨y,u⟩:=p0;intro es h n v r e;refine el34 r fun d r' t eq1 hk U hr hf=>?_;subst eq1;unfold getL;rw [oq7,hk,yp0];rw [iz2] at e;by_cases q:y=n
  ·subst q
   simp at e;subst e;exact ⟨_,by simp,hr⟩
  ·have e1:(n == y)=false:=by simpa using fun z=>q z.symm
   have e2:(y == n)=false:=by simpa using q
   rw [e1] at e;refine (e2).symm▸?_;refine el11 (ih0 hf e) fun x g1 g2=>?_;refine ⟨x,?_,g2⟩;unfold getL at g1;cases z:r'.find? fun x=>x.key.isStr n with
   | some _=>rw [z] at g1;exact g1
   | none=>rw [z] at g1;simp only at g1;split at g1 <;> simp_all
theorem Rel.handed {h:Heap} {v u:V} {x:Value} (e:uj3 v=some u) (r:Rel ι h v x):u=v/\handedIn x=true:=by
 cases v
 case blt=>exact zz7 e
 all_goals refine ⟨(Option.some.inj e).symm,?_⟩;clear e
 case none|bool|typ=>cases r;rfl
 case int|str=>obtain ⟨t,rfl⟩:=r;rfl
 case tup|cls=>obtain ⟨_,_,rfl,_⟩:=r;rfl
 case loc|fn=>obtain ⟨_,_,_,rfl⟩:=r;rfl
 case map=>obtain ⟨_,rfl,_⟩:=r;rfl
 case clo|fz=>obtain ⟨_,_,_,_,rfl,_⟩:=r;rfl
theorem Inv.inst_of (I:Inv ι σ s) {i:Nat} {c:Str} {f:List (Str×V)} {x:Value} (e:σ[i]?=some (.inst c f)) (ra:Rel ι s.heap (.loc i) x) :
 ∃ a d C sl es n,x=.ref a/\ι[i]?=some (a,d)/\(c,C)∈zw9/\InstAt s.heap a ⟨.ref C,some d,.plain,sl⟩ C (some (dictOf es n))/\s.heap.get? d=some (dictOf es n)/\zk8 ι s.heap f es:=by
 refine hid fun G kG=>?_;refine el21 ra fun xa ya za eq2=>?_;subst eq2;refine el10 (I.objs _ _ e) fun pa pq2=>?_;obtain ⟨qa,C,sl,es,n,h1,h2,h3,h4⟩:=pq2;refine kG ?_;rw [qa] at za;cases za;exact ⟨_,_,C,sl,es,n,rfl,qa,h1,⟨h2,rfl,rfl,h3⟩,h3,h4⟩
theorem attr_ok {a:V} {x:Value} {name:Str} {ex:Bool} (B:zf9) (I:Inv ι σ s) (ra:Rel ι s.heap a x)
 (H:zz3 (zx6) X (wx7 a name σ) ι s Q QX E):wpAny (model P w) A (getAttr x name ex) Q E s:=by
 refine el11 (zz3.opt H) fun i ei H=>?_;refine el11 (zz3.opt H) fun p ea H=>?_;refine zz9 (zz3.ifp H) fun hf H=>?_;refine el11 (zz3.liftO H) fun u e H=>?_;refine el11 (ox1.mp e) fun v e1 e2=>?_;rw [yg3 ei] at ra;refine hid fun G kG=>?_;obtain ⟨xa,d,C,sl,es,n,rfl,_,hC,IA,hd,F⟩:=I.inst_of (wy2 ea) ra;refine el05 (fld_of w.params hf hC) fun h1 h2 h3 h4 h5 h6=>?_;refine el11 (vw8 F e1) fun y g1 g2=>?_;refine zz9 (g2.handed e2) fun eq4 hh=>?_;refine kG ?_;exact get_value (I.K B) IA (plainGet_of h3).1 (findObj_own h4 h1 rfl (by rw [lookIn_dict];exact g1)) hh (H.now I (eq4▸g2))
end
end
section
open PySem PySem.W PyProof.Rows PySem.Calls
section
variable {A:Around} {E:QV0} {s:Shared} {K:Frag} {x C dx:Addr} {ox:Obj} {es:List DictEntry} {n:Nat} {name:Str} {v:Value}
variable {R:Result->Shared->Prop}
set_option tactic.hygienic true in
theorem ux7 {tk:Tok} (X:K.In s.heap) (I:InstAt s.heap x ox C (some (dictOf es n))) (hd:ox.dict=some dx) (D:s.heap.get? dx=some (dictOf es n))
 (hp:plainOver K C=true) (ht:takerIn K C name=some none) (hh:hasDictIn K C=true) (hl:(getL name es).isSome=true)
 (hz:(putL name (PyData.keyHash w.params name) (.str name s.toks) v es).length<=1000)
 (h:∀ h',Heap.SameBut dx s.heap h'->h'.get? dx=some (dictOf (putL name (PyData.keyHash w.params name) (.str name s.toks) v es) (putN name es n))->R (.ok (.ret .none)) { s with heap:=h',toks:=s.toks + 1 }) :
 codeAny (model P w) A (.call (.builtin "object.__setattr__") ⟨[.ref x,.str name tk,v],[]⟩) R s:=by
 refine osa_open X I hp ht fun b=>?_;refine el10 (any_some hh) fun cd pq2=>?_;refine hid fun G kG=>?_;obtain ⟨hc,hd'⟩:=pq2;obtain ⟨hx,hcl,hn,-⟩:=I;obtain ⟨oc,odi,oda,osl⟩:=ox;refine kG ?_;dsimp only at hcl hd;subst hcl hd;refine wpAny_bind (wpAny_pure (wpAny_bind (wpAny_bind (wpAny_loadPart hx (wpAny_bind ((looks_clsIn X hc).here ?_))))));refine hd'.symm▸?_;refine wpAny_pure (a:=some dx) (wpAny_bind (wpAny_pure (wpAny_bind ?_)));unfold nsSet;refine wpAny_bind (wpAny_bind (wpAny_askSetting (wpAny_pure (wpAny_bind (wpAny_mkText (wpAny_bind (wpAny_loadPart D ?_)))))));dsimp only;have c:(!es.toArray.any (fun U=>U.key.isStr name)&&es.toArray.any (fun U=>U.refKey))=false:=by
  refine Array.any_toList▸Array.any_toList▸?_;unfold getL at hl;show (!es.any _&&es.any _)=false;split at hl
  ·rename_i en he
   rw [iw9.mpr ⟨en,List.mem_of_find?_eq_some he,List.find?_some he⟩];rfl
  ·split at hl
   ·nomatch hl
   ·rename_i z;rw [oz0] at z;rw [z,Bool.and_false]
 rw [aRefKeyMayBeTheName_at,c];refine wpAny_updatePart D ?_;have D':(s.heap.update dx (Obj.putName name (PyData.keyHash w.params name) (.str name s.toks) v)).get? dx=some (dictOf (putL name (PyData.keyHash w.params name) (.str name s.toks) v es) (putN name es n)):=by
  rw [<-putName_dict];exact Heap.get?_update_self _ D (by rw [putName_dict];rfl)
 refine wpAny_bind (wpAny_lookBehind D' (pastItsLine_dict (by rw [iz1,sizeLine_eq];exact l11 0x00003e8471131000000417 hz)) ?_);exact wpAny_pure (h _ (Heap.SameBut.update _ _ _) D')
theorem xk3 {Q:Unit->Shared->Prop} (X:K.In s.heap) (I:InstAt s.heap x ox C (some (dictOf es n))) (hd:ox.dict=some dx) (D:s.heap.get? dx=some (dictOf es n))
 (hs:findIn K (.ref C) "__setattr__" = some (some (.builtin "object.__setattr__"))) (hp:plainOver K C=true) (ht:takerIn K C name=some none) (hh:hasDictIn K C=true) (hl:(getL name es).isSome=true)
 (hz:(putL name (PyData.keyHash w.params name) (.str name (s.toks + 1)) v es).length<=1000)
 (h:∀ h',Heap.SameBut dx s.heap h'->h'.get? dx=some (dictOf (putL name (PyData.keyHash w.params name) (.str name (s.toks + 1)) v es) (putN name es n))->Q () { s with heap:=h',toks:=s.toks + 2 }) :
 wpAny (model P w) A (setAttr (.ref x) name v) Q E s:=
 set_plain X I hs (ux7 (s:={ s with toks:=s.toks + 1 }) X I hd D hp ht hh hl hz fun h' a b=>h h' a b)
end
section
variable {X:List Addr} {ι ι':Lay} {σ:zz0} {s s':Shared} {A:Around} {QX:QA0} {E:QV0}
theorem vw7:∀ {f:List (Str×V)} {es:List DictEntry} {h:Heap},zk8 ι h f es->es.length=f.length:=by
 intro f;induction f with
 | nil=>
  intro U U r;subst r;rfl
 | cons p0 f ih0=>
  obtain ⟨_,_⟩:=p0;intro U U r;obtain ⟨d,r',t,rfl,_,_,_,q⟩:=r;simp [ih0 q]
theorem wq1:∀ {f:List (Str×V)} {es:List DictEntry} {h:Heap},zk8 ι h f es->es.any (fun U=>U.refKey)=false:=by
 intro f;induction f with
 | nil=>
  intro U U r;subst r;rfl
 | cons p0 f ih0=>
  obtain ⟨_,_⟩:=p0;intro U U r;refine hid fun G kG=>?_;obtain ⟨d,r',t,rfl,hk,_,_,q⟩:=r;refine kG ?_;rw [ox7,ih0 q,Bool.or_false];unfold DictEntry.refKey;rw [hk]
theorem wh2 {f:List (Str×V)} {es:List DictEntry} {h:Heap} (r:zk8 ι h f es) (name:Str):(getL name es).isSome=true:=by
 unfold getL;split
 ·rfl
 ·rw [wq1 r];rfl
theorem upd_len (f:List (Str×V)) (n:Str) (v:V):(upd f n v).length<=f.length + 1:=by
 induction f with
 | nil=>simp [upd]
 | cons p f ih=>obtain ⟨y,u⟩:=p;unfold upd;split <;> simp;exact ih
theorem vw6:∀ {f:List (Str×V)} {es:List DictEntry} {h:Heap} {n:Str} {v:V} {x:Value} {t:Tok},zk8 ι h f es->Rel ι h v x->
 zk8 ι h (upd f n v) (putL n (PyData.keyHash w.params n) (.str n t) x es):=by
 intro f;induction f with
 | nil=>
  intro U U n v x t r q;subst r
  delta upd putL
  exact ⟨_,[],t,rfl,rfl,rfl,q,rfl⟩
 | cons p0 f ih0=>
  obtain ⟨y,u⟩:=p0;intro U U n v x t r q;obtain ⟨d,r',t',rfl,hk,hh,hr,hf⟩:=r;unfold upd putL;refine hk.symm▸yp0.symm▸?_;by_cases z:y=n
  ·subst z
   rw [if_pos rfl,if_pos (by simp)];exact ⟨_,r',t',rfl,rfl,hh,q,hf⟩
  ·rw [if_neg z,if_neg (by simpa using z)]
   exact ⟨_,_,t',rfl,hk,hh,hr,ih0 hf q⟩
theorem vj4 {Q:Unit->Shared->Prop} {a v:V} {x y:Value} {name:Str} (B:zf9) (I:Inv ι σ s) (ra:Rel ι s.heap a x) (rv:Rel ι s.heap v y)
 (H:zz3 (fun U U (U:Unit) (U:Unit)=>True) X (zg2 a name v σ) ι s Q QX E):wpAny (model P w) A (setAttr x name y) Q E s:=by
 refine el11 (zz3.opt H) fun i ei H=>?_;refine el11 (zz3.opt H) fun p ea H=>?_;refine zz9 (zz3.ifp H) fun hq H=>?_;refine zz9 hq fun hf hz=>?_;rw [yg3 ei] at ra;refine hid fun G kG=>?_;obtain ⟨xa,d,C,sl,es,n,rfl,hi,hC,IA,hd,F⟩:=I.inst_of (wy2 ea) ra;refine el05 (fld_of w.params hf hC) fun h1 h2 h3 h4 h5 h6=>?_;have F':∀ t,zk8 ι s.heap (upd p.2 name v) (putL name (PyData.keyHash w.params name) (.str name t) y es):=fun t=>vw6 F rv;refine kG ?_;refine xk3 (I.K B) IA rfl hd h6 h5 h2 h4 (wh2 F _) ?_ fun h' hs hd'=>?_
 ·rw [vw7 (F' _)];exact iq2 (upd_len _ _ _) (l11 0x000038447100003e841371 hz)
 ·have ne:xa≠d:=fun q=>by
   have:=IA.at_;replace this:=hd▸q▸this;cases this
  obtain ⟨I',N'⟩:=I.update (h':=h') hi hs (s.toks + 2) (o':=.inst p.1 (upd p.2 name v)) fun N'=>⟨C,sl,_,_,hC,(hs.2 _ ne).trans IA.at_,hd',(F' _).nx I N'⟩;exact H _ _ _ (N'.weaken fun U q=>nomatch q) I' trivial
end
section
variable {X:List Addr} {ι ι':Lay} {σ:zz0} {s s':Shared} {A:Around} {Q:QV0} {QX:QA0} {E:QV0}
theorem Inv.setList (I:Inv ι σ s) {i:Nat} {a:Addr} {h':Heap} {l':List V} {vs':List Value} {n':Nat} (hi:ι[i]?=some (a,a)) (hs:Heap.SameBut a s.heap h') (ho:h'.get? a=some (listOf vs'.toArray n')) (r':zq2 ι s.heap l' vs') (t:Nat) :
 Inv ι (σ.set i (.lst l')) { s with heap:=h',toks:=t }/\Nx X ι ι s.heap h':=by
 refine zz9 (I.update (h':=h') hi hs t (o':=.lst l') fun N'=>⟨rfl,vs',n',ho,r'.nx I (zq1 _) N'⟩) fun I' N'=>?_;exact ⟨I',N'.weaken fun U q=>nomatch q⟩
theorem wv8 (its:Array Value) (n:Nat) (f:Array Value->Array Value):∃ n',Obj.mapSeq f (listOf its n)=listOf (f its) n':=⟨_,rfl⟩
theorem zf1 {h:Heap} {a:Addr} {its:Array Value} {n:Nat} (f:Array Value->Array Value) (ho:h.get? a=some (listOf its n)):∃ n',(h.update a (Obj.mapSeq f)).get? a=some (listOf (f its) n'):=by
 refine el10 (wv8 its n f) fun n' e=>?_;exact ⟨n',by rw [<-e];exact Heap.get?_update_self _ ho (by rw [e];rfl)⟩
theorem zq2.set {h:Heap}:∀ {l:List V} {vs:List Value} {j:Nat} {v:V} {x:Value},zq2 ι h l vs->Rel ι h v x->zq2 ι h (l.set j v) (vs.set j x):=by
 intro l;induction l with
 | nil=>
  intro U U U U r U;subst r;exact rfl
 | cons a l ih0=>
  intro U j v x r q;refine el22 r fun y u eq1 r1 r2=>?_;subst eq1;cases j with
  | zero=>exact ⟨x,u,rfl,q,r2⟩
  | succ j=>exact ⟨y,_,rfl,r1,ih0 r2 q⟩
theorem zq2.one {h:Heap} {v:V} {x:Value} (r:Rel ι h v x):zq2 ι h [v] [x]:=⟨x,[],rfl,r,rfl⟩
theorem zq2.dropLast {h:Heap}:∀ {l:List V} {vs:List Value},zq2 ι h l vs->zq2 ι h l.dropLast vs.dropLast
 | [],_,r=>by subst r;exact rfl
 | [a],_,r=>by
  refine el22 r fun y u eq2 r1 r2=>?_;subst eq2;subst r2;exact rfl
 | a::b::l,_,r=>by
  refine el22 r fun y u eq3 r1 r2=>?_;subst eq3;have r3:=zq2.dropLast r2;refine el22 r2 fun y2 u2 eq4 U U=>?_;subst eq4;refine (?_:zq2 ι h (a::(b::l).dropLast) (y::(y2::u2).dropLast));exact ⟨y,_,rfl,r1,r3⟩
theorem vj3 {Q:Unit->Shared->Prop} {a b v:V} {x y z:Value} (I:Inv ι σ s) (ra:Rel ι s.heap a x) (rb:Rel ι s.heap b y) (rv:Rel ι s.heap v z)
 (H:zz3 (fun U U (U:Unit) (U:Unit)=>True) X (zb4 a b v σ) ι s Q QX E):wpAny (model P w) A (setItem x y z) Q E s:=by
 refine el11 (zz3.opt H) fun i ei H=>?_;refine el11 (zz3.opt H) fun k ek H=>?_;refine el11 (zz3.opt H) fun l ea H=>?_;refine zz9 (zz3.ifp H) fun hc H=>?_;refine zg6 hc fun h0 h1 h2=>?_;refine I.ol ei ea ra fun xa vs n hi ho r hL=>rb.oi ek fun t=>?_;unfold setItem
 try with_reducible refine wpAny_holding ?_
 refine wpAny_bind (wpAny_sequenceKey hL.typeIs (rfl) ?_);refine wpAny_bind (wpAny_callSpecial?_slot (name:=Str.ofString "__setitem__") hL.typeIs slot_list_setitem
  (wpAny_call_entry slot_list_setitem hL.typeIs entry_list_setitem ?_ (args_list_setitem _ _ _)))
 refine (?_:wpAny _ _ (Builtin.List.listSubscript? (.int k t) >>= _) _ _ s);refine wpAny_bind (wpAny_listSubscript_int (fitsIndex_of h0 (ox5 ((Int.toNat_lt h0).mp h1) (iw8 (ix6.mpr h2) (by decide)))) ?_);obtain ⟨j,rfl⟩:=Int.eq_ofNat_of_zero_le h0;have hz:=r.length;have key:∀ h',(∃ n',h'.get? xa=some (listOf (vs.toArray.setIfInBounds j z) n'))->Heap.SameBut xa s.heap h'->Q () { s with heap:=h' }:=by
  intro h' ⟨n',e⟩ hs;obtain ⟨I',N'⟩:=I.setList (X:=X) hi hs (vs':=vs.set j z) (n':=n') (by rw [e];simp) (r.set rv) s.toks;exact H _ _ _ N' I' trivial
 have hj:j < vs.toArray.size:=by rw [iz1,hz];exact h1
 have hx':vs.toArray[j]?=some (vs.toArray[j]'hj):=Array.getElem?_eq_getElem _;refine el10 (zf1 (fun (q:Array Value)=>q.setIfInBounds j z) ho) fun n' hfin=>?_;refine wpAny_bind (wpAny_bind (wpAny_seqItemAt ho rfl (wpAny_pure ?_)));refine (hx').symm▸?_;refine wpAny_bind (wpAny_setSeqItemAt ho rfl ?_);first
  | exact wpAny_bind (wpAny_pure (wpAny_pure ⟨.none,rfl,wpAny_pure (key _ ⟨_,hfin⟩ (Heap.SameBut.update ..))⟩))
  | exact wpAny_pure ⟨.none,rfl,wpAny_pure (key _ ⟨_,hfin⟩ (Heap.SameBut.update ..))⟩
end
theorem wq2 (l:Addr) (items:Array Value) (n:Nat) (b:Addr) (items2:Array Value) (n2:Nat) (d2:Option Addr) (sl2:Array (Option Value)) (hs0:¬(!items.isEmpty&&Builtin.List.listTooLong (items.size + items2.size))=true) (hs1:items.size<=sizeLine) (hs2:items.size + items2.size<=sizeLine + 1) :
 Meets (Builtin.«list.extend» ⟨[.ref l,.ref b],[]⟩) (fun U R s=>s.heap.get? l=some { cls:=.type "list",dict:=none,data:=.seq items n,slots:=#[]}/\s.heap.get? b=some { cls:=.type "tuple",dict:=d2,data:=.seq items2 n2,slots:=sl2 }/\R (.ok (.ret Value.none)) { s with heap:=s.heap.update l (Obj.mapSeq fun x=>x++items2),toks:=s.toks }):=
 .of_wp fun prog w A R s h=>by
  obtain ⟨hp,g,d,tk,os⟩:=s;obtain ⟨hl,hb,h⟩:=h;have f1:=AutoSeq1.idx_int;have f2:=AutoSeq1.sub_tuple_tuple;have f3:=AutoSeq1.sub_list_list;have f4:=AutoSeq1.sub_tuple_list;have f5:=AutoSeq1.sub_list_tuple;have hz':(items++items2).size<=sizeLine + 1:=by rw [Array.size_append];exact hs2
  wp_walk using (wpAny_updateSeq hl rfl (hz:=hs1) (_hz':=hz')),AutoSeq1.wpAny_loadPart' hl,AutoSeq1.wpAny_loadPart' hb;exact ⟨_,rfl,h⟩
section
variable {X:List Addr} {ι ι':Lay} {σ:zz0} {s s':Shared} {A:Around} {Q:QV0} {QX:QA0} {E:QV0}
@[elab_as_elim] theorem zz3.ids {γ δ:Type} {R':Lay->Heap->γ->δ->Prop} {Q':δ->Shared->Prop} {C:String->Prop} {id x:String} {a b:Out γ} (H:zz3 R' X (if id=x then a else b) ι s Q' QX E) (k:zz3 R' X a ι s Q' QX E->C x) (z:zz3 R' X b ι s Q' QX E->C id):C id:=by
 by_cases q:id=x
 ·rw [if_pos q] at H;exact q▸k H
 ·rw [if_neg q] at H;exact z H
theorem qq2 {r:V} {x:Value} {args:List V} {vals:List Value} (I:Inv ι σ s) (ra:Rel ι s.heap r x) (rs:zq2 ι s.heap args vals)
 (H:zz3 (zx6) X (vv0 r σ fun l i=>ww1 l i σ args) ι s Q QX E):wpAny (model P w) A (call (.builtin "list.append") (x::vals)) Q E s:=by
 refine zz3.ol I H ra (fun i l xa vs n hi ho r hL H=>?_) False.elim;refine zz3.o1 H rs fun v y rv H=>?_;refine zz9 (zz3.ifp H) fun hz H=>?_;have hl:=r.length;refine append_at (its:=vs.toArray) (n:=n) ho (fun h' hs ho'=>?_) (by rw [iz1,zw5,hl];exact oz9 hz);refine zz9 (I.setList (X:=X) hi hs (vs':=vs++[y]) (n':=n + 1) (by rw [ho'];simp) (r.append (zq2.one rv)) s.toks) fun I' N'=>?_;exact H _ _ _ N' I' zx6.none
theorem ug0 {r:V} {x:Value} {args:List V} {vals:List Value} (I:Inv ι σ s) (ra:Rel ι s.heap r x) (rs:zq2 ι s.heap args vals)
 (H:zz3 (zx6) X (vv0 r σ fun l i=>ww0 l i σ args) ι s Q QX E):wpAny (model P w) A (call (.builtin "list.extend") (x::vals)) Q E s:=by
 refine zz3.ol I H ra (fun i l xa vs n hi ho r hL H=>?_) False.elim;refine zz3.o1 H rs fun v y rv H=>?_;refine zz3.ot H rv (fun m ta us T r2 H=>?_) False.elim;refine zz9 (zz3.ifp H) fun hz H=>?_;refine hid fun G kG=>?_;refine el11 T fun pq2 hto pq3=>?_;obtain ⟨oc,odi,oda,osl⟩:=pq2;obtain ⟨htc,tn,htd⟩:=pq3;refine kG ?_;cases (show oc=_ from htc);cases (show oda=_ from htd);have hl:=r.length;have hl2:=r2.length;refine el10 (zf1 (fun (q:Array Value)=>q++us.toArray) ho) fun n' hfin=>?_;refine call_meets PySem.F.slot_list_extend hL.typeIs PySem.F.entry_list_extend (PySem.F.args_list_extend_2 _ _) (wq2 _ vs.toArray n _ us.toArray tn odi osl ?_ ?_ ?_) ⟨ho,hto,?_⟩
 ·simp only [iz1,hl,hl2,Builtin.List.listTooLong,zw5,iq5,decide_eq_true_eq]
  exact fun z=>Nat.not_lt.mpr hz z.2
 ·rw [iz1,zw5];exact l32 0x879100000049811100000047 hz hl
 ·simp only [iz1,zw5];exact l43 0xa8997910000004a91113100000041871 hz hl hl2
 ·obtain ⟨I',N'⟩:=I.setList (X:=X) hi (Heap.SameBut.update _ _ _) (vs':=vs++us) (n':=n') (by rw [hfin];simp) (r.append r2) s.toks
  exact H _ _ _ N' I' zx6.none
theorem zq2.last {h:Heap} {l:List V} {vs:List Value} {v:V} (r:zq2 ι h l vs) (e:l.getLast?=some v):∃ x,vs.getLast?=some x/\Rel ι h v x:=by
 rw [List.getLast?_eq_getElem?] at e ⊢;refine r.length.symm▸?_;exact r.get e
theorem pop_ok {r:V} {x:Value} {args:List V} {vals:List Value} (I:Inv ι σ s) (ra:Rel ι s.heap r x) (rs:zq2 ι s.heap args vals)
 (H:zz3 (zx6) X (vv0 r σ fun l i=>mPop l i σ args) ι s Q QX E):wpAny (model P w) A (call (.builtin "list.pop") (x::vals)) Q E s:=by
 refine zz3.ol I H ra (fun i l xa vs n hi ho r hL H=>?_) False.elim;refine zz9 (zz3.ifp H) fun hc H=>?_;refine zz9 hc fun h0 hz=>?_;refine el11 (zz3.opt H) fun v ev H=>?_;rw [ik3.mp h0] at rs;cases (show vals=[] from rs);refine hid fun G kG=>?_;have hl:=r.length;refine el11 (r.last ev) fun y g1 g2=>?_;obtain ⟨n',hfin⟩:=zf1 (fun (q:Array Value)=>q.eraseIdxIfInBounds (vs.toArray.size - 1)) ho;have hne:vs≠[]:=by intro q;subst q;cases g1
 refine kG ?_;have e1:vs.toArray.eraseIdxIfInBounds (vs.toArray.size - 1)=vs.dropLast.toArray:=by
  have hp:=List.length_pos_iff.mpr hne;apply Array.toList_inj.mp;simp [Array.eraseIdxIfInBounds,hp];rw [if_pos (Nat.sub_lt hp Nat.zero_lt_one)]
 refine call_meets PySem.F.slot_list_pop hL.typeIs PySem.F.entry_list_pop (PySem.F.args_list_pop_1 _) (MeetsSeq.list_pop_last _ vs.toArray n y ?_ ?_) ⟨ho,?_⟩
 ·rw [List.getLast?_eq_getElem?] at g1
  simpa using g1
 ·rw [iz1,hl];exact hz
 ·refine zz9 (I.setList (X:=X) hi (Heap.SameBut.update _ _ _) (vs':=vs.dropLast) (n':=n') (by rw [hfin,e1]) r.dropLast s.toks) fun I' N'=>?_
  have N2:=(I.setList (X:=[]) hi (Heap.SameBut.update _ _ (Obj.mapSeq fun (q:Array Value)=>q.eraseIdxIfInBounds (vs.toArray.size - 1))) (vs':=vs.dropLast) (n':=n') (by rw [hfin,e1]) r.dropLast s.toks).2;exact H _ _ _ N' I' (g2.nx I (zq1 _) N2)
end
theorem ww8 (sep:List Nat):∀ (l:List (List Nat)),Str.join ⟨sep.toArray⟩ (l.map fun x=>⟨x.toArray⟩)=⟨(yj2 sep l).toArray⟩
 | []=>rfl
 | [x]=>rfl
 | x::y::r=>by
  have ih:=ww8 sep (y::r);simp only [ij2] at ih ⊢;show (⟨x.toArray⟩:Str)++⟨sep.toArray⟩++Str.join ⟨sep.toArray⟩ (_::_)=_;rw [ih,qq3,qq3];rfl
section
variable {X:List Addr} {ι ι':Lay} {σ:zz0} {s s':Shared} {A:Around} {Q:QV0} {QX:QA0} {E:QV0}
theorem zq2.textsOf {h:Heap} {l:List V}:∀ {xs:List (List Nat)} {vs:List Value},textsOf l=some xs->zq2 ι h l vs->∃ ts:List (Str×Tok),vs=strValues ts/\ts.map (fun U=>U.1)=xs.map fun x=>(⟨x.toArray⟩:Str):=by
 induction l with
 | nil=>
  intro xs vs e r;cases (show vs=[] from r);cases (Option.some.inj (show some []=some xs from e));exact ⟨[],rfl,rfl⟩
 | cons v l ih=>
  intro xs vs e r;refine oe (show (zx9 v).elim Option.none (fun x=>(Mine.textsOf l).map (fun U=>x::U))=some xs from e) fun y e1 e=>?_;refine el11 (ix1.mp e) fun ys e2 q=>?_;refine el22 r fun x u q2 r1 r2=>?_;refine el11 (ih e2 r2) fun ts q3 e3=>?_;rw [yj6 e1] at r1;refine el10 r1 fun t q4=>?_;exact ⟨(_,t)::ts,by rw [q2,q3,q4];rfl,by rw [<-q,ij2,ij2,e3]⟩
theorem joinV_ok {sep:List Nat} {l:List V} {vs:List Value} {a:Addr} {t:Tok} (I:Inv ι σ s) (hL:s.heap.IsList a vs.toArray) (r:zq2 ι s.heap l vs)
 (H:zz3 (zx6) X (vv7 sep l σ) ι s Q QX E):wpAny (model P w) A (call (.builtin "str.join") [.str ⟨sep.toArray⟩ t,.ref a]) Q E s:=by
 refine el11 (zz3.opt H) fun xs ex H=>?_;refine zz9 (zz3.ifp H) fun hz H=>?_;refine hid fun G kG=>?_;refine el11 (r.textsOf ex) fun ts eq7 e2=>?_;subst eq7;refine kG ?_;have hs:(ts.map (fun U=>U.1)).map (fun U=>U.length)=xs.map List.length:=by
  rw [e2,List.map_map];exact List.map_congr_left fun x U=>zv6 x
 have hn:(ts.map (fun U=>U.1)).length=xs.length:=by rw [e2,iq9]
 have hl:Builtin.Str.tooLong ((ts.map (fun U=>U.1)).toArray.foldl (· + ·.length + (⟨sep.toArray⟩:Str).length) 0)=false:=by
  rw [StrLaws.joinTotal,hs,hn];unfold Builtin.Str.tooLong;rw [decide_eq_false_iff_not];exact Nat.not_lt.mpr hz
 have hg:Builtin.Str.glued ⟨sep.toArray⟩ (ts.map (fun U=>U.1))=⟨(yj2 sep xs).toArray⟩:=by rw [StrLaws.glued_eq_join,e2,ww8]
 have hlen:∀ l:List (List Nat),(yj2 sep l).length<=(l.map List.length).sum + l.length * sep.length:=by
  intro l;induction l with
  | nil=>simp [yj2]
  | cons x r ih=>
   cases r with
   | nil=>simp [yj2]
   | cons y r=>
    show (x++sep++yj2 sep (y::r)).length<=_;simp only [iq6,ij2,List.sum_cons,ik8] at ih ⊢;exact iq2 (ij0 ih _) (ij3 ((Nat.add_add_add_comm _ _ _ _).trans (congrArg (fun U=>x.length + (y.length + _) + U) ((Nat.add_comm _ _).trans (Nat.succ_mul _ _).symm))))
 refine call_meets PySem.F.slot_str_join (typeIs_str _ _ _) PySem.F.entry_str_join (PySem.F.args_str_join_2 _ _) (meets_str_join_list _ t a ts hl) ⟨hL,?_⟩;have gen:(Made.str (Builtin.Str.glued ⟨sep.toArray⟩ (ts.map (fun U=>U.1)))).post (fun v s'=>wants Q E (.ok (.ret v)) s') s:=by
  rw [hg];refine ⟨by rw [zv6,zw5];exact iq2 (hlen xs) hz,?_⟩;exact H.now I zx6.str
 match ts,gen,e2 with
 | [],gen,_=>exact gen
 | [p],_,e2=>
  have:xs.length=1:=by simpa using (congrArg List.length e2).symm
  obtain ⟨x,rfl⟩:=List.length_eq_one_iff.mp this;simp only [ij2,List.map_nil,List.cons.injEq,and_true] at e2;obtain ⟨p1,p2⟩:=p;simp only at e2;subst e2;exact H.here I zx6.str
 | p::q::r,gen,_=>exact gen
theorem join_ok {r:V} {x:Value} {args:List V} {vals:List Value} (I:Inv ι σ s) (ra:Rel ι s.heap r x) (rs:zq2 ι s.heap args vals)
 (H:zz3 (zx6) X (vk9 r fun x=>mJoin x σ args) ι s Q QX E):wpAny (model P w) A (call (.builtin "str.join") (x::vals)) Q E s:=by
 refine zz3.os H ra (fun y t H=>?_) False.elim;refine zz3.o1 H rs fun v z rv H=>?_;exact zz3.ol I H rv (fun i l xa vs n hi ho r hL H=>joinV_ok I hL r H) False.elim
end
theorem yv3 {M:Model} {Γ:Ctx} {p:Pos} {t:Sem Fin} {fs:List Frame} {s s':Shared} {e:End} (h:Runs M Γ p t fs s e s'):s.heap.objs.size<=s'.heap.objs.size:=by
 induction h <;> first|exact iq1 _|assumption|exact iq2 a_ih a_ih_1|(rw [Heap.size_push] at a_ih;exact ik9 a_ih)|(rw [Heap.size_update] at a_ih;exact a_ih)
theorem wy6 {M:Model} {Γ:Ctx} {p:Pos} {g:Nat} {r:Resume} {s s':Shared} {res:GenResult} (h:Wakes M Γ p g r s res s'):s.heap.objs.size<=s'.heap.objs.size:=by
 unfold Wakes at h;split at h
 ·exact h.elim
 ·split at h
  ·obtain ⟨_,s₁,hr,_,_,rfl⟩:=h;have:=yv3 hr;simpa only [Shared.setGen] using this
  ·rw [h.2];exact iq1 _
  ·rw [h.2];exact iq1 _
 ·obtain ⟨_,s₁,hr,_,_,rfl⟩:=h;have:=yv3 hr;simpa only [Shared.setGen] using this
 ·rw [h.2];exact iq1 _
 ·rw [h.2];exact iq1 _
theorem grown_wp {α:Type} (M:Model) (Γ:Ctx) (n:Nat) (t:Sem α):∀ (Q:α->Pos->Shared->Prop) (E:Value->Pos->Shared->Prop) (p:Pos) (s:Shared),n<=s.heap.objs.size->Sem.wp M Γ t Q E p s->
 Sem.wp M Γ t (fun a p' s'=>n<=s'.heap.objs.size/\Q a p' s') (fun e p' s'=>n<=s'.heap.objs.size/\E e p' s') p s:=by
 have hp:∀ (h:Heap) (o:Obj),n<=h.objs.size->n<=(h.push o).objs.size:=fun h o q=>by rw [Heap.size_push];exact l21 0x87113817 q
 have hu:∀ (h:Heap) (a:Addr) (f:Obj->Obj),n<=h.objs.size->n<=(h.update a f).objs.size:=fun h a f q=>by rw [Heap.size_update];exact q
 induction t with
 | pure a=>exact fun Q E p s hn h=>⟨hn,h⟩
 | raise e=>exact fun Q E p s hn h=>⟨hn,h⟩
 | unsupported _=>exact fun Q E p s U h=>h
 | finish _=>exact fun Q E p s U h=>h
 | rule _ k ih=>exact fun Q E p s hn h=>ih () Q E p s hn h
 | «at» p' k ih=>exact fun Q E p s hn h=>ih () Q E p' s hn h
 | load a _ k ih=>exact fun Q E p s hn ⟨o,ho,h⟩=>⟨o,ho,ih o Q E p s hn h⟩
 | update a _ f k ih=>exact fun Q E p s hn h=>⟨h.1,ih () Q E p _ (hu _ _ _ hn) h.2⟩
 | loadIfAlive a k ih=>exact fun Q E p s hn h=>ih _ Q E p s hn h
 | point _ k ih=>exact fun Q E p s hn h=>ih () Q E p s hn h
 | register _ _=>exact fun Q E p s U h=>h
 | alloc o k ih=>exact fun Q E p s hn h=>ih _ Q E p _ (hp _ _ hn) h
 | fresh k ih=>exact fun Q E p s hn h=>ih _ Q E p _ hn h
 | ask k ih=>exact fun Q E p s hn h=>ih _ Q E p s hn h
 | choose src m k ih=>exact fun Q E p s hn h=>⟨h.1,ih _ Q E p _ hn h.2⟩
 | os q _ k ih=>exact fun Q E p s hn h=>ih _ Q E p _ hn h
 | call c hd _ _ k ih=>exact fun Q E p s hn ⟨r,s',hr,h⟩=>⟨r,s',hr,ih r Q E p s' (iq2 hn (yv3 hr)) h⟩
 | handled own k ih=>exact fun Q E p s hn h=>ih _ Q E p s hn h
 | genState g k ih=>exact fun Q E p s hn ⟨st,hs,h⟩=>⟨st,hs,ih _ Q E p s hn h⟩
 | newGen c k ih=>exact fun Q E p s hn h=>ih _ Q E p _ hn h
 | resume g r _ k ih=>exact fun Q E p s hn ⟨res,s',hw,h⟩=>⟨res,s',hw,ih res Q E p s' (iq2 hn (wy6 hw)) h⟩
 | yield _ _ _ _=>exact fun Q E p s U h=>h
 | stack k ih=>exact fun Q E p s hn h=>ih _ Q E p s hn h
 | fork _ _=>exact fun Q E p s U h=>h
 | thread k ih=>exact fun Q E p s hn h=>ih _ Q E p s hn h
 | await _ _ _ _ _=>exact fun Q E p s U h=>h
theorem zv8 {α:Type} {M:Model} {A:Around} {s:Shared} {t:Sem α} {Q:α->Shared->Prop} {E:QV0}
 (h:wpAny M A t (fun a s'=>s.heap.objs.size<=s'.heap.objs.size->Q a s') (fun e s'=>s.heap.objs.size<=s'.heap.objs.size->E e s') s):wpAny M A t Q E s:=
 have z:wpAny M A t (fun a s'=>s.heap.objs.size<=s'.heap.objs.size/\(s.heap.objs.size<=s'.heap.objs.size->Q a s')) (fun e s'=>s.heap.objs.size<=s'.heap.objs.size/\(s.heap.objs.size<=s'.heap.objs.size->E e s')) s:=fun Γ p hΓ=>grown_wp M Γ _ t _ _ p s (iq1 _) (h Γ p hΓ)
 wpAny_mono z (fun U U x=>x.2 x.1) (fun U U x=>x.2 x.1)
section
variable {X:List Addr} {ι ι':Lay} {σ:zz0} {s s':Shared} {A:Around} {Q:QV0} {QX:QA0} {E:QV0}
theorem head_inv {α:Type} {l:List α} {k:α} (e:l.head?=some k):∃ r,l=k::r:=by
 cases l with
 | nil=>exact zz7 e
 | cons a r=>cases Option.some.inj e;exact ⟨r,rfl⟩
theorem index_ok {r:V} {x:Value} {args:List V} {vals:List Value} (I:Inv ι σ s) (ra:Rel ι s.heap r x) (rs:zq2 ι s.heap args vals)
 (H:zz3 (zx6) X (vk9 r fun x=>mIndex x σ args) ι s Q QX E):wpAny (model P w) A (call (.builtin "str.index") (x::vals)) Q E s:=by
 refine zz3.os H ra (fun y t H=>?_) False.elim;refine zz3.o1 H rs fun v z rv H=>?_;refine zz3.os H rv (fun m t' H=>?_) False.elim;refine el11 (zz3.opt H) fun k eo H=>?_;refine el10 (head_inv eo) fun r eo=>?_;exact call_gives PySem.F.slot_str_index (typeIs_str _ _ _) PySem.F.entry_str_index (PySem.F.args_str_index_2 _ _) (gives_str_index _ _ t t' _ _ eo) (H.now I zx6.int)
theorem uz5 {h:Heap} (l:List (Str×Tok)):zq2 ι h (l.map fun p=>V.str p.1.cps.toList) (strValues l):=by
 induction l with
 | nil=>exact rfl
 | cons p l ih=>exact ⟨_,_,rfl,⟨p.2,rfl⟩,ih⟩
theorem vf7 {h:Heap} {l:List (Str×Tok)} {xs:List Str} (e:l.map (fun U=>U.1)=xs):zq2 ι h (xs.map fun z=>V.str z.cps.toList) (strValues l):=by
 subst e;refine List.map_map.symm▸?_;exact uz5 l
theorem split_ok {r:V} {x:Value} {args:List V} {vals:List Value} (I:Inv ι σ s) (ra:Rel ι s.heap r x) (rs:zq2 ι s.heap args vals)
 (H:zz3 (zx6) X (vk9 r fun x=>uk3 x σ args) ι s Q QX E):wpAny (model P w) A (call (.builtin "str.split") (x::vals)) Q E s:=by
 refine zz3.os H ra (fun y t H=>?_) False.elim;refine zz3.o1 H rs fun v zv rv H=>?_;refine zz3.os H rv (fun z t' H=>?_) False.elim;refine zz9 (zz3.ifp H) fun hc H=>?_;refine zg6 hc fun c1 c2 c3=>?_;have hy:((⟨z.toArray⟩:Str).length == 0)=false:=by rw [zv6];simpa using c1
 have hx:(⟨y.toArray⟩:Str).length<=sizeLine:=by rw [zv6,zw5];exact c2
 have fin:∀ (l:List (Str×Tok)) (k:Nat),l.map (fun U=>U.1)=Txt.split ⟨y.toArray⟩ ⟨z.toArray⟩->
  Q (.ref s.heap.objs.size) { s with toks:=k,heap:=s.heap.push { cls:=.type "list",data:=.seq (strValues l).toArray }}:=fun l k e=>by
  obtain ⟨I',N',R'⟩:=I.alloc (h':=s.heap.push { cls:=.type "list",data:=.seq (strValues l).toArray }) (rp:=(s.heap.objs.size,s.heap.objs.size))
   (o:=.lst ((Txt.split ⟨y.toArray⟩ ⟨z.toArray⟩).map fun z=>V.str z.cps.toList)) (by rw [Heap.size_push];exact l10 0x13717) (fun b o q=>Heap.get?_push_of_some _ q) ⟨iq1 _,iq1 _⟩ k
   ⟨rfl,_,0,Heap.get?_push_size _ rfl,vf7 e⟩
  exact H _ _ _ (N'.weaken fun U q=>nomatch q) I' R'
 cases h1:(decide ((⟨y.toArray⟩:Str).length < (⟨z.toArray⟩:Str).length)||decide (Builtin.Str.strKind ⟨y.toArray⟩ < Builtin.Str.strKind ⟨z.toArray⟩))
 ·cases hf:(Builtin.Str.occurrences ⟨y.toArray⟩ ⟨z.toArray⟩ 0 (⟨y.toArray⟩:Str).length ((⟨y.toArray⟩:Str).length + 1)).isEmpty
  ·have es:Txt.split ⟨y.toArray⟩ ⟨z.toArray⟩=_:=(if_neg (ne_true_of_eq_false h1)).trans (if_neg (ne_true_of_eq_false hf))
   refine call_meets PySem.F.slot_str_split (typeIs_str _ _ _) PySem.F.entry_str_split (PySem.F.args_str_split_2 _ _) (meets_str_split_sep _ _ t t' h1 hy hf hx (by rw [<-es,zw5];exact c3)) ?_;show wants Q E _ _;rw [strsFrom_eq];exact fin _ _ ((numbered_texts _ _).trans es.symm)
  ·exact call_meets PySem.F.slot_str_split (typeIs_str _ _ _) PySem.F.entry_str_split (PySem.F.args_str_split_2 _ _) (meets_str_split_not_found _ _ t t' h1 hy hf)
    (fin [(_,t)] s.toks ((if_neg (ne_true_of_eq_false h1)).trans (if_pos hf)).symm)
 ·exact call_meets PySem.F.slot_str_split (typeIs_str _ _ _) PySem.F.entry_str_split (PySem.F.args_str_split_2 _ _) (meets_str_split_cannot_occur _ _ t t' h1)
   (fin [(_,t)] s.toks (if_pos h1).symm)
theorem wy9 (ks:List V) (es:List DictEntry) (y:List Nat) (k:yw9 ks es) (e:yx1 ks y=some false):((es.find? fun d=>Value.isStrOf ⟨y.toArray⟩ d.key).map (fun U=>U.val))=none:=
 iv3.mp (Option.isSome_eq_false_iff.mp (xx9 y ks es false k e))
theorem dget_ok {r:V} {x:Value} {args:List V} {vals:List Value} (I:Inv ι σ s) (ra:Rel ι s.heap r x) (rs:zq2 ι s.heap args vals)
 (H:zz3 (zx6) X ((vh3 r).elim .bad fun m=>if m.1.isEmpty then .bad else mGet m.1 m.2 σ args) ι s Q QX E):wpAny (model P w) A (call (.builtin "dict.get") (x::vals)) Q E s:=by
 refine el11 (zz3.opt H) fun m em H=>?_;refine zz9 (zz3.ifn H) fun hne H=>?_;rw [yg2 em] at ra;refine el11 ra fun d eq13 q=>?_;subst eq13;rcases q with q|⟨es,n,q1,q1',q2,q3⟩
 ·rw [q] at hne;exact absurd rfl hne
 ·have hm:=wp3 I q1 q2
  refine zz3.o2 H rs fun k dv z z2 r1 r3 H=>?_;refine zz3.os H r1 (fun y t' H=>?_) False.elim;refine el11 (zz3.opt H) fun b e H=>?_;refine call_meetsIn PySem.F.slot_dict_get hm.typeIs PySem.F.entry_dict_get (PySem.F.args_dict_get_3 _ _ _) (meets_dict_get_default (strKind P w) d (strKind_is P w _ t') q1' _) ⟨_,hm,?_⟩;show Q ((findBy Value.isStrOf es.toArray ⟨y.toArray⟩).getD z2) _;unfold findBy;rw [List.find?_toArray];cases b with
  | true=>
   refine el11 (zz3.liftO H) fun v e H=>?_;refine el11 (xj0 y v m.1 m.2 es q2 q3 e) fun xv g1 g2=>?_;refine g1.symm▸?_;exact H.now I g2
  | false=>
   rw [wy9 m.1 es y q2 e];exact H.now I r3
theorem repl_ok {v:V} {x:Value} {a b:Str} {u u':Tok} (hu:u≠0) (hv:u'≠0) (huv:u≠u') (I:Inv ι σ s) (ra:Rel ι s.heap v x)
 (H:zz3 (zx6) X (xf8 v a b σ) ι s Q QX E):wpAny (model P w) A (call (.builtin "str.replace") [x,.str a u,.str b u']) Q E s:=by
 refine zz3.os H ra (fun y t H=>?_) False.elim;refine zz9 (zz3.ifp H) fun hc H=>?_;exact SC.replace hu hv huv hc.1 (by rw [zv6];exact hc.2) fun t' k=>H.now I ⟨t',rfl⟩
end
section
variable {X:List Addr} {ι ι':Lay} {σ:zz0} {s s':Shared} {A:Around} {Q:QV0} {QX:QA0} {E:QV0}
theorem zq2.one_of {h:Heap} {v:V} {vals:List Value} (r:zq2 ι h [v] vals):∃ x,vals=[x]/\Rel ι h v x:=by
 refine el22 r fun x u eq1 r1 r2=>?_;subst eq1;subst r2;exact ⟨x,rfl,r1⟩
theorem zq2.two_of {h:Heap} {v v':V} {vals:List Value} (r:zq2 ι h [v,v'] vals):∃ x y,vals=[x,y]/\Rel ι h v x/\Rel ι h v' y:=by
 refine el22 r fun x u eq2 r1 r2=>?_;subst eq2;refine el11 r2.one_of fun y eq3 r3=>?_;subst eq3;exact ⟨x,y,rfl,r1,r3⟩
theorem Rel.int_of {h:Heap} {i:Int} {x:Value} (r:Rel ι h (.int i) x):∃ t,x=.int i t:=r
set_option tactic.hygienic true in
theorem len_ok {args:List V} {vals:List Value} (I:Inv ι σ s) (rs:zq2 ι s.heap args vals)
 (H:zz3 (zx6) X (bLen σ args) ι s Q QX E):wpAny (model P w) A (call (.builtin "len") vals) Q E s:=by
 refine zz3.o1 H rs fun v x r H=>?_;refine el11 (zz3.opt H) fun n en H=>?_;split at H
 case isFalse=>exact False.elim H
 rename_i hn;unfold lenOf at en;refine ocs (zx9 v) (fun e1=>?_) fun l e1=>?_
 ·rw [e1] at en
  refine ocs (zj2 v) (fun e2=>?_) fun l e2=>?_
  ·rw [e2] at en
   refine oe en fun i e3 en=>oe en fun l e4 en=>?_;refine I.ol e3 e4 r fun xa vs m hi ho r hL=>?_;have hl:vs.toArray.size=n:=iz1.trans (r.length.trans (Option.some.inj en));refine len_list hL (hl▸hn) ?_;refine hl.symm▸?_;exact H.now I zx6.int
  ·replace en:=e2▸en
   refine r.ot e2 fun a vs T r=>?_;have hl:vs.toArray.size=n:=iz1.trans (r.length.trans (Option.some.inj en));refine len_tuple T (hl▸hn) ?_;exact hl.symm▸(H.now I zx6.int)
 ·rw [e1] at en
  refine r.os e1 fun t=>?_;have hl:(⟨l.toArray⟩:Str).length=n:=(zv6 l).trans (Option.some.inj en);refine PySem.P.len_str (hl▸Int.not_le.mpr hn) ?_;refine hl.symm▸?_;exact H.now I zx6.int
theorem chr_ok {args:List V} {vals:List Value} (I:Inv ι σ s) (rs:zq2 ι s.heap args vals)
 (H:zz3 (zx6) X (bChr σ args) ι s Q QX E):wpAny (model P w) A (call (.builtin "chr") vals) Q E s:=by
 refine zz3.o1 H rs fun v x r H=>zz3.oi H r (fun i t H=>?_) False.elim;refine zz9 (zz3.ifp H) fun hc H=>?_;have hc:=bd hc;refine PySem.P.chr_of_int ?_ (H.now I zx6.str);rw [decide_eq_false (iv2.mpr hc.1),decide_eq_false (iv2.mpr hc.2)];rfl
theorem ord_ok {args:List V} {vals:List Value} (I:Inv ι σ s) (rs:zq2 ι s.heap args vals)
 (H:zz3 (zx6) X (bOrd σ args) ι s Q QX E):wpAny (model P w) A (call (.builtin "ord") vals) Q E s:=by
 refine zz3.o1 H rs fun v x r H=>zz3.os H r (fun l t H=>?_) False.elim;refine el11 (zz3.opt H) fun c e H=>?_;rw [wk3 e];exact PySem.P.ord_of_char (H.now I zx6.int)
theorem abs_ok {args:List V} {vals:List Value} (I:Inv ι σ s) (rs:zq2 ι s.heap args vals)
 (H:zz3 (zx6) X (bAbs σ args) ι s Q QX E):wpAny (model P w) A (call (.builtin "abs") vals) Q E s:=by
 refine zz3.o1 H rs fun v x r H=>zz3.oi H r (fun i t H=>?_) False.elim;refine call_abs_int fun u tk=>?_;have:(if i < 0 then -i else i)=(i.natAbs:Int):=by
  by_cases h:i < 0
  ·rw [if_pos h];exact (Int.ofNat_natAbs_of_nonpos (oz1 h)).symm
  ·rw [if_neg h];exact (Int.natAbs_of_nonneg (iv2.mp h)).symm
 refine (this).symm▸?_;exact H.now I zx6.int
theorem min_ok {args:List V} {vals:List Value} (I:Inv ι σ s) (hh:A.handled=none) (rs:zq2 ι s.heap args vals)
 (H:zz3 (zx6) X (bMin σ args) ι s Q QX E):wpAny (model P w) A (call (.builtin "min") vals) Q E s:=by
 refine zz3.o2 H rs fun v v' x y r1 r2 H=>zz3.oi H r1 (fun a t H=>zz3.oi H r2 (fun b u H=>?_) False.elim) False.elim;refine zv8 (min_two_ints hh fun h' tk k hz=>?_);refine zz9 (I.more hz k tk) fun I' N'=>?_;have e:(if b < a then Value.int b u else Value.int a t)=Value.int (if b < a then b else a) (if b < a then u else t):=by split <;> rfl
 rw [e];exact H _ _ _ (N'.weaken fun U q=>nomatch q) I' zx6.int
theorem isi_ok {args:List V} {vals:List Value} (I:Inv ι σ s) (rs:zq2 ι s.heap args vals)
 (H:zz3 (zx6) X (bIsi σ args) ι s Q QX E):wpAny (model P w) A (call (.builtin "isinstance") vals) Q E s:=by
 refine zz3.o2 H rs fun v v' x y r1 r2 H=>?_;refine el11 (zz3.opt H) fun n e H=>?_;refine zz9 (zz3.ifp H) fun hn H=>?_;rw [asTyp_eq e,hn] at r2;cases (show y=.type "tuple" from r2);refine el11 (zz3.liftO H) fun b e H=>?_;refine el11 (ix1.mp e) fun c e1 q=>?_;subst q;cases v <;> first|exact zz7 e1|skip
 all_goals (have e2:=Option.some.inj e1;subst e2)
 case tup=>
  refine el22 r1 fun a vs q T U=>?_;subst q;exact el12 T fun o ho hc U=>IsiPair.tuple_tuple ho hc (H.here I zx6.bool)
 case none=>cases r1;exact IsiPair.NoneType_tuple (H.now I zx6.bool)
 case int=>obtain ⟨t,rfl⟩:=r1;exact IsiPair.int_tuple (H.now I zx6.bool)
 case str=>obtain ⟨t,rfl⟩:=r1;exact IsiPair.str_tuple (H.now I zx6.bool)
 case bool=>cases r1;exact IsiPair.bool_tuple (H.now I zx6.bool)
theorem tstr_ok {args:List V} {vals:List Value} (I:Inv ι σ s) (rs:zq2 ι s.heap args vals)
 (H:zz3 (zx6) X (tStr σ args) ι s Q QX E):wpAny (model P w) A (call (.type "str") vals) Q E s:=by
 refine zz3.o1 H rs fun v x r H=>zz3.oi H r (fun i t H=>?_) False.elim;refine zz9 (zz3.ifp H) fun hc H=>?_;have hc:=bd hc;refine str_of_int_fit (N:=1000000) (by
  by_cases h:i < 0
  ·rw [if_pos h,Int.zero_sub];exact Int.neg_lt_of_neg_lt hc.1
  ·rw [if_neg h];exact hc.2) (by decide) fun U=>H.now I ?_
 exact ⟨s.toks,rfl⟩
theorem vg4 {args:List V} {vals:List Value} (I:Inv ι σ s) (rs:zq2 ι s.heap args vals)
 (H:zz3 (zx6) X (tTuple σ args) ι s Q QX E):wpAny (model P w) A (call (.type "tuple") vals) Q E s:=by
 refine zz3.o1 H rs fun v x r H=>zz3.ol I H r (fun i l xa vs n hi ho r hL H=>?_) False.elim;refine zz9 (zz3.ifp H) fun hz H=>?_;have hl:=r.length;refine zv8 (call_tuple_list hL (fun h' k hz'=>?_) (by rw [iz1,hl,zw5];exact hz));refine zz9 (I.more (h':=h'.push { cls:=.type "tuple",data:=.seq vs.toArray }) hz' (fun b o q=>Heap.get?_push_of_some _ (k b o q)) s.toks) fun I' N'=>?_;refine H _ _ _ (N'.weaken fun U q=>nomatch q) I' ?_;exact ⟨_,vs,rfl,⟨_,Heap.get?_push_size _ rfl,rfl,_,rfl⟩,r.nx I (zq1 _) N'⟩
theorem tlist_ok {args:List V} {vals:List Value} (I:Inv ι σ s) (rs:zq2 ι s.heap args vals)
 (H:zz3 (zx6) X (tList σ args) ι s Q QX E):wpAny (model P w) A (call (.type "list") vals) Q E s:=by
 have fin:∀ (l:List V) (vs:List Value) (h':Heap) (c':Nat),zq2 ι s.heap l vs->zz3 (zx6) X (.ok (.loc σ.length) (σ++[.lst l])) ι s Q QX E->(∀ b o',s.heap.get? b=some o'->h'.get? b=some o')->
  h'.get? s.heap.objs.size=some { cls:=.type "list",dict:=none,data:=.seq vs.toArray c',slots:=#[]}->Q (.ref s.heap.objs.size) { s with heap:=h' }:=fun l vs h' c' r H k g=>by
  have hz:s.heap.objs.size<=h'.objs.size:=oz9 (Heap.lt_size g);refine zz9 (I.more hz k s.toks) fun U N0=>?_;have N1:Nx [] ι (ι++[(s.heap.objs.size,s.heap.objs.size)]) s.heap h':=Nx.ext hz k (fun p hp=>by rw [iq4] at hp;subst hp;exact ⟨iq1 _,iq1 _⟩);refine zg6 (I.alloc (h':=h') (rp:=(s.heap.objs.size,s.heap.objs.size)) (o:=.lst l) hz k ⟨iq1 _,iq1 _⟩ s.toks ⟨rfl,vs,c',g,r.nx I (zq1 _) N1⟩) fun I' N' R'=>?_;exact H _ _ _ (N'.weaken fun U q=>nomatch q) I' R'
 refine zz3.o1 H rs fun v x r H=>zz3.ot H r (fun l a vs T r H=>?_) fun H=>zz3.ol I H r (fun i l xa vs n hi ho r hL H=>?_) False.elim
 ·refine zz9 (zz3.ifp H) fun hz H=>?_
  have hl:=r.length;refine el11 T fun o ho pq2=>?_;obtain ⟨hc,n,hd⟩:=pq2;exact call_list_seq a (.inr rfl) ho hc hd (fun h' c' k g=>fin l vs h' c' r H k g) (by rw [iz1,hl,zw5];exact hz)
 ·refine zz9 (zz3.ifp H) fun hz H=>?_
  have hl:=r.length;exact call_list_seq xa (.inl rfl) ho rfl rfl (fun h' c' k g=>fin l vs h' c' r H k g) (by rw [iz1,hl,zw5];exact hz)
theorem vy7 {id:String} {args:List V} {vals:List Value} (I:Inv ι σ s) (hh:A.handled=none) (rs:zq2 ι s.heap args vals)
 (H:zz3 (zx6) X (yp3 id args σ) ι s Q QX E):wpAny (model P w) A (call (.builtin id) vals) Q E s:=
 zz3.ids H (len_ok I rs) fun H=>zz3.ids H (chr_ok I rs) fun H=>zz3.ids H (ord_ok I rs) fun H=>zz3.ids H (abs_ok I rs) fun H=>zz3.ids H (min_ok I hh rs) fun H=>zz3.ids H (isi_ok I rs) False.elim
theorem typ_ok {n:String} {args:List V} {vals:List Value} (I:Inv ι σ s) (rs:zq2 ι s.heap args vals)
 (H:zz3 (zx6) X (vg1 n args σ) ι s Q QX E):wpAny (model P w) A (call (.type n) vals) Q E s:=
 zz3.ids H (tstr_ok I rs) fun H=>zz3.ids H (vg4 I rs) fun H=>zz3.ids H (tlist_ok I rs) False.elim
theorem meth_ok {id:String} {r:V} {x:Value} {args:List V} {vals:List Value} (I:Inv ι σ s) (ra:Rel ι s.heap r x) (rs:zq2 ι s.heap args vals)
 (H:zz3 (zx6) X (zq7 id r args σ) ι s Q QX E):wpAny (model P w) A (call (.builtin id) (x::vals)) Q E s:=
 zz3.ids H (qq2 I ra rs) fun H=>zz3.ids H (pop_ok I ra rs) fun H=>zz3.ids H (ug0 I ra rs) fun H=>zz3.ids H (join_ok I ra rs) fun H=>zz3.ids H (index_ok I ra rs) fun H=>zz3.ids H (split_ok I ra rs) fun H=>zz3.ids H (dget_ok I ra rs) False.elim
end
theorem Out.bnd_assoc {α β γ:Type} (r:Out α) (f:α->zz0->Out β) (g:β->zz0->Out γ):(r.bnd f).bnd g=r.bnd fun a σ=>(f a σ).bnd g:=by cases r <;> rfl
section
structure St (n:Nat) (A:Around) (fr:List Env) (sc:Scope) (ρ:Rho) (env:Env) (ι:Lay) (σ:zz0) (s:Shared):Prop where
 I:Inv ι σ s
 F:Frm sc ρ env ι s.heap
 rm:Rm A n fr
 fo:xj5 ι s.heap fr
 tk:0 < s.toks
noncomputable abbrev zj5 (r:Out V) (ι:Lay) (s:Shared) (Q:QV0) (E:QV0):Prop:=zz3 (zx6) [] r ι s Q (fun e s'=>Q (.ref e) s') E
noncomputable abbrev RelB:Lay->Heap->Bool->Bool->Prop:=fun U U b b'=>b'=b
noncomputable abbrev EvE (C:zz5) (n k:Nat):Prop:=∀ {A:Around} {fr:List Env} {sc:Scope} {ρ:Rho} {env:Env} {ι:Lay} {σ:zz0} {s:Shared} {e:Expr} {Q:QV0} {E:QV0},
 St n A fr sc ρ env ι σ s->zj5 (evE C k sc ρ e σ) ι s Q E->wpAny (model P w) A (eval e env) Q E s
noncomputable abbrev EvT (C:zz5) (n k:Nat):Prop:=∀ {A:Around} {fr:List Env} {sc:Scope} {ρ:Rho} {env:Env} {ι:Lay} {σ:zz0} {s:Shared} {e:Expr} {Q:Bool->Shared->Prop} {QX:QA0} {E:QV0},
 St n A fr sc ρ env ι σ s->zz3 RelB [] (evT C k sc ρ e σ) ι s Q QX E->wpAny (model P w) A (isTrue e env (eval e env)) Q E s
end
section
variable {X:List Addr} {α β γ δ:Type} {R:Lay->Heap->α->β->Prop} {R':Lay->Heap->γ->δ->Prop} {n k:Nat} {C:zz5} {A:Around} {fr:List Env} {sc:Scope} {ρ:Rho} {env:Env} {ι ι':Lay} {σ σ':zz0} {s s':Shared}
 {Q:QV0} {QX:QA0} {E:QV0}
theorem zz3.okb {r:Out α} {f:α->zz0->Out γ} {g:γ->zz0->Out δ} {R2:Lay->Heap->δ->β->Prop} {Q':β->Shared->Prop} (H:zz3 R2 X ((r.bnd' f).bnd g) ι s Q' QX E):∃ a σ',r=.ok a σ'/\zz3 R2 X ((f a σ').bnd g) ι s Q' QX E:=by
 cases r with
 | ok a σ'=>exact ⟨a,σ',rfl,H⟩
 | _=>exact H.elim
theorem zz3.bad {r:Out α} {f:α->zz0->Out γ} {Q':δ->Shared->Prop} (e:r=.bad) (H:zz3 R' X (r.bnd f) ι s Q' QX E):False:=by rw [e] at H;exact H
theorem zz3.assoc {r:Out α} {f:α->zz0->Out γ} {g:γ->zz0->Out δ} {R2:Lay->Heap->δ->β->Prop} {Q':β->Shared->Prop} (H:zz3 R2 X ((r.bnd f).bnd g) ι s Q' QX E):zz3 R2 X (r.bnd fun v σ=>(f v σ).bnd g) ι s Q' QX E:=Out.bnd_assoc r f g▸H
theorem zz3.eb {o:Option α} {f:α->Out β} {g:β->zz0->Out γ} {Q':δ->Shared->Prop} (H:zz3 R' X ((o.elim .bad f).bnd g) ι s Q' QX E):∃ x,o=some x/\zz3 R' X ((f x).bnd g) ι s Q' QX E:=by
 cases o with
 | none=>exact False.elim H
 | some x=>exact ⟨x,rfl,H⟩
theorem zz3.ib {c:Prop} [Decidable c] {a:Out β} {g:β->zz0->Out γ} {Q':δ->Shared->Prop} (H:zz3 R' X ((if c then a else .bad).bnd g) ι s Q' QX E):c/\zz3 R' X (a.bnd g) ι s Q' QX E:=by
 by_cases h:c
 ·rw [if_pos h] at H;exact ⟨h,H⟩
 ·rw [if_neg h] at H;exact False.elim H
theorem zz3.mono {r:Out α} {Q Q':β->Shared->Prop} {QX QX':QA0} {E E':QV0} (H:zz3 R X r ι s Q QX E) (h1:∀ b s',Q b s'->Q' b s') (h2:∀ e s',QX e s'->QX' e s') (h3:∀ e s',E e s'->E' e s') :
 zz3 R X r ι s Q' QX' E':=by
 cases r with
 | ok a σ'=>exact fun ι' b s' N I q=>h1 _ _ (H ι' b s' N I q)
 | exc σ'=>exact fun ι' e s' N I q=>h3 _ _ (H ι' e s' N I q)
 | ex σ'=>exact fun ι' e s' N I q=>h2 _ _ (H ι' e s' N I q)
 | bad=>exact H
theorem xj5.nxX {X:List Addr} {h:Heap} (fo:xj5 ι s.heap fr) (hX:zx4 X s.heap) (hl:∀ env∈fr,∀ L,env.frame=some L->L∉X) (N:Nx X ι ι' s.heap h):xj5 ι' h fr:=fun env he=>by
 refine hid fun G kG=>?_;obtain ⟨k,L,o,e1,e2,e3,e4,e5,e6⟩:=fo env he;refine el10 (N.keep L o e2 (hl env he L e1) e4 e5) fun sl q=>?_;refine el11 N.pre fun new en fn=>?_;refine kG ?_;refine ⟨k,L,_,e1,q,e3,fun p hp=>?_,e5,e6⟩;rw [en] at hp;rcases iz5.mp hp with z|z
 ·exact e4 p z
 ·exact ix0 (iq3 (Heap.lt_size e2) (fn p z).2)
theorem xj5.nx {h:Heap} (fo:xj5 ι s.heap fr) (N:Nx [] ι ι' s.heap h):xj5 ι' h fr:=fo.nxX (X:=[]) (fun U q=>nomatch q) (fun U U U U q=>nomatch q) N
theorem St.nx (S:St n A fr sc ρ env ι σ s) (N:Nx [] ι ι' s.heap s'.heap) (I:Inv ι' σ' s') (tk:0 < s'.toks):St n A fr sc ρ env ι' σ' s':=
 ⟨I,S.F.nx S.I N,S.rm,S.fo.nx N,tk⟩
theorem St.rel (S:St n A fr sc ρ env ι σ s) (N:Nx [] ι ι' s.heap s'.heap) {v:V} {x:Value} (r:Rel ι s.heap v x):Rel ι' s'.heap v x:=r.nx S.I (zq1 _) N
theorem St.rels (S:St n A fr sc ρ env ι σ s) (N:Nx [] ι ι' s.heap s'.heap) {v:List V} {x:List Value} (r:zq2 ι s.heap v x):zq2 ι' s'.heap v x:=r.nx S.I (zq1 _) N
theorem St.hu (S:St n A fr sc ρ env ι σ s):A.units + 100 < cLine:=by have:=S.rm.units;exact l21 0x00026ac4656882711100026ac413646711 this
theorem zz3.bindX {r:Out α} {f:α->zz0->Out γ} {Q1:β->Shared->Prop} {QX1:QA0} {Q':δ->Shared->Prop} (H:zz3 R' X (r.bnd f) ι s Q' QX E)
 (k:∀ a σ' ι' b s',Nx [] ι ι' s.heap s'.heap->Inv ι' σ' s'->R ι' s'.heap a b->zz3 R' X (f a σ') ι' s' Q' QX E->Q1 b s'):zz3 R [] r ι s Q1 QX1 E:=by
 have up:∀ {ι':Lay} {h:Heap},Nx [] ι ι' s.heap h->Nx X ι ι' s.heap h:=fun N=>N.weaken fun U q=>nomatch q;cases r with
 | ok a σ'=>exact fun ι₂ b s₂ N₂ I r=>k a σ' ι₂ b s₂ N₂ I r (zz3.rebase H (up N₂))
 | exc σ'=>exact fun ι' e s' N I t=>H ι' e s' (up N) I t
 | ex σ'=>exact H.elim
 | bad=>exact H.elim
theorem go_on {t:Sem β} {r:Out α} {f:α->zz0->Out γ} {Q1:β->Shared->Prop} {Q':δ->Shared->Prop} (S:St n A fr sc ρ env ι σ s)
 (ih:∀ (Q:β->Shared->Prop) (QX:QA0) (E:QV0),zz3 R [] r ι s Q QX E->wpAny (model P w) A t Q E s)
 (H:zz3 R' X (r.bnd f) ι s Q' QX E)
 (K:∀ a σ' ι' v s',Nx [] ι ι' s.heap s'.heap->St n A fr sc ρ env ι' σ' s'->R ι' s'.heap a v->zz3 R' X (f a σ') ι' s' Q' QX E->Q1 v s'):wpAny (model P w) A t Q1 E s:=by
 refine wpAny_with_toks (n:=1) S.tk (ih _ (fun U U=>True) _ (zz3.mono (zz3.bindX (Q1:=fun v s'=>1<=s'.toks->Q1 v s') (QX1:=fun U U=>True) H fun a σ' ι' b s' N I q H' tk=>K a σ' ι' b s' N (S.nx N I tk) q H') (fun U U q=>q) (fun U U q=>q) fun e s' q U=>q))
theorem EvE.use (ih:EvE C n k) (S:St n A fr sc ρ env ι σ s) {e:Expr} {f:V->zz0->Out γ} {Q1:QV0} {Q':δ->Shared->Prop} (H:zz3 R' X ((evE C k sc ρ e σ).bnd f) ι s Q' QX E)
 (K:∀ a σ' ι' v s',Nx [] ι ι' s.heap s'.heap->St n A fr sc ρ env ι' σ' s'->Rel ι' s'.heap a v->zz3 R' X (f a σ') ι' s' Q' QX E->Q1 v s'):wpAny (model P w) A (eval e env) Q1 E s:=by
 refine wpAny_with_toks (n:=1) S.tk (ih S (zz3.mono (zz3.bindX (Q1:=fun v s'=>1<=s'.toks->Q1 v s') (QX1:=fun e s'=>1<=s'.toks->Q1 (.ref e) s') H fun a σ' ι' b s' N I q H' tk=>K a σ' ι' b s' N (S.nx N I tk) q H') (fun U U q=>q) (fun U U q=>q) fun e s' q U=>q))
theorem EvT.use (ih:EvT C n k) (S:St n A fr sc ρ env ι σ s) {e:Expr} {f:Bool->zz0->Out γ} {Q1:Bool->Shared->Prop} {Q':δ->Shared->Prop} (H:zz3 R' X ((evT C k sc ρ e σ).bnd f) ι s Q' QX E)
 (K:∀ a σ' ι' s',Nx [] ι ι' s.heap s'.heap->St n A fr sc ρ env ι' σ' s'->zz3 R' X (f a σ') ι' s' Q' QX E->Q1 a s'):wpAny (model P w) A (isTrue e env (eval e env)) Q1 E s:=
 go_on (R:=RelB) S (fun U U U h=>ih S h) H fun a σ' ι' v s' N S' q H'=>q▸K a σ' ι' s' N S' H'
theorem yg8 {a:V} {x:Value} {f:Bool->zz0->Out γ} {Q1:Bool->Shared->Prop} {Q':δ->Shared->Prop} (S:St n A fr sc ρ env ι σ s) (ra:Rel ι s.heap a x) (H:zz3 R' X ((liftO (zv5 a σ) σ).bnd f) ι s Q' QX E)
 (K:∀ b s',Nx [] ι ι s.heap s'.heap->St n A fr sc ρ env ι σ s'->zz3 R' X (f b σ) ι s' Q' QX E->Q1 b s'):wpAny (model P w) A (truthy x) Q1 E s:=by
 refine ocs (zv5 a σ) (fun e=>?_) fun b e=>?_
 ·rw [e] at H;exact H.elim
 ·replace H:=e▸H
  refine wpAny_with_toks (n:=1) S.tk (wpAny_mono (yy4 (QB:=fun b s'=>1<=s'.toks->Q1 b s') S.I ra e fun t tk=>?_) (fun U U q=>q) fun U U q U=>q);have N:Nx [] ι ι s.heap s.heap:=Nx.refl;have I':Inv ι σ { s with toks:=t }:=⟨S.I.len,S.I.objs,S.I.nodup,S.I.fresh,S.I.keep,S.I.tabs,S.I.gens,S.I.os⟩;exact K b _ N (S.nx (s':={ s with toks:=t }) N I' tk) (zz3.rebase (s':={ s with toks:=t }) H Nx.refl)
theorem const_ok {c:Const} {kd:Nat} {pos:Pos} (S:St n A fr sc ρ env ι σ s) (H:zj5 (liftO (wq9 c) σ) ι s Q E):wpAny (model P w) A (eval (.Constant c kd pos) env) Q E s:=by
 refine el11 H.liftO fun v e H=>?_;unfold wq9 at e;split at e
 ·cases e;exact wpAny_Constant_none (H.here S.I zx6.none)
 ·cases e;exact wpAny_Constant_bool (H.here S.I zx6.bool)
 ·cases e;exact wpAny_Constant_int (H.now S.I zx6.int)
 ·cases e
  refine wpAny_Constant_str (H.now S.I ?_);exact ⟨s.toks,rfl⟩
 ·nomatch e
theorem binop_ok {l r:Expr} {op:Operator} {pos:Pos} (ih:EvE C n k) (S:St n A fr sc ρ env ι σ s)
 (H:zj5 ((evE C k sc ρ l σ).bnd fun a σ=>(evE C k sc ρ r σ).bnd fun b σ=>yv6 op a b σ) ι s Q E):wpAny (model P w) A (eval (.BinOp l op r pos) env) Q E s:=
 wpAny_BinOp (ih.use S H fun U U U U U N S1 ra H1=>ih.use S1 H1 fun U U U U U N2 S2 rb H2=>binOp_ok S2.I (S1.rel N2 ra) rb H2)
theorem unop_ok {x:Expr} {op:UnaryOp} {pos:Pos} (ih:EvE C n k) (S:St n A fr sc ρ env ι σ s)
 (H:zj5 ((evE C k sc ρ x σ).bnd fun a σ=>unOp op a σ) ι s Q E):wpAny (model P w) A (eval (.UnaryOp op x pos) env) Q E s:=
 wpAny_UnaryOp (ih.use S H fun U U U U U N S1 ra H1=>unOp_ok S1.I ra H1)
theorem ifexp_ok {t b o:Expr} {pos:Pos} (ih:EvE C n k) (it:EvT C n k) (S:St n A fr sc ρ env ι σ s)
 (H:zj5 ((evT C k sc ρ t σ).bnd fun c σ=>match c with|true=>evE C k sc ρ b σ|false=>evE C k sc ρ o σ) ι s Q E):wpAny (model P w) A (eval (.IfExp t b o pos) env) Q E s:=by
 refine wpAny_IfExp (it.use S H fun c U U U N S1 H1=>?_);cases c
 ·exact ih S1 H1
 ·exact ih S1 H1
theorem wg8 {op:BoolOp} {pos:Pos} (ih:EvE C n k):∀ (es:List Expr) {Q:QV0} {ι:Lay} {σ:zz0} {s:Shared},St n A fr sc ρ env ι σ s->
 zj5 (boolV (fun e σ=>evE C k sc ρ e σ) op es σ) ι s Q E->wpAny (model P w) A (boolOp pos op (evalEach es env)) Q E s
 | [],_,_,_,_,_,H=>H.elim
 | [e],_,_,_,_,S,H=>ih S H
 | e::e2::r,Q,ι,σ,s,S,H=>by
  show wpAny (model P w) A (do
   let v <-eval e env
   standAt pos
   let t <-holding [v] (truthy v)
   match op,t with
   | .And,false|.Or,true=>pure v
   | _,_=>boolOp pos op (evalEach (e2::r) env)) Q E s
  refine wpAny_bind (ih.use S H fun a σ1 ι1 v s1 N S1 ra H1=>wpAny_bind (wpAny_standAt (wpAny_bind (wpAny_holding (yg8 S1 ra H1 fun b s2 N2 S2 H2=>?_)))));cases op <;> cases b
  ·exact wpAny_pure (H2.here S2.I (S1.rel N2 ra))
  ·exact wg8 ih (e2::r) S2 H2
  ·exact wg8 ih (e2::r) S2 H2
  ·exact wpAny_pure (H2.here S2.I (S1.rel N2 ra))
theorem allt_ok {op:BoolOp} {QX:QA0} (it:EvT C n k):∀ (es:List Expr) {Q:Bool->Shared->Prop} {ι:Lay} {σ:zz0} {s:Shared},St n A fr sc ρ env ι σ s->
 zz3 RelB [] (vy8 (fun e σ=>evT C k sc ρ e σ) op es σ) ι s Q QX E->wpAny (model P w) A (allTrue op es env) Q E s:=by
 intro es;induction es with
 | nil=>
  intro U U U U S H;exact wpAny_pure (H.here S.I rfl)
 | cons e r ih0=>
  intro Q ι σ s S H;refine wpAny_bind (it.use S H fun b σ1 ι1 s1 N S1 H1=>?_);cases op <;> cases b
  ·exact wpAny_pure (H1.here S1.I rfl)
  ·exact ih0 S1 H1
  ·exact ih0 S1 H1
  ·exact wpAny_pure (H1.here S1.I rfl)
theorem ub1 {pos:Pos} (ih:EvE C n k) (ops:List CmpOp):∀ (cs:List Expr) {a:V} {x:Value} {Q:QV0} {ι:Lay} {σ:zz0} {s:Shared},St n A fr sc ρ env ι σ s->Rel ι s.heap a x->
 zj5 (wx3 (fun e σ=>evE C k sc ρ e σ) a ops cs σ) ι s Q E->wpAny (model P w) A (compareChain pos x ops (evalEach cs env)) Q E s:=by
 induction ops with
 | nil=>exact fun cs a x Q ι σ s S ra H=>False.elim H
 | cons op ops IH=>
  intro cs a x Q ι σ s S ra H;cases ops with
  | nil=>
   rcases cs with _|⟨c,_|⟨c2,cs⟩⟩
   ·exact False.elim H
   ·skip
    exact chain_last (ih.use S H fun U U U U U N S1 rb H1=>yg1 S1.I (S.rel N ra) rb S1.hu H1)
   ·exact False.elim H
  | cons o2 ops=>
   rcases cs with _|⟨c,_|⟨c2,cs⟩⟩
   ·exact False.elim H
   ·exact False.elim H
   ·skip
    refine chain_link (ih.use S H fun b U U y U N S1 rb H1=>?_);refine go_on (R:=zx6) S1 (fun U U U h=>yg1 S1.I (S.rel N ra) rb S1.hu h) H1 fun r U U z U N2 S2 rr H2=>?_;refine yg8 S2 rr H2 fun t s3 N3 S3 H3=>?_;cases t
    ·exact H3.here S3.I (S2.rel N3 rr)
    ·exact IH (c2::cs) S3 (S2.rel N3 (S1.rel N2 rb)) H3
theorem ub2 {pos:Pos} {QX:QA0} (ih:EvE C n k) (ops:List CmpOp):∀ (cs:List Expr) {a:V} {x:Value} {Q:Bool->Shared->Prop} {ι:Lay} {σ:zz0} {s:Shared},St n A fr sc ρ env ι σ s->Rel ι s.heap a x->
 zz3 RelB [] (wx4 (fun e σ=>evE C k sc ρ e σ) a ops cs σ) ι s Q QX E->wpAny (model P w) A (testChain pos x ops (evalEach cs env)) Q E s:=by
 induction ops with
 | nil=>exact fun cs a x Q ι σ s S ra H=>False.elim H
 | cons op ops IH=>
  intro cs a x Q ι σ s S ra H;cases ops with
  | nil=>
   rcases cs with _|⟨c,_|⟨c2,cs⟩⟩
   ·exact False.elim H
   ·skip
    refine test_last (ih.use S H fun b U U y U N S1 rb H1=>?_);refine go_on (R:=zx6) S1 (fun U U U h=>yg1 S1.I (S.rel N ra) rb S1.hu h) H1 fun r σ2 ι2 z s2 N2 S2 rr H2=>?_;refine el11 H2.liftO fun t e H2=>?_;exact yy4 S2.I rr e fun t'=>H2.now S2.I rfl
   ·exact False.elim H
  | cons o2 ops=>
   rcases cs with _|⟨c,_|⟨c2,cs⟩⟩
   ·exact False.elim H
   ·exact False.elim H
   ·skip
    refine test_link (ih.use S H fun b U U y U N S1 rb H1=>?_);refine go_on (R:=zx6) S1 (fun U U U h=>yg1 S1.I (S.rel N ra) rb S1.hu h) H1 fun r U U z U N2 S2 rr H2=>?_;refine yg8 S2 rr H2 fun t s3 N3 S3 H3=>?_;cases t
    ·exact H3.here S3.I rfl
    ·exact IH (c2::cs) S3 (S2.rel N3 (S1.rel N2 rb)) H3
set_option tactic.hygienic true in
theorem vy3 {l:Expr} {ops:List CmpOp} {cs:List Expr} {pos:Pos} (ih:EvE C n k) (S:St n A fr sc ρ env ι σ s)
 (H:zj5 (if lastMarks ops cs=true then .bad else (evE C k sc ρ l σ).bnd fun a σ=>wx3 (fun e σ=>evE C k sc ρ e σ) a ops cs σ) ι s Q E):wpAny (model P w) A (eval (.Compare l ops cs pos) env) Q E s:=by
 split at H
 ·exact H.elim
 ·rename_i hm
  rw [arm_eval_Compare,markedEach_of_false _ _ _ (by simpa using hm)];exact wpAny_bind (ih.use S H fun U U U U U N S1 ra H1=>ub1 ih ops cs S1 ra H1)
set_option tactic.hygienic true in
theorem wh9 {l:Expr} {ops:List CmpOp} {cs:List Expr} {pos:Pos} {whole:Sem Value} {Q:Bool->Shared->Prop} (ih:EvE C n k) (S:St n A fr sc ρ env ι σ s)
 (H:zz3 RelB [] (if lastMarks ops cs=true then .bad else (evE C k sc ρ l σ).bnd fun a σ=>wx4 (fun e σ=>evE C k sc ρ e σ) a ops cs σ) ι s Q QX E):wpAny (model P w) A (isTrue (.Compare l ops cs pos) env whole) Q E s:=by
 split at H
 ·exact H.elim
 ·rename_i hm
  rw [arm_isTrue_Compare,markedEach_of_false _ _ _ (by simpa using hm)];exact wpAny_bind (ih.use S H fun U U U U U N S1 ra H1=>ub2 ih ops cs S1 ra H1)
end
noncomputable def yy1 (t:Tok):V->Value
 | .int i=>.int i t
 | .str l=>.str ⟨l.toArray⟩ t
 | _=>.none
noncomputable def flat:V->Bool
 | .int _=>true
 | .str _=>true
 | _=>false
set_option tactic.hygienic true in
theorem zp9 {β:Type}:∀ {l:List (Str×β)} {x:Str} {v:β},l.lookup x=some v->(x,v)∈l:=by
 intro l;induction l with
 | nil=>
  intro U U e;cases e
 | cons p0 l ih0=>
  obtain ⟨y,u⟩:=p0;intro x v e;rw [iz2] at e;split at e
  ·rename_i h
   rw [beq_iff_eq] at h;subst h;cases e;exact iz6
  ·exact ix3 _ (ih0 e)
section
variable {ι ι':Lay} {σ σ':zz0} {s s':Shared}
theorem vq4 {h:Heap} {v:V} {t:Tok} (f:flat v=true):Rel ι h v (yy1 t v):=by
 unfold flat at f;split at f
 ·unfold yy1;exact ⟨t,rfl⟩
 ·unfold yy1;exact ⟨t,rfl⟩
 ·cases f
theorem uh6 {h:Heap}:∀ {l:List (V×Tok)},(l.all fun p=>flat p.1)=true->zq2 ι h (l.map (fun U=>U.1)) (l.map fun p=>yy1 p.2 p.1):=by
 intro l;induction l with
 | nil=>
  intro U;exact rfl
 | cons p l ih0=>
  intro f;rw [ij1,iq5] at f;refine ij2.symm▸?_;exact ⟨_,_,rfl,vq4 f.1,ih0 f.2⟩
noncomputable abbrev Row:Type:=String×Tok×V×Tok
theorem uz0 {P:Params} (hP:w.params=P):∀ (l:List Row),yw9 (l.map fun x=>V.str (S x.1)) (l.map fun x=>en P x.1 x.2.1 (yy1 x.2.2.2 x.2.2.1)):=by
 intro l;induction l with
 | nil=>
  exact rfl
 | cons x l ih0=>
  refine ij2.symm▸?_;refine ⟨_,_,_,x.2.1,rfl,rfl,?_,?_,ih0⟩
  ·show Value.str (Str.ofString x.1) x.2.1=_
   unfold S;simp
  ·show PyData.keyHash P (Str.ofString x.1)=_
   unfold S;simp [hP]
theorem vp9 {P:Params} {h:Heap}:∀ {l:List Row},(l.all fun p=>flat p.2.2.1)=true->zq2 ι h (l.map fun x=>x.2.2.1) ((l.map fun x=>en P x.1 x.2.1 (yy1 x.2.2.2 x.2.2.1)).map (fun U=>U.val)):=by
 intro l;induction l with
 | nil=>
  intro U;exact rfl
 | cons p l ih0=>
  intro f;rw [ij1,iq5] at f;refine ij2.symm▸ij2.symm▸ij2.symm▸?_;exact ⟨_,_,rfl,vq4 f.1,ih0 f.2⟩
theorem xb1 {l:List Row} {a:Addr} {n:Nat} {h:Heap} (B:zf9) (hk:(K0 w.params).lookup a=some (dictOf (l.map fun x=>en w.params x.1 x.2.1 (yy1 x.2.2.2 x.2.2.1)) n)) (ha:(a == sysModules)=false)
 (f:(l.all fun p=>flat p.2.2.1)=true):Rel ι h (.map (l.map fun x=>V.str (S x.1)) (l.map fun x=>x.2.2.1)) (.ref a):=by
 exact ⟨a,rfl,.inr ⟨_,n,B.K _ _ hk,ha,uz0 rfl l,vp9 f⟩⟩
theorem xb0 {l:List (V×Tok)} {a:Addr} {n:Nat} (B:zf9) (I:Inv ι σ s) (hk:(K0 w.params).lookup a=some ⟨.type "tuple",none,.seq (l.map fun p=>yy1 p.2 p.1).toArray n,#[]⟩)
 (f:(l.all fun p=>flat p.1)=true):Rel ι s.heap (.tup (l.map (fun U=>U.1))) (.ref a):=by
 exact ⟨a,_,rfl,⟨_,I.K B _ _ hk,rfl,n,rfl⟩,uh6 f⟩
noncomputable def uh8:List Row:=[("ZERO",658,txt "ZERO",659),("ZEROS",660,txt "ZERO",661),("ZEROES",662,txt "ZERO",663),("SPACE",664,txt "SPACE",665),("SPACES",666,txt "SPACE",667),("HIGH-VALUE",668,txt "HIGH",669),("HIGH-VALUES",670,txt "HIGH",671),("LOW-VALUE",672,txt "LOW",673),("LOW-VALUES",674,txt "LOW",675),("QUOTE",676,txt "QUOTE",677),("QUOTES",678,txt "QUOTE",679)]
noncomputable def uv8:List Row:=[("+",812,.int 1,813),("-",814,.int 1,815),("*",816,.int 2,817),("/",818,.int 2,819),("**",820,.int 4,821)]
noncomputable def brRows:List (V×Tok):=[(txt "arith",1169),(txt "divide",1170),(txt "corr",1171),(txt "search",1172),(txt "search-all",1173),(txt "string",1174),(txt "unstring",1175),(txt "read",1176),(txt "write",1177),(txt "rewrite",1178),(txt "delete",1179),(txt "start",1180),(txt "return",1181),(txt "call",1182)]
noncomputable def yk7:List (Addr×List (V×Tok)):=[(726,[(.int 0,1220),(.int 0,1221)]),(727,[(.int 5,1222),(.int 0,1223)]),(728,[(.int (-5),1225),(.int 0,1226)]),(729,[(.int 25,1227),(.int 2,1228)]),(730,[(.int (-75),1230),(.int 1,1231)])]
theorem k_fig (P:Params):(K0 P).lookup 347=some (dictOf (uh8.map fun x=>en P x.1 x.2.1 (yy1 x.2.2.2 x.2.2.1)) 11):=by rfl
theorem k_lev (P:Params):(K0 P).lookup 422=some (dictOf (uv8.map fun x=>en P x.1 x.2.1 (yy1 x.2.2.2 x.2.2.1)) 5):=by rfl
theorem k_br (P:Params):(K0 P).lookup 699=some ⟨.type "tuple",none,.seq (brRows.map fun p=>yy1 p.2 p.1).toArray 0,#[]⟩:=by rfl
theorem k_num (P:Params):∀ x∈yk7,(K0 P).lookup x.1=some ⟨.type "tuple",none,.seq (x.2.map fun p=>yy1 p.2 p.1).toArray 0,#[]⟩:=by
 intro x hx;simp only [yk7,ix7,oq4,or_false] at hx;rcases hx with rfl|rfl|rfl|rfl|rfl <;> rfl
theorem k_nums (P:Params):(K0 P).lookup 731=some ⟨.type "tuple",none,.seq (yk7.map fun x=>Value.ref x.1).toArray 0,#[]⟩:=by rfl
theorem flat_num:∀ x∈yk7,(x.2.all fun p=>flat p.1)=true:=by decide
theorem fn_globs:(fns.all fun f=>!f.j.isNone||globs.any fun g=>g.1 == f.q&&(match g.2 with|.ref a=>a == f.a|_=>false))=true:=by rfl
theorem ub0:(zw9.all fun f=>globs.any fun g=>g.1 == f.1&&(match g.2 with|.ref a=>a == f.2|_=>false))=true:=by rfl
theorem ref_of {v:Value} {a:Addr} (e:(match v with|.ref b=>b == a|_=>false)=true):v=.ref a:=by
 cases v <;> simp_all
theorem zf4 {x:Str} {a:Addr} (B:zf9) (e:(globs.any fun g=>g.1 == x&&(match g.2 with|.ref b=>b == a|_=>false))=true):mg x=some (.ref a):=by
 refine el10 (iw9.mp e) fun g pq2=>?_;obtain ⟨hg,q⟩:=pq2;rw [iq5] at q;obtain ⟨q1,q2⟩:=q;rw [beq_iff_eq] at q1;have:=B.globs g hg;rw [q1,ref_of q2] at this;exact this
noncomputable def Stands (ι:Lay) (h:Heap) (x:Str) (v:V):Prop:=∃ u,Rel ι h v u/\(mg x=some u\/(mg x=none/\mb x=some u))
set_option tactic.hygienic true in
theorem uy9 {x:Str} {v:V} (B:zf9) (I:Inv ι σ s) (e:uh1 x=some v):Stands ι s.heap x v:=by
 have hm:=zp9 e;unfold yp2 at hm;rcases iz5.mp hm with hm|hm
 ·rcases iz5.mp hm with hm|hm
  ·rcases iz5.mp hm with hm|hm
   ·rcases iz5.mp hm with hm|hm
    ·rcases iz5.mp hm with hm|hm
     ·obtain ⟨f,hf,q⟩:=ik5.mp hm
      obtain ⟨hf,hj⟩:=List.mem_filter.mp hf;cases q;have:=iz0.mp fn_globs f hf;replace this:=hj▸this;refine ⟨.ref f.a,?_,.inl (zf4 B this)⟩;exact ⟨f,hf,rfl,rfl⟩
     ·have hc:∀ c∈(["Line","Token","Reader","GrammarFault"]:List String),(zw9.any fun p=>p.1 == Str.ofString c)=true:=by decide +kernel
      obtain ⟨c,hcm,q⟩:=ik5.mp hm;cases q;obtain ⟨p,hp,q⟩:=iw9.mp (hc c hcm);rw [beq_iff_eq] at q;refine ⟨.ref p.2,?_,.inl (q▸zf4 B (iz0.mp ub0 p hp))⟩;exact ⟨p.2,q▸hp,rfl⟩
    ·have hc:∀ c∈(["len","chr","ord","abs","min","isinstance"]:List String),Str.ofString c∈(["len","chr","ord","abs","min","isinstance","str","tuple","list","range","reversed","Exception"]:List Str)/\Str.ofString c ≠ "__name__"/\bootBuiltins (Str.ofString c)=some (.builtin c):=by
      intro c hc;simp only [ix7,oq4,or_false] at hc;rcases hc with rfl|rfl|rfl|rfl|rfl|rfl <;> exact ⟨by decide +kernel,by decide +kernel,by decide +kernel⟩
     refine hid fun G kG=>?_;obtain ⟨c,hcm,q⟩:=ik5.mp hm;cases q;refine zz9 (hc c hcm) fun h1 pq17=>?_;obtain ⟨h2,h3⟩:=pq17;refine kG ?_;refine ⟨.builtin c,?_,.inr ⟨B.free _ h1,(B.blt _ h2).trans h3⟩⟩;rfl
   ·have hc:∀ c∈(["str","tuple","list"]:List String),Str.ofString c∈(["len","chr","ord","abs","min","isinstance","str","tuple","list","range","reversed","Exception"]:List Str)/\Str.ofString c ≠ "__name__"/\bootBuiltins (Str.ofString c)=some (.type c):=by
     intro c hc;simp only [ix7,oq4,or_false] at hc;rcases hc with rfl|rfl|rfl <;> exact ⟨by decide +kernel,by decide +kernel,by decide +kernel⟩
    refine hid fun G kG=>?_;obtain ⟨c,hcm,q⟩:=ik5.mp hm;cases q;refine zz9 (hc c hcm) fun h1 pq23=>?_;obtain ⟨h2,h3⟩:=pq23;refine kG ?_;refine ⟨.type c,?_,.inr ⟨B.free _ h1,(B.blt _ h2).trans h3⟩⟩;rfl
  ·obtain ⟨g,hg,q⟩:=List.mem_filterMap.mp hm
   have hb:=B.globs g hg;split at q
   ·rename_i y t e1
    cases q;refine ⟨g.2,?_,.inl hb⟩;rw [e1];exact ⟨t,by simp⟩
   ·rename_i i t e1
    cases q;refine ⟨g.2,?_,.inl hb⟩;rw [e1];exact ⟨t,rfl⟩
   ·cases q
 ·simp only [ij2,List.map_nil,ix7,oq4,or_false,Prod.mk.injEq] at hm
  rcases hm with ⟨rfl,rfl⟩|⟨rfl,rfl⟩|⟨rfl,rfl⟩|⟨rfl,rfl⟩
  ·exact ⟨.ref 347,xb1 (l:=uh8) B (k_fig _) (by decide) (by decide +kernel),.inl (zf4 B (by decide +kernel))⟩
  ·exact ⟨.ref 422,xb1 (l:=uv8) B (k_lev _) (by decide) (by decide +kernel),.inl (zf4 B (by decide +kernel))⟩
  ·exact ⟨.ref 699,xb0 (l:=brRows) B I (k_br _) (by decide +kernel),.inl (zf4 B (by decide +kernel))⟩
  ·refine ⟨.ref 731,?_,.inl (zf4 B (by decide +kernel))⟩
   have hr:∀ (l:List (Addr×List (V×Tok))),(∀ x∈l,x∈yk7)->zq2 ι s.heap (l.map fun x=>V.tup (x.2.map (fun U=>U.1))) (l.map fun x=>Value.ref x.1):=by
    intro l;induction l with
    | nil=>intro _;rfl
    | cons x l ih=>
     intro hl;rw [ij2];exact ⟨_,_,rfl,xb0 B I (k_num _ x (hl x iz6)) (flat_num x (hl x iz6)),ih fun y hy=>hl y (ix3 _ hy)⟩
   exact ⟨731,_,rfl,⟨_,I.K B _ _ (k_nums _),rfl,0,rfl⟩,hr yk7 fun U q=>q⟩
end
section
variable {X:List Addr} {α β γ δ:Type} {R:Lay->Heap->α->β->Prop} {R':Lay->Heap->γ->δ->Prop} {n k:Nat} {C:zz5} {A:Around} {fr:List Env} {sc:Scope} {ρ:Rho} {env:Env} {ι ι':Lay} {σ σ':zz0} {s s':Shared}
 {Q:QV0} {QX:QA0} {E:QV0}
theorem St.more {h':Heap} {t:Nat} (S:St n A fr sc ρ env ι σ s) (hz:s.heap.objs.size<=h'.objs.size) (kp:∀ b o,s.heap.get? b=some o->h'.get? b=some o) (ht:0 < t) :
 St n A fr sc ρ env ι σ { s with heap:=h',toks:=t }/\Nx [] ι ι s.heap h':=by
 refine zz9 (S.I.more hz kp t) fun I' N=>?_;exact ⟨S.nx (s':={ s with heap:=h',toks:=t }) N I' ht,N⟩
set_option tactic.hygienic true in
theorem name_ok {x:Str} {pos:Pos} (B:zf9) (S:St n A fr sc ρ env ι σ s) (H:zj5 (liftO (vv3 sc ρ x) σ) ι s Q E):wpAny (model P w) A (eval (.Name x pos) env) Q E s:=by
 refine el11 H.liftO fun v e H=>?_;unfold vv3 at e;split at e
 ·nomatch e
 ·rename_i hd
  simp only [iw3,not_or,oz0] at hd;refine hid fun G kG=>?_;obtain ⟨⟨hd,hd'⟩,_⟩:=hd;have hk:=S.F.kinds x;refine kG ?_;split at e
  ·refine hid fun G kG=>?_
   rename_i hl;refine kG ?_;rw [hl] at hk;rcases hk with hk|⟨q,_⟩
   ·refine hid fun G kG=>?_
    refine el11 S.F.ns fun m hm hv=>?_;refine el11 (hv x v e hl) fun u hu r=>?_;refine kG ?_;exact wpAny_Name (wpAny_loadName_local S.F.kind hk hm hu (H.here S.I r)) hd
   ·cases q
  ·rename_i hl
   obtain ⟨c,u,h1,h2,h3⟩:=S.F.cells x v e (.inl hl);rw [hl] at hk;rcases hk with hk|⟨q,_⟩
   ·exact wpAny_Name (wpAny_loadName_cell S.F.kind hk h1 h2 (H.here S.I h3)) hd
   ·nomatch q
  ·rename_i hl
   obtain ⟨c,u,h1,h2,h3⟩:=S.F.cells x v e (.inr hl);rw [hl] at hk;rcases hk with hk|⟨_,hk⟩
   ·exact wpAny_Name (wpAny_loadName_free S.F.kind hk h1 h2 (H.here S.I h3) hd') hd
   ·exact wpAny_Name (wpAny_loadName_cell S.F.kind hk h1 h2 (H.here S.I h3)) hd
  ·refine hid fun G kG=>?_
   rename_i hl;refine kG ?_;rw [hl] at hk;rcases hk with hk|⟨q,_⟩
   ·refine el11 (uy9 B S.I e) fun u r q=>?_
    have hg:s.heap.Ns env.globals mg:=by rw [S.F.glob];exact B.g.keeps S.I.keep
    have hbb:s.heap.Ns env.builtins mb:=by rw [S.F.blt];exact B.b.keeps S.I.keep
    rcases q with q|⟨q1,q2⟩
    ·exact Name_function_global S.F.kind hk (loadGlobal_global hg q (H.here S.I r)) hd
    ·exact Name_function_global S.F.kind hk (loadGlobal_builtin hg q1 hbb q2 (H.here S.I r)) hd
   ·cases q
  ·nomatch e
theorem zy1 {e:Expr} {r:List Expr} (h:∀ x p,e≠.Starred x p):starEach (e::r) env=(false,eval e env)::starEach r env:=by
 cases e <;> first|rfl|exact absurd rfl (h _ _)
theorem yf0 {x:Expr} {p:Pos}:evE C k sc ρ (.Starred x p) σ=.bad:=by
 cases k <;> rfl
theorem wv9 {pos:Pos} (ih:EvE C n k):∀ (es:List Expr) {ι:Lay} {σ:zz0} {s:Shared} {g:List V->zz0->Out γ} {Q1:List Value->Shared->Prop} {Q':δ->Shared->Prop},St n A fr sc ρ env ι σ s->
 zz3 R' X ((zh2 (fun e σ=>evE C k sc ρ e σ) es σ).bnd g) ι s Q' QX E->
 (∀ vs σ' ι' xs s',Nx [] ι ι' s.heap s'.heap->St n A fr sc ρ env ι' σ' s'->zq2 ι' s'.heap vs xs->zz3 R' X (g vs σ') ι' s' Q' QX E->Q1 xs s')->
 wpAny (model P w) A (spliced (backTo pos (starEach es env))) Q1 E s:=by
 intro es;induction es with
 | nil=>
  intro ι σ s g Q1 Q' S H K;exact spliced_nil (K [] σ ι [] s Nx.refl S (rfl) H)
 | cons e r ih0=>
  intro ι σ s g Q1 Q' S H K;have hs:∀ x p,e≠.Starred x p:=by
   intro x p q;subst q;exact zz3.bad yf0 H.assoc
  refine (zy1 hs).symm▸?_;refine spliced_cons (ih.use S H.assoc fun v σ1 ι1 x s1 N S1 rv H1=>?_);replace H1:=H1.assoc;exact ih0 S1 H1 fun vs σ2 ι2 xs s2 N2 S2 rs H2=>K (v::vs) σ2 ι2 (x::xs) s2 (N.trans N2) S2 (⟨x,xs,rfl,S1.rel N2 rv,rs⟩) H2
set_option tactic.hygienic true in
theorem tuple_ok {es:List Expr} {c:Nat} {pos:Pos} (ih:EvE C n k) (S:St n A fr sc ρ env ι σ s)
 (H:zj5 ((zh2 (fun e σ=>evE C k sc ρ e σ) es σ).bnd fun vs σ=>if vs.length<=1000 then .ok (.tup vs) σ else .bad) ι s Q E):wpAny (model P w) A (eval (.Tuple es c pos) env) Q E s:=by
 refine wpAny_Tuple (wv9 ih es S H fun vs σ1 ι1 xs s1 N S1 rs H1=>?_);split at H1
 ·rename_i hz
  have hl:=rs.length;refine ⟨by rw [hl,zw5];have:SL=16777216:=rfl;exact l11 0x00003e8471100000047 hz,?_⟩;refine zg6 (S1.I.newTup (X:=[]) rs s1.toks) fun I' N' R'=>?_;exact H1 _ _ _ N' I' R'
 ·exact H1.elim
set_option tactic.hygienic true in
theorem list_ok {es:List Expr} {pos:Pos} (ih:EvE C n k) (S:St n A fr sc ρ env ι σ s)
 (H:zj5 ((zh2 (fun e σ=>evE C k sc ρ e σ) es σ).bnd fun vs σ=>if vs.length<=1000 then .ok (.loc σ.length) (σ++[.lst vs]) else .bad) ι s Q E):wpAny (model P w) A (eval (.List es pos) env) Q E s:=by
 refine wpAny_List (wv9 ih es S H fun vs σ1 ι1 xs s1 N S1 rs H1=>?_);split at H1
 ·rename_i hz
  have hl:=rs.length;refine ⟨by rw [hl,zw5];have:SL=16777216:=rfl;exact l11 0x00003e8471100000047 hz,?_⟩;refine zg6 (S1.I.newList rs s1.toks) fun I' N' R'=>?_;exact H1 _ _ _ N' I' R'
 ·exact H1.elim
theorem base_gen {o:Expr} {attr:Str} {W:Sem Value} (h:∀ x p q,o=.Call (.Name x p) [] [] q->x ≠ "super"):attributeBase o attr env W=W:=by
 cases o with
 | Call f args kws p=>
  cases f with
  | Name id q=>
   cases args with
   | nil=>
    cases kws with
    | nil=>exact if_pos (by rw [show (id != ("super" : Str))=true from bne_iff_ne.mpr (h _ _ _ rfl)];rfl)
    | cons _ _=>rfl
   | cons _ _=>rfl
  | _=>rfl
 | _=>rfl
theorem vh1 {o:Expr} {attr:Str} (h:∀ x p q,o=.Call (.Name x p) [] [] q->x ≠ "super"):attributeBase o attr env (eval o env)=eval o env:=base_gen h
theorem vf5 {p q:Pos} {j:Nat}:evE C j sc ρ (.Call (.Name "super" p) [] [] q) σ=.bad:=by
 cases j with
 | zero=>rfl
 | succ j=>
  cases j with
  | zero=>rfl
  | succ j=>
   rfl
theorem xh1 {o:Expr} {attr:Str} {j:Nat} {f:V->zz0->Out γ} {Q':δ->Shared->Prop} (H:zz3 R' X ((evE C j sc ρ o σ).bnd f) ι s Q' QX E):attributeBase o attr env (eval o env)=eval o env:=
 vh1 fun x p q e1 e2=>by subst e1 e2;rw [vf5] at H;exact H.elim
theorem wx6 {o:Expr} {a:Str} {pos:Pos} (B:zf9) (ih:EvE C n k) (S:St n A fr sc ρ env ι σ s)
 (H:zj5 ((evE C k sc ρ o σ).bnd fun v σ=>wx7 v a σ) ι s Q E):wpAny (model P w) A (eval (.Attribute o a pos) env) Q E s:=by
 rw [arm_eval_Attribute,xh1 H];refine wpAny_bind (ih.use S H fun v σ1 ι1 x s1 N S1 rv H1=>wpAny_bind (wpAny_standAt (wpAny_bind (wpAny_holding ?_))));refine wpAny_mono (attr_ok (Q:=Q) B S1.I rv H1) (fun r s2 q=>wpAny_bind (wpAny_letTemporaryGo (wpAny_pure q))) fun U U q=>q
theorem wy4 {o i:Expr} {pos:Pos} (hn:yp7 i) (ih:EvE C n k) (S:St n A fr sc ρ env ι σ s)
 (H:zj5 ((evE C k sc ρ o σ).bnd fun v σ=>(evE C k sc ρ i σ).bnd fun j σ=>zv7 v j σ) ι s Q E):wpAny (model P w) A (eval (.Subscript o i pos) env) Q E s:=
 Subscript_ (ih.use S H fun v U U x U N S1 rv H1=>ih.use S1 H1 fun j U U y U N2 S2 rj H2=>item_ok hn S2.I (S1.rel N2 rv) rj H2)
theorem opt_ok (ih:EvE C n k) {o:Option Expr} {f:Option Int->zz0->Out γ} {Q1:QV0} {Q':δ->Shared->Prop} (S:St n A fr sc ρ env ι σ s)
 (H:zz3 R' X ((optE (fun e σ=>evE C k sc ρ e σ) o σ).bnd f) ι s Q' QX E)
 (K:∀ a σ' ι' v s',Nx [] ι ι' s.heap s'.heap->St n A fr sc ρ env ι' σ' s'->xp0 a v->zz3 R' X (f a σ') ι' s' Q' QX E->Q1 v s'):wpAny (model P w) A (evalPart o env) Q1 E s:=by
 cases o with
 | none=>exact wpAny_pure (K Option.none σ ι _ s Nx.refl S rfl H)
 | some e=>
  have H:zz3 R' X (((evE C k sc ρ e σ).bnd fun v σ=>(zj9 v).elim .bad fun i=>.ok (some i) σ).bnd f) ι s Q' QX E:=H;replace H:=H.assoc;refine ih.use S H fun v σ1 ι1 x s1 N S1 rv H1=>?_;refine ocs (zj9 v) (fun ei=>?_) fun i ei=>?_
  ·rw [ei] at H1;exact H1.elim
  ·rw [ei] at H1;exact rv.oi ei fun t=>K (some i) σ1 ι1 _ s1 N S1 ⟨t,rfl⟩ H1
theorem xg9 {lo hi:Option Expr} {p:Pos} (o i:Value):subscripted (.Slice lo hi Option.none p) false o i=operate [i,o] (getItem o i):=rfl
theorem vj2 {a:V} {x:Value} {lo hi:Option Int} (I:Inv ι σ s) (ra:Rel ι s.heap a x) {Q':δ->Shared->Prop} {R':Lay->Heap->V->δ->Prop} (H:zz3 R' X (zy6 a lo hi σ) ι s Q' QX E) :
 ∃ T id,s.TypeIs x T/\typeLookup (.type T) "__getitem__" = pure (some (.builtin id)):=by
 refine zz3.os H ra (fun l t H=>⟨_,_,typeIs_str _ _ _,PySem.F.slot_str_getitem.lookup⟩) fun H=>zz3.ol I H ra (fun i l xa vs n U U U hL U=>⟨_,_,hL.typeIs,slot_list_getitem.lookup⟩) fun H=>?_;refine ocs (asFz a) (fun ef=>?_) fun l ef=>?_
 ·replace H:=ef▸H
  exact zz3.ot H ra (fun l t vs T r U=>⟨_,_,T.typeIs,slot_tuple_getitem.lookup⟩) False.elim
 ·rw [qz7 ef] at ra
  refine el44 ra fun xa xo vs n eq7 q q1 q2 rs=>?_;subst eq7;have hL:s.heap.IsList xa vs.toArray:=⟨_,I.keep _ _ q,q1,_,q2⟩;exact ⟨_,_,hL.typeIs,slot_list_getitem.lookup⟩
theorem wk1 {o:Expr} {lo hi:Option Expr} {p pos:Pos} (ih:EvE C n k) (S:St n A fr sc ρ env ι σ s)
 (H:zj5 ((evE C k sc ρ o σ).bnd fun v σ=>(optE (fun e σ=>evE C k sc ρ e σ) lo σ).bnd fun a σ=>(optE (fun e σ=>evE C k sc ρ e σ) hi σ).bnd fun b σ=>zy6 v a b σ) ι s Q E) :
 wpAny (model P w) A (eval (.Subscript o (.Slice lo hi Option.none p) pos) env) Q E s:=by
 refine Subscript_ (ih.use S H fun v U U x U N S1 rv H1=>wpAny_Slice (opt_ok ih S1 H1 fun a U U y s2 N2 S2 pa H2=>opt_ok ih S2 H2 fun b σ3 ι3 z s3 N3 S3 pb H3=>?_));refine wpAny_pure ?_;obtain ⟨S4,N4⟩:=S3.more (h':=s3.heap.push { cls:=.type "slice",data:=.fields #[y,z,.none]}) (t:=s3.toks) (by rw [Heap.size_push];exact l10 0x13717) (fun b o q=>Heap.get?_push_of_some _ q) S3.tk;have rx:=S3.rel (s':={ s3 with heap:=s3.heap.push { cls:=.type "slice",data:=.fields #[y,z,.none]},toks:=s3.toks }) N4 (S2.rel N3 (S1.rel N2 rv));have H4:=zz3.rebase (s':={ s3 with heap:=s3.heap.push { cls:=.type "slice",data:=.fields #[y,z,.none]},toks:=s3.toks }) H3 N4;refine el21 (vj2 S4.I rx H4) fun T id hT hl=>?_;exact tail_any hT hl (slice_ok S4.I rx ⟨_,Heap.get?_push_size _ rfl,rfl,rfl⟩ pa pb H4) (xg9 _ _)
theorem revV_inv {v w:V} {σ:zz0} (h:revV v w σ≠.bad):∃ l,v=.tup l/\w=.int (-1)/\l.length<=SL:=by
 cases v with
 | tup l=>cases w with
  | int i=>exact Classical.byContradiction fun n=>h (if_neg fun q=>n ⟨l,rfl,congrArg V.int q.1,q.2⟩)
  | _=>exact absurd rfl h
 | _=>exact absurd rfl h
theorem rev_ok {o e:Expr} {p pos:Pos} (ih:EvE C n k) (S:St n A fr sc ρ env ι σ s)
 (H:zj5 ((evE C k sc ρ o σ).bnd fun v σ=>(evE C k sc ρ e σ).bnd fun j σ=>revV v j σ) ι s Q E) :
 wpAny (model P w) A (eval (.Subscript o (.Slice Option.none Option.none (some e) p) pos) env) Q E s:=by
 refine Subscript_ (ih.use S H fun v U U x U N S1 rv H1=>wpAny_Slice ?_);refine wpAny_pure (wpAny_pure ?_);refine ih.use S1 H1 fun j σ3 ι3 z s3 N3 S3 rj H3=>?_;refine Classical.byContradiction fun ng=>?_;refine el12 (revV_inv H3.nb) fun l e1 e2 hz=>?_;subst e1 e2;have H3:zj5 (.ok (.tup l.reverse) σ3) ι3 s3 Q E:=(zz3.ifp H3).2;have rx:=S1.rel N3 rv;refine el10 rj.int_of fun t eq8=>?_;subst eq8;obtain ⟨S4,N4⟩:=S3.more (h':=s3.heap.push { cls:=.type "slice",data:=.fields #[.none,.none,.int (-1) t]}) (t:=s3.toks) (by rw [Heap.size_push];exact l10 0x13717) (fun b o q=>Heap.get?_push_of_some _ q) S3.tk;have rx:=S3.rel (s':={ s3 with heap:=s3.heap.push { cls:=.type "slice",data:=.fields #[.none,.none,.int (-1) t]},toks:=s3.toks }) N4 rx;have H4:=zz3.rebase (s':={ s3 with heap:=s3.heap.push { cls:=.type "slice",data:=.fields #[.none,.none,.int (-1) t]},toks:=s3.toks }) H3 N4;refine el22 rx fun a vs eq9 T r=>?_;subst eq9;exact ng (tail_any T.typeIs slot_tuple_getitem.lookup (vg3 S4.I T r ⟨_,Heap.get?_push_size _ rfl,rfl,rfl⟩ ⟨t,rfl⟩ hz H4) rfl)
end
theorem fns_keep (P:Params):(fns.all fun f=>keepIn (K0 P) (.ref f.a))=true:=by rfl
theorem cls_keep (P:Params):(zw9.all fun f=>keepIn (K0 P) (.ref f.2))=true:=by rfl
theorem uk1 (P:Params):(wv7.all fun p=>zw9.all fun c=>c.1 != p.1.1||fns.any fun f=>f.q == p.2&&findIn (K0 P) (.ref c.2) p.1.2 == some (some (.ref f.a))&&typeIn (K0 P) (.ref f.a) == some (.type "function"))=true:=by rfl
set_option tactic.hygienic true in
theorem xz2 {β:Type}:∀ {l:List ((Str×Str)×β)} {c n:Str} {v:β},l.lookup (c,n)=some v->((c,n),v)∈l:=by
 intro l;induction l with
 | nil=>
  intro U U U e;cases e
 | cons p0 l ih0=>
  obtain ⟨y,u⟩:=p0;intro c n v e;rw [iz2] at e;split at e
  ·rename_i h
   rw [beq_iff_eq] at h;subst h;cases e;exact iz6
  ·exact ix3 _ (ih0 e)
theorem meth_cls:(wv7.all fun p=>p.1.1 == "Reader")=true:=by rfl
section
noncomputable abbrev yz7 (n:Nat):Prop:=∀ {A:Around} {fr:List Env} {ι:Lay} {σ:zz0} {s:Shared} {f:V} {args:List V} {fv:Value} {vals:List Value} {Q:QV0} {E:QV0},
 Rm A n fr->xj5 ι s.heap fr->Inv ι σ s->0 < s.toks->Rel ι s.heap f fv->zq2 ι s.heap args vals->zj5 (zz4 n f args σ) ι s Q E->wpAny (model P w) A (call fv vals) Q E s
end
section
variable {X:List Addr} {α β γ δ:Type} {R:Lay->Heap->α->β->Prop} {R':Lay->Heap->γ->δ->Prop} {n k:Nat} {C:zz5} {A:Around} {fr:List Env} {sc:Scope} {ρ:Rho} {env:Env} {ι ι':Lay} {σ σ':zz0} {s s':Shared}
 {Q:QV0} {QX:QA0} {E:QV0}
theorem wv5:∀ {es:List Expr} {pos:Pos},es.any zy7=false->(backTo pos (starEach es env)).any (fun U=>U.1)=false:=by
 intro es;induction es with
 | nil=>
  intro U U;exact rfl
 | cons e r ih0=>
  intro pos h;rw [ox7,Bool.or_eq_false_iff] at h;rw [zy1 (fun x p q=>by subst q;cases h.1)];refine (?_:(false||(backTo pos (starEach r env)).any (fun U=>U.1))=false);rw [ih0 h.2];rfl
theorem yq6 {es:List Expr} {pos:Pos} {f:Value} {Q1:Args->Shared->Prop} (hs:es.any zy7=false) (h:wpAny (model P w) A (spliced (backTo pos (starEach es env))) (fun vs s'=>Q1 ⟨vs,[]⟩ s') E s) :
 wpAny (model P w) A (evalArgs f true (backTo pos (starEach es env)) []) Q1 E s:=by
 cases es with
 | nil=>
  refine wpAny_bind (wpAny_mono h (fun vs s' h'=>wpAny_bind (wpAny_pure ?_)) fun U U x=>x);refine wpAny_holding ?_;exact wpAny_bind (wpAny_pure (wpAny_bind (wpAny_pure (wpAny_pure h'))))
 | cons e r=>
  rw [ox7,Bool.or_eq_false_iff] at hs;have he:=zy1 (env:=env) (e:=e) (r:=r) (fun x p q=>by subst q;cases hs.1);rw [he] at h ⊢;exact evalArgs_plain h
noncomputable abbrev yz6 (M:Model) (f:Value) (h:Heap):Prop:=∃ k,(k=Keeper.frame\/k=Keeper.machine\/k=Keeper.boundFrame)/\Looks M h (keeperOf f) k
theorem wy7 {f:Fn} (B:zf9) (I:Inv ι σ s) (hf:f∈fns):yz6 (model P w) (.ref f.a) s.heap:=keeps_K (iz0.mp (fns_keep w.params) f hf) _ (I.K B)
theorem yz2 {id:String} {h:Heap}:yz6 (model P w) (.builtin id) h:=⟨.machine,.inr (.inl rfl),Looks.of_pure rfl⟩
theorem keep_at {f:V} {fv:Value} {args:List V} {Q':β->Shared->Prop} {R:Lay->Heap->V->β->Prop} (B:zf9) (I:Inv ι σ s) (rf:Rel ι s.heap f fv) (H:zz3 R X (zz4 n f args σ) ι s Q' QX E):yz6 (model P w) fv s.heap:=by
 cases n with
 | zero=>exact H.elim
 | succ n=>
  cases f <;> first|exact False.elim H|skip
  ·refine el12 rf fun f hf U eq1=>?_
   subst eq1;exact wy7 B I hf
  ·refine el11 rf fun a ha eq2=>?_
   subst eq2;exact keeps_K (iz0.mp (cls_keep w.params) _ ha) _ (I.K B)
  ·subst rf
   exact yz2
  ·subst rf
   exact ⟨.machine,.inr (.inl rfl),Looks.of_pure rfl⟩
  ·refine el43 rf fun a o fd vals eq3 ho hd U=>?_
   subst eq3;obtain ⟨oc,od,dd,sl⟩:=o;simp only at hd;subst hd;exact keeps_F _ ⟨_,_,_,_,ho⟩
theorem wj3 {es:List Expr} {pos:Pos} {fv:Value} {first:List Value} {g:List V->zz0->Out γ} {Q':δ->Shared->Prop} (ih:EvE C n k) (S:St n A fr sc ρ env ι σ s) (hs:es.any zy7=false)
 (H:zz3 R' X ((zh2 (fun e σ=>evE C k sc ρ e σ) es σ).bnd g) ι s Q' QX E)
 (K:∀ vs σ' ι' xs s',Nx [] ι ι' s.heap s'.heap->St n A fr sc ρ env ι' σ' s'->zq2 ι' s'.heap vs xs->zz3 R' X (g vs σ') ι' s' Q' QX E->yz6 (model P w) fv s'.heap/\wpAny (model P w) A (call fv (first++xs)) Q E s') :
 wpAny (model P w) A (callWith pos fv first (backTo pos (starEach es env)) []) Q E s:=
 callWith_of (P:=yz6 (model P w) fv) (by rw [wv5 hs];rfl) (fun U x=>x) (yq6 hs (wv9 ih es S H fun vs σ' ι' xs s' N S' r H'=>K vs σ' ι' xs s' N S' r H'))
noncomputable def methVal:MK->Value->Prop
 | .bm id,v=>v=.builtin id
 | .fm q,v=>∃ f∈fns,f.q=q/\v=.ref f.a
theorem wh1:∀ {f:List (Str×V)} {es:List DictEntry} {h:Heap} {n:Str},zk8 ι h f es->f.lookup n=Option.none->getL n es=some Option.none:=by
 intro f;induction f with
 | nil=>
  intro U U U r e;subst r;rfl
 | cons p0 f ih0=>
  obtain ⟨y,u⟩:=p0;intro es h n r e;refine el34 r fun d r' t eq4 hk U hr hf=>?_;subst eq4;rw [iz2] at e;unfold getL;rw [oq7,hk,yp0];by_cases q:y=n
  ·subst q
   simp at e
  ·have e1:(n == y)=false:=by simpa using fun z=>q z.symm
   have e2:(y == n)=false:=by simpa using q
   rw [e1] at e;refine (e2).symm▸?_;have g1:=ih0 hf e;unfold getL at g1;cases z:r'.find? fun x=>x.key.isStr n with
   | some _=>rw [z] at g1;exact g1
   | none=>
    rw [z] at g1;have hd:d.refKey=false:=by unfold DictEntry.refKey;rw [hk]
    have hc:((d::r').any fun x=>x.refKey)=r'.any fun x=>x.refKey:=by rw [ox7,hd,ox8]
    simp only [hc];exact g1
@[elab_as_elim] theorem nms {C:Str->String->Prop} {name x:Str} {a b:String} {o:Option String} (e:(if name=x then some a else o)=some b) (k:C x a) (z:o=some b->C name b):C name b:=by
 by_cases q:name=x
 ·rw [if_pos q] at e;rw [q];exact Option.some.inj e▸k
 ·rw [if_neg q] at e;exact z e
theorem kindB_ok {r:V} {x:Value} {name:Str} {id:String} {pl:Sem Bool} (I:Inv ι σ s) (ra:Rel ι s.heap r x) (e:zx3 r name σ=some id) :
 ∀ (Q:Value×List Value->Shared->Prop),Q (.builtin id,[x]) s->wpAny (model P w) A (getMethod x name pl) Q E s:=by
 have noref:∀ {y:Str} {t:Tok},∀ a,Value.str y t=.ref a->∃ o,s.heap.get? a=some o/\o.dict=none:=fun U q=>nomatch q;unfold zx3 at e;refine ocs (zj8 r) (fun e1=>?_) fun i e1=>?_
 ·rw [e1] at e
  refine ocs (zx9 r) (fun e2=>?_) fun l e2=>?_
  ·replace e:=e2▸e
   refine oe e fun m e3 e=>?_;refine zz9 (ifs e) fun h1 q=>?_;subst q;refine zz9 h1 fun hn hks=>?_;subst hn;rw [yg2 e3] at ra;obtain ⟨a,rfl,q⟩:=ra;rcases q with q|⟨es,n,q1,q2,q3,q4⟩
   ·rw [q] at hks;cases hks
   ·have hm:=wp3 I q1 q3
    have hd:∀ b,Value.ref a=.ref b->∃ o,s.heap.get? b=some o/\o.dict=none:=fun b q=>by cases q;exact ⟨_,I.keep _ _ q1,rfl⟩
    intro Q h
    with_reducible exact getMethod_builtin hm.typeIs PySem.F.plainAttrs_dict PySem.F.slot_dict_get PySem.F.type_dict_get hd h
  ·replace e:=e2▸e
   refine ra.os e2 fun t=>?_;refine nms e ?_ fun e=>nms e ?_ fun e=>nms e ?_ zz7
   ·intro Q h;with_reducible exact GM.of _ (typeIs_str _ _ _) PySem.F.slot_str_join PySem.F.type_str_join noref h
   ·intro Q h;with_reducible exact GM.of _ (typeIs_str _ _ _) PySem.F.slot_str_index PySem.F.type_str_index noref h
   ·intro Q h;with_reducible exact GM.of _ (typeIs_str _ _ _) PySem.F.slot_str_split PySem.F.type_str_split noref h
 ·replace e:=e1▸e
  refine oe e fun l e2 e=>?_;refine I.ol e1 e2 ra fun xa vs n hi ho r hL=>?_;have hd:∀ a,Value.ref xa=.ref a->∃ o,s.heap.get? a=some o/\o.dict=none:=fun a q=>by cases q;exact ⟨_,ho,rfl⟩
  have hT:=hL.typeIs;refine nms e ?_ fun e=>nms e ?_ fun e=>nms e ?_ zz7
  ·intro Q h;with_reducible exact getMethod_builtin hT PySem.F.plainAttrs_list PySem.F.slot_list_append PySem.F.type_list_append hd h
  ·intro Q h;with_reducible exact getMethod_builtin hT PySem.F.plainAttrs_list PySem.F.slot_list_pop PySem.F.type_list_pop hd h
  ·intro Q h;with_reducible exact getMethod_builtin hT PySem.F.plainAttrs_list PySem.F.slot_list_extend PySem.F.type_list_extend hd h
theorem vw3 {r:V} {x:Value} {name:Str} {m:MK} {pl:Sem Bool} (B:zf9) (I:Inv ι σ s) (ra:Rel ι s.heap r x) (e:zk3 r name σ=some m) :
 ∃ fv,methVal m fv/\yz6 (model P w) fv s.heap/\∀ (Q:Value×List Value->Shared->Prop),Q (fv,[x]) s->wpAny (model P w) A (getMethod x name pl) Q E s:=by
 unfold zk3 at e;refine ocs ((zj8 r).elim Option.none fun i=>wz5 σ i) (fun ei=>?_) fun p ei=>?_
 ·replace e:=ei▸e
  refine el11 (ix1.mp e) fun id e1 eq8=>?_;exact eq8▸⟨_,rfl,yz2,kindB_ok I ra e1⟩
 ·rw [ei] at e
  refine oe ei fun i e1 ea=>?_;rw [yg3 e1] at ra;refine zz9 (iff_ e) fun hn e=>?_;refine hid fun G kG=>?_;refine el11 (ix1.mp e) fun q eq eq6=>?_;subst eq6;refine Classical.byContradiction fun ng=>?_;have hm:=xz2 eq;obtain ⟨xa,d,C,sl,es,n,rfl,_,hC,IA,hd,F⟩:=I.inst_of (wy2 ea) ra;have g0:=iz0.mp (iz0.mp (uk1 w.params) _ hm) _ hC;refine ng (kG ?_);simp only [bne_self_eq_false] at g0;refine el11 (iw9.mp g0) fun fn hfn g1=>?_;simp only [iq5,beq_iff_eq] at g1;have hne:(C == 72)=false:=by
   have h1:=iz0.mp meth_cls _ hm;have h2:(zw9.all fun c=>c.1 != "Reader"||c.2 != 72)=true:=by decide +kernel
   rw [beq_iff_eq] at h1;simp only at h1;have hC':((Str.ofString "Reader",C):Str×Addr)∈zw9:=h1▸hC;have h3:=iz0.mp h2 _ hC';simp only [bne_self_eq_false,ox8,bne_iff_ne] at h3;exact beq_eq_false_iff_ne.mpr h3
  have g2:=iz0.mp (vx1 w.params) _ hC;rw [hne,ox8] at g2;unfold wg2 at g2;simp only [iq5] at g2;have g3:plainGet (K0 w.params) C name=true:=g2.1.1.1;refine ⟨.ref fn.a,⟨fn,hfn,g1.1.1,rfl⟩,wy7 B I hfn,fun Q h=>method_fn (I.K B) IA (plainGet_of g3).1 (plainGet_of g3).2 g1.1.2 g1.2 ?_ h⟩;show (lookIn name (dictOf es n)).map _=_;have hn':p.2.lookup name=Option.none:=by
   cases q:p.2.lookup name with
   | none=>rfl
   | some _=>rw [q] at hn;exact absurd rfl hn
  rw [lookIn_dict,wh1 F hn'];rfl
end
end
section
open PySem PySem.W PyProof.Rows PySem.Calls Builtin Builtin.Str
theorem uj2:typeLookup (.type "list_reverseiterator") "__len__" = pure none:=by rw [typeLookup_type,builtinLookup_eq_fast];kernel_rfl
theorem hint_lri:typeLookup (.type "list_reverseiterator") "__length_hint__" = pure (some (.builtin "list_reverseiterator.__length_hint__")):=by rw [typeLookup_type,builtinLookup_eq_fast];kernel_rfl
section
variable {A:Around} {E:QV0} {s:Shared} {I:Addr} {fp wr:List Addr} {G:Array GenState->Array GenState->Prop} {n:Nat} {P1:Nat->Value->Prop} {St:Nat->Shared->Prop}
theorem wg1 {Q:List Value->Shared->Prop} (W:WalksS P w A.in1 I fp wr G n P1 St) (hT:∀ i s,St i s->s.TypeIs (.ref I) "list_reverseiterator") (hst:St 0 s) (hfp:∀ b∈fp,b < s.heap.objs.size) (hI:I∈fp)
 (hQ:∀ s' acc,Moved wr G s s'->ItemsOf P1 acc n->Q acc.toList s') (hn:n<=sizeLine):wpAny (model P w) A (collect (.ref I)) Q E s:=by
 have hSf:s.heap.objs.size∉fp:=fun hm=>oq2 _ (hfp _ hm);have hSI:s.heap.objs.size≠I:=fun e=>hSf (e▸hI);unfold collect;refine wpAny_bind (wpAny_runValue (codeAny_builtin PySem.F.entry_proto_collect ?_));rw [Around.under_plainId PySem.F.plain_proto_collect _];show wpAny _ A.in1 (newList [] >>= fun l=>again (.builtin "list.__iadd__" ⟨[l,.ref I],[]⟩)) _ _ s;refine wpAny_bind (wpAny_newObj_type ?_);refine wpAny_pure ⟨plainId_quiet PySem.F.plain_list_iadd _,codeAny_builtin PySem.F.entry_list_iadd ?_⟩;rw [Around.under_plainId PySem.F.plain_list_iadd _];have hst₁:=W.frame 0 s (s.heap.push { cls:=.type "list",data:=.seq ([]:List Value).toArray }) s.toks hst (iq1 _) fun b U o e=>Heap.get?_push_of_some _ e;have hS₁:(s.heap.push { cls:=.type "list",data:=.seq ([]:List Value).toArray }).get? s.heap.objs.size=some { cls:=.type "list",data:=.seq ([]:List Value).toArray }:=Heap.get?_push_size _ rfl;have h1:Builtin.List.listSameRef (.ref s.heap.objs.size) (.ref I)=false:=by simp [Builtin.List.listSameRef,hSI]
 show wpAny _ A.in1 (Builtin.List.listExtendWith (.ref s.heap.objs.size) (.ref I) (.ref s.heap.objs.size)) _ _ _;unfold Builtin.List.listExtendWith;refine wpAny_bind (wpAny_typeOf (hT 0 _ hst₁) ?_);rw [if_neg (by rw [h1];decide)];refine wpAny_bind (W.self 0 _ _ _ hst₁ ?_);refine wpAny_bind (wpAny_holding ?_);unfold Builtin.List.listLengthHint;refine wpAny_bind (wpAny_specialOf (hT 0 _ hst₁) uj2 ?_);show wpAny _ A.in1 (specialOf (Value.ref I) (Str.ofString "__length_hint__") >>= _) _ _ _;refine wpAny_bind (wpAny_specialOf (hT 0 _ hst₁) hint_lri ?_)
 (generalize hid:("list_reverseiterator.__length_hint__" : String)=id0;(fail_if_success (clear hid id0));wp_delta;rw [show splitId id0=some ("list_reverseiterator","__length_hint__") from by subst hid;decide +kernel];subst hid)
 refine wpAny_bind (wpAny_isInstance (b:=true) (hT 0 _ hst₁) (by rw [isSubtype_type];kernel_rfl) ?_);refine wpAny_pure ?_;rw [if_neg (by decide)];refine wpAny_pure ⟨plainId_quiet PySem.F.plain_extend_loop _,codeAny_extend_loopS W hn _ hSf _ n 0 _ _ _ rfl (iv8 _) hst₁ hS₁ (ItemsOf.nil P1) fun s' acc' c' hm hS' hacc=>?_⟩;show wpAny _ A (load s.heap.objs.size >>= _) _ _ s';refine wpAny_bind (wpAny_load hS' ?_);exact wpAny_pure (hQ s' acc' (Moved.drop_new (o:={ cls:=.type "list",data:=.seq ([]:List Value).toArray }) (tk:=s.toks) hm (iq1 _)) hacc)
end
section
variable {X:List Addr} {ι ι':Lay} {σ:zz0} {s s':Shared} {A:Around} {Q:QV0} {QX:QA0} {E:QV0}
theorem vj9 {sep:List Nat} {l:List V} {vs:List Value} {a:Addr} {t:Tok} (hh:A.handled=none) (I:Inv ι σ s) (hL:s.heap.IsList a vs.toArray) (r:zq2 ι s.heap l vs)
 (hlen:l.length<=SL) (H:zz3 (zx6) X (vv7 sep l.reverse σ) ι s Q QX E) :
 wpAny (model P w) A (call (.builtin "str.join") [.str ⟨sep.toArray⟩ t,.ref s.heap.objs.size]) Q E { s with heap:=s.heap.push (revObj a ((vs.toArray.size:Int) - 1))}:=by
 refine el11 (zz3.opt H) fun xs ex H=>?_;refine zz9 (zz3.ifp H) fun hz H=>?_;refine el11 (r.reverse.textsOf ex) fun ts ets e2=>?_;have hs:(ts.map (fun U=>U.1)).map (fun U=>U.length)=xs.map List.length:=by
  rw [e2,List.map_map];exact List.map_congr_left fun x U=>zv6 x
 have hn:(ts.map (fun U=>U.1)).length=xs.length:=by rw [e2,iq9]
 have hl:tooLong ((ts.map (fun U=>U.1)).toArray.foldl (· + ·.length + (⟨sep.toArray⟩:Str).length) 0)=false:=by
  rw [StrLaws.joinTotal,hs,hn,zv6];unfold tooLong;rw [zw5,decide_eq_false_iff_not];exact Nat.not_lt.mpr hz
 have hg:Txt.join ⟨sep.toArray⟩ (ts.map (fun U=>U.1))=⟨(yj2 sep xs).toArray⟩:=by show glued _ _=_;rw [StrLaws.glued_eq_join,e2,ww8]
 have hne:a≠s.heap.objs.size:=by
  refine el11 hL fun o ho U=>?_;exact ij5 (Heap.lt_size ho)
 have hit:(s.heap.push (revObj a ((vs.toArray.size:Int) - 1))).IsRevIter s.heap.objs.size a ((vs.toArray.size:Int) - 1):=⟨_,Heap.get?_push_size _ rfl,rfl,rfl⟩;have hL1:(s.heap.push (revObj a ((vs.toArray.size:Int) - 1))).IsList a vs.toArray:=by
  refine el11 hL fun o ho q=>?_;exact ⟨o,Heap.get?_push_of_some _ ho,q⟩
 have W:=(Walks.listRev (prog:=P) (w:=w) (A:=A.in1.in1) hh s.heap.objs.size a hne vs.toArray).toS;refine zv8 (wpAny_call (codeAny_call_builtin PySem.F.slot_str_join.plain PySem.F.entry_str_join (PySem.F.slot_str_join.check _ _ _ _ _ _ _ _ (typeIs_str _ _ _) (PySem.F.args_str_join_2 _ _) ?_)));rw [join_tree_other];refine wpAny_bind (wpAny_typeOf hit.typeIs ?_);show wpAny _ A.in1 ((pyIter (.ref s.heap.objs.size)).tryCatch _ >>= fun it=>collect it >>= fun items=>joinTail ⟨sep.toArray⟩ items) _ _ _;refine wpAny_bind (wpAny_tryCatch (wpAny_pyIter_revIter hit ?_));refine wpAny_bind (wg1 W (fun i s st=>st.2.1.typeIs) ⟨iv8 _,by simpa using hit,hL1⟩ (fun b hb=>?_) (by simp) (fun s' acc hm hacc=>?_) (by rw [iz1,r.length,zw5];exact hlen))
 ·rw [Heap.size_push]
  simp only [ix7,oq4,or_false] at hb;rcases hb with rfl|rfl
  ·exact ij7 _
  ·refine el11 hL fun o ho U=>?_
   exact oz6 (Heap.lt_size ho)
 ·have ea:acc.toList=strValues ts:=by
   refine ets▸?_;refine List.ext_getElem? fun j=>?_;by_cases hj:j < vs.length
   ·rw [List.getElem?_reverse hj]
    have hj':j < acc.size:=by rw [hacc.1,iz1];exact hj
    have h1:=hacc.2 j _ (Array.getElem?_eq_getElem hj');rw [iz1] at h1;rw [Array.getElem?_toList,Array.getElem?_eq_getElem hj',<-h1];simp
   ·rw [oz2 (by rw [Array.length_toList,hacc.1,iz1];exact l21 0x87187 (ik2 hj)),oz2 (by rw [ox2];exact l21 0x87187 (ik2 hj))]
  refine ea.symm▸?_;have g:Gives (joinTail ⟨sep.toArray⟩ (strValues ts)) (joinMade ⟨sep.toArray⟩ ts):=by
   have g0:=gives_joinTail ⟨sep.toArray⟩ ts hl;cases ts with
   | nil=>exact g0
   | cons p r=>cases r with
    | nil=>exact g0
    | cons q r'=>exact g0
  refine g P w A (wants (fun v s''=>(s.heap.push (revObj a ((vs.toArray.size:Int) - 1))).objs.size<=s''.heap.objs.size->Q v s'') (fun e s''=>(s.heap.push (revObj a ((vs.toArray.size:Int) - 1))).objs.size<=s''.heap.objs.size->E e s'')) s' (post_join ts ⟨joinFit_length hl,fun t' k=>?_⟩);show (s.heap.push (revObj a ((vs.toArray.size:Int) - 1))).objs.size<=s'.heap.objs.size->Q _ _;intro hsz;refine hg.symm▸?_;have es:({ s' with toks:=k }:Shared)={ s with heap:=s'.heap,toks:=k }:=by
   obtain ⟨h1,h2,h3,h4,h5⟩:=s';have a1:=hm.gens;have a2:=hm.drawn;have a3:=hm.os;simp only at a1 a2 a3;subst a1 a2 a3;rfl
  refine es.symm▸?_;rw [Heap.size_push] at hsz;obtain ⟨I',N'⟩:=I.more (h':=s'.heap) (l21 0x81371187 hsz) (fun b o q=>hm.heap b o (by
   intro hb;rw [iq4] at hb;subst hb;exact absurd (Heap.lt_size q) (oq2 _)) (Heap.get?_push_of_some _ q)) k
  exact H _ _ _ (N'.weaken fun U q=>nomatch q) I' zx6.str
end
end
section
open PySem PySem.W PyProof.Rows PySem.Calls
theorem yx6 {e:Expr} {r:Str} (h:uj4 e=some r):∃ p,e=.Name r p:=by
 exact exName_ind (M:=fun e o=>o=some r->∃ p,e=.Name r p) (fun x p q=>⟨p,congrArg (fun U=>Expr.Name U p) (Option.some.inj q)⟩) (fun e q=>zz7 q) h
theorem att_inv {e o:Expr} {n:Str} {p:Pos} (h:att e=some (o,n,p)):e=.Attribute o n p:=by
 exact exAttr_ind (M:=fun e x=>x=some (o,n,p)->e=.Attribute o n p) (fun a b c q=>by cases q;rfl) (fun e q=>zz7 q) h
theorem strC_inv {c:Const} {a:Str} (h:strC c=some a):c=.str a:=by
 cases c <;> first|exact zz7 h|exact congrArg Const.str (Option.some.inj h)
theorem xg3 {e:Expr} {a:Str} (h:wk0 e=some a):∃ k p,e=.Constant (.str a) k p:=by
 exact exConst_ind (M:=fun e x=>x=some a->∃ k p,e=.Constant (.str a) k p) (fun c k p q=>⟨k,p,congrArg (fun U=>Expr.Constant U k p) (strC_inv q)⟩) (fun e q=>zz7 q) h
theorem yy8 {α β:Type} {l:List α} {f:α->Option β} {b:β} (h:one1 l f=some b):∃ a,l=[a]/\f a=some b:=by
 cases l with
 | nil=>exact zz7 h
 | cons a r=>cases r with
  | nil=>exact ⟨a,rfl,h⟩
  | cons=>exact zz7 h
theorem uz2 {e a:Expr} (h:revOf e=some a):∃ p1 p2,e=.Call (.Name "reversed" p1) [a] [] p2:=by
 refine exCall_ind (M:=fun e x=>x=some a->∃ p1 p2,e=.Call (.Name "reversed" p1) [a] [] p2) (fun g as ks p2 h=>?_) (fun e q=>zz7 q) h
 ·refine oe (show (uj4 g).elim Option.none (fun r=>one1 as fun a=>if r = "reversed"/\ks.isEmpty=true then some a else Option.none)=some a from h) fun r q h=>?_
  refine el11 (yy8 h) fun a1 e1 h=>?_;refine zz9 (ifs h) fun hc e2=>?_;refine el10 (yx6 q) fun p1 e3=>?_;exact ⟨p1,p2,by rw [e3,e1,e2,hc.1,ik3.mp hc.2]⟩
theorem af_1 (o e:Expr) (n:Str):zf6 o n [e]=(revOf e).elim (.meth o n) fun a=>if n = "join" then .revjoin o a else .meth o n:=rfl
theorem af_2 (o e1 e2:Expr) (n:Str):zf6 o n [e1,e2]=(wk0 e1).elim (.meth o n) fun a=>(wk0 e2).elim (.meth o n) fun b=>if n = "replace" then .repl o a b else .meth o n:=rfl
theorem af_cases (o:Expr) (n:Str) (args:List Expr):zf6 o n args=.meth o n\/(∃ a p1 p2,zf6 o n args=.revjoin o a/\n = "join"/\args=[.Call (.Name "reversed" p1) [a] [] p2])\/
 ∃ a b k1 p1 k2 p2,zf6 o n args=.repl o a b/\n = "replace"/\args=[.Constant (.str a) k1 p1,.Constant (.str b) k2 p2]:=by
 rcases args with _|⟨e1,_|⟨e2,_|⟨e3,args⟩⟩⟩
 ·exact .inl rfl
 ·cases q:revOf e1 with
  | none=>exact .inl (by rw [af_1,q];rfl)
  | some a=>
   by_cases hn:n = "join"
   ·obtain ⟨p1,p2,rfl⟩:=uz2 q
    exact .inr (.inl ⟨a,p1,p2,by rw [af_1,q];exact if_pos hn,hn,rfl⟩)
   ·exact .inl (by rw [af_1,q];exact if_neg hn)
 ·cases q1:wk0 e1 with
  | none=>exact .inl (by rw [af_2,q1];rfl)
  | some a=>cases q2:wk0 e2 with
   | none=>exact .inl (by rw [af_2,q1,q2];rfl)
   | some b=>
    by_cases hn:n = "replace"
    ·refine hid fun G kG=>?_
     obtain ⟨k1,p1,rfl⟩:=xg3 q1;obtain ⟨k2,p2,rfl⟩:=xg3 q2;refine kG ?_;exact .inr (.inr ⟨a,b,k1,p1,k2,p2,by rw [af_2,q1,q2];exact if_pos hn,hn,rfl⟩)
    ·exact .inl (by rw [af_2,q1,q2];exact if_neg hn)
 ·exact .inl rfl
theorem cf_cases (f:Expr) (args:List Expr) (kws:List Keyword) (pos:Pos):zw3 f args kws pos=.no\/kws=[]/\args.any zy7=false/\args.length < 20/\
 (zw3 f args kws pos=.call f/\(∀ o n p,f≠.Attribute o n p)\/∃ o n p,f=.Attribute o n p/\(p.endLine == pos.line)=true/\zw3 f args kws pos=zf6 o n args):=by
 by_cases q:(decide (20<=args.length)||args.any zy7||!kws.isEmpty)=true
 ·exact .inl (if_pos q)
 ·have e:zw3 f args kws pos=_:=if_neg q
  rw [iw3,iw3,not_or,not_or,decide_eq_true_eq,Nat.not_le,oz0,oz0,Bool.not_eq_false'] at q;refine (fun h=>?_:(∀ {c:Prop},c->kws=[]/\args.any zy7=false/\args.length < 20/\c)->_) fun z=>⟨ik3.mp q.2,q.1.2,q.1.1,z⟩;refine ocs (att f) (fun ha=>?_) fun z ha=>?_
  ·rw [ha] at e
   exact .inr (h (.inl ⟨e,fun o n p hf=>by rw [hf] at ha;cases ha⟩))
  ·obtain ⟨o,n,p⟩:=z
   rw [ha] at e;refine bcs (p.endLine == pos.line) (fun hp=>?_) fun hp=>?_
   ·exact .inr (h (.inr ⟨o,n,p,att_inv ha,hp,e.trans (if_neg (by rw [hp];decide))⟩))
   ·exact .inl (e.trans (if_pos hp))
section
variable {X:List Addr} {α β γ δ:Type} {R:Lay->Heap->α->β->Prop} {R':Lay->Heap->γ->δ->Prop} {n k:Nat} {A:Around} {fr:List Env} {sc:Scope} {ρ:Rho} {env:Env} {ι ι':Lay} {σ σ':zz0} {s s':Shared}
 {Q:QV0} {QX:QA0} {E:QV0}
theorem xj2 {f:Expr} {args:List Expr} {pos:Pos} (h:∀ o n p,f≠.Attribute o n p):eval (.Call f args [] pos) env=(do callWith pos (<-eval f env) [] (backTo pos (starEach args env)) []):=by
 cases f <;> first|rfl|exact absurd rfl (h _ _ _)
theorem zp8 {o:Expr} {name:Str} {ap pos:Pos} {args:List Expr} {ov:Value} (hs:args.any zy7=false) (hl:args.length < 20) (hp:(ap.endLine == pos.line)=true)
 (h:wpAny (model P w) A (getMethod ov name (do return (<-importBound o env).getD true)) (fun p s1=>wpAny (model P w) A (callWith pos p.1 p.2 (backTo pos (starEach args env)) []) Q E s1) E s) :
 wpAny (model P w) A (methodCall o name ap pos env ov (args.length + ([]:List Keyword).length) (backTo pos (starEach args env)) (backToKw pos (keywordEach [] env))) Q E s:=by
 have hf:methodCallForm (args.length + ([]:List Keyword).length) (backTo pos (starEach args env)) (backToKw pos (keywordEach [] env))=true:=by
  unfold methodCallForm;have h1:(backTo pos (starEach args env)).all (fun x=>!x.1)=true:=by
   have:=wv5 (env:=env) (pos:=pos) hs;rw [List.any_eq_false] at this;rw [iz0];intro x hx;have:=this x hx;simpa using this
  refine h1.symm▸?_;show (true&&true&&decide (args.length + 0 + 0 < 30))=true;simp only [Bool.and_self,iw5,decide_eq_true_eq];exact l11 0x146137111e61303037111 hl
 unfold methodCall;refine hf.symm▸?_;refine wpAny_bind (wpAny_holding (wpAny_mono h (fun p s1 h1=>?_) fun U U q=>q));unfold methodCallPos;refine hp.symm▸?_;exact wpAny_bind (wpAny_pure h1)
theorem ub7 {f:Expr} {args:List Expr} {pos:Pos} (B:zf9) (ih:EvE (zz4 n) n k) (hc:yz7 n) (S:St n A fr sc ρ env ι σ s) (hs:args.any zy7=false) (hf:∀ o n p,f≠.Attribute o n p)
 (H:zj5 ((evE (zz4 n) k sc ρ f σ).bnd fun g σ=>(zh2 (fun e σ=>evE (zz4 n) k sc ρ e σ) args σ).bnd fun vs σ=>zz4 n g vs σ) ι s Q E):wpAny (model P w) A (eval (.Call f args [] pos) env) Q E s:=by
 rw [xj2 hf];refine wpAny_bind (ih.use S H fun g σ1 ι1 x s1 N S1 rg H1=>?_);refine wj3 (first:=[]) ih S1 hs H1 fun vs σ2 ι2 xs s2 N2 S2 rs H2=>?_
 have rg':=S1.rel N2 rg;exact ⟨keep_at B S2.I rg' H2,hc S2.rm S2.fo S2.I S2.tk rg' rs H2⟩
theorem uk2 {o:Expr} {name:Str} {ap:Pos} {args:List Expr} {pos:Pos} (B:zf9) (ih:EvE (zz4 n) n k) (hc:yz7 n) (S:St n A fr sc ρ env ι σ s) (hs:args.any zy7=false) (hl:args.length < 20) (hp:(ap.endLine == pos.line)=true)
 (H:zj5 ((evE (zz4 n) k sc ρ o σ).bnd fun r σ=>(liftO (zk3 r name σ) σ).bnd fun m σ=>(zh2 (fun e σ=>evE (zz4 n) k sc ρ e σ) args σ).bnd fun vs σ=>yh0 (zz4 n) m r vs σ) ι s Q E) :
 wpAny (model P w) A (eval (.Call (.Attribute o name ap) args [] pos) env) Q E s:=by
 rw [arm_eval_Call,xh1 H];refine wpAny_bind (ih.use S H fun r σ1 ι1 x s1 N S1 rr H1=>wpAny_bind (wpAny_standAt (zp8 hs hl hp ?_)));refine ocs (zk3 r name σ1) (fun em=>?_) fun m em=>?_
 ·rw [em] at H1;exact H1.elim
 ·replace H1:=em▸H1
  refine el11 (vw3 (pl:=do return (<-importBound o env).getD true) (A:=A) (E:=E) B S1.I rr em) fun fv mv pq7=>?_;obtain ⟨kp,g⟩:=pq7;refine g _ ?_;refine wj3 (first:=[x]) ih S1 hs H1 fun vs σ2 ι2 xs s2 N2 S2 rs H2=>?_
  cases m with
  | bm id=>
   cases mv;exact ⟨yz2,meth_ok S2.I (S1.rel N2 rr) rs H2⟩
  | fm q=>
   refine el11 mv fun f hf pq11=>?_;obtain ⟨hq,rfl⟩:=pq11;refine ⟨wy7 B S2.I hf,hc S2.rm S2.fo S2.I S2.tk (f:=.fn q) ?_ (args:=r::vs) ?_ H2⟩
   ·exact ⟨f,hf,hq,rfl⟩
   ·exact ⟨_,_,rfl,S1.rel N2 rr,rs⟩
theorem uz4 {o:Expr} {a b:Str} {ap p1 p2:Pos} {k1 k2:Nat} {pos:Pos} {C:zz5} (ih:EvE C n k) (S:St n A fr sc ρ env ι σ s) (hp:(ap.endLine == pos.line)=true)
 (H:zj5 ((evE C k sc ρ o σ).bnd fun v σ=>xf8 v a b σ) ι s Q E):wpAny (model P w) A (eval (.Call (.Attribute o "replace" ap) [.Constant (.str a) k1 p1,.Constant (.str b) k2 p2] [] pos) env) Q E s:=by
 rw [arm_eval_Call,xh1 H];refine wpAny_bind (ih.use S H fun r σ1 ι1 x s1 N S1 rr H1=>wpAny_bind (wpAny_standAt (zp8 rfl (by simp) hp ?_)));have H1':=H1;refine el11 (zz3.opt H1) fun y ey U=>?_;refine rr.os ey fun t=>?_
 ·have rr:Rel ι1 s1.heap r (.str ⟨y.toArray⟩ t):=by rw [yj6 ey];exact ⟨t,rfl⟩
  have noref:∀ {y:Str} {t:Tok},∀ a,Value.str y t=.ref a->∃ o,s1.heap.get? a=some o/\o.dict=none:=fun U q=>nomatch q
  with_reducible refine GM.of _ (typeIs_str _ _ _) PySem.F.slot_str_replace PySem.F.type_str_replace noref ?_
  refine callWith_of (P:=yz6 (model P w) (.builtin "str.replace")) rfl (fun U q=>q) ?_;show wpAny _ _ (evalArgs _ true [(false,eval (.Constant (.str a) k1 p1) env),(false,eval (.Constant (.str b) k2 p2) env)] []) _ _ _;refine evalArgs_plain (spliced_cons (wpAny_Constant_str (spliced_cons (wpAny_Constant_str (spliced_nil ⟨yz2,?_⟩)))));obtain ⟨S2,N2⟩:=S1.more (h':=s1.heap) (t:=s1.toks + 1 + 1) (iq1 _) (fun U U q=>q) (iv7 _);have tk:=S1.tk;exact repl_ok (s:={ s1 with toks:=s1.toks + 1 + 1 }) (ix0 tk) (Nat.succ_ne_zero _) (ij5 (ij7 _)) S2.I rr H1'
theorem uh0 {x:Str} (F:Frm sc ρ env ι s.heap) (h:zw6 sc x=true):env.kindOf x=some .globalImplicit:=by
 unfold zw6 at h;rw [beq_iff_eq] at h;rcases F.kinds x with q|⟨q,_⟩
 ·rw [q,h]
 ·rw [h] at q;cases q
theorem wf5 {x:String} {p:Pos} {T:String} (B:zf9) (S:St n A fr sc ρ env ι σ s) (h:zw6 sc x=true) (h1:Str.ofString x∈(["len","chr","ord","abs","min","isinstance","str","tuple","list","range","reversed","Exception"]:List Str)) (h2:Str.ofString x ≠ "__name__")
 (h3:bootBuiltins (Str.ofString x)=some (.type T)) (hd:(Str.ofString x == ("__debug__" : Str))=false) (hq:Q (.type T) s):wpAny (model P w) A (eval (.Name x p) env) Q E s:=by
 have hg:s.heap.Ns env.globals mg:=by rw [S.F.glob];exact B.g.keeps S.I.keep
 have hbb:s.heap.Ns env.builtins mb:=by rw [S.F.blt];exact B.b.keeps S.I.keep
 exact Name_function_global S.F.kind (uh0 S.F h) (loadGlobal_builtin hg (B.free _ h1) hbb ((B.blt _ h2).trans h3) hq) hd
theorem rev_form {o a:Expr} {ap p1 p2:Pos} {pos:Pos} {C:zz5} (B:zf9) (ih:EvE C n k) (S:St n A fr sc ρ env ι σ s) (hp:(ap.endLine == pos.line)=true)
 (H:zj5 (if zw6 sc "reversed" = false then .bad else (evE C k sc ρ o σ).bnd fun r σ=>evRj (fun e σ=>evE C k sc ρ e σ) a r σ) ι s Q E):wpAny (model P w) A (eval (.Call (.Attribute o "join" ap) [.Call (.Name "reversed" p1) [a] [] p2] [] pos) env) Q E s:=by
 refine zz9 (zz3.ifn H) fun hg H=>?_;have hg:zw6 sc "reversed" = true:=by simpa using hg
 rw [arm_eval_Call,xh1 H];refine wpAny_bind (ih.use S H fun r σ1 ι1 x s1 N S1 rr H1=>wpAny_bind (wpAny_standAt (zp8 rfl (by simp) hp ?_)));refine zz3.os H1 rr (fun y t H1=>?_) False.elim;have H1:zz3 (zx6) [] ((evE C k sc ρ a σ1).bnd fun v σ=>xk6 y v σ) ι1 s1 Q (fun e s'=>Q (Value.ref e) s') E:=H1;have noref:∀ {y:Str} {t:Tok},∀ a,Value.str y t=.ref a->∃ o,s1.heap.get? a=some o/\o.dict=none:=fun U q=>nomatch q;have hst:zy7 a=false:=by
  cases a <;> first|rfl|skip
  replace H1:=yf0▸H1;exact H1.elim
 with_reducible refine GM.of _ (typeIs_str _ _ _) PySem.F.slot_str_join PySem.F.type_str_join noref ?_
 refine callWith_of (P:=yz6 (model P w) (.builtin "str.join")) rfl (fun U q=>q) ?_;show wpAny _ _ (evalArgs _ true [(false,eval (.Call (.Name "reversed" p1) [a] [] p2) env)] []) _ _ _;refine evalArgs_plain (spliced_cons ?_);rw [xj2 (fun U U U q=>by cases q)];refine wpAny_bind (wf5 (x:= "reversed") (T:= "reversed") B S1 hg (by decide +kernel) (by decide +kernel) (by decide +kernel) (rfl) ?_);refine callWith_of (P:=yz6 (model P w) (.type "reversed")) (by rw [wv5 (by rw [ox7,hst];rfl)];rfl) (fun U q=>q) ?_;refine yq6 (by rw [ox7,hst];rfl) ?_;rw [zy1 (fun x p q=>by subst q;cases hst)];refine spliced_cons (ih.use S1 H1 fun v σ2 ι2 z s2 N2 S2 rv H2=>spliced_nil ⟨⟨.machine,.inr (.inl rfl),Looks.of_pure rfl⟩,?_⟩);refine zz3.ol S2.I H2 rv (fun i l xa vs m hi ho r hL H2=>?_) False.elim;refine zz9 (zz3.ifp H2) fun hz H2=>?_;refine call_reversed_list hL (spliced_nil ⟨yz2,?_⟩);exact vj9 S2.rm.handled S2.I hL r hz H2
theorem wg5 {f:Expr} {args:List Expr} {kws:List Keyword} {pos:Pos} (B:zf9) (ih:EvE (zz4 n) n k) (hc:yz7 n) (S:St n A fr sc ρ env ι σ s)
 (H:zj5 (evE (zz4 n) (k + 1) sc ρ (.Call f args kws pos) σ) ι s Q E):wpAny (model P w) A (eval (.Call f args kws pos) env) Q E s:=by
 have ev:∀ r,zw3 f args kws pos=r->zj5 (wq5 (fun e σ=>evE (zz4 n) k sc ρ e σ) (zz4 n) sc args r σ) ι s Q E:=fun r e=>e▸H;rcases cf_cases f args kws pos with e|⟨rfl,hs,hl,⟨e,hf⟩|⟨o,m,ap,rfl,hp,e⟩⟩
 ·exact (ev _ e).elim
 ·exact ub7 B ih hc S hs hf (ev _ e)
 ·rcases af_cases o m args with q|⟨a,p1,p2,q,rfl,rfl⟩|⟨a,b,k1,p1,k2,p2,q,rfl,rfl⟩
  ·exact uk2 B ih hc S hs hl hp (ev _ (e.trans q))
  ·exact rev_form B ih S hp (ev _ (e.trans q))
  ·exact uz4 ih S hp (ev _ (e.trans q))
end
section
variable {X:List Addr} {α β γ δ:Type} {R:Lay->Heap->α->β->Prop} {R':Lay->Heap->γ->δ->Prop} {n k:Nat} {C:zz5} {A:Around} {fr:List Env} {sc:Scope} {ρ:Rho} {env:Env} {ι ι':Lay} {σ σ':zz0} {s s':Shared}
 {Q:QV0} {QX:QA0} {E:QV0}
theorem Inv.aside (I:Inv ι σ s) {d:Addr} {h':Heap} (hs:Heap.SameBut d s.heap h') (h1:∀ p∈ι,p.1≠d/\p.2≠d) (h2:hb.get? d=none) (h3:d∉zk9) (hd:∃ o es m,s.heap.get? d=some o/\o.data=.dict es m) (t:Nat) :
 Inv ι σ { s with heap:=h',toks:=t }/\Nx [d] ι ι s.heap h':=by
 have N:Nx [d] ι ι s.heap h':=⟨ij3 hs.1.symm,⟨[],(iq7 _).symm,fun U hp=>nomatch hp⟩,fun b o e hx U U=>⟨o.slots,(hs.2 b fun q=>hx ((q)▸iq4.mpr rfl)).trans e,.inr rfl⟩⟩;have hX:zx4 [d] s.heap:=fun a ha=>by rw [iq4.mp ha];obtain ⟨o,es,m,e,q⟩:=hd;exact ⟨o,e,.inl ⟨es,m,q⟩⟩
 have fnx:∀ {f:List (Str×V)} {es:List DictEntry},zk8 ι s.heap f es->zk8 ι h' f es:=by
  intro f;induction f with
  | nil=>exact fun r=>r
  | cons p f ih=>obtain ⟨x,v⟩:=p;exact fun pq3=>el34 pq3 fun e u t a b c q r=>⟨e,u,t,a,b,c,q.nx I hX N,ih r⟩
 refine ⟨⟨I.len,fun i o e=>?_,I.nodup,I.fresh,fun b o e=>(hs.2 b fun q=>?_).trans (I.keep b o e),fun P hP=>?_,I.gens,I.os⟩,N⟩
 ·refine el11 (I.objs i o e) fun rp q r=>?_
  have hm:=iv0 q;refine ⟨rp,q,?_⟩;cases o with
  | lst l=>
   refine hid fun G kG=>?_;obtain ⟨e1,vs,m,a,b⟩:=r;refine kG ?_;exact ⟨e1,vs,m,(hs.2 _ (h1 rp hm).2).trans a,b.nx I hX N⟩
  | inst c f=>
   refine el43 r fun C sl es m a b q1 q2=>?_;exact ⟨C,sl,es,m,a,(hs.2 _ (h1 rp hm).1).trans b,(hs.2 _ (h1 rp hm).2).trans q1,fnx q2⟩
 ·rw [q,h2] at e;cases e
 ·refine el11 (I.tabs P hP) fun ps q r=>?_
  exact ⟨ps,(hs.2 P fun z=>h3 (z▸hP)).trans q,r.1,fun pos cv e=>I.codeRec hX N (r.2 pos cv e)⟩
theorem Nx.after {ι₁:Lay} {h h1 h2:Heap} {d:Addr} (N:Nx [] ι ι₁ h h1) (hs:Heap.SameBut d h1 h2) (hd:h.objs.size<=d):Nx [] ι ι₁ h h2:=
 ⟨iq2 N.size (ij3 hs.1.symm),N.pre,fun b o e hx hp ht=>by
  refine el11 (N.keep' b o e hx hp ht) fun sl q c=>?_;exact ⟨sl,(hs.2 b fun z=>absurd (Heap.lt_size e) (Nat.not_lt.mpr (z▸hd))).trans q,c⟩⟩
noncomputable abbrev RP:Lay->Heap->List (V×V)->List (Value×Value)->Prop:=fun ι h xs ps=>zq2 ι h (xs.map (fun U=>U.1)) (ps.map (fun U=>U.1))/\zq2 ι h (xs.map (fun U=>U.2)) (ps.map (fun U=>U.2))
theorem yf7 {pos:Pos} (ih:EvE C n k):∀ (ks:List (Option Expr)) (es vs:List Expr) {ι:Lay} {σ:zz0} {s:Shared} {g:List (V×V)->zz0->Out γ} {Q1:List (Value×Value)->Shared->Prop} {Q':δ->Shared->Prop},yk6 ks=some es->es.length=vs.length->
 St n A fr sc ρ env ι σ s->zz3 R' [] ((zh2 (xv3 fun e σ=>evE C k sc ρ e σ) (es.zip vs) σ).bnd g) ι s Q' QX E->
 (∀ xs σ' ι' ps s',Nx [] ι ι' s.heap s'.heap->St n A fr sc ρ env ι' σ' s'->RP ι' s'.heap xs ps->zz3 R' [] (g xs σ') ι' s' Q' QX E->Q1 ps s')->wpAny (model P w) A (evalPairs (pairTrees ks vs env pos)) Q1 E s
 | [],es,vs,ι,σ,s,g,Q1,Q',e,hl,S,H,K=>by
  cases e;cases vs with
  | nil=>exact evalPairs_nil (K [] σ ι [] s Nx.refl S ⟨rfl,rfl⟩ H)
  | cons _ _=>cases hl
 | Option.none::ks,es,vs,ι,σ,s,g,Q1,Q',e,hl,S,H,K=>by cases e
 | some x::ks,es,vs,ι,σ,s,g,Q1,Q',e,hl,S,H,K=>by
  refine el11 (ix1.mp e) fun es' e' eq4=>?_;subst eq4;cases vs with
  | nil=>cases hl
  | cons y vs=>
   rw [ik1] at H;replace H:=H.assoc;unfold xv3 at H;replace H:=H.assoc;refine pairTrees_cons_walk (ih.use S H fun a σ1 ι1 u s1 N1 S1 ra H1=>?_);replace H1:=H1.assoc;refine ih.use S1 H1 fun b σ2 ι2 z s2 N2 S2 rb H2=>?_;change zz3 R' [] (((zh2 (xv3 fun e σ=>evE C k sc ρ e σ) (es'.zip vs) σ2).bnd fun vs σ=>Out.ok ((a,b)::vs) σ).bnd g) ι2 s2 Q' QX E at H2;replace H2:=H2.assoc;refine yf7 ih ks es' vs e' (by simpa using hl) S2 H2 fun xs σ3 ι3 ps s3 N3 S3 r H3=>?_;refine K ((a,b)::xs) σ3 ι3 ((u,z)::ps) s3 (N1.trans (N2.trans N3)) S3 ⟨?_,?_⟩ H3
   ·show zq2 _ _ (a::xs.map _) (u::ps.map _)
    exact ⟨_,_,rfl,S2.rel N3 (S1.rel N2 ra),r.1⟩
   ·show zq2 _ _ (b::xs.map _) (z::ps.map _)
    exact ⟨_,_,rfl,S2.rel N3 rb,r.2⟩
theorem ints_of {l:List V}:∀ {ks:List Int} {us:List Value} {h:Heap},zh9 l=some ks->zq2 ι h l us->ks.length=us.length/\∀ (vs:List Value),vs.length=us.length->Carries (intKind P w) (us.zip vs) (ks.zip vs):=by
 induction l with
 | nil=>
  intro ks us h e r;cases Option.some.inj e;cases (show us=[] from r);exact ⟨rfl,fun vs U=>trivial⟩
 | cons v l ih=>
  intro ks us h e r;refine oe (show (zj9 v).elim Option.none (fun i=>(zh9 l).map (fun U=>i::U))=some ks from e) fun i ei e=>?_;refine el11 (ix1.mp e) fun ks' e' q=>?_;subst q;refine el22 r fun x u q r1 r2=>?_;subst q;refine r1.oi ei fun t=>?_;refine zz9 (ih e' r2) fun h1 h2=>?_;refine ⟨congrArg (fun U=>U + 1) h1,fun vs hv=>?_⟩;cases vs with
  | nil=>cases hv
  | cons y vs=>exact ⟨by simp [intKind,Value.isInt],rfl,h2 vs (Nat.succ.inj hv)⟩
theorem get_ints {K:Type} [DecidableEq K]:∀ {ks:List K} {vals:List V} {us:List Value} {h:Heap} {j:K} {v:V},zq2 ι h vals us->zp1 ks vals j=some v->∃ x,valueAt (ks.zip us) j=some x/\Rel ι h v x:=by
 intro ks;induction ks with
 | nil=>
  intro U U U U U U e;simp [zp1] at e
 | cons k ks ih0=>
  intro l0;cases l0 with
  | nil=>
   intro us h j v r e;simp [zp1] at e
  | cons y vals=>
   intro us h j v r e;refine el22 r fun x u eq9 r1 r2=>?_;subst eq9;unfold zp1 at e;unfold valueAt;rw [ik1,oq7] at e ⊢;by_cases q:k=j
   ·subst q
    simp at e ⊢;subst e;exact r1
   ·simp only [q,decide_false] at e ⊢
    exact ih0 r2 e
theorem vg2 {l:List V} {js:List Int} {x:Value} (I:Inv ι σ s) (e:zh9 l=some js) (r:Rel ι s.heap (.tup l) x):∃ a,x=.ref a/\IsTupleKey (intKind P w) s.heap js a:=by
 refine hid fun G kG=>?_;obtain ⟨a,vs,rfl,⟨o,ho,hc,m,hd⟩,r⟩:=r;refine kG ?_;have hi:∀ {l:List V} {js:List Int} {vs:List Value},zh9 l=some js->zq2 ι s.heap l vs->ItemsAre (intKind P w) js vs:=by
  intro l;induction l with
  | nil=>intro js vs e r;cases Option.some.inj e;cases (show vs=[] from r);exact .nil
  | cons v l ih=>
   intro js vs e r;refine oe (show (zj9 v).elim Option.none (fun i=>(zh9 l).map (fun U=>i::U))=some js from e) fun i ei e=>?_;refine el11 (ix1.mp e) fun ks' e' q=>?_;subst q;refine el22 r fun x u q r1 r2=>?_;subst q;exact r1.oi ei fun t=>.cons (by simp [intKind,Value.isInt]) (ih e' r2)
 exact ⟨a,rfl,o,vs.toArray,m,ho,hc,hd,hi e r⟩
noncomputable def yp9 (h:Heap):List (List Int)->List Value->Prop
 | [],us=>us=[]
 | k::ks,us=>∃ a u,us=.ref a::u/\IsTupleKey (intKind P w) h k a/\yp9 h ks u
theorem uw9 (I:Inv ι σ s) {l:List V}:∀ {ks:List (List Int)} {us:List Value},wj7 l=some ks->zq2 ι s.heap l us->yp9 s.heap ks us/\ks.length=us.length:=by
 induction l with
 | nil=>
  intro ks us e r;cases Option.some.inj e;cases (show us=[] from r);exact ⟨rfl,rfl⟩
 | cons v l ih=>
  intro ks us e r;refine oe (show (zj2 v).elim Option.none (fun l'=>(zh9 l').elim Option.none fun k=>(wj7 l).map (fun U=>k::U))=some ks from e) fun l' e1 e=>oe e fun k e2 e=>?_;refine el11 (ix1.mp e) fun ks' e' q=>?_;subst q;refine el22 r fun x u q r1 r2=>?_;subst q;rw [zf7 e1] at r1;refine el11 (vg2 I e2 r1) fun a q z=>?_;refine zz9 (ih e' r2) fun h1 h2=>?_;exact ⟨⟨a,u,by rw [q],z,h1⟩,congrArg (fun U=>U + 1) h2⟩
noncomputable def refOf (x:Value):Option Addr:=Value.casesOn (motive:=fun U=>Option Addr) x Option.none Option.none Option.none (fun U=>.none) (fun U U=>.none) (fun U U=>.none) (fun U U=>.none) (fun U U=>.none) (fun U=>.none) (fun U=>.none) (fun a=>some a)
noncomputable def vg6 (ks:List (List Int)) (us vs:List Value):List (List Int×Addr×Value):=List.rec (motive:=fun U=>List Value->List Value->List (List Int×Addr×Value)) (fun U U=>[])
 (fun k U ih us vs=>List.casesOn us [] fun u us=>List.casesOn vs [] fun v vs=>(refOf u).elim [] fun a=>(k,a,v)::ih us vs) ks us vs
theorem xh9 {h:Heap} {ks:List (List Int)}:∀ {us vs:List Value},yp9 h ks us->vs.length=us.length->(vg6 ks us vs).map (fun U=>U.1)=ks/\∀ x∈vg6 ks us vs,IsTupleKey (intKind P w) h x.1 x.2.1:=by
 induction ks with
 | nil=>exact fun U U=>⟨rfl,fun U hx=>nomatch hx⟩
 | cons k ks ih=>
  intro us vs r e;refine el22 r fun a u e1 q r2=>?_;subst e1;cases vs with
  | nil=>cases e
  | cons v vs=>
   refine zz9 (ih r2 (Nat.succ.inj e)) fun h1 h2=>?_;refine ⟨congrArg (fun U=>k::U) h1,fun x hx=>?_⟩;rcases ix7.mp hx with e|hx
   ·rw [e];exact q
   ·exact h2 x hx
theorem get_tups {ks:List (List Int)}:∀ {vals:List V} {us vs:List Value} {h:Heap} {j:List Int} {v:V},yp9 h ks us->zq2 ι h vals vs->zp1 ks vals j=some v->∃ p:Addr×Value,atKey (vg6 ks us vs) j=some p/\Rel ι h v p.2:=by
 induction ks with
 | nil=>intro vals us vs h j v _ _ e;cases vals <;> exact zz7 e
 | cons k ks ih=>
  intro vals us vs h j v r q e;cases vals with
  | nil=>exact zz7 e
  | cons y vals=>
   refine el22 r fun a u e1 t r2=>?_;subst e1;refine el22 q fun x z eq24 q1 q2=>?_;subst eq24;unfold zp1 at e;unfold atKey;rw [ik1,oq7] at e;rw [show vg6 (k::ks) (.ref a::u) (x::z)=(k,a,x)::vg6 ks u z from rfl,oq7];by_cases c:k=j
   ·rw [decide_eq_true (p:=k=j) c] at e ⊢
    exact ⟨(a,x),rfl,Option.some.inj e▸q1⟩
   ·rw [decide_eq_false (p:=k=j) c] at e ⊢
    exact ih r2 q2 e
theorem storeH {d:Addr} (hu:A.units < cLine) (ks:List (List Int)):∀ (us vs:List Value) (acc:List (List Int×Addr×Value)) (s:Shared) (Q1:PUnit->Shared->Prop),yp9 s.heap ks us->vs.length=us.length->s.heap.DictOfH (tupleKind (intKind P w)) d acc->
 ((acc++vg6 ks us vs).map (fun U=>U.1)).Nodup->acc.length + ks.length<=sizeLine->
 (∀ h' t,s.toks<=t->h'.DictOfH (tupleKind (intKind P w)) d (acc++vg6 ks us vs)->Heap.SameBut d s.heap h'->Q1 PUnit.unit { s with heap:=h',toks:=t })->wpAny (model P w) A (storeAll d (us.zip vs)) Q1 E s:=by
 induction ks with
 | nil=>
  intro us vs acc s Q1 r hv hd hn hz hq;cases (show us=[] from r);exact wpAny_pure (hq s.heap s.toks (iq1 _) ((iq7 acc).symm▸hd) (Heap.SameBut.refl _ _))
 | cons k ks ih2=>
  intro us vs acc s Q1 r hv hd hn hz hq;refine el22 r fun a u e1 t r2=>?_;subst e1;cases vs with
  | nil=>cases hv
  | cons v vs=>
   have ea:acc++vg6 (k::ks) (.ref a::u) (v::vs)=(acc++[(k,a,v)])++vg6 ks u vs:=List.append_cons acc (k,a,v) (vg6 ks u vs);unfold storeAll;rw [ik1,oq9];have hnew:atKey acc k=none:=by
    unfold atKey;rw [Option.map_eq_none_iff,List.find?_eq_none];intro x hx hk;rw [iv6,oz7] at hn;exact hn.2.2 x.1 (ik5.mpr ⟨x,hx,rfl⟩) k (ik5.mpr ⟨(k,a,v),.head _,rfl⟩) (of_decide_eq_true hk)
   refine wpAny_bind (wpAny_bind (wpAny_dictSet_heap (knd:=tupleKind (intKind P w)) (k:=k) hu t hd (fun h' hd' hs=>wpAny_pure ?_) (by simp at hz;exact l31 0x8139171187 hz)));rw [storedH_new hnew] at hd';have kp:∀ {ks:List (List Int)} {us:List Value},yp9 s.heap ks us->yp9 h' ks us:=by
    intro ks;induction ks with
    | nil=>exact fun q=>q
    | cons k ks ih=>
     intro us q;obtain ⟨a,u,rfl,t,q⟩:=q;refine el33 hd fun o es ep ho U hdd U=>?_;exact ⟨a,u,rfl,t.keeps ho hdd hs,ih q⟩
   refine ih2 u vs (acc++[(k,a,v)]) _ Q1 (kp r2) (Nat.succ.inj hv) hd' (ea▸hn) (by simp at hz ⊢;exact l31 0x913817119813711 hz) fun h2 t2 ht hd2 hs2=>?_;exact hq h2 t2 (iq2 (ij4 _ _) ht) (ea.symm▸hd2) (hs.trans hs2)
end
theorem yw1:∀ {ks:List (Option Expr)} {es:List Expr},yk6 ks=some es->ks.all (fun U=>U.isSome)=true/\ks.length=es.length
 | [],_,e=>by cases e;exact ⟨rfl,rfl⟩
 | Option.none::_,_,e=>by cases e
 | some x::ks,es,e=>by
  refine el11 (ix1.mp e) fun es' e' eq1=>?_;subst eq1;obtain ⟨h1,h2⟩:=yw1 e';exact ⟨h1,by simp [h2]⟩
theorem zip_of {α β:Type}:∀ (ps:List (α×β)),ps=(ps.map (fun U=>U.1)).zip (ps.map (fun U=>U.2)):=by
 intro ps;induction ps with
 | nil=>
  exact rfl
 | cons p ps ih0=>
  rw [ij2,ij2,ik1,<-ih0]
theorem xw8 {α β:Type}:∀ (ks:List α) (vs:List β),ks.length=vs.length->(ks.zip vs).map (fun U=>U.1)=ks:=by
 intro ks;induction ks with
 | nil=>
  intro vs U;exact rfl
 | cons k ks ih0=>
  intro l0;cases l0 with
  | nil=>
   intro h;cases h
  | cons v vs=>
   intro h;rw [ik1,ij2,ih0 vs (by simpa using h)]
section
variable {X:List Addr} {α β γ δ:Type} {R:Lay->Heap->α->β->Prop} {R':Lay->Heap->γ->δ->Prop} {n k:Nat} {C:zz5} {A:Around} {fr:List Env} {sc:Scope} {ρ:Rho} {env:Env} {ι ι':Lay} {σ σ':zz0} {s s':Shared}
 {Q:QV0} {QX:QA0} {E:QV0}
theorem yb5 {h h':Heap} {ι₁:Lay} {d:Addr} {o:Obj} (N:Nx [] ι ι₁ h h') (ho:h.get? d=some o) (hc:o.cls=.type "dict") (h1:∀ p∈ι,p.2≠d) (h3:d∉zk9):h'.get? d=some o:=by
 refine el11 (N.keep' d o ho (fun z=>nomatch z) h1 h3) fun sl q c=>?_;rcases c with c|c
 ·rw [hc] at c
  exact absurd c (by decide)
 ·rw [q,c]
theorem vy0 {ks:List (Option Expr)} {vs:List Expr} {dp pos:Pos} {sl:Expr} (hn:yp7 sl) (ih:EvE C n k) (S:St n A fr sc ρ env ι σ s)
 (H:zj5 (evDs (fun e σ=>evE C k sc ρ e σ) (ks,vs) sl σ) ι s Q E):wpAny (model P w) A (eval (.Subscript (.Dict ks vs dp) sl pos) env) Q E s:=by
 refine el11 (zz3.opt H) fun es eo H=>?_;refine zz9 (zz3.ifp H) fun hc H=>?_;refine zg6 hc fun hl h0 h15=>?_;refine zz9 (yw1 eo) fun hall hle=>?_;refine Subscript_ (wpAny_Dict_any hall (hle.trans hl) (by intro q;subst q;simp at hle;exact Nat.not_succ_le_zero _ (l12 0x703d71303110313031 h0 hle)) (hle.symm▸h15) ?_);have hsz:(s.heap.push { cls:=.type "dict",data:=.dict #[]}).objs.size=s.heap.objs.size + 1:=Heap.size_push ..;refine zz9 (S.more (h':=s.heap.push { cls:=.type "dict",data:=.dict #[]}) (t:=s.toks) (l21 0x13718d87 hsz) (fun b o q=>Heap.get?_push_of_some _ q) S.tk) fun S0 N0=>?_;cases er:zh2 (xv3 fun e σ=>evE C k sc ρ e σ) (es.zip vs) σ with
 | bad=>rw [er] at H;exact H.elim
 | ex σ1=>rw [er] at H;exact H.elim
 | exc σ1=>
  rw [er] at H;refine yf7 (R':=zx6) (g:=fun U σ=>.bad) (Q':=fun U U=>False) (QX:=fun U U=>False) ih ks es vs eo hl S0 ((er)▸zz3.rebase H N0) (fun U U U U U U U U q=>q.elim)
 | ok xs σ1=>
  rw [er] at H;refine yf7 (R':=RP) (g:=fun xs σ=>.ok xs σ) (Q':=fun ps s'=>0 < s'.toks->wpAny (model P w) A (storeAll s.heap.objs.size ps) (fun U s₂=>wpAny (model P w) A (eval sl env) (fun i s₂=>wpAny (model P w) A (subscriptTail (.Dict ks vs dp) sl (.ref s.heap.objs.size) i) Q E s₂) E s₂) E s')
   (QX:=fun U U=>False) ih ks es vs eo hl S0 ?_ (fun xs' σ' ι' ps s' N S' r H'=>H' ι' ps s' Nx.refl S'.I r S'.tk)
  refine er.symm▸?_;intro ι1 ps s1 N I1 r tk1;have hfd:hb.get? s.heap.objs.size=none:=zw0 S.I (iq1 _);have htd:s.heap.objs.size∉zk9:=fun q=>by
   refine el11 (S.I.tabs _ q) fun t e U=>?_;exact oq2 _ (Heap.lt_size e)
  have hi0:∀ p∈ι,p.2≠s.heap.objs.size:=fun p hp=>ij5 (S.I.size_of hp).2;have hi1:∀ p∈ι1,p.1≠s.heap.objs.size/\p.2≠s.heap.objs.size:=fun p hp=>by
   refine el11 N.pre fun new en fn=>?_;rw [en] at hp;rcases iz5.mp hp with q|q
   ·exact ⟨ij5 (S.I.size_of q).1,hi0 p q⟩
   ·refine zz9 (fn p q) fun f1 f2=>?_
    simp only at f1 f2;rw [hsz] at f1 f2;exact ⟨ix0 f1,ix0 f2⟩
  have hd1:=yb5 N (Heap.get?_push_size s.heap rfl) rfl hi0 htd;have hps:=zip_of ps;have hlen:(ps.map (fun U=>U.2)).length=(ps.map (fun U=>U.1)).length:=by simp
  have hX:zx4 [s.heap.objs.size] s1.heap:=fun a ha=>by rw [iq4.mp ha];exact ⟨_,hd1,.inl ⟨_,_,rfl⟩⟩
  have hlx:ps.length<=15:=by
   have h1:=r.1.length;simp only [iq9] at h1;have h2:∀ {l:List (Expr×Expr)} {σ σ':zz0} {xs:List (V×V)},zh2 (xv3 fun e σ=>evE C k sc ρ e σ) l σ=.ok xs σ'->xs.length=l.length:=by
    intro l;induction l with
    | nil=>intro σ σ' xs e;cases e;rfl
    | cons p l ih2=>
     intro σ σ' xs e;dsimp only [zh2] at e;cases e1:xv3 (fun e σ=>evE C k sc ρ e σ) p σ with
     | ok a σ2=>
      replace e:=e1▸e;dsimp only [Out.bnd] at e;cases e2:zh2 (xv3 fun e σ=>evE C k sc ρ e σ) l σ2 with
      | ok ys σ3=>rw [e2] at e;cases e;simp [ih2 e2]
      | _=>rw [e2] at e;cases e
     | _=>rw [e1] at e;cases e
   have h3:=h2 er;rw [List.length_zip] at h3;exact l44 0x8a1a99979f381f37 hc.2.2 h1 h3 (Nat.min_le_left _ _)
  refine el11 (zz3.lb (o:=vz6 (xs.map (fun U=>U.1))) H) fun kk ek H=>?_;have fin:∀ (h':Heap) (t:Nat),s1.toks<=t->Heap.SameBut s.heap.objs.size s1.heap h'->(∃ o es m,h'.get? s.heap.objs.size=some o/\o.cls=.type "dict"/\o.data=.dict es m)->
   (∀ i σ3 ι3 z s3,Nx [] ι1 ι3 h' s3.heap->St n A fr sc ρ env ι3 σ3 s3->Rel ι3 s3.heap i z->RP ι3 s3.heap xs ps->zj5 (liftO (wh6 kk (xs.map (fun U=>U.2)) i) σ3) ι3 s3 Q E->
    wpAny (model P w) A (subscriptTail (.Dict ks vs dp) sl (.ref s.heap.objs.size) z) Q E s3)->
   wpAny (model P w) A (eval sl env) (fun i s₂=>wpAny (model P w) A (subscriptTail (.Dict ks vs dp) sl (.ref s.heap.objs.size) i) Q E s₂) E { s1 with heap:=h',toks:=t }:=by
   intro h' t ht hs hdd K;refine zz9 (I1.aside hs hi1 hfd htd ⟨_,_,_,hd1,rfl⟩ t) fun I2 N12=>?_;have N02:Nx [] ι ι1 s.heap h':=(N0.trans N).after hs (iq1 _);have S2:=S.nx (s':={ s1 with heap:=h',toks:=t }) N02 I2 (iq3 tk1 ht);have H2:=zz3.rebase (s':={ s1 with heap:=h',toks:=t }) H N02;refine ih.use S2 H2 fun i σ3 ι3 z s3 N3 S3 ri H3=>?_;exact K i σ3 ι3 z s3 N3 S3 ri ⟨S2.rels N3 (r.1.nx I1 hX N12),S2.rels N3 (r.2.nx I1 hX N12)⟩ H3
  unfold vz6 at ek;refine ocs (zh9 (xs.map (fun U=>U.1))) (fun e1=>?_) fun ks' e1=>?_
  ·replace ek:=e1▸ek
   refine oe ek fun ks' e1 ek=>zz9 (ifs ek) fun hnd q=>?_;refine hid fun G kG=>?_;subst q;obtain ⟨hka,hlk⟩:=uw9 I1 e1 r.1;obtain ⟨t1,t2⟩:=xh9 hka hlen;have hd0:s1.heap.DictOfH (tupleKind (intKind P w)) s.heap.objs.size []:=⟨_,#[],0,hd1,⟨rfl,rfl,rfl⟩,rfl,rfl,(fun U q=>nomatch q),List.nodup_nil⟩;refine kG ?_;refine hps.symm▸?_;refine storeH (by have:=S.hu;exact l11 0x00026ac413646711100026ac41371 this) ks' _ _ [] s1 _ hka hlen hd0 (by rw [oz8,t1];exact hnd) (by
    rw [hlk,zw5];simp only [List.length_nil,iq9];exact l11 0xf371100000047031 hlx) fun h' t ht hd' hs=>?_
   refine el35 hd' fun o es' ep ho hcd hdat hes hat hno=>?_;refine fin h' t ht hs ⟨o,es',ep,ho,hcd.1,hdat⟩ fun i σ3 ι3 z s3 N3 S3 ri r3 H3=>?_;refine el11 (zz3.liftO H3) fun v ev H4=>oe ev fun l el ev=>oe ev fun js ej ev=>?_;rw [zf7 el] at ri;refine el11 (vg2 S3.I ej ri) fun a eq3 ta=>?_;subst eq3;obtain ⟨hka3,_⟩:=uw9 S3.I e1 r3.1;refine el11 (get_tups hka3 r3.2 ev) fun p g1 g2=>?_;have ho3:=yb5 N3 ho hcd.1 (fun p hp=>(hi1 p hp).2) htd;have hm:s3.heap.DictOfH (tupleKind (intKind P w)) s.heap.objs.size (vg6 ks' (ps.map (fun U=>U.1)) (ps.map (fun U=>U.2))):=⟨o,es',ep,ho3,hcd,hdat,hes,(xh9 hka3 hlen).2,hno⟩;refine tail_any hm.typeIs slot_dict_getitem.lookup (wpAny_getItem_heap (knd:=tupleKind (intKind P w)) (k:=js) ?_ ta hm g1 (H4.now S3.I g2)) (zx5 hn _ _);refine (?_:A.units + 1 < cLine);have:=S.hu;exact l11 0x00026ac413646711100026ac41313711 this
  ·rw [e1] at ek
   refine zz9 (ifs ek) fun hnd q=>?_;subst q;refine zz9 (ints_of e1 r.1) fun hlk hcar=>?_;have hcar:=hcar _ hlen;rw [<-hps] at hcar;refine wpAny_storeAll (knd:=intKind P w) ps _ [] s1 _ hcar ⟨_,#[],0,hd1,⟨rfl,rfl,rfl⟩,rfl,fun e he=>by simp at he,.nil,List.nodup_nil⟩ (by
    rw [List.length_zip,zw5];simp only [List.length_nil,iq9];exact l22 0x871f381100000047031 hlx (ox3 _ _)) fun h' hd' hs=>?_
   have hnk:((ks'.zip (ps.map (fun U=>U.2))).map (fun U=>U.1)).Nodup:=by rw [xw8 _ _ (hlk.trans hlen.symm)];exact hnd
   rw [merged_nil_of_nodup _ hnk] at hd';refine el35 hd' fun o es' ep ho hcd hdat hko hpo hno=>?_;refine fin h' _ (ij4 _ _) hs ⟨o,es',ep,ho,hcd.1,hdat⟩ fun i σ3 ι3 z s3 N3 S3 ri r3 H3=>?_;refine el11 (zz3.liftO H3) fun v ev H4=>oe ev fun j ej ev=>ri.oi ej fun t=>?_;refine el11 (get_ints r3.2 ev) fun x g1 g2=>?_;have ho3:=yb5 N3 ho hcd.1 (fun p hp=>(hi1 p hp).2) htd;have hm:s3.heap.DictOf (intKind P w) s.heap.objs.size (ks'.zip (ps.map (fun U=>U.2))):=⟨o,es',ep,ho3,hcd,hdat,hko,hpo,hno⟩;exact tail_any hm.mapOf.typeIs slot_dict_getitem.lookup (wpAny_getItem_of (knd:=intKind P w) (k:=j) (by simp [intKind,Value.isInt]) hm.mapOf g1 (H4.now S3.I g2)) (zx5 hn _ _)
end
set_option tactic.hygienic true in
theorem xy5 {pos pos':Pos} {c cv:Value} (l:List Value) (h:TriplesOk l) (e:codeAmong pos' (l++[rawInt pos.line,rawInt pos.col,c])=some cv):codeAmong pos' l=some cv\/cv=c:=by
 fun_induction TriplesOk l with
 | case1=>
  dsimp only [oz8,codeAmong,rawInt] at e;split at e
  ·exact .inr (Option.some.inj e).symm
  ·nomatch e
 | case2 a t b u x rest ih=>
  dsimp only [ix2,codeAmong] at e ⊢;split at e
  ·rename_i hc
   rw [if_pos hc];exact .inl e
  ·rename_i hc
   rw [if_neg hc];exact ih h e
 | case3 l h1 h2=>exact h.elim
noncomputable def zx8 (env:Env):List (Str×NameKind)->List (Str×Addr)->List (Str×Addr)
 | [],cs=>cs
 | (x,kd)::r,cs=>if kd == .free then zx8 env r (((x,(env.cells.lookup x).getD 0))::cs) else zx8 env r cs
theorem xj3 {env:Env}:∀ (names:List (Str×NameKind)) (cs:List (Str×Addr)),(∀ x∈names,x.2=.free->(env.cells.lookup x.1).isSome=true)->
 forIn names cs (fun (x:Str×NameKind) (cs:List (Str×Addr))=>(do
  if x.2 == .free then do let c <-cellOf env x.1;pure (ForInStep.yield ((x.1,c)::cs)) else pure (ForInStep.yield cs):Sem (ForInStep (List (Str×Addr)))))=pure (zx8 env names cs):=by
 intro names;induction names with
 | nil=>
  intro cs U;simp [zx8]
 | cons p0 r ih0=>
  obtain ⟨x,kd⟩:=p0;intro cs h;have ih:=fun cs=>ih0 cs fun y hy=>h y (ix3 _ hy);rw [oq9];unfold zx8;by_cases q:(kd == .free)=true
  ·have h1:=h (x,kd) iz6 (beq_iff_eq.mp q)
   refine el10 (ik0.mp h1) fun c hc=>?_;simp only [] at hc;have hco:cellOf env x=pure c:=by unfold cellOf;rw [hc]
   simp only [q,hco,hc,Option.getD_some];exact ih _
  ·simp only [q,if_false]
   exact ih _
set_option tactic.hygienic true in
theorem wx2 {env:Env}:∀ (names:List (Str×NameKind)) (cs:List (Str×Addr)) (x:Str) (c:Addr),(zx8 env names cs).lookup x=some c->cs.lookup x=some c\/((x,NameKind.free)∈names/\c=(env.cells.lookup x).getD 0):=by
 intro names;induction names with
 | nil=>
  intro cs x c e;exact .inl e
 | cons p0 r ih0=>
  obtain ⟨y,kd⟩:=p0;intro cs x c e;unfold zx8 at e;split at e
  ·rename_i q
   rcases ih0 _ x c e with h|h
   ·rw [iz2] at h
    split at h
    ·rename_i q2
     rw [beq_iff_eq] at q q2;cases h;subst q q2;exact .inr ⟨iz6,rfl⟩
    ·exact .inl h
   ·exact .inr ⟨ix3 _ h.1,h.2⟩
  ·rcases ih0 cs x c e with h|h
   ·exact .inl h
   ·exact .inr ⟨ix3 _ h.1,h.2⟩
set_option tactic.hygienic true in
theorem vx2 {env:Env}:∀ (names:List (Str×NameKind)) (cs:List (Str×Addr)) (x:Str),((cs.lookup x).isSome=true\/(x,NameKind.free)∈names)->((zx8 env names cs).lookup x).isSome=true:=by
 intro names;induction names with
 | nil=>
  intro cs x h;rcases h with h|h
  ·exact h
  ·cases h
 | cons p0 r ih0=>
  obtain ⟨y,kd⟩:=p0;intro cs x h;unfold zx8;split
  ·rename_i q
   refine ih0 _ x ?_;rw [iz2];split
   ·exact .inl rfl
   ·rename_i q2
    rcases h with h|h
    ·exact .inl h
    ·rcases ix7.mp h with h|h
     ·cases h;simp at q2
     ·exact .inr h
  ·rename_i q
   refine ih0 _ x ?_;rcases h with h|h
   ·exact .inl h
   ·rcases ix7.mp h with h|h
    ·cases h;simp at q
    ·exact .inr h
section
variable {X:List Addr} {α β γ δ:Type} {R:Lay->Heap->α->β->Prop} {R':Lay->Heap->γ->δ->Prop} {n k:Nat} {C:zz5} {A:Around} {fr:List Env} {sc:Scope} {ρ:Rho} {env:Env} {ι ι':Lay} {σ σ':zz0} {s s':Shared}
 {Q:QV0} {QX:QA0} {E:QV0}
theorem Inv.table (I:Inv ι σ s) {T:Addr} (hT:hb.get? T=none) (hm:T∈zk9) {h':Heap} (hz:s.heap.objs.size<=h'.objs.size) (kp:∀ b o,b≠T->s.heap.get? b=some o->h'.get? b=some o) {ps:Array Value} (hp:h'.get? T=some (tabObj ps))
 (ht:TriplesOk ps.toList) (hc:Nx [] ι ι s.heap h'->qq8 T h' ps) (t:Nat):Inv ι σ { s with heap:=h',toks:=t }/\Nx [] ι ι s.heap h':=by
 have N:Nx [] ι ι s.heap h':=⟨hz,⟨[],(iq7 _).symm,fun U hp=>nomatch hp⟩,fun b o e U U htb=>⟨o.slots,kp b o (fun q=>htb (q▸hm)) e,.inr rfl⟩⟩;refine el11 (I.tabs T hm) fun ps0 hp0 U=>?_;have ne:∀ {a:Addr} {o:Obj},s.heap.get? a=some o->(∀ vs,o.data≠.fields vs)->a≠T:=fun e hd q=>by
  subst q;rw [hp0] at e;cases e;exact hd _ rfl
 refine ⟨⟨I.len,fun i o e=>?_,I.nodup,I.fresh,fun b o e=>kp b o (fun q=>by subst q;rw [hT] at e;cases e) (I.keep b o e),fun P hP=>?_,I.gens,I.os⟩,N⟩
 ·refine el11 (I.objs i o e) fun rp q r=>?_
  refine ⟨rp,q,?_⟩;cases o with
  | lst l=>
   refine hid fun G kG=>?_;obtain ⟨e1,vs,m,a,b⟩:=r;refine kG ?_;exact ⟨e1,vs,m,kp _ _ (ne a (by intro _ z;cases z)) a,b.nx I (zq1 _) N⟩
  | inst c f=>
   refine el43 r fun C sl es m a b q1 q2=>?_;exact ⟨C,sl,es,m,a,kp _ _ (ne b (by intro _ z;cases z)) b,kp _ _ (ne q1 (by intro _ z;cases z)) q1,q2.nx I N⟩
 ·by_cases q:P=T
  ·cases q
   exact ⟨ps,hp,ht,hc N⟩
  ·refine el11 (I.tabs P hP) fun ps2 e2 r=>?_
   exact ⟨ps2,kp _ _ q e2,r.1,fun pos cv e=>I.codeRec (zq1 _) N (r.2 pos cv e)⟩
theorem lam_hd (P:Params):∀ q∈yw5,∃ (o:Obj) (vs:Array Value) (file:Str) (tf:Tok) (flags:Int) (tg:Tok) (inF:Bool) (text:Int) (tt:Tok),(K0 P).lookup q.1=some o/\o.cls=.type "code"/\o.data=.fields vs/\vs[11]?=some (.ref q.2)/\vs.getD 11 .none=.ref q.2/\vs.getD 18 .none=.str file tf/\
 vs.getD 7 .none=.int flags tg/\vs.getD 9 .none=.bool inF/\vs.getD 10 .none=.int text tt/\q.1≠q.2:=by
 intro q hq;simp only [yw5,ix7,oq4,or_false] at hq;rcases hq with rfl|rfl
 ·exact ⟨_,_,_,_,_,_,_,_,_,rfl,rfl,rfl,rfl,rfl,rfl,rfl,rfl,rfl,by decide⟩
 ·exact ⟨_,_,_,_,_,_,_,_,_,rfl,rfl,rfl,rfl,rfl,rfl,rfl,rfl,rfl,by decide⟩
set_option tactic.hygienic true in
theorem ub3 (F:Frm sc ρ env ι s.heap):∀ (ns:List Str) (vs:List V),ns.mapM (fun n=>ρ.lookup n)=some vs->(∀ x∈ns,sc.names.lookup x=some .cell\/sc.names.lookup x=some .free)->
 ∃ vals,zq2 ι s.heap vs vals/\(∀ x u,(ns.zip vals).lookup x=some u->∃ c,env.cells.lookup x=some c/\s.heap.IsCell c (some u))/\(∀ x∈ns,((ns.zip vals).lookup x).isSome=true):=by
 intro ns;induction ns with
 | nil=>
  intro vs e U;cases e;exact ⟨[],rfl,(fun x u q=>by cases q),(fun U q=>nomatch q)⟩
 | cons x ns ih0=>
  intro vs e hk;rw [List.mapM_cons] at e;refine ocs (ρ.lookup x) (fun e1=>?_) fun v e1=>?_
  ·rw [e1] at e;cases e
  ·replace e:=e1▸e
   refine ocs (ns.mapM (fun n=>ρ.lookup n)) (fun e2=>?_) fun vs' e2=>?_
   ·simp [e2] at e
   ·simp only [e2,Option.pure_def,Option.bind_eq_bind,Option.bind_some,Option.some.injEq] at e
    subst e;refine el12 (ih0 vs' e2 fun y hy=>hk y (ix3 _ hy)) fun vals h1 h2 h3=>?_;refine el22 (F.cells x v e1 (hk x iz6)) fun c u c1 c2 c3=>?_;refine ⟨u::vals,⟨_,_,rfl,c3,h1⟩,fun y z q=>?_,fun y hy=>?_⟩
    ·rw [ik1,iz2] at q
     split at q
     ·rename_i h
      rw [beq_iff_eq] at h;refine Classical.byContradiction fun ng=>?_;cases q;subst h;exact ng (⟨c,c1,c2⟩)
     ·exact h2 y z q
    ·rw [ik1,iz2]
     split
     ·rfl
     ·rename_i h
      rcases ix7.mp hy with q|q
      ·subst q;simp at h
      ·exact h3 y q
theorem lam_look {h:Heap} (X:(K0 w.params).In h):∀ q∈yw5,CodeHd h q.1 q.2:=fun q hq=>by
 refine hid fun G kG=>?_;obtain ⟨o,vs,file,tf,flags,tg,inF,text,tt,e,r⟩:=lam_hd w.params q hq;refine kG ?_;exact ⟨o,vs,file,tf,flags,tg,inF,text,tt,X _ _ e,r⟩
theorem lam_tabs:∀ q∈yw5,q.2∈zk9:=by decide
set_option tactic.hygienic true in
theorem uw7 {ps:Arguments} {b:Expr} {lsc:Scope} {pos:Pos} (B:zf9) (S:St n A fr sc ρ env ι σ s)
 (H:zj5 (if (vv1 ps lsc&&xw5 sc)=true then (xy9 sc lsc ρ).elim .bad fun p=>.ok (.clo ps b lsc p.1 p.2) σ else .bad) ι s Q E):wpAny (model P w) A (eval (.Lambda ps b lsc pos) env) Q E s:=by
 refine zz9 (zz3.ifp H) fun hc H=>?_;refine zz9 (bb hc) fun hps hlam=>?_;refine el11 (zz3.opt H) fun p ecap H=>?_;refine zz9 (ift ecap) fun hk ecap=>oe ecap fun vs' em ecap=>?_;have ecap:=Option.some.inj ecap;subst ecap;refine el12 (S.F.lam hlam) fun q hq hcode hqual=>?_;have hkn:∀ x∈(lsc.names.filter fun x=>x.2 == .free).map (fun U=>U.1),sc.names.lookup x=some .cell\/sc.names.lookup x=some .free:=fun x hx=>by
  have:=iz0.mp hk x hx;simpa only [iw3,beq_iff_eq] using this
 refine el12 (ub3 S.F _ _ em hkn) fun vals r1 r2 r3=>?_;have hmem:∀ x,(x,NameKind.free)∈lsc.names ↔ x∈(lsc.names.filter fun x=>x.2 == .free).map (fun U=>U.1):=fun x=>by
  constructor
  ·intro h
   exact ik5.mpr ⟨(x,.free),List.mem_filter.mpr ⟨h,rfl⟩,rfl⟩
  ·intro h
   refine el11 (ik5.mp h) fun p hp eq1=>?_;subst eq1;refine zz9 (List.mem_filter.mp hp) fun hp hf=>?_;have:p.2=.free:=beq_iff_eq.mp hf;rw [<-this];exact hp
 have hcell:∀ x∈lsc.names,x.2=.free->(env.cells.lookup x.1).isSome=true:=fun x hx hf=>by
  have hx':(x.1,NameKind.free)∈lsc.names:=by rw [<-hf];exact hx
  obtain ⟨u,hu⟩:=ik0.mp (r3 x.1 ((hmem _).mp hx'));refine el11 (r2 x.1 u hu) fun c hc U=>?_;rw [hc];rfl
 have hcl:closureFor lsc env=pure (zx8 env lsc.names []):=by
  have:=xj3 (env:=env) lsc.names [] hcell;exact (congrArg (fun U=>U >>= fun r=>pure r) this).trans (pure_bind _ _)
 unfold vv1 at hps;simp only [iq5,beq_iff_eq,ik3,decide_eq_true_eq] at hps;refine hid fun G kG=>?_;obtain ⟨⟨⟨⟨⟨⟨⟨⟨⟨⟨⟨⟨p1,p2⟩,p3⟩,p4⟩,p5⟩,p6⟩,p7⟩,p8⟩,p9⟩,p10⟩,p11⟩,p12⟩,p13⟩:=hps;refine kG ?_;have hdef:defaultsOf ps env=([],[]):=by
  obtain ⟨a1,a2,a3,a4,a5,a6,a7⟩:=ps;simp only at p4 p6;subst p4 p6;rfl
 have hT:=lam_tabs q hq;have hbT:=B.tabs _ hT;refine el12 (S.I.tabs _ hT) fun tps htab htri hcod=>?_;refine el25 B.bmain fun bm ob b1 b2 b3 b4 b5 b6=>?_;have hgP:mainGlobals≠q.2:=fun z=>by
  refine hid fun G kG=>?_;refine el32 B.g fun o es ep e hd U=>?_;refine kG ?_;rw [z,hbT] at e;cases e
 have hbP:bm≠q.2:=fun z=>by rw [z,hbT] at b3;cases b3
 have hbG:bm≠mainGlobals:=fun z=>by
  refine el32 B.g fun o es ep e hd U=>?_;rw [<-z,b3] at e;cases e;rw [hd] at b6;cases b6
 have hBA:s.heap.BuiltinsAt mg q.2:=⟨bm,ob,b1,b2,hbG,hbP,S.I.keep _ _ b3,b4,b5,b6⟩;have hg:s.heap.Ns mainGlobals mg:=B.g.keeps S.I.keep;have CH:=lam_look (S.I.K B) q hq;have fin:∀ (h1:Heap) (cv ctv:Value) (tk:Nat),Inv ι σ { s with heap:=h1,toks:=tk }->Nx [] ι ι s.heap h1->h1.CodeRec cv (env.qual++ "<lambda>")->
  (∀ c u,s.heap.IsCell c (some u)->h1.IsCell c (some u))->
  Q (.ref h1.objs.size) { s with heap:=h1.push { cls:=.type "function",data:=.func (kla_fn "<lambda>" (env.qual++ "<lambda>") ps b lsc (zx8 env lsc.names []) ((mg "__name__").getD .none) cv ctv)},toks:=tk }:=by
  intro h1 cv ctv tk I1 N1 hrec hcl;obtain ⟨I2,N2⟩:=I1.more (h':=h1.push { cls:=.type "function",data:=.func (kla_fn "<lambda>" (env.qual++ "<lambda>") ps b lsc (zx8 env lsc.names []) ((mg "__name__").getD .none) cv ctv)}) (by rw [Heap.size_push];exact oz5 _) (fun b o e=>Heap.get?_push_of_some _ e) tk;have kp:∀ b' o,h1.get? b'=some o->(h1.push { cls:=.type "function",data:=.func (kla_fn "<lambda>" (env.qual++ "<lambda>") ps b lsc (zx8 env lsc.names []) ((mg "__name__").getD .none) cv ctv)}).get? b'=some o:=fun b' o e=>Heap.get?_push_of_some _ e;refine H ι _ _ (N1.trans N2) I2 ?_;refine ⟨_,_,_,vals,rfl,Heap.get?_push_size _ rfl,rfl,rfl,rfl,rfl,rfl,rfl,hrec.keeps kp,rfl,rfl,?_,fun x c hx=>?_,fun x u hx=>?_⟩
  ·exact (r1.nx S.I (zq1 _) N1).nx I1 (zq1 _) N2
  ·rcases wx2 lsc.names [] x c hx with z|⟨z1,z2⟩
   ·nomatch z
   ·refine hid fun G kG=>?_
    have hx':=(hmem x).mp z1;obtain ⟨u,hu⟩:=ik0.mp (r3 x hx');refine el11 (r2 x u hu) fun c' hc' hi=>?_;refine kG ?_;rw [hc'] at z2;subst z2;exact ⟨u,hu,(hcl _ _ hi).keeps kp⟩
  ·refine vx2 lsc.names [] x (.inr ((hmem x).mpr ?_))
   have:∀ (ns:List Str) (us:List Value),(ns.zip us).lookup x=some u->x∈ns:=by
    intro ns;induction ns with
    | nil=>intro us e;cases e
    | cons y ns ih=>
     intro us e;cases us with
     | nil=>cases e
     | cons z us=>
      rw [ik1,iz2] at e;split at e
      ·rename_i q;rw [beq_iff_eq] at q;subst q;exact iz6
      ·exact ix3 _ (ih us e)
   exact this _ _ hx
 refine kla_eval hdef ?_;refine ocs (codeAmong pos tps.toList) (fun hca=>?_) fun cv hca=>?_
 ·refine kla_makeFunction (mg:=mg) hcl S.F.glob hg hcode CH htab htri hca hgP hBA fun c' ctv h' tk hx hge hlt hrec htb=>?_
  obtain ⟨I1,N1⟩:=S.I.table hbT hT (h':=h') (iq2 hge (oz9 hlt)) (fun b o hb e=>hx b o hb e) htb (by
   rw [Array.toList_append];exact TriplesOk_snoc _ _ _ _ htri) (fun N pos' cv e=>by
    rw [Array.toList_append] at e;rcases xy5 _ htri e with z|z
    ·exact S.I.codeRec (zq1 _) N (hcod pos' cv z)
    ·subst z
     rw [<-hqual];exact hrec) tk
  refine fin h' (.ref c') ctv tk I1 N1 hrec fun c u hi=>?_;refine el11 hi fun oc ho hd=>?_;exact ⟨oc,hx _ _ (fun z=>by subst z;rw [htab] at ho;cases ho;cases hd) ho,hd⟩
 ·refine kla_makeFunctionHit (mg:=mg) hcl S.F.glob hg hcode CH htab htri hca hBA fun ctv h' tk kp hz=>?_
  refine zz9 (S.I.more (h':=h') hz kp tk) fun I1 N1=>?_;exact fin h' cv ctv tk I1 N1 ((hqual▸hcod pos cv hca).keeps kp) fun c u hi=>hi.keeps kp
end
noncomputable def IsIt (h:Heap) (I:Addr):Prop:=∃ o,h.get? I=some o/\o.cls≠.type "frame"/\∃ vs:Array Value,o.data=.fields vs/\∀ q t,vs[1]?≠some (.str q t)
structure yk1 (ι:Lay) (I:Addr):Prop where
 lay:∀ p∈ι,p.1≠I/\p.2≠I
 tab:I∉zk9
 base:hb.get? I=none
noncomputable def wj1 (A:Around) (ι:Lay) (h:Heap) (I:Addr):It->Nat->Prop
 | .seq l,k=>∃ fp R St,Walks P w A I fp [I] l.length R St/\St k h/\(∀ j g,St j g->IsIt g I)/\I∈fp/\(∀ b∈fp,b≠I->∃ items,IsTup h b items)/\(∀ i x v,l[i]?=some v->R i x->Rel ι h v x)
 | .lst i n,k=>∃ ax,ι[i]?=some (ax,ax)/\h.IsListIter I ax k
section
variable {X:List Addr} {α β γ δ:Type} {R:Lay->Heap->α->β->Prop} {R':Lay->Heap->γ->δ->Prop} {n k:Nat} {C:zz5} {A:Around} {fr:List Env} {sc:Scope} {ρ:Rho} {env:Env} {ι ι':Lay} {σ σ':zz0} {s s':Shared}
 {Q:QV0} {QX:QA0} {E:QV0} {I:Addr}
theorem IsIt.dicts {h:Heap} (z:IsIt h I):zx4 [I] h:=fun a ha=>by
 refine (iq4.mp ha).symm▸?_;refine hid fun G kG=>?_;refine el11 z fun o e pq2=>?_;obtain ⟨_,vs,d,q⟩:=pq2;refine kG ?_;exact ⟨o,e,.inr (.inl ⟨vs,d,q⟩)⟩
theorem uy1 {h:Heap} {ax:Addr} {k:Nat} (z:h.IsListIter I ax k):IsIt h I:=by
 refine el12 z fun o e c d=>?_;exact ⟨o,e,by rw [c];decide,_,d,fun q t e=>by simp at e⟩
theorem isIt_tup {h:Heap} {ax:Addr} {k:Nat} (z:h.IsTupleIter I ax k):IsIt h I:=by
 refine el12 z fun o e c d=>?_;exact ⟨o,e,by rw [c];decide,_,d,fun q t e=>by simp at e⟩
theorem vq0 {h:Heap} {ty:String} {x:Str} {t:Tok} {k:Nat} (hty:ty ≠ "frame") (z:h.IsStrIter I ty x t k):IsIt h I:=by
 refine el12 z fun o e c d=>?_;exact ⟨o,e,by rw [c];simpa using hty,_,d,fun q t e=>by simp at e⟩
theorem vw1 {h:Heap} {a b c:Int} (z:IsRangeIter h I a b c):IsIt h I:=⟨_,z,by simp,_,rfl,fun q t e=>by simp [rawInt] at e⟩
theorem wj1.isIt {it:It} {h:Heap} (z:wj1 A ι h I it k):IsIt h I:=by
 cases it with
 | seq l=>obtain ⟨fp,R,St,_,st,q,_⟩:=z;exact q _ _ st
 | lst i n=>obtain ⟨ax,_,q⟩:=z;exact uy1 q
theorem yk1.nx {h h':Heap} (z:yk1 ι I) (N:Nx X ι ι' h h') (hI:I < h.objs.size):yk1 ι' I:=by
 refine el11 N.pre fun new en fn=>?_;refine ⟨fun p hp=>?_,z.tab,z.base⟩;replace hp:=en▸hp;rcases iz5.mp hp with q|q
 ·exact z.lay p q
 ·exact ⟨ix0 (iq3 hI (fn p q).1),ix0 (iq3 hI (fn p q).2)⟩
theorem IsIt.same {h h':Heap} (z:IsIt h I) (O:yk1 ι I) (hI:I∉X) (N:Nx X ι ι' h h'):∀ o,h.get? I=some o->h'.get? I=some o:=fun o e=>by
 refine el12 z fun o' e' c U=>?_;rw [e] at e';cases e';refine el11 (N.keep' I o e hI (fun p hp=>(O.lay p hp).2) O.tab) fun sl q d=>?_;rcases d with d|d
 ·exact absurd d c
 ·rw [q,d]
theorem tup_same {h':Heap} {a:Addr} {items:Array Value} (In:Inv ι σ s) (hX:zx4 X s.heap) (N:Nx X ι ι' s.heap h') (T:IsTup s.heap a items):∀ o,s.heap.get? a=some o->h'.get? a=some o:=fun o e=>by
 refine el11 T fun o' e' pq6=>?_;obtain ⟨hc,m,hd⟩:=pq6;rw [e] at e';cases e';have z:=In.still (X:=X) e (fun q=>by
  refine el11 (hX a q) fun o2 e2 d=>?_;rw [e] at e2;cases e2;rcases d with ⟨es,n,d⟩|⟨vs,d,_⟩|⟨d,_⟩
  ·rw [hd] at d;cases d
  ·rw [hd] at d;cases d
  ·rw [hc] at d;exact absurd d (by decide)) (.inl (by rw [hc];decide)) (by rw [hd];intro _ _ q;cases q) (by intro ps _ q;subst q;cases hd)
 refine el11 (N.keep' a o e z.1 z.2.1 z.2.2) fun sl q d=>?_;rcases d with d|d
 ·rw [hc] at d;exact absurd d (by decide)
 ·rw [q,d]
theorem wj1.nx {it:It} {h':Heap} (In:Inv ι σ s) (hX:zx4 X s.heap) (hI:I∉X) (O:yk1 ι I) (N:Nx X ι ι' s.heap h') (z:wj1 A ι s.heap I it k):wj1 A ι' h' I it k:=by
 have hs:=z.isIt.same O hI N;cases it with
 | seq l=>
  refine hid fun G kG=>?_;refine el35 z fun fp R St W st q1 q2 q3 q4=>?_;refine kG ?_;refine ⟨fp,R,St,W,W.frame k _ _ st fun b hb o e=>?_,q1,q2,fun b hb hne=>?_,fun i x v e r=>(q4 i x v e r).nx In hX N⟩
  ·by_cases c:b=I
   ·subst c;exact hs o e
   ·refine el10 (q3 b hb c) fun items T=>?_
    exact tup_same In hX N T o e
  ·refine el10 (q3 b hb hne) fun items T=>?_
   exact ⟨items,In.tup hX N T⟩
 | lst i n=>
  refine el11 z fun ax e q=>?_;exact ⟨ax,N.at e,q.at hs⟩
theorem Inv.turned (In:Inv ι σ s) (O:yk1 ι I) (hX:zx4 [I] s.heap) {h':Heap} (hz:s.heap.objs.size<=h'.objs.size) (kp:∀ b o,b≠I->s.heap.get? b=some o->h'.get? b=some o) (t:Nat) :
 Inv ι σ { s with heap:=h',toks:=t }/\Nx [I] ι ι s.heap h':=by
 have N:Nx [I] ι ι s.heap h':=⟨hz,⟨[],(iq7 _).symm,fun U hp=>nomatch hp⟩,fun b o e hx U U=>⟨o.slots,kp b o (fun q=>hx ((q)▸iq4.mpr rfl)) e,.inr rfl⟩⟩;have fnx:∀ {f:List (Str×V)} {es:List DictEntry},zk8 ι s.heap f es->zk8 ι h' f es:=by
  intro f;induction f with
  | nil=>exact fun r=>r
  | cons p f ih=>obtain ⟨x,v⟩:=p;exact fun pq3=>el34 pq3 fun e u t a b c q r=>⟨e,u,t,a,b,c,q.nx In hX N,ih r⟩
 refine ⟨⟨In.len,fun i o e=>?_,In.nodup,In.fresh,fun b o e=>kp b o (fun q=>by rw [q,O.base] at e;cases e) (In.keep b o e),fun P hP=>?_,In.gens,In.os⟩,N⟩
 ·refine el11 (In.objs i o e) fun rp q r=>?_
  have hm:=iv0 q;refine ⟨rp,q,?_⟩;cases o with
  | lst l=>
   refine hid fun G kG=>?_;obtain ⟨e1,vs,m,a,b⟩:=r;refine kG ?_;exact ⟨e1,vs,m,kp _ _ (O.lay rp hm).2 a,b.nx In hX N⟩
  | inst c f=>
   refine hid fun G kG=>?_;refine el43 r fun C sl es m a b q1 q2=>?_;refine kG ?_;exact ⟨C,sl,es,m,a,kp _ _ (O.lay rp hm).1 b,kp _ _ (O.lay rp hm).2 q1,fnx q2⟩
 ·refine el11 (In.tabs P hP) fun ps q r=>?_
  exact ⟨ps,kp P _ (fun z=>O.tab (z▸hP)) q,r.1,fun pos cv e=>In.codeRec hX N (r.2 pos cv e)⟩
theorem lst_at {i m k:Nat} {v:V} (e:lstAt i m k σ=some v):∃ l,σ[i]?=some (.lst l)/\l.length=m/\l[k]?=some v:=
 oe e fun l e1 e=>zz9 (ift e) fun h e=>⟨l,ww3 e1,h,e⟩
theorem lst_end {i m:Nat} (e:uk5 i m σ=true):∃ l,σ[i]?=some (.lst l)/\l.length=m:=by
 unfold uk5 at e;refine ocs (zj3 σ i) (fun e1=>?_) fun l e1=>?_
 ·rw [e1] at e;cases e
 ·rw [e1] at e;exact ⟨l,ww3 e1,of_decide_eq_true e⟩
theorem xp3 {it:It} {k:Nat} {v:V} {Q:Option Value->Shared->Prop} (hv:yb9 it k σ=some v) (Z:wj1 A ι s.heap I it k) (O:yk1 ι I) (In:Inv ι σ s)
 (K:∀ x h' t,Nx [I] ι ι s.heap h'->Inv ι σ { s with heap:=h',toks:=t }->wj1 A ι h' I it (k + 1)->Rel ι h' v x->Q (some x) { s with heap:=h',toks:=t }) :
 wpAny (model P w) A (pyNext (.ref I)) Q E s:=by
 have z:=Z.isIt;refine zv8 ?_;cases it with
 | seq l=>
  have hk:k < l.length:=(iz7.mp hv).1;refine hid fun G kG=>?_;refine el35 Z fun fp R St W st q1 q2 q3 q4=>?_;refine kG ?_;refine W.item k s _ _ hk st fun x h' t hp st' kp hz=>?_;have kp':∀ b o,b≠I->s.heap.get? b=some o->h'.get? b=some o:=fun b o hb e=>kp b o (by simpa using hb) e;refine zz9 (In.turned O z.dicts hz kp' t) fun I' N'=>?_;refine K x h' t N' I' ⟨fp,R,St,W,st',q1,q2,fun b hb hne=>?_,fun i x v e r=>(q4 i x v e r).nx In z.dicts N'⟩ ((q4 k x v hv hp).nx In z.dicts N');refine el10 (q3 b hb hne) fun items T=>?_;exact ⟨items,In.tup z.dicts N' T⟩
 | lst i m=>
  refine hid fun G kG=>?_;refine el11 Z fun ax e q=>?_;refine el12 (lst_at hv) fun l el hl hx=>?_;refine el11 (In.objs i _ el) fun rp e1 r=>?_;refine kG ?_;rw [e] at e1;cases e1;refine hid fun G kG=>?_;obtain ⟨_,vs,m',ho,rs⟩:=r;refine el11 (rs.get hx) fun x g1 g2=>?_;have hL:s.heap.IsList ax vs.toArray:=⟨_,ho,rfl,_,rfl⟩;refine kG ?_;refine wpAny_pyNext_list_item q hL (x:=x) (by simpa using g1) fun h' hit' hs' hz=>?_;refine zz9 (In.turned O z.dicts hz (fun b o hb e=>(hs'.2 b hb).trans e) s.toks) fun I' N'=>?_;exact K x h' s.toks N' I' ⟨ax,e,hit'⟩ (g2.nx In z.dicts N')
theorem wp2 {it:It} {Q:Option Value->Shared->Prop} (hh:A.handled=none) (hv:uy0 it σ=true) (Z:wj1 A ι s.heap I it (zq5 it)) (O:yk1 ι I) (In:Inv ι σ s)
 (K:∀ h' t,Nx [I] ι ι s.heap h'->Inv ι σ { s with heap:=h',toks:=t }->Q none { s with heap:=h',toks:=t }):wpAny (model P w) A (pyNext (.ref I)) Q E s:=by
 have z:=Z.isIt;refine zv8 ?_;cases it with
 | seq l=>
  refine hid fun G kG=>?_;refine el35 Z fun fp R St W st q1 q2 q3 q4=>?_;refine kG ?_;refine W.done s _ _ st fun h' t kp hz=>?_;refine zz9 (In.turned O z.dicts hz (fun b o hb e=>kp b o (by simpa using hb) e) t) fun I' N'=>?_;exact K h' t N' I'
 | lst i m=>
  refine hid fun G kG=>?_;refine el11 Z fun ax e q=>?_;refine el11 (lst_end hv) fun l el hl=>?_;refine el11 (In.objs i _ el) fun rp e1 r=>?_;refine kG ?_;rw [e] at e1;cases e1;refine hid fun G kG=>?_;obtain ⟨_,vs,m',ho,rs⟩:=r;have hL:s.heap.IsList ax vs.toArray:=⟨_,ho,rfl,_,rfl⟩;have hlen:=rs.length;refine kG ?_;refine wpAny_pyNext_list_end hh q hL (by simp [zq5];exact l32 0x97989987 hl hlen) fun h' he hz=>?_;refine zz9 (In.turned O z.dicts hz (fun b o hb e=>he b o hb e) s.toks) fun I' N'=>?_;exact K h' s.toks N' I'
theorem it_self {it:It} {Q:QV0} (Z:wj1 A ι s.heap I it k) (h:Q (.ref I) s):wpAny (model P w) A (pyIter (.ref I)) Q E s:=by
 cases it with
 | seq l=>
  refine hid fun G kG=>?_;refine el32 Z fun fp R St W st U=>?_;refine kG ?_;exact W.self k s _ _ st h
 | lst i m=>
  refine el11 Z fun ax e q=>?_;exact wpAny_pyIter_listiter q h
end
section
noncomputable abbrev EvI (C:zz5) (n k:Nat):Prop:=∀ {A:Around} {fr:List Env} {sc:Scope} {ρ:Rho} {env:Env} {ι:Lay} {σ:zz0} {s:Shared} {e:Expr} {γ δ:Type} {X:List Addr} {R':Lay->Heap->γ->δ->Prop} {f:It->zz0->Out γ} {Q1:QV0} {Q':δ->Shared->Prop} {QX:QA0} {E:QV0},
 St n A fr sc ρ env ι σ s->zz3 R' X ((evIt C k sc ρ e σ).bnd f) ι s Q' QX E->
 (∀ it σ1 ι1 s1 I s2,Nx [] ι ι1 s.heap s1.heap->St n A fr sc ρ env ι1 σ1 s1->Nx [] ι1 ι1 s1.heap s2.heap->s1.heap.objs.size<=I->I < s2.heap.objs.size->St n A fr sc ρ env ι1 σ1 s2->wj1 A ι1 s2.heap I it 0->yk1 ι1 I->zz3 R' X (f it σ1) ι1 s1 Q' QX E->Q1 (.ref I) s2)->
 (∀ es c p,e≠.Set es c p)/\wpAny (model P w) A (eval e env) (fun x s1=>wpAny (model P w) A (pyIter x) Q1 E s1) E s
end
section
variable {X:List Addr} {α β γ δ:Type} {R:Lay->Heap->α->β->Prop} {R':Lay->Heap->γ->δ->Prop} {n k:Nat} {C:zz5} {A:Around} {fr:List Env} {sc:Scope} {ρ:Rho} {env:Env} {ι ι' ι1:Lay} {σ σ' σ1:zz0} {s s' s1:Shared}
 {Q:QV0} {QX:QA0} {E:QV0} {I:Addr}
theorem St.turned {ρ1:Rho} (S:St n A fr sc ρ env ι σ s) (S1:St n A fr sc ρ1 env ι1 σ1 s1) {a:Addr} (O:yk1 ι a) (ha:s1.heap.objs.size<=a) (hX:zx4 [a] s.heap) {h':Heap} (hz:s.heap.objs.size<=h'.objs.size) (kp:∀ b o,b≠a->s.heap.get? b=some o->h'.get? b=some o) {t:Nat} (ht:0 < t) :
 St n A fr sc ρ env ι σ { s with heap:=h',toks:=t }/\Nx [a] ι ι s.heap h':=by
 refine zz9 (S.I.turned O hX hz kp t) fun I' N=>?_;have hl:env.locals∉[a]:=fun q=>by
  rw [iq4] at q;refine el11 S1.F.ns fun m pq1 U=>?_;refine el31 pq1 fun o es ep ho U=>?_;have:=Heap.lt_size ho;rw [q] at this;exact oq2 _ (iq3 this ha)
 refine ⟨⟨I',S.F.nxX S.I hX hl N,S.rm,S.fo.nxX hX (fun e he L hL q=>?_) N,ht⟩,N⟩;rw [iq4] at q;obtain ⟨_,L',o,e1,e2,_⟩:=S1.fo e he;rw [hL] at e1;cases e1;have:=Heap.lt_size e2;rw [q] at this;exact oq2 _ (iq3 this ha)
theorem Nx.since {ι2 ι3:Lay} {h h1 h2:Heap} {a:Addr} (N:Nx X ι ι2 h h1) (M:Nx [a] ι2 ι3 h1 h2) (ha:h.objs.size<=a):Nx X ι ι3 h h2:=by
 refine hid fun G kG=>?_;refine el11 N.pre fun n1 e1 f1=>?_;refine el11 M.pre fun n2 e2 f2=>?_;refine kG ?_;refine ⟨iq2 N.size M.size,⟨n1++n2,by rw [e2,e1,iq0],fun p hp=>?_⟩,fun b o e hx hp ht=>?_⟩
 ·rcases iz5.mp hp with q|q
  ·exact f1 p q
  ·exact ⟨iq2 N.size (f2 p q).1,iq2 N.size (f2 p q).2⟩
 ·refine el11 (N.keep' b o e hx hp ht) fun sl q1 c1=>?_
  obtain ⟨sl',q2,c2⟩:=M.keep' b _ q1 (fun z=>by
   rw [iq4] at z;have:=Heap.lt_size e;rw [z] at this;exact oq2 _ (iq3 this ha)) (fun p hp'=>by
   rw [e1] at hp';rcases iz5.mp hp' with z|z
   ·exact hp p z
   ·exact ix0 (iq3 (Heap.lt_size e) (f1 p z).2)) ht
  exact ⟨sl',q2,c1.elim .inl fun q1=>c2.imp id fun q2=>q2.trans q1⟩
theorem uy7 {more:Lay} {h:Heap}:Up ι (ι++more) h h:=⟨fun e=>by rw [iz8 (iz7.mp e).1];exact e,id,fun a b=>⟨_,a,b⟩,id,id⟩
theorem Rel.grow {more:Lay} {h:Heap} {v:V} {x:Value}:Rel ι h v x->Rel (ι++more) h v x:=(Rel.ups uy7).1 v x
theorem zq2.grow {more:Lay} {h:Heap} {v:List V} {x:List Value}:zq2 ι h v x->zq2 (ι++more) h v x:=(Rel.ups uy7).2 v x
theorem Inv.adopt (In:Inv ι σ s) {D:Addr} (O:yk1 ι D) {l:List V} {ys:List Value} {m:Nat} (ho:s.heap.get? D=some (listOf ys.toArray m)) (r:zq2 ι s.heap l ys) {N0:Lay} {h0:Heap} (N:Nx X N0 ι h0 s.heap) (hD:h0.objs.size<=D) :
 Inv (ι++[(D,D)]) (σ++[.lst l]) s/\Nx X N0 (ι++[(D,D)]) h0 s.heap/\Rel (ι++[(D,D)]) s.heap (.loc σ.length) (.ref D):=by
 have up:∀ {v:V} {x:Value},Rel ι s.heap v x->Rel (ι++[(D,D)]) s.heap v x:=by
  exact fun q=>Rel.grow q
 have ups:∀ {l:List V} {x:List Value},zq2 ι s.heap l x->zq2 (ι++[(D,D)]) s.heap l x:=fun q=>zq2.grow q;have upf:∀ {f:List (Str×V)} {es:List DictEntry},zk8 ι s.heap f es->zk8 (ι++[(D,D)]) s.heap f es:=by
  intro f;induction f with
  | nil=>exact fun r=>r
  | cons p f ih=>obtain ⟨x,v⟩:=p;exact fun pq7=>el34 pq7 fun e u t a b c q r=>⟨e,u,t,a,b,c,up q,ih r⟩
 refine ⟨⟨by simp [In.len],fun i x e=>?_,?_,fun p hp=>?_,In.keep,In.tabs,In.gens,In.os⟩,?_,?_⟩
 ·by_cases hi:i < σ.length
  ·rw [iz8 hi] at e
   refine el11 (In.objs i x e) fun rp' q r'=>?_;refine ⟨rp',by rw [iz8 (In.len▸hi)];exact q,?_⟩;cases x with
   | lst l=>
    refine hid fun G kG=>?_;obtain ⟨e1,vs,m,a,b⟩:=r';refine kG ?_;exact ⟨e1,vs,m,a,ups b⟩
   | inst c f=>
    refine hid fun G kG=>?_;refine el43 r' fun C sl es m a b q1 q2=>?_;refine kG ?_;exact ⟨C,sl,es,m,a,b,q1,upf q2⟩
  ·have hi':i=σ.length:=by
    have:=(iz7.mp e).1;rw [iq6,List.length_singleton] at this;exact ix9 (l21 0x13811371187 this) (l21 0x87187 (ik2 hi))
   subst hi';rw [ix5 (iq1 _),iv4] at e;cases e;exact ⟨(D,D),by rw [ix5 ((In.len)▸iq1 _),In.len,iv4];rfl,rfl,ys,m,ho,ups r⟩
 ·rw [iv6,List.map_singleton,oz7]
  refine ⟨In.nodup,by simp,fun a ha b hb'=>?_⟩;rw [iq4] at hb';cases hb';refine el11 (ik5.mp ha) fun p hp eq8=>?_;subst eq8;exact (O.lay p hp).2
 ·rcases iz5.mp hp with q|q
  ·exact In.fresh p q
  ·rw [iq4] at q;subst q;exact ⟨O.base,O.base⟩
 ·refine el11 N.pre fun new en fn=>?_
  refine ⟨N.size,⟨new++[(D,D)],by rw [en,iq0],fun p hp=>?_⟩,N.keep'⟩;rcases iz5.mp hp with q|q
  ·exact fn p q
  ·rw [iq4] at q;subst q;exact ⟨hD,hD⟩
 ·exact ⟨D,D,by rw [ix5 ((In.len)▸iq1 _),In.len,iv4];rfl,rfl⟩
end
theorem uy6 {env:Env}:∀ (ifs:List Expr),(forIn ifs false fun c r=>if r=true then do let ok <-isTrue c env (eval c env);pure (ForInStep.yield ok) else pure (ForInStep.yield r):Sem Bool)=pure false:=by
 intro ifs;induction ifs with
 | nil=>
  exact rfl
 | cons c r ih0=>
  rw [oq9];exact ih0
theorem yw6 {csc:Scope} {env:Env}:∀ (names:List (Str×NameKind)) (x:Str),((names.map fun (n,k)=>if (k == NameKind.free&&env.scope.kind == .function&&env.kindOf n == some .cell) then (n,NameKind.cell) else (n,k)).lookup x=names.lookup x)\/
 (names.lookup x=some .free/\(names.map fun (n,k)=>if (k == NameKind.free&&env.scope.kind == .function&&env.kindOf n == some .cell) then (n,NameKind.cell) else (n,k)).lookup x=some .cell)
 | [],x=>.inl rfl
 | (n,k)::r,x=>by
  have ih:=yw6 (csc:=csc) (env:=env) r x;refine (ij2).symm▸?_;by_cases hc:(k == NameKind.free&&env.scope.kind == .function&&env.kindOf n == some .cell)=true
  ·simp only [hc,if_true]
   rw [iz2,iz2];cases hx:x == n with
   | true=>
    simp only [iq5,beq_iff_eq] at hc;right;exact ⟨by rw [hc.1.1],rfl⟩
   | false=>exact ih
  ·simp only [hc,oz3,if_false]
   rw [iz2,iz2];cases hx:x == n with
   | true=>exact .inl rfl
   | false=>exact ih
section
variable {X:List Addr} {α β γ δ:Type} {R:Lay->Heap->α->β->Prop} {R':Lay->Heap->γ->δ->Prop} {n k:Nat} {C:zz5} {A:Around} {fr:List Env} {sc csc:Scope} {ρ:Rho} {env:Env} {ι ι' ι1:Lay} {σ σ' σ1:zz0} {s s' s1:Shared}
 {Q:QV0} {QX:QA0} {E:QV0} {I D L:Addr} {x:Str}
theorem ifs_ok {cenv:Env} {ρ':Rho} (it:EvT C n k):∀ (ifs:List Expr) {Q:Bool->Shared->Prop} {QX:QA0} {E:QV0} {ι:Lay} {σ:zz0} {s:Shared},St n A fr csc ρ' cenv ι σ s->
 zz3 RelB [] (vy8 (fun e σ=>evT C k csc ρ' e σ) .And ifs σ) ι s Q QX E->wpAny (model P w) A (forIn ifs true fun c r=>if r=true then do let ok <-isTrue c cenv (eval c cenv);pure (ForInStep.yield ok) else pure (ForInStep.yield r)) Q E s:=by
 intro ifs;induction ifs with
 | nil=>
  intro U U U U U U S H;exact wpAny_pure (H.here S.I rfl)
 | cons c r ih0=>
  intro Q QX E ι σ s S H;rw [oq9];refine wpAny_bind (wpAny_bind (it.use S H fun b σ1 ι1 s1 N S1 H1=>wpAny_pure ?_));cases b
  ·show wpAny _ _ (forIn r false _) _ _ _
   rw [uy6];exact wpAny_pure (H1.here S1.I rfl)
  ·exact ih0 S1 H1
noncomputable def vx4 (csc:Scope) (env:Env) (L:Addr):Env:=compEnvC csc (zx8 env csc.names []) L env
theorem ub4 (h:(xy9 sc csc ρ).isSome=true):∀ y,(y,NameKind.free)∈csc.names->(sc.names.lookup y=some .cell\/sc.names.lookup y=some .free)/\(ρ.lookup y).isSome=true:=by
 refine hid fun G kG=>?_;obtain ⟨p,h⟩:=ik0.mp h;refine zz9 (ift h) fun hk h=>oe h fun vs e U=>?_;refine kG ?_;intro y hy;have hm:y∈(csc.names.filter fun x=>x.2 == .free).map (fun U=>U.1):=ik5.mpr ⟨(y,.free),List.mem_filter.mpr ⟨hy,rfl⟩,rfl⟩;refine ⟨by simpa only [iw3,beq_iff_eq] using iz0.mp hk y hm,?_⟩;have:∀ (ns:List Str) (vs:List V),(ns.mapM fun n=>ρ.lookup n)=some vs->∀ z∈ns,(ρ.lookup z).isSome=true:=by
  intro ns;induction ns with
  | nil=>exact fun U U U hz=>nomatch hz
  | cons a ns ih=>
   intro vs e z hz;rw [List.mapM_cons] at e;refine ocs (ρ.lookup a) (fun e1=>?_) fun v e1=>?_
   ·rw [e1] at e;cases e
   ·replace e:=e1▸e
    refine ocs (ns.mapM (fun n=>ρ.lookup n)) (fun e2=>?_) fun vs e2=>?_
    ·rw [e2] at e;cases e
    ·rcases ix7.mp hz with q|q
     ·rw [q,e1];rfl
     ·exact ih vs e2 z q
 exact this _ vs e y hm
set_option tactic.hygienic true in
theorem inner_st {v:V} {xv:Value} {m:Str->Option Value} (hc:zg3 sc csc ρ x=true) (S:St n A fr sc ρ env ι σ s) (O:yk1 ι L) (hm:s.heap.Ns L m) (hx:m x=some xv) (rv:Rel ι s.heap v xv) :
 St n A fr csc ((x,v)::ρ) (vx4 csc env L) ι σ s:=by
 unfold zg3 at hc;simp only [iq5,beq_iff_eq,ij9] at hc;obtain ⟨⟨⟨⟨h1,h2⟩,h3⟩,h4⟩,h5⟩:=hc;have hcap:=ub4 h1;have h5':=fun p hp=>by
  have:=iz0.mp h5 p hp;simpa only [iq5,bne_iff_ne,ne_eq,iw3,beq_iff_eq] using this
 refine ⟨S.I,⟨h2,S.F.glob,S.F.blt,fun y=>yw6 (csc:=csc) csc.names y,⟨m,hm,fun y u q1 q2=>?_⟩,fun y u q1 q2=>?_,fun q=>?_,fun p hp=>(O.lay p hp).2,O.tab,O.base⟩,S.rm,S.fo,S.tk⟩
 ·rw [iz2] at q1
  split at q1
  ·rename_i e
   rw [beq_iff_eq] at e;cases q1;subst e;exact ⟨xv,hx,rv⟩
  ·rename_i e
   have hmem:=zp9 q2;rcases (h5' _ hmem).2 with z|⟨_,z|z⟩
   ·exact absurd rfl z
   ·simp only at z;subst z;simp at e
   ·simp only [iv3] at z
    rw [z] at q1;cases q1
 ·have hfree:csc.names.lookup y=some .free:=by
   rcases q2 with q2|q2
   ·exact absurd rfl (h5' _ (zp9 q2)).1
   ·exact q2
  have hmem:=zp9 hfree;have hne:(y == x)=false:=by
   rw [beq_eq_false_iff_ne];intro e;subst e;rw [h3] at hfree;cases hfree
  rw [iz2,hne] at q1;refine hid fun G kG=>?_;refine el22 (S.F.cells y u q1 (hcap y hmem).1) fun c u' c1 c2 c3=>?_;refine kG ?_;refine ⟨c,u',?_,c2,c3⟩;obtain ⟨c',hc'⟩:=ik0.mp (vx2 (env:=env) csc.names [] y (.inr hmem));rcases wx2 csc.names [] y c' hc' with z|⟨_,z⟩
  ·cases z
  ·rw [c1] at z
   subst z;exact hc'
 ·rw [h4] at q;cases q
theorem wx1 (hc:zg3 sc csc ρ x=true) (S:St n A fr sc ρ env ι σ s):closureFor csc env=pure (zx8 env csc.names []):=by
 unfold zg3 at hc;simp only [iq5] at hc;have hcap:=ub4 hc.1.1.1.1;have:=xj3 (env:=env) csc.names [] fun y hy hf=>by
  refine hid fun G kG=>?_;obtain ⟨a,b⟩:=hcap y.1 (hf▸hy);obtain ⟨v,e⟩:=ik0.mp b;refine el21 (S.F.cells y.1 v e a) fun c u c1 U=>?_;refine kG ?_;rw [c1];rfl
 exact (congrArg (fun U=>U >>= fun r=>pure r) this).trans (pure_bind _ _)
end
section
variable {X:List Addr} {α β γ δ:Type} {R:Lay->Heap->α->β->Prop} {R':Lay->Heap->γ->δ->Prop} {n k:Nat} {C:zz5} {A:Around} {fr:List Env} {sc csc:Scope} {ρ:Rho} {env:Env} {ι ι' ι1:Lay} {σ σ' σ1:zz0} {s s' s1:Shared}
 {Q:QV0} {QX:QA0} {E:QV0} {I D L a:Addr} {x:Str}
theorem St.over {ρ1:Rho} (S:St n A fr sc ρ env ι σ s) (S1:St n A fr sc ρ1 env ι1 σ1 s1) (ha:s1.heap.objs.size<=a) (hX:zx4 [a] s.heap) (N:Nx [a] ι ι' s.heap s'.heap) (I':Inv ι' σ' s') (ht:0 < s'.toks) :
 St n A fr sc ρ env ι' σ' s':=by
 have hl:env.locals∉[a]:=fun q=>by
  rw [iq4] at q;refine el11 S1.F.ns fun m pq1 U=>?_;refine el31 pq1 fun o es ep ho U=>?_;have:=Heap.lt_size ho;rw [q] at this;exact oq2 _ (iq3 this ha)
 refine ⟨I',S.F.nxX S.I hX hl N,S.rm,S.fo.nxX hX (fun e he L hL q=>?_) N,ht⟩;rw [iq4] at q;obtain ⟨_,L',o,e1,e2,_⟩:=S1.fo e he;rw [hL] at e1;cases e1;have:=Heap.lt_size e2;rw [q] at this;exact oq2 _ (iq3 this ha)
theorem yk1.same {h h':Heap} {o:Obj} (O:yk1 ι D) (hD:D∉X) (N:Nx X ι ι' h h') (e:h.get? D=some o) (c:o.cls≠.type "frame"):h'.get? D=some o:=by
 refine el11 (N.keep' D o e hD (fun p hp=>(O.lay p hp).2) O.tab) fun sl q d=>?_;rcases d with d|d
 ·exact absurd d c
 ·rw [q,d]
theorem yk1.ns {h h':Heap} {m:Str->Option Value} (O:yk1 ι L) (hD:L∉X) (N:Nx X ι ι' h h') (e:h.Ns L m):h'.Ns L m:=by
 refine el32 e fun o es ep ho hd r=>?_;refine el11 (N.keep' L o ho hD (fun p hp=>(O.lay p hp).2) O.tab) fun sl q U=>?_;exact ⟨_,es,ep,q,hd,r⟩
theorem zk2 {h:Heap} {m:Str->Option Value} (e:h.Ns L m):zx4 [L] h:=fun b hb=>by
 rw [iq4.mp hb];refine el32 e fun o es ep ho hd r=>?_;exact ⟨o,ho,.inl ⟨es,ep,hd⟩⟩
theorem yz0 {h:Heap} {ys:List Value} {m:Nat} (e:h.get? D=some (listOf ys.toArray m)):zx4 [D] h:=fun b hb=>by
 rw [iq4.mp hb];exact ⟨_,e,.inr (.inr ⟨rfl,_,_,rfl⟩)⟩
structure Mid (n:Nat) (A:Around) (fr:List Env) (sc:Scope) (ρ:Rho) (env:Env) (ι1:Lay) (s1:Shared) (X:List Addr) (D L:Addr) (acc:List V) (ι:Lay) (σ:zz0) (s:Shared):Prop where
 st:St n A fr sc ρ env ι σ s
 nx:Nx X ι1 ι s1.heap s.heap
 oD:yk1 ι D
 oL:yk1 ι L
 ls:∃ ys m,s.heap.get? D=some (listOf ys.toArray m)/\zq2 ι s.heap acc ys
 ns:∃ m,s.heap.Ns L m
theorem lst_nf (ys:Array Value) (m:Nat):(listOf ys m).cls≠.type "frame":=by simp
section
variable {ρ1:Rho} {acc:List V}
theorem Mid.step (M:Mid n A fr sc ρ env ι1 s1 X D L acc ι σ s) (N:Nx [] ι ι' s.heap s'.heap) (I':Inv ι' σ' s') (tk:0 < s'.toks):Mid n A fr sc ρ env ι1 s1 X D L acc ι' σ' s':=by
 refine el21 M.ls fun ys m e rs=>?_;refine el10 M.ns fun m0 h0=>?_;have hl:L < s.heap.objs.size:=el31 h0 fun o es ep e U=>Heap.lt_size e;exact ⟨M.st.nx N I' tk,M.nx.trans (N.weaken fun U q=>nomatch q),M.oD.nx N (Heap.lt_size e),M.oL.nx N hl,⟨ys,m,M.oD.same (X:=[]) (fun q=>nomatch q) N e (lst_nf _ _),rs.nx M.st.I (zq1 _) N⟩,⟨m0,M.oL.ns (X:=[]) (fun q=>nomatch q) N h0⟩⟩
theorem Mid.over (M:Mid n A fr sc ρ env ι1 s1 X D L acc ι σ s) (S1:St n A fr sc ρ1 env ι1 σ1 s1) (ha:s1.heap.objs.size<=a) (hX:zx4 [a] s.heap) (hDa:D≠a) (N:Nx [a] ι ι s.heap s'.heap) (I':Inv ι σ s') (tk:0 < s'.toks) (ns:∃ m,s'.heap.Ns L m):Mid n A fr sc ρ env ι1 s1 X D L acc ι σ s':=by
 refine el21 M.ls fun ys m e rs=>?_;exact ⟨M.st.over S1 ha hX N I' tk,M.nx.since N ha,M.oD,M.oL,⟨ys,m,M.oD.same (fun q=>hDa (iq4.mp q)) N e (lst_nf _ _),rs.nx M.st.I hX N⟩,ns⟩
end
theorem uf4 {ifs:List Expr} {elt iterE:Expr} {it:It} {px pos:Pos} {G:List V->zz0->Out γ} {Q':δ->Shared->Prop} {RR:Result->Shared->Prop} (ih:EvE C n k) (itT:EvT C n k) (hc:zg3 sc csc ρ x=true)
 (S1:St n A fr sc ρ env ι1 σ1 s1) (hI:s1.heap.objs.size<=I) (hD:s1.heap.objs.size<=D) (hL:s1.heap.objs.size<=L) (hDI:D≠I) (hLI:L≠I) (hDL:D≠L) (hz:zq5 it < SL)
 (fin:∀ vs ι σ s,Mid n A fr sc ρ env ι1 s1 X D L vs ι σ s->zz3 R' X (G vs σ) ι1 s1 Q' QX E->RR (.ok .next) s)
 (r:Nat) (acc:List V) (ι:Lay) (σ:zz0) (s:Shared) (hr:r<=zq5 it) (hac:acc.length<=zq5 it - r) (M:Mid n A fr sc ρ env ι1 s1 X D L acc ι σ s) (Z:wj1 A ι s.heap I it (zq5 it - r)) (O:yk1 ι I)
 (H:zz3 R' X ((wg0 (compF (fun e σ v=>evT C k csc ((x,v)::ρ) e σ) (fun e σ v=>evE C k csc ((x,v)::ρ) e σ) ifs elt) it r σ).bnd fun xs σ=>G (acc++xs) σ) ι1 s1 Q' QX E) :
 codeAny (model P w) A (.compLoop (.ListComp elt [⟨.Name x px,iterE,ifs,0⟩] csc pos) 0 (.ref I) (.ref D) (vx4 csc env L)) RR s:=by
 have hloc:csc.names.lookup x=some .local:=beq_iff_eq.mp (bb (bb (bb hc).1).1).2;have hkind:csc.kind=.function:=beq_iff_eq.mp (bb (bb (bb (bb hc).1).1).1).2;refine exI (α:=Nat) (β:=Shared) (fun r s=>∃ acc ι σ,r<=zq5 it/\acc.length<=zq5 it - r/\Mid n A fr sc ρ env ι1 s1 X D L acc ι σ s/\wj1 A ι s.heap I it (zq5 it - r)/\yk1 ι I/\
  zz3 R' X ((wg0 (compF (fun e σ v=>evT C k csc ((x,v)::ρ) e σ) (fun e σ v=>evE C k csc ((x,v)::ρ) e σ) ifs elt) it r σ).bnd fun xs σ=>G (acc++xs) σ) ι1 s1 Q' QX E) fun CI ci co=>?_
 refine codeAny_compLoop_tests CI ?_ r (co _ _ ⟨acc,ι,σ,hr,hac,M,Z,O,H⟩);clear H O Z M hac hr s σ ι acc r;intro r s hci;refine hid fun G0 kG0=>?_;refine el34 (ci r s hci) fun acc ι σ hr hac M Z pq4=>?_;refine zz9 pq4 fun O H=>?_;refine kG0 ?_;have nl:∀ {b:Addr} {c:Addr},b≠c->b∉[c]:=fun q z=>q (iq4.mp z);refine wpAny_with_toks (n:=1) M.st.tk ?_;cases r with
 | zero=>
  refine zz9 (zz3.ib H) fun he H=>?_;refine wp2 M.st.rm.handled he Z O M.st.I fun h' t N' I' tk=>?_;exact fin acc ι σ _ (M.over (s':={ s with heap:=h',toks:=t }) S1 hI Z.isIt.dicts hDI N' I' tk (el10 M.ns fun m e=>⟨m,M.oL.ns (nl hLI) N' e⟩)) (iq7 acc▸(H:zz3 R' X (G (acc++[]) σ) ι1 s1 Q' QX E))
 | succ r=>
  refine el11 (zz3.eb H) fun v hv H=>?_;refine el21 (zz3.okb H) fun xo σ' er H=>?_;replace H:=H.assoc;have hk1:zq5 it - (r + 1) + 1=zq5 it - r:=tsub hr;refine xp3 hv Z O M.st.I fun xv h1 t1 N1 I1 Z1 rx tk1=>?_;refine hid fun G1 kG=>?_;have M1:=M.over (s':={ s with heap:=h1,toks:=t1 }) S1 hI Z.isIt.dicts hDI N1 I1 tk1 (el10 M.ns fun m e=>⟨m,M.oL.ns (nl hLI) N1 e⟩);replace Z1:=hk1▸Z1;refine el10 M1.ns fun m0 hns1=>?_;refine kG ?_;refine wpAny_assign_Name (wpAny_storeName_local (lookup_relabel_local hloc) hns1 (fun h2 hns2 hs2=>?_) (by simp [vx4,compEnvC,relabel,hkind]));refine hid fun G1 kG=>?_;refine zz9 (M1.st.turned (h':=h2) (t:=t1 + 1) S1 M.oL hL (zk2 hns1) (ij3 hs2.1.symm) (fun b o hb e=>(hs2.2 b hb).trans e) (iv7 _)) fun St2 N2=>?_;have M2:=M1.over (s':={ s with heap:=h2,toks:=t1 + 1 }) S1 hL (zk2 hns1) hDL N2 St2.I St2.tk ⟨_,hns2⟩;have Z2:=Z1.nx I1 (zk2 hns1) (nl hLI.symm) O N2;have Sin:=inner_st (s:={ s with heap:=h2,toks:=t1 + 1 }) hc St2 M2.oL hns2 (if_pos rfl) (rx.nx I1 (zk2 hns1) N2);refine el21 (bnd_ok er) fun tb σt eb er=>?_;refine kG ?_;refine wpAny_with_toks (n:=1) Sin.tk (ifs_ok (QX:=fun U U=>True) itT ifs Sin ?_);refine eb.symm▸?_;intro ι3 b s3 N3 I3 hb3 tk3;subst hb3;refine hid fun G1 kG=>?_;have M3:=M2.step N3 I3 tk3;have Z3:=Z2.nx St2.I (zq1 _) (fun q=>nomatch q) O N3;have O3:=O.nx N3 (el10 Z2.isIt fun o e=>Heap.lt_size e.1);cases b with
  | false=>
   cases er;refine kG ?_;exact ⟨r,ij7 _,co _ _ ⟨acc,ι3,_,l21 0x81371187 hr,l32 0x81391997187 hac hk1,M3,Z3,O3,H⟩⟩
  | true=>
   refine el21 (bnd_ok er) fun u σu (eu:evE C k csc ((x,v)::ρ) elt σt=.ok u σu) er=>?_;cases er;have Sin3:=Sin.nx N3 I3 tk3;refine kG ?_;refine wpAny_with_toks (n:=1) Sin3.tk (ih Sin3 ?_);refine eu.symm▸?_;intro ι4 y s4 N4 I4 ry tk4;refine hid fun G1 kG=>?_;have M4:=M3.step N4 I4 tk4;have Z4:=Z3.nx I3 (zq1 _) (fun q=>nomatch q) O3 N4;have O4:=O3.nx N4 (el10 Z3.isIt fun o e=>Heap.lt_size e.1);refine el21 M4.ls fun ys m hD4 rs4=>?_;have hlen:=rs4.length;refine kG ?_;refine append_at (its:=ys.toArray) (n:=m) hD4 (fun h5 hs5 ho5=>?_) (by rw [iz1,hlen,zw5];have:SL=16777216:=rfl;exact l33 0x8919711000000413811100000047 hz hac (Nat.sub_le _ _));refine zz9 (M4.st.turned (h':=h5) (t:=s4.toks) S1 M4.oD hD (yz0 hD4) (ij3 hs5.1.symm) (fun b o hb e=>(hs5.2 b hb).trans e) tk4) fun St5 N5=>?_;refine ⟨r,ij7 _,co _ _ ⟨acc++[u],ι4,_,l21 0x81371187 hr,by simp;exact l32 0x81391997181371 hac hk1,⟨St5,M4.nx.since N5 hD,M4.oD,M4.oL,⟨ys++[y],m + 1,ho5.trans ?_,?_⟩,el10 M4.ns fun m e=>⟨m,M4.oL.ns (nl hDL.symm) N5 e⟩⟩,Z4.nx I4 (yz0 hD4) (nl hDI.symm) O4 N5,O4,?_⟩⟩
   ·simp
   ·exact (rs4.nx I4 (yz0 hD4) N5).append (zq2.one (ry.nx I4 (yz0 hD4) N5))
   ·exact Eq.mpr (congrArg (fun g=>zz3 R' X (Out.bnd (wg0 _ it r σ') g) ι1 s1 Q' QX E) (funext fun xs=>congrArg G (iq0 acc [u] xs))) H
end
section
variable {X:List Addr} {α β γ δ:Type} {R:Lay->Heap->α->β->Prop} {R':Lay->Heap->γ->δ->Prop} {n k:Nat} {C:zz5} {A:Around} {fr:List Env} {sc csc:Scope} {ρ:Rho} {env:Env} {ι ι' ι1:Lay} {σ σ' σ1:zz0} {s s' s1:Shared}
 {Q:QV0} {QX:QA0} {E:QV0} {I D L a:Addr} {x:Str}
theorem yf8 (In:Inv ι σ s) (h:s.heap.objs.size<=a):yk1 ι a:=
 ⟨fun p hp=>⟨ij5 (iq3 (In.size_of hp).1 h),ij5 (iq3 (In.size_of hp).2 h)⟩,
  fun q=>by obtain ⟨t,e,_⟩:=In.tabs _ q;exact absurd (Heap.lt_size e) (Nat.not_lt.mpr h),zw0 In h⟩
theorem xx8 {e:Expr} {y:Value} (h:∀ a b c,e≠.Set a b c):foldedSetIterable e env y=pure y:=by cases e <;> first|rfl|exact absurd rfl (h _ _ _)
set_option tactic.hygienic true in
theorem wx0 {ifs:List Expr} {elt itE:Expr} {px pos fp:Pos} {G:List V->zz0->Out γ} {Q':δ->Shared->Prop} {use:Option (Value->Sem Unit)} (ih:EvE C n k) (itT:EvT C n k) (ihI:EvI C n k) (hc:zg3 sc csc ρ x=true)
 (S:St n A fr sc ρ env ι σ s)
 (H:zz3 R' X ((evIt C k sc ρ itE σ).bnd fun i σ=>if zq5 i < SL then (yz5 (compF (fun e σ v=>evT C k csc ((x,v)::ρ) e σ) (fun e σ v=>evE C k csc ((x,v)::ρ) e σ) ifs elt) i σ).bnd G else .bad) ι s Q' QX E)
 (fin:∀ ι1 σ1 s1 D L vs ι5 σ5 s5,Nx [] ι ι1 s.heap s1.heap->St n A fr sc ρ env ι1 σ1 s1->s1.heap.objs.size<=D->s1.heap.objs.size<=L->D≠L->Mid n A fr sc ρ env ι1 s1 X D L vs ι5 σ5 s5->zz3 R' X (G vs σ5) ι1 s1 Q' QX E->
  compPost (model P w) A E use Q (.ref D) L (.ok .next) s5) :
 wpAny (model P w) A (comprehension (.ListComp elt [⟨.Name x px,itE,ifs,0⟩] csc pos) csc env fp (newList []) false (eval itE env) use) Q E s:=by
 have hc':=hc;unfold zg3 at hc';simp only [iq5,beq_iff_eq] at hc';obtain ⟨⟨⟨⟨h1,hkind⟩,hloc⟩,h4⟩,h5⟩:=hc';have h5':=fun p hp=>by
  have:=iz0.mp h5 p hp;simpa only [iq5,bne_iff_ne,ne_eq,iw3,beq_iff_eq] using this
 obtain ⟨hset,hw⟩:=ihI (Q1:=fun it s2=>wpAny (model P w) A (newList []) (fun acc s₃=>wpAny (model P w) A (newFunctionEnv csc env.globals (zx8 env csc.names []) [] env.qual none .none (some env)) (fun cenv s₄=>
  codeAny (model P w) A (.compStart (.ListComp elt [⟨.Name x px,itE,ifs,0⟩] csc pos) 0 it acc { cenv with scope:=relabel csc env }) (compPost (model P w) A E use Q acc cenv.locals) s₄) E s₃) E s2) S H (fun it σ1 ι1 s1 I s2 N01 St1 N12 hI hIlt St2 Z O H1=>by
  split at H1
  ·rename_i hz
   refine wpAny_newObj_type (wpAny_newFunctionEnv (fun y hy=>(h5' y hy).1) (fun y hy=>nomatch hy) (fun h' hns hsb=>?_) hkind);have hD:(s2.heap.push { cls:=.type "list",data:=.seq ([]:List Value).toArray }).objs.size=s2.heap.objs.size + 1:=Heap.size_push ..;have hL:((s2.heap.push { cls:=.type "list",data:=.seq ([]:List Value).toArray }).push { cls:=.type "dict",data:=.dict #[]}).objs.size=s2.heap.objs.size + 2:=by rw [Heap.size_push,Heap.size_push]
   dsimp only at hns hsb ⊢;rw [hD] at hns hsb ⊢;have hsz:h'.objs.size=s2.heap.objs.size + 2:=hsb.1.trans hL;have ne1:s2.heap.objs.size≠s2.heap.objs.size + 1:=ij5 (ij7 _);have kp:∀ b o,s2.heap.get? b=some o->h'.get? b=some o:=fun b o e=>(hsb.2 b (ij5 (oz6 (Heap.lt_size e)))).trans (Heap.get?_push_of_some _ (Heap.get?_push_of_some _ e));obtain ⟨St4,N24⟩:=St2.more (h':=h') (t:=s2.toks) (l21 0x23718d87 hsz) kp St2.tk;have hDo:h'.get? s2.heap.objs.size=some (listOf ([]:List Value).toArray 0):=(hsb.2 _ ne1).trans (Heap.get?_push_of_some _ (Heap.get?_push_size _ rfl));have oD:=yf8 (a:=s2.heap.objs.size) St2.I (iq1 _);have oL:=yf8 (a:=s2.heap.objs.size + 1) St2.I (oz5 _);have hs12:s1.heap.objs.size<=s2.heap.objs.size:=N12.size;have M:Mid n A fr sc ρ env ι1 s1 X s2.heap.objs.size (s2.heap.objs.size + 1) [] ι1 σ1 { s2 with heap:=h',toks:=s2.toks }:=
    ⟨St4,(N12.trans N24).weaken (fun U q=>nomatch q),oD,oL,⟨[],0,hDo,rfl⟩,⟨_,hns⟩⟩
   have Z4:=Z.nx (X:=[]) (h':=h') St2.I (zq1 _) (fun q=>nomatch q) O N24;have hIne:I≠s2.heap.objs.size:=ij5 hIlt;have loop:codeAny (model P w) A (.compLoop (.ListComp elt [⟨.Name x px,itE,ifs,0⟩] csc pos) 0 (.ref I) (.ref s2.heap.objs.size) (vx4 csc env (s2.heap.objs.size + 1))) (compPost (model P w) A E use Q (.ref s2.heap.objs.size) (s2.heap.objs.size + 1)) { s2 with heap:=h',toks:=s2.toks }:=
    uf4 (G:=G) ih itT hc St1 hI hs12 (Nat.le_succ_of_le hs12) hIne.symm (ix0 (oz6 hIlt)) ne1 hz
     (fun vs ι5 σ5 s5 M5 H5=>fin ι1 σ1 s1 _ _ vs ι5 σ5 s5 N01 St1 hs12 (Nat.le_succ_of_le hs12) ne1 M5 H5) (zq5 it) [] ι1 σ1 _ (iq1 _) (iv8 _) M (by rw [iv4];exact Z4) O
     (by
      have e:(fun xs σ=>G ([]++xs) σ)=G:=by funext xs σ;rw [oz8]
      refine e.symm▸?_;exact H1)
   exact codeAny_compStart_list loop (it_self Z4 loop)
  ·exact H1.elim)
 refine wpAny_comprehension_free rfl (fun x=>?_) (wx1 hc S) hkind (fun y hy hl=>?_) hw
 ·exact xx8 hset
 ·rcases (h5' y hy).2 with z|⟨z,_⟩
  ·exact absurd hl z
  ·exact z
theorem comp_ok {ifs:List Expr} {elt itE:Expr} {px pos:Pos} (ih:EvE C n k) (itT:EvT C n k) (ihI:EvI C n k) (S:St n A fr sc ρ env ι σ s)
 (H:zj5 (evE C (k + 1) sc ρ (.ListComp elt [⟨.Name x px,itE,ifs,0⟩] csc pos) σ) ι s Q E) :
 wpAny (model P w) A (eval (.ListComp elt [⟨.Name x px,itE,ifs,0⟩] csc pos) env) Q E s:=by
 refine zz9 (zz3.ifn H) fun hcc H=>?_;have hc:zg3 sc csc ρ x=true:=(Bool.eq_false_or_eq_true _).resolve_right hcc;rw [eval_ListComp];refine wx0 (use:=none) ih itT ihI hc S H fun ι1 σ1 s1 D L vs ι5 σ5 s5 N01 St1 hD hL hDL M H5=>?_;obtain ⟨m,hns⟩:=M.ns;refine ⟨m,hns,fun h' hs=>?_⟩;refine el20 M.ls fun ys mm pq8=>?_;obtain ⟨hDo,rs⟩:=pq8;obtain ⟨St6,N6⟩:=M.st.turned (h':=h') (t:=s5.toks) St1 M.oL hL (zk2 hns) (ij3 hs.1.symm) (fun b o hb e=>(hs.2 b hb).trans e) M.st.tk;have hDo6:=M.oD.same (fun q=>hDL (iq4.mp q)) N6 hDo (by simp);refine zz9 (St6.I.adopt M.oD hDo6 (rs.nx M.st.I (zk2 hns) N6) (M.nx.since N6 hL) hD) fun I7 pq14=>?_;obtain ⟨N7,r7⟩:=pq14;exact H5 _ _ { s5 with heap:=h',toks:=s5.toks } N7 I7 r7
end
theorem ints_len (n:Nat):∀ a:Int,(zj6 a n).length=n:=by
 induction n with
 | zero=>exact fun U=>rfl
 | succ n ih=>exact fun a=>congrArg (fun U=>U + 1) (ih (a + 1))
theorem ints_get (n:Nat):∀ (a:Int) (i:Nat) (v:V),(zj6 a n)[i]?=some v->v=.int (a + i * 1):=by
 induction n with
 | zero=>exact fun U U U e=>zz7 e
 | succ n ih=>
  intro a i v e;cases i with
  | zero=>rw [<-Option.some.inj e];exact congrArg V.int (Int.add_zero a).symm
  | succ i=>rw [ih (a + 1) i v e];exact congrArg V.int (by rw [Int.mul_one,Int.mul_one,Int.add_assoc,Int.add_comm 1];rfl)
section
variable {X:List Addr} {α β γ δ:Type} {R:Lay->Heap->α->β->Prop} {R':Lay->Heap->γ->δ->Prop} {n k:Nat} {C:zz5} {A:Around} {fr:List Env} {sc csc:Scope} {ρ:Rho} {env:Env} {ι ι' ι1:Lay} {σ σ' σ1:zz0} {s s' s1:Shared}
 {Q:QV0} {QX:QA0} {E:QV0} {I D L a:Addr} {x:Str}
theorem it_make {v:V} {x:Value} {it:It} (hh:A.handled=none) (In:Inv ι σ s) (rv:Rel ι s.heap v x) (e:itO v σ=some it)
 (K:∀ o:Obj,wj1 A ι (s.heap.push o) s.heap.objs.size it 0->Q (.ref s.heap.objs.size) { s with heap:=s.heap.push o }):wpAny (model P w) A (pyIter x) Q E s:=by
 unfold itO at e;cases e1:zj8 v with
 | some i=>
  replace e:=e1▸e;refine oe e fun l e2 e=>?_;cases Option.some.inj e;exact In.ol e1 e2 rv fun xa vs m hi ho r hL=>wpAny_pyIter_list hL (K _ ⟨xa,hi,_,Heap.get?_push_size _ rfl,rfl,rfl⟩)
 | none=>
 replace e:=e1▸e;refine ocs (zx9 v) (fun e2=>?_) fun l e2=>?_
 ·rw [e2] at e
  refine oe e fun l e3 e=>?_;cases Option.some.inj e;refine rv.ot e3 fun a vs T r=>?_;have hl:=r.length;have hne:a≠s.heap.objs.size:=by obtain ⟨o,ho,_⟩:=T;exact ij5 (Heap.lt_size ho)
  refine wpAny_pyIter_tuple T (K _ ?_);obtain ⟨_,N⟩:=In.more (h':=s.heap.push { cls:=.type "tuple_iterator",data:=.fields #[.ref a,.int 0 0]}) (by rw [Heap.size_push];exact l10 0x13717) (fun b o e=>Heap.get?_push_of_some _ e) s.toks;refine ⟨[s.heap.objs.size,a],(fun i v=>vs.toArray[i]?=some v),(fun i h=>h.IsTupleIter s.heap.objs.size a i/\h.IsTuple a vs.toArray),?_,⟨⟨_,Heap.get?_push_size _ rfl,rfl,rfl⟩,IsTup.push T _⟩,fun j g st=>isIt_tup st.1,iz6,fun b hb hne=>?_,fun i x v e1 e2=>?_⟩
  ·have W:=Walks.tuple (prog:=P) (w:=w) (A:=A) hh s.heap.objs.size a hne vs.toArray
   have hz:vs.toArray.size=l.length:=(iz1 ..).trans hl;rw [hz] at W;exact W
  ·simp only [ix7,oq4,or_false] at hb
   rcases hb with hb|hb
   ·exact absurd hb hne
   ·cases hb
    exact ⟨_,IsTup.push T _⟩
  ·refine el11 (r.get e1) fun y g1 g2=>?_
   have:vs.toArray[i]?=some x:=e2;rw [oq3,g1] at this;refine hid fun G kG=>?_;cases this;refine kG ?_;exact g2.nx In (zq1 _) N
 ·replace e:=e2▸e
  cases Option.some.inj e;refine rv.os e2 fun t=>?_;have hsz:(⟨l.toArray⟩:Str).cps.size=(l.map fun c=>V.str [c]).length:=by simp
  have hR:∀ (h:Heap) i x v,(l.map fun c=>V.str [c])[i]?=some v->SignAt ⟨l.toArray⟩ i x->Rel ι h v x:=fun h i x v e1 e2=>by
   refine el21 e2 fun c u e3 eq3=>?_;subst eq3;rw [iw2] at e1;have e3':l[i]?=some c:=by simpa using e3
   replace e1:=e3'▸e1;cases e1;exact ⟨u,rfl⟩
  cases ha:(⟨l.toArray⟩:Str).cps.all (fun U=>U < 128)
  ·refine wpAny_pyIter_wide ha (K _ ?_)
   refine ⟨[s.heap.objs.size],SignAt ⟨l.toArray⟩,(fun i h=>h.IsStrIter s.heap.objs.size "str_iterator" ⟨l.toArray⟩ t i),hsz▸Walks.strWide hh _ _ t,⟨_,Heap.get?_push_size _ rfl,rfl,rfl⟩,fun j g st=>vq0 (by decide) st,iz6,fun b hb hne=>?_,hR _⟩;exact absurd (iq4.mp hb) hne
  ·refine wpAny_pyIter_ascii ha (K _ ?_)
   refine ⟨[s.heap.objs.size],SignAt ⟨l.toArray⟩,(fun i h=>h.IsStrIter s.heap.objs.size "str_ascii_iterator" ⟨l.toArray⟩ t i),hsz▸Walks.strAscii hh _ _ t,⟨_,Heap.get?_push_size _ rfl,rfl,rfl⟩,fun j g st=>vq0 (by decide) st,iz6,fun b hb hne=>?_,hR _⟩;exact absurd (iq4.mp hb) hne
theorem evI_of {e:Expr} {f:It->zz0->Out γ} {Q1:QV0} {Q':δ->Shared->Prop} (ih:EvE C n k) (S:St n A fr sc ρ env ι σ s) (H:zz3 R' X (((evE C k sc ρ e σ).bnd fun v σ=>itOf v σ).bnd f) ι s Q' QX E)
 (K:∀ it σ1 ι1 s1 I s2,Nx [] ι ι1 s.heap s1.heap->St n A fr sc ρ env ι1 σ1 s1->Nx [] ι1 ι1 s1.heap s2.heap->s1.heap.objs.size<=I->I < s2.heap.objs.size->St n A fr sc ρ env ι1 σ1 s2->wj1 A ι1 s2.heap I it 0->yk1 ι1 I->zz3 R' X (f it σ1) ι1 s1 Q' QX E->Q1 (.ref I) s2) :
 (∀ es c p,e≠.Set es c p)/\wpAny (model P w) A (eval e env) (fun x s1=>wpAny (model P w) A (pyIter x) Q1 E s1) E s:=by
 refine ⟨fun es c p q=>?_,?_⟩
 ·subst q
  cases k <;> exact False.elim H
 ·replace H:=H.assoc
  refine ih.use S H fun v σ1 ι1 x s1 N S1 rv H1=>?_;refine el11 (zz3.lb H1) fun it ei H1=>?_
  ·refine it_make S1.rm.handled S1.I rv ei fun o Z=>?_
   obtain ⟨S2,N2⟩:=S1.more (h':=s1.heap.push o) (t:=s1.toks) (by rw [Heap.size_push];exact l10 0x13717) (fun b o' e=>Heap.get?_push_of_some _ e) S1.tk;exact K it _ ι1 s1 _ _ N S1 N2 (iq1 _) (by rw [Heap.size_push];exact ij7 _) S2 Z (yf8 S1.I (iq1 _)) H1
theorem wk7 {vs l:List V} (h:yk3 vs=some l):(∃ b,vs=[.int b]/\(-1000000 < b/\b < 1000000)/\zj6 0 b.toNat=l)\/∃ a b,vs=[.int a,.int b]/\(-1000000 < a/\a < 1000000)/\(-1000000 < b/\b < 1000000)/\zj6 a (b - a).toNat=l:=by
 cases vs with
 | nil=>exact zz7 h
 | cons x r=>cases r with
  | nil=>exact oe h fun b eb h=>zz9 (ifs h) fun q e=>.inl ⟨b,by rw [yj7 eb],bd q,e⟩
  | cons y r=>
   refine zz9 (ift h) fun hr h=>oe h fun a ea h=>oe h fun b eb h=>zz9 (ifs h) fun q e=>?_;exact .inr ⟨a,b,by rw [yj7 ea,yj7 eb,ik3.mp hr],bd (bb q).1,bd (bb q).2,e⟩
theorem lo62 {a:Int} (h:-1000000 < a):-(2 ^ 62)<=a:=iw8 (by decide) (oz1 h)
theorem hi62 {a:Int} (h:a < 1000000):a < 2 ^ 62:=Int.lt_trans h (by decide)
theorem uz9 {args:List Expr} {p pos:Pos} {f:It->zz0->Out γ} {Q1:QV0} {Q':δ->Shared->Prop} (B:zf9) (ih:EvE C n k) (S:St n A fr sc ρ env ι σ s) (hg:zw6 sc "range" = true) (hs:args.any zy7=false)
 (H:zz3 R' X (((zh2 (fun e σ=>evE C k sc ρ e σ) args σ).bnd fun vs σ=>liftO ((yk3 vs).map It.seq) σ).bnd f) ι s Q' QX E)
 (K:∀ it σ1 ι1 s1 I s2,Nx [] ι ι1 s.heap s1.heap->St n A fr sc ρ env ι1 σ1 s1->Nx [] ι1 ι1 s1.heap s2.heap->s1.heap.objs.size<=I->I < s2.heap.objs.size->St n A fr sc ρ env ι1 σ1 s2->wj1 A ι1 s2.heap I it 0->yk1 ι1 I->zz3 R' X (f it σ1) ι1 s1 Q' QX E->Q1 (.ref I) s2) :
 wpAny (model P w) A (eval (.Call (.Name "range" p) args [] pos) env) (fun x s1=>wpAny (model P w) A (pyIter x) Q1 E s1) E s:=by
 refine wpAny_bind (wf5 (x:= "range") (T:= "range") B S hg (by decide +kernel) (by decide +kernel) (by decide +kernel) (rfl) ?_);replace H:=H.assoc;refine wj3 (first:=[]) ih S hs H fun vs σ1 ι1 xs s1 N S1 rs H1=>⟨⟨.machine,.inr (.inl rfl),Looks.of_pure rfl⟩,?_⟩
 -- the range made,its iterator
 have fin:∀ (a b:Int) (t u v:Tok) (tk:Nat),0 < tk->-(2 ^ 62)<=a->a < 2 ^ 62->-(2 ^ 62)<=b->b < 2 ^ 62->zz3 R' X (f (.seq (zj6 a (b - a).toNat)) σ1) ι1 s1 Q' QX E->
  wpAny (model P w) A (pyIter (.ref s1.heap.objs.size)) Q1 E { s1 with heap:=s1.heap.push { cls:=.type "range",data:=.fields #[.int a t,.int b u,.int 1 v]},toks:=tk }:=by
  intro a b t u v tk htk h1 h2 h3 h4 H2;obtain ⟨S2,N2⟩:=S1.more (h':=s1.heap.push { cls:=.type "range",data:=.fields #[.int a t,.int b u,.int 1 v]}) (t:=tk) (by rw [Heap.size_push];exact l10 0x13717) (fun b o' e=>Heap.get?_push_of_some _ e) htk;refine wpAny_pyIter_range (IsRange.new ..) (small_one h1 h2 h3 h4) ?_;have hsz:Builtin.Range.rangeSize a b 1=((b - a).toNat:Int):=by
   rw [rangeSize_one,Int.ofNat_toNat];by_cases h:a < b
   ·rw [if_pos h,Int.max_eq_left (Int.sub_nonneg_of_le (oz1 h))]
   ·rw [if_neg h,Int.max_eq_right (Int.sub_nonpos_of_le (iv2.mp h))]
  refine hsz.symm▸?_;dsimp only;have e0:(s1.heap.push { cls:=.type "range",data:=.fields #[.int a t,.int b u,.int 1 v]}).objs.size=s1.heap.objs.size + 1:=Heap.size_push ..;have e1:((s1.heap.push { cls:=.type "range",data:=.fields #[.int a t,.int b u,.int 1 v]}).push { cls:=.type "range_iterator",data:=.fields #[rawInt a,rawInt ((b - a).toNat:Int),rawInt 1]}).objs.size=s1.heap.objs.size + 2:=by rw [Heap.size_push,Heap.size_push]
  obtain ⟨S3,N3⟩:=S2.more (h':=(s1.heap.push { cls:=.type "range",data:=.fields #[.int a t,.int b u,.int 1 v]}).push { cls:=.type "range_iterator",data:=.fields #[rawInt a,rawInt ((b - a).toNat:Int),rawInt 1]}) (t:=tk) (by dsimp only;exact l32 0x23918d13917987 e0 e1) (fun b o' e=>Heap.get?_push_of_some _ e) htk;refine K (.seq (zj6 a (b - a).toNat)) σ1 ι1 { s1 with heap:=s1.heap.push { cls:=.type "range",data:=.fields #[.int a t,.int b u,.int 1 v]},toks:=tk } _ _ (N.trans N2) S2 N3 (iq1 _) (by dsimp only;exact l32 0x23918d13917981371 e0 e1) S3 ?_ (yf8 S2.I (iq1 _)) (zz3.rebase H2 (N2.weaken fun U q=>nomatch q));have W:=Walks.range (prog:=P) (w:=w) (A:=A) S.rm.handled (s1.heap.push { cls:=.type "range",data:=.fields #[.int a t,.int b u,.int 1 v]}).objs.size a 1 (b - a).toNat;refine ⟨_,_,_,by rw [ints_len];exact W,?_,fun j g st=>vw1 st,iz6,fun b hb hne=>absurd (iq4.mp hb) hne,fun i x v e1 e2=>?_⟩
  ·show IsRangeIter _ _ (a + ((0:Nat):Int) * 1) (((b - a).toNat:Int) - ((0:Nat):Int)) 1
   have q1:a + ((0:Nat):Int) * 1=a:=Int.add_zero a;refine q1.symm▸?_;exact Heap.get?_push_size _ rfl
  ·obtain ⟨t',rfl⟩:=e2
   rw [ints_get _ _ _ _ e1];exact ⟨t',rfl⟩
 refine el11 (zz3.lb H1) fun it ei H1=>?_;refine el11 (ix1.mp ei) fun l er e0=>?_;subst e0;rcases wk7 er with ⟨b,rfl,hb,rfl⟩|⟨a,b,rfl,ha,hb,rfl⟩
 ·refine el11 rs.one_of fun x eq7 r=>?_
  cases eq7;refine el10 r.int_of fun t eq8=>?_;subst eq8;exact call_range_1 (fin 0 b s1.toks t (s1.toks + 1) (s1.toks + 1 + 1) (iv7 _) (by decide) (by decide) (lo62 hb.1) (hi62 hb.2) (by rw [Int.sub_zero];exact H1))
 ·refine el22 rs.two_of fun x y eq9 r1 r2=>?_
  subst eq9;refine el10 r1.int_of fun t eq10=>?_;subst eq10;refine el10 r2.int_of fun u eq11=>?_;subst eq11;exact call_range_2 (fin a b t u s1.toks (s1.toks + 1) (iv7 _) (lo62 ha.1) (hi62 ha.2) (lo62 hb.1) (hi62 hb.2) H1)
theorem wy1 {g:Expr} (h:xw6 g=true):∃ r p,g=.Name r p/\r = "range":=by
 cases g with
 | Name r p=>exact ⟨r,p,rfl,beq_iff_eq.mp h⟩
 | _=>exact absurd h ix8
theorem evI_step (B:zf9) (ih:EvE C n k):EvI C n (k + 1):=by
 intro A fr sc ρ env ι σ s e γ δ X R' f Q1 Q' QX E S H K;refine exCall_ind (M:=fun e' r=>e'=e->zz3 R' X (Out.bnd r f) ι s Q' QX E->(∀ es c p,e≠.Set es c p)/\wpAny (model P w) A (eval e env) (fun x s1=>wpAny (model P w) A (pyIter x) Q1 E s1) E s) (fun g args kws pos q H=>?_) (fun e' q H=>evI_of ih S H K) rfl H
 ·subst q
  by_cases hr:xw6 g=true
  ·have H1:=zz3.bt hr H
   by_cases hg:(!zw6 sc "range"||args.any zy7||!kws.isEmpty)=true
   ·exact False.elim (zz3.bt hg H1)
   ·have H2:=zz3.bf hg H1
    rw [oz0,Bool.or_eq_false_iff,Bool.or_eq_false_iff,Bool.not_eq_false',Bool.not_eq_false'] at hg;refine el20 (wy1 hr) fun r p pq3=>?_;obtain ⟨rfl,rfl⟩:=pq3;cases ik3.mp hg.2;exact ⟨(fun U U U q=>by cases q),uz9 B ih S hg.1.1 hg.1.2 H2 K⟩
  ·exact evI_of ih S (zz3.bf hr H) K
end
section
variable {n k:Nat} {C:zz5}
theorem test_ind {M:Expr->Out Bool->Prop} {e:Expr} {d:Out Bool} {c0:BoolOp->List Expr->Pos->Out Bool} {c1:UnaryOp->Expr->Pos->Out Bool} {c2:Expr->Expr->Expr->Pos->Out Bool} {c3:Expr->List CmpOp->List Expr->Pos->Out Bool} (h0:∀ a b c,M (.BoolOp a b c) (c0 a b c)) (h1:∀ a b c,M (.UnaryOp a b c) (c1 a b c)) (h2:∀ a b c f,M (.IfExp a b c f) (c2 a b c f)) (h3:∀ a b c f,M (.Compare a b c f) (c3 a b c f))
 (z:∀ e,(∀ env W,PySem.isTrue e env W=(do let v <-W;standAt e.pos;holding [v] (truthy v)))->M e d):M e (exTest e d c0 c1 c2 c3):=by
 cases e with
 | BoolOp a b c=>exact h0 a b c
 | UnaryOp a b c=>exact h1 a b c
 | IfExp a b c f=>exact h2 a b c f
 | Compare a b c f=>exact h3 a b c f
 | _=>exact z _ fun _ _=>rfl
theorem evT_step (ih:EvE C n k) (it:EvT C n k):EvT C n (k + 1):=by
 intro A fr sc ρ env ι σ s e Q QX E S H;have dflt:(he:isTrue e env (eval e env)=(do let v <-eval e env;standAt e.pos;holding [v] (truthy v)))->zz3 RelB [] ((evE C k sc ρ e σ).bnd fun v σ=>liftO (zv5 v σ) σ) ι s Q QX E->wpAny (model P w) A (isTrue e env (eval e env)) Q E s:=fun he H=>
  wpAny_isTrue_value (ih.use S H fun v σ1 ι1 x s1 N S1 rv H1=>by
   refine el11 H1.liftO fun b e1 H1=>?_;exact yy4 S1.I rv e1 fun t=>H1.now S1.I rfl) he
 refine test_ind (M:=fun e' r=>e'=e->zz3 RelB [] r ι s Q QX E->wpAny (model P w) A (PySem.isTrue e env (eval e env)) Q E s) (fun op vs p q H=>?_) (fun op x p q H=>?_) (fun t b o p q H=>?_) (fun l ops cs p q H=>?_) (fun e' he q H=>dflt (q▸he env _) H) rfl H
 ·exact q▸wpAny_isTrue_BoolOp (allt_ok it vs S H)
 ·subst q
  cases op with
  | Not=>exact wpAny_isTrue_Not (it.use S H fun b σ1 ι1 s1 N S1 H1=>H1.here S1.I rfl)
  | _=>exact dflt rfl H
 ·refine q▸wpAny_bind (it.use S H fun c σ1 ι1 s1 N S1 H1=>?_)
  cases c
  ·exact it S1 H1
  ·exact it S1 H1
 ·exact q▸wh9 ih S H
theorem slOf_inv {s:Expr} {p:Option Expr×Option Expr×Option Expr} (h:slOf s=some p):∃ q,s=.Slice p.1 p.2.1 p.2.2 q:=by
 exact exSlice_ind (M:=fun s x=>x=some p->∃ q,s=.Slice p.1 p.2.1 p.2.2 q) (fun a b c q h=>⟨q,congrArg (fun p:Option Expr×Option Expr×Option Expr=>Expr.Slice p.1 p.2.1 p.2.2 q) (Option.some.inj h)⟩) (fun e q=>zz7 q) h
theorem uf2 {s:Expr} {p:List (Option Expr)×List Expr} (h:vy2 s=some p):∃ q,s=.Dict p.1 p.2 q:=by
 exact exDict_ind (M:=fun s x=>x=some p->∃ q,s=.Dict p.1 p.2 q) (fun a b q h=>⟨q,congrArg (fun p:List (Option Expr)×List Expr=>Expr.Dict p.1 p.2 q) (Option.some.inj h)⟩) (fun e q=>zz7 q) h
theorem vz2 {g:List Comprehension} {x:Str×Expr×List Expr} (h:lcOf g=some x):∃ px,g=[⟨.Name x.1 px,x.2.1,x.2.2,0⟩]:=by
 rcases g with _|⟨⟨t,it,ifs',a⟩,_|⟨_,_⟩⟩
 ·exact zz7 h
 ·have h:(uj4 t).elim Option.none (fun y=>if (a == 0)=true then some (y,it,ifs') else Option.none)=some x:=h
  refine ocs (uj4 t) (fun q=>?_) fun y q=>?_
  ·rw [q] at h;exact zz7 h
  ·replace h:=q▸h
   refine el10 (yx6 q) fun px e0=>zz9 (ifs h) fun ha e=>?_;have ha:a=0:=beq_iff_eq.mp ha;subst e0 ha;exact ⟨px,e▸rfl⟩
 ·exact zz7 h
theorem sub_ok {A:Around} {fr:List Env} {sc:Scope} {ρ:Rho} {env:Env} {ι:Lay} {σ:zz0} {s:Shared} {o sl:Expr} {pos:Pos} {Q:QV0} {E:QV0} (ih:EvE C n k) (S:St n A fr sc ρ env ι σ s)
 (H:zj5 ((slOf sl).elim (evIx (fun e σ=>evE C k sc ρ e σ) o sl σ) fun p=>evSl (fun e σ=>evE C k sc ρ e σ) o p σ) ι s Q E):wpAny (model P w) A (eval (.Subscript o sl pos) env) Q E s:=by
 refine ocs (slOf sl) (fun q=>?_) fun p q=>?_
 ·replace H:=q▸H
  have hn:yp7 sl:=fun a b c p e=>by rw [e] at q;cases q
  have H:zj5 ((vy2 o).elim ((evE C k sc ρ o σ).bnd fun v σ=>(evE C k sc ρ sl σ).bnd fun i σ=>zv7 v i σ) fun p=>evDs (fun e σ=>evE C k sc ρ e σ) p sl σ) ι s Q E:=H;refine ocs (vy2 o) (fun q2=>?_) fun p q2=>?_
  ·rw [q2] at H;exact wy4 hn ih S H
  ·replace H:=q2▸H
   refine el10 (uf2 q2) fun pp e0=>?_;subst e0;exact vy0 hn ih S H
 ·rw [q] at H
  refine el10 (slOf_inv q) fun pp e0=>?_;subst e0;obtain ⟨lo,hi,st⟩:=p;cases st with
  | none=>exact wk1 ih S H
  | some e=>
   refine zz9 (zz3.ifp H) fun hc H=>?_;cases lo <;> cases hi <;> first|exact rev_ok ih S H|cases hc
theorem evE_step (B:zf9) (hc:yz7 n) (ih:EvE (zz4 n) n k) (it:EvT (zz4 n) n k) (ii:EvI (zz4 n) n k):EvE (zz4 n) n (k + 1):=by
 intro A fr sc ρ env ι σ s e Q E S H;cases e with
 | Constant c kd pos=>exact const_ok S H
 | Name x pos=>exact name_ok B S H
 | BoolOp op vs pos=>exact wg8 ih vs S H
 | BinOp l op r pos=>exact binop_ok ih S H
 | UnaryOp op x pos=>exact unop_ok ih S H
 | IfExp t b o pos=>exact ifexp_ok ih it S H
 | Compare l ops cs pos=>exact vy3 ih S H
 | Tuple es c pos=>exact tuple_ok ih S H
 | List es pos=>exact list_ok ih S H
 | Dict ks vs pos=>
  refine zz9 (zz3.ifp H) fun hc H=>?_;cases ks <;> cases vs <;> first|cases hc|skip
  refine wpAny_Dict_empty ?_;refine zz9 (S.I.more (h':=s.heap.push { cls:=.type "dict",data:=.dict #[]}) (by rw [Heap.size_push];exact oz5 _) (fun b o q=>Heap.get?_push_of_some _ q) s.toks) fun I' N=>?_;exact H ι _ _ N I' ⟨_,rfl,.inl rfl⟩
 | Lambda ps b lsc pos=>exact uw7 B S H
 | Attribute o a pos=>exact wx6 B ih S H
 | Subscript o sl pos=>exact sub_ok ih S H
 | Call f args kws pos=>exact wg5 B ih hc S H
 | ListComp elt gens csc pos=>
  refine ocs (lcOf gens) (fun q=>?_) fun x q=>?_
  ·have H:zj5 ((lcOf gens).elim .bad _) ι s Q E:=H
   rw [q] at H;exact H.elim
  ·refine el10 (vz2 q) fun px e0=>?_
   subst e0;exact comp_ok ih it ii S H
 | _=>exact H.elim
theorem ug6 (B:zf9) (hc:yz7 n):∀ k,EvE (zz4 n) n k/\EvT (zz4 n) n k/\EvI (zz4 n) n k:=by
 intro k;induction k with
 | zero=>
  exact ⟨fun S H=>False.elim H,fun S H=>False.elim H,fun S H K=>False.elim H⟩
 | succ k ih0=>
  refine zg6 (ih0) fun a b c=>?_;exact ⟨evE_step B hc a b c,evT_step a b,evI_step B a⟩
end
noncomputable def vh4 (n:Nat) (e:Addr) (h:Heap):Prop:=∃ oe vs T oT ts v,h.get? e=some oe/\n<=e/\oe.cls=.ref 72/\oe.data=.fields vs/\vs[1]?=some (.ref T)/\T≠e/\n<=T/\h.get? T=some oT/\oT.data=.fields ts/\ts[3]?=some v/\oT.cls=.type "traceback"/\∀ q t,ts[1]?≠some (.str q t)
theorem vh4.thrown {n:Nat} {e:Addr} {h:Heap} (t:vh4 n e h):yj8 n e h:=by
 refine hid fun G kG=>?_;obtain ⟨oe,vs,T,oT,ts,v,a,b,c,d,f,g⟩:=t;refine kG ?_;exact ⟨oe,vs,_,a,b,c,d,f,.inr ⟨T,oT,ts,v,rfl,g⟩⟩
section
structure Fly (X:List Addr) (ι0:Lay) (h0:Heap) (fr:List Env) (ι:Lay) (σ:zz0) (s:Shared):Prop where
 fresh:∀ a,h0.objs.size<=a->hb.get? a=none
 n:Nx X ι0 ι h0 s.heap
 I:Inv ι σ s
 fo:xj5 ι s.heap fr
end
section
variable {X:List Addr} {ι ι0:Lay} {h0:Heap} {σ:zz0} {s:Shared} {fr outer:List Env} {env:Env} {A:Around} {Q:Unit->Shared->Prop} {E:QV0} {L e a:Addr}
theorem Fly.out (Y:Fly X ι0 h0 fr ι σ s) {o:Obj} {vs:Array Value} (ho:s.heap.get? a=some o) (hd:o.data=.fields vs) (hc:o.cls≠.none) (ha:h0.objs.size<=a):yk1 ι a:=by
 refine ⟨fun p hp=>?_,fun q=>?_,Y.fresh a ha⟩
 ·obtain ⟨ob,r⟩:=Y.I.at_ hp
  cases ob with
  | lst l=>
   obtain ⟨e1,xs,m,q,_⟩:=r;have h2:p.2≠a:=fun z=>by rw [z,ho] at q;cases q;cases hd
   exact ⟨fun z=>h2 (e1▸z),h2⟩
  | inst c f=>
   refine el43 r fun C sl es m U q1 q2 U=>?_;exact ⟨fun z=>(by rw [z,ho] at q1;cases q1;cases hd),fun z=>(by rw [z,ho] at q2;cases q2;cases hd)⟩
 ·refine el11 (Y.I.tabs a q) fun ps q1 U=>?_
  rw [ho] at q1;cases q1;exact hc rfl
theorem Fly.turn (Y:Fly X ι0 h0 fr ι σ s) {o:Obj} {vs:Array Value} (ho:s.heap.get? a=some o) (hd:o.data=.fields vs) (hs:∀ q t,vs[1]?≠some (.str q t)) (hc:o.cls≠.none) (ha:h0.objs.size<=a) {h':Heap}
 (hz:s.heap.objs.size<=h'.objs.size) (kp:∀ b o,b≠a->s.heap.get? b=some o->h'.get? b=some o):Fly X ι0 h0 fr ι σ { s with heap:=h' }:=by
 have hX:zx4 [a] s.heap:=fun b hb=>by rw [iq4.mp hb];exact ⟨o,ho,.inr (.inl ⟨vs,hd,hs⟩)⟩
 refine zz9 (Y.I.turned (Y.out ho hd hc ha) hX hz kp s.toks) fun I' N'=>?_;refine ⟨Y.fresh,Y.n.since N' ha,I',Y.fo.nxX hX (fun en he L hL q=>?_) N'⟩;rw [iq4] at q;subst q;obtain ⟨_,L',o',e1,e2,⟨_,es,m,e3⟩,_⟩:=Y.fo en he;rw [hL] at e1;cases e1;rw [ho] at e2;cases e2;rw [hd] at e3;cases e3
theorem Fly.frames (Y:Fly X ι0 h0 fr ι σ s) {b:Addr} (hm:b∈fr.filterMap (fun U=>U.frame)):(∃ o,s.heap.get? b=some o/\(o.cls=.type "frame"/\∃ es m,o.data=.dict es m))/\(∀ p∈ι,p.2≠b)/\b∉zk9/\hb.get? b=none:=by
 refine el11 (List.mem_filterMap.mp hm) fun en he hL=>?_;refine hid fun G kG=>?_;obtain ⟨_,L',o',e1,e2,e3,e4,e5,e6⟩:=Y.fo en he;refine kG ?_;rw [hL] at e1;cases e1;exact ⟨⟨o',e2,e3⟩,e4,e5,e6⟩
theorem Fly.slots (Y:Fly X ι0 h0 fr ι σ s) {h':Heap} (hs:Heap.SlotsOnly (fr.filterMap (fun U=>U.frame)) s.heap h'):Fly X ι0 h0 fr ι σ { s with heap:=h' }:=by
 have N':Nx [] ι ι s.heap h':=by
  refine ⟨ij3 hs.1.symm,⟨[],(iq7 _).symm,fun U hp=>nomatch hp⟩,fun b o e U U U=>?_⟩;by_cases q:b∈fr.filterMap (fun U=>U.frame)
  ·refine el10 (hs.2.2 b o e) fun sl e'=>?_
   refine zz9 (Y.frames q) fun pq3 U=>?_;refine el12 pq3 fun o' e1 e2 U=>?_;rw [e] at e1;cases e1;exact ⟨sl,e',.inl e2⟩
  ·exact ⟨o.slots,(hs.2.1 b q).trans e,.inr rfl⟩
 have I':Inv ι σ { s with heap:=h' }:=by
  refine ⟨Y.I.len,fun i o e=>?_,Y.I.nodup,Y.I.fresh,fun b o e=>(hs.2.1 b fun q=>?_).trans (Y.I.keep b o e),fun P hP=>?_,Y.I.gens,Y.I.os⟩
  ·refine el11 (Y.I.objs i o e) fun rp q r=>?_
   have h2:rp.2∉fr.filterMap (fun U=>U.frame):=fun z=>(Y.frames z).2.1 rp (iv0 q) rfl;refine ⟨rp,q,r.ext Y.I N' (fun x hx=>(hs.2.1 _ fun z=>?_).trans hx) fun x hx=>(hs.2.1 _ h2).trans hx⟩;cases o with
   | lst l=>exact h2 (r.1▸z)
   | inst c f=>
    refine el42 r fun C sl es m U b1 U=>?_;refine zz9 (Y.frames z) fun pq4 U=>?_;refine el11 pq4 fun o' e1 pq15=>?_;obtain ⟨_,es',m',e2⟩:=pq15;rw [b1] at e1;cases e1;cases e2
  ·have:=(Y.frames q).2.2.2
   rw [this] at e;cases e
  ·obtain ⟨ps,q,r⟩:=Y.I.tabs P hP
   exact ⟨ps,(hs.2.1 P fun z=>(Y.frames z).2.2.1 hP).trans q,r.1,fun pos cv e=>Y.I.codeRec (zq1 _) N' (r.2 pos cv e)⟩
 exact ⟨Y.fresh,Y.n.trans (N'.weaken fun U q=>nomatch q),I',Y.fo.nx N'⟩
theorem Fly.more (Y:Fly X ι0 h0 fr ι σ s) {h':Heap} (hz:s.heap.objs.size<=h'.objs.size) (kp:∀ b o,s.heap.get? b=some o->h'.get? b=some o):Fly X ι0 h0 fr ι σ { s with heap:=h' }:=by
 refine zz9 (Y.I.more hz kp s.toks) fun I' N'=>?_;exact ⟨Y.fresh,Y.n.trans (N'.weaken fun U q=>nomatch q),I',Y.fo.nx N'⟩
theorem Fly.fun_ (Y:Fly X ι0 h0 fr ι σ s):s.heap.FunFrames hb fr:=by
 have:∀ l:List Env,(∀ en∈l,en∈fr)->s.heap.FunFrames hb l:=by
  intro l;induction l with
  | nil=>exact fun U=>trivial
  | cons en l ih=>
   intro hl;refine hid fun G kG=>?_;obtain ⟨hk,L',o',e1,e2,⟨_,es,m,e3⟩,e4,e5,e6⟩:=Y.fo en (hl _ iz6);refine kG ?_;exact ⟨hk,⟨L',o',e1,e6,e2,fun vs q=>by rw [e3] at q;cases q⟩,ih fun x hx=>hl x (ix3 _ hx)⟩
 exact this fr fun U q=>q
theorem Fly.field (Y:Fly X ι0 h0 fr ι σ s) {o:Obj} {vs:Array Value} {i:Nat} {x:Value} (ho:s.heap.get? a=some o) (hd:o.data=.fields vs) (hs:∀ q t,vs[1]?≠some (.str q t)) (hc:o.cls≠.none) (ha:h0.objs.size<=a) (hi:i < vs.size)
 (K:∀ h',Fly X ι0 h0 fr ι σ { s with heap:=h' }->h'.get? a=some (o.mapFields (fun U=>U.setIfInBounds i x))->(∀ b,b≠a->h'.get? b=s.heap.get? b)->Q () { s with heap:=h' }):wpAny (model P w) A (setField (.ref a) i x) Q E s:=by
 have hf:(o.mapFields (fun U=>U.setIfInBounds i x)).isFreed=false:=Obj.isFreed_of_fields (Obj.data_mapFields hd _);have ot:∀ b,b≠a->(s.heap.update a (Obj.mapFields (fun U=>U.setIfInBounds i x))).get? b=s.heap.get? b:=fun b hb=>Heap.get?_update_other _ _ (Ne.symm hb);exact wpAny_setField ho hd hi (K _ (Y.turn ho hd hs hc ha (ij3 (Heap.size_update ..).symm) fun b o hb e=>(ot b hb).trans e) (Heap.get?_update_self _ ho hf) ot)
theorem yj3 {fl:Option Addr} (Y:Fly X ι0 h0 fr ι σ s) (t:vh4 h0.objs.size e s.heap) (K:∀ h',Fly X ι0 h0 fr ι σ { s with heap:=h' }->vh4 h0.objs.size e h'->Q () { s with heap:=h' }) :
 wpAny (model P w) A (setFlight (.ref e) fl) Q E s:=by
 refine hid fun G kG=>?_;obtain ⟨oe,vs,T,oT,ts,v,he,hn,hc,hd,h1,hT,hnT,hoT,hdT,h3,hcT,hsT⟩:=t;refine kG ?_;refine wpAny_bind (wpAny_field he hd h1 ?_);have h3s:=(Array.getElem?_eq_some_iff.mp h3).1;refine Y.field hoT hdT hsT (by rw [hcT];simp) hnT h3s fun h' Y' e1 e2=>K h' Y' ?_;refine ⟨oe,vs,T,_,_,fl.elim .none fun f=>rawInt f,(e2 e (Ne.symm hT)).trans he,hn,hc,hd,h1,hT,hnT,e1,Obj.data_mapFields hdT _,by simp [h3s],(Obj.cls_mapFields _ _).trans hcT,fun q t=>?_⟩;rw [Array.getElem?_setIfInBounds_ne (by decide)];exact hsT q t
theorem vq8 {head:Value} {hadNext:Bool} {oe:Obj} {vs:Array Value} (Y:Fly X ι0 h0 (env::outer) ι σ s) (hfr:A.frames=some (env::outer)) (hf:env.frame=some L) (he:s.heap.get? e=some oe) (hn:h0.objs.size<=e) (hc:oe.cls=.ref 72)
 (hd:oe.data=.fields vs) (h1:vs[1]?=some head) (hh:∀ q t,head≠.str q t)
 (K:∀ h',Fly X ι0 h0 (env::outer) ι σ { s with heap:=h' }->vh4 h0.objs.size e h'->Q () { s with heap:=h' }) :
 wpAny (model P w) A (do let a <-frameOf env;let pl <-entryPlaceOf L hadNext;let b <-EntryCells.newEntry head a .none (rawInt L) .none pl;setField (.ref e) 1 b) Q E s:=by
 have hene:e∉(env::outer).filterMap (fun U=>U.frame):=fun hm=>by
  refine zz9 (Y.frames hm) fun pq6 U=>?_;refine el11 pq6 fun o ho pq26=>?_;obtain ⟨_,es,m,hd'⟩:=pq26;rw [he] at ho;cases ho;rw [hd] at hd';cases hd'
 have h1s:=(Array.getElem?_eq_some_iff.mp h1).1;refine wpAny_bind (wpAny_frameOf_fun hfr Y.fun_ hf fun h₁ hs₁=>?_);have Y1:=Y.slots hs₁;refine wpAny_bind (wpAny_entryPlaceOf fun pl hpl=>?_);refine wpAny_bind (wpAny_newObj_type ?_ (hpl.sizeOk5 _ _ _ _ _));have he₁:h₁.get? e=some oe:=(hs₁.2.1 e hene).trans he;have he₂:=Heap.get?_push_of_some (h:=h₁) { cls:=.type "traceback",dict:=none,data:=.fields ([head,.ref L,.none,rawInt L,.none]++(if pl.isEmpty then List.replicate 6 Value.none else pl)).toArray } he₁;have Y2:=Y1.more (h':=h₁.push { cls:=.type "traceback",dict:=none,data:=.fields ([head,.ref L,.none,rawInt L,.none]++(if pl.isEmpty then List.replicate 6 Value.none else pl)).toArray }) (by rw [Heap.size_push];exact oz5 _) (fun b o hb=>Heap.get?_push_of_some _ hb);have hTe:h₁.objs.size≠e:=ix0 (Heap.lt_size he₁);refine Y2.field he₂ hd (fun q t=>by rw [h1];simpa using hh q t) (by rw [hc];simp) hn h1s fun h' Y' e1 e2=>K h' Y' ?_;refine ⟨_,_,h₁.objs.size,_,_,rawInt L,e1,hn,(Obj.cls_mapFields _ _).trans hc,Obj.data_mapFields hd _,by simp [h1s],hTe,iq2 Y.n.size (ij3 hs₁.1.symm),(e2 _ hTe).trans (Heap.get?_push_size h₁ rfl),rfl,rfl,rfl,fun q t=>by simp⟩
theorem wv3 (Y:Fly X ι0 h0 (env::outer) ι σ s) (hfr:A.frames=some (env::outer)) (hf:env.frame=some L) (t:yj8 h0.objs.size e s.heap)
 (K:∀ h',Fly X ι0 h0 (env::outer) ι σ { s with heap:=h' }->vh4 h0.objs.size e h'->Q () { s with heap:=h' }):wpAny (model P w) A (noteFrame (.ref e) env) Q E s:=by
 refine el35 t fun oe vs hd0 he hn hc hd h1 hh=>?_;unfold noteFrame;simp only [hf];refine wpAny_bind (wpAny_field he hd h1 ?_);rcases hh with hh|⟨T,oT,ts,v,hh,hT,hnT,hoT,hdT,h3,hcT,hsT⟩
 ·subst hh
  exact vq8 Y hfr hf he hn hc hd h1 (fun U U q=>nomatch q) K
 ·subst hh
  refine wpAny_bind (wpAny_field hoT hdT h3 ?_);by_cases hv:(v == rawInt L)=true
  ·rw [if_pos hv]
   exact wpAny_pure (K s.heap Y ⟨oe,vs,T,oT,ts,v,he,hn,hc,hd,h1,hT,hnT,hoT,hdT,h3,hcT,hsT⟩)
  ·rw [if_neg hv]
   have h3s:=(Array.getElem?_eq_some_iff.mp h3).1;refine wpAny_bind (Y.field hoT hdT hsT (by rw [hcT];simp) hnT h3s fun h' Y' e1 e2=>?_);exact vq8 Y' hfr hf ((e2 e (Ne.symm hT)).trans he) hn hc hd h1 (fun U U q=>nomatch q) K
end
theorem xv0 (name:Str) (h:Int) (key v:Value) (o:Obj) {es:Array DictEntry} {ep:Nat} (hd:o.data=.dict es ep):(o.putName name h key v).cls=o.cls/\∃ es' m,(o.putName name h key v).data=.dict es' m:=by
 obtain ⟨c,d,dt,sl⟩:=o;simp only at hd;subst hd;simp only [Obj.putName_eq,Obj.putNameByArray];split
 ·exact ⟨rfl,_,_,rfl⟩
 ·exact ⟨rfl,_,_,rfl⟩
noncomputable abbrev yj9 (h:Heap) (L:Addr):Prop:=∃ o,h.get? L=some o/\(o.cls=.type "frame"/\∃ es m,o.data=.dict es m)
theorem yf9 {A:Around} {s:Shared} {a:Addr} {m:Str->Option Value} {Q:Unit->Shared->Prop} {E:QV0} (hn:s.heap.Ns a m) (hl:yj9 s.heap a) (name:Str) (v:Value)
 (K:∀ h',h'.Ns a (fun x=>if x=name then some v else m x)->Heap.SameBut a s.heap h'->yj9 h' a->Q () { s with heap:=h',toks:=s.toks + 1 }):wpAny (model P w) A (nsSet a name v) Q E s:=fun Γ p hΓ=>by
 have z:=Sem.wp_nsSet (model P w) Γ (fun e U s'=>E e s') p s hn name v (fun U U s'=>s'.heap.Ns a (fun x=>if x=name then some v else m x)/\Heap.SameBut a s.heap s'.heap) (fun h' a b=>⟨a,b⟩);refine el33 hn fun o es ep ho hd hk hm=>?_;have hany:es.any (fun U=>U.refKey)=false:=by
  rw [Array.any_eq_false'];intro e he;obtain ⟨n,t,h⟩:=hk e he;simp [DictEntry.refKey,h]
 simp only [nsSet,strHash,Sem.wp_bind',Sem.wp_cmd_ask,Sem.wp_pure',Sem.wp_cmd_mkText] at z ⊢;rw [Sem.wp_loadPart_of (model P w) Γ _ p { s with toks:=s.toks + 1 } (o:=o) _ ho] at z ⊢;simp only [hd,aRefKeyMayBeTheName_eq,aRefKeyMayBeTheNameByArray,hany,Bool.and_false,if_false,Sem.wp_cmd_updatePart] at z ⊢;refine ⟨z.1,K _ z.2.1 z.2.2 ?_⟩;refine el12 hl fun o' e1 e2 U=>?_;rw [ho] at e1;cases e1;have q:∀ n h k v,(Obj.putName n h k v o).isFreed=false:=fun n h k v=>by
  obtain ⟨_,es',m',q2⟩:=xv0 n h k v o hd;revert q2;generalize Obj.putName n h k v o=o';intro q2;obtain ⟨c,d,dt,sl⟩:=o';simp only at q2;subst q2;rfl
 exact ⟨_,Heap.get?_update_self _ ho (q _ _ _ _),(xv0 _ _ _ _ o hd).1.trans e2,(xv0 _ _ _ _ o hd).2⟩
set_option tactic.hygienic true in
theorem yk8 {ρ:Rho} {x y:Str} {v:V}:(upd ρ x v).lookup y=if y=x then some v else ρ.lookup y:=by
 induction ρ with
 | nil=>
  delta upd
  rw [iz2];by_cases q:y=x
  ·subst q;simp
  ·rw [if_neg q,show (y == x)=false from by simpa using q]
 | cons p ρ ih=>
  obtain ⟨z,u⟩:=p;unfold upd;split
  ·rename_i h
   subst h;rw [iz2,iz2];by_cases q:y=z
   ·subst q;simp
   ·rw [if_neg q,show (y == z)=false from by simpa using q]
  ·rename_i h
   rw [iz2,iz2,ih];by_cases q:y=z
   ·subst q;simp [h]
   ·rw [show (y == z)=false from by simpa using q]
theorem yk9 {β:Type}:∀ {ps:List (Str×β)} {y:Str} {v:β},(ps.map (fun U=>U.1)).Nodup->(ps.lookup y=some v ↔ (y,v)∈ps):=by
 intro ps;induction ps with
 | nil=>
  intro y v U;simp
 | cons p0 r ih0=>
  obtain ⟨x,u⟩:=p0;intro y v h;rw [ij2,List.nodup_cons] at h;rw [iz2,ix7];by_cases q:y=x
  ·subst q
   simp only [beq_self_eq_true,Option.some.injEq,Prod.mk.injEq,true_and];constructor
   ·exact fun e=>.inl e.symm
   ·rintro (e|e)
    ·exact e.symm
    ·exact absurd (ik5.mpr ⟨_,e,rfl⟩) h.1
  ·rw [show (y == x)=false from by simpa using q]
   rw [ih0 h.2];constructor
   ·exact .inr
   ·rintro (e|e)
    ·cases e;exact absurd rfl q
    ·exact e
theorem yx8 {ps:List (Str×V)} {y:Str}:∀ {ρ:Rho},(ps.map (fun U=>U.1)).Nodup->(updAll ρ ps).lookup y=(ps.lookup y).or (ρ.lookup y):=by
 induction ps with
 | nil=>exact fun U=>rfl
 | cons p r ih=>
  obtain ⟨x,u⟩:=p;intro ρ h;rw [ij2,List.nodup_cons] at h;show (updAll (upd ρ x u) r).lookup y=_;rw [ih h.2,yk8,iz2];by_cases q:y=x
  ·subst q
   have:r.lookup y=none:=by
    cases e:r.lookup y with
    | none=>rfl
    | some v=>exact absurd (ik5.mpr ⟨_,(yk9 h.2).mp e,rfl⟩) h.1
   simp [this]
  ·rw [if_neg q,show (y == x)=false from by simpa using q]
theorem vv4 {β:Type} {ps:List (Str×β)} {y:Str} (h:(ps.map (fun U=>U.1)).Nodup):ps.reverse.lookup y=ps.lookup y:=by
 have h':(ps.reverse.map (fun U=>U.1)).Nodup:=by rw [List.map_reverse];exact List.pairwise_reverse.mpr (h.imp Ne.symm)
 have:∀ v,ps.reverse.lookup y=some v ↔ ps.lookup y=some v:=fun v=>by rw [yk9 h',yk9 h,List.mem_reverse]
 cases e:ps.lookup y with
 | none=>
  cases e2:ps.reverse.lookup y with
  | none=>rfl
  | some v=>have:=(this v).mp e2;rw [e] at this;cases this
 | some v=>exact (this v).mpr e
section
variable {X:List Addr} {n k:Nat} {C:zz5} {A:Around} {fr outer:List Env} {sc:Scope} {ρ ρ':Rho} {env:Env} {ι ι':Lay} {σ σ':zz0} {s s':Shared} {h':Heap}
 {Q:Unit->Shared->Prop} {E:QV0}
theorem Frm.congr {h:Heap} (F:Frm sc ρ env ι h) (e:∀ y,ρ'.lookup y=ρ.lookup y):Frm sc ρ' env ι h:=
 ⟨F.kind,F.glob,F.blt,F.kinds,el11 (F.ns) fun m a b=>⟨m,a,fun x v q=>b x v ((e x).symm.trans q)⟩,fun x v q=>F.cells x v ((e x).symm.trans q),F.lam,F.apart⟩
theorem St.congr (S:St n A fr sc ρ env ι σ s) (e:∀ y,ρ'.lookup y=ρ.lookup y):St n A fr sc ρ' env ι σ s:=⟨S.I,S.F.congr e,S.rm,S.fo,S.tk⟩
theorem Frm.turned (F:Frm sc ρ env ι s.heap) (In:Inv ι σ s) (N:Nx [env.locals] ι ι' s.heap h')
 (hn:∃ m,h'.Ns env.locals m/\∀ x v,ρ'.lookup x=some v->sc.names.lookup x=some .local->∃ u,m x=some u/\Rel ι' h' v u)
 (hc:∀ x,(sc.names.lookup x=some .cell\/sc.names.lookup x=some .free)->ρ'.lookup x=ρ.lookup x):Frm sc ρ' env ι' h':=by
 refine zg6 F.apart fun a1 a2 a3=>?_;refine el11 N.pre fun new en fn=>?_;have hX:zx4 [env.locals] s.heap:=by obtain ⟨m,q,_⟩:=F.ns;exact zk2 q
 refine ⟨F.kind,F.glob,F.blt,F.kinds,hn,fun x v q r=>?_,F.lam,fun p hp=>?_,a2,a3⟩
 ·refine el22 (F.cells x v ((hc x r).symm.trans q) r) fun c u q1 pq1 q5=>?_
  refine el11 pq1 fun oc q3 q4=>?_;obtain ⟨sl,e⟩:=In.kept hX N q3 (.inr (by rw [q4];intro _ _ q;cases q)) (by rw [q4];intro _ _ q;cases q) (by intro ps _ q;subst q;cases q4) (by rw [q4];intro _ q;cases q);exact ⟨c,u,q1,⟨_,e,q4⟩,q5.nx In hX N⟩
 ·rw [en] at hp
  rcases iz5.mp hp with q|q
  ·exact a1 p q
  ·refine el11 F.ns fun m pq2 U=>?_
   refine el31 pq2 fun o es n ho U=>?_;exact ix0 (iq3 (Heap.lt_size ho) (fn p q).2)
theorem St.step (S:St n A (env::outer) sc ρ env ι σ s) (hf:env.frame=some env.locals) (N:Nx [env.locals] ι ι' s.heap s'.heap) (I:Inv ι' σ' s') (F:Frm sc ρ' env ι' s'.heap) (cl:yj9 s'.heap env.locals) (tk:0 < s'.toks) :
 St n A (env::outer) sc ρ' env ι' σ' s':=by
 refine ⟨I,F,S.rm,fun en he=>?_,tk⟩;refine hid fun G kG=>?_;obtain ⟨k,L,o,e1,e2,e3,e4,e5,e6⟩:=S.fo en he;refine kG ?_;by_cases q:L=env.locals
 ·subst q
  refine el11 cl fun o' q1 q2=>?_;exact ⟨k,_,o',e1,q1,q2,F.apart.1,e5,e6⟩
 ·obtain ⟨sl,z⟩:=N.keep L o e2 (fun z=>q (iq4.mp z)) e4 e5
  refine el11 N.pre fun new en' fn=>?_;refine ⟨k,L,_,e1,z,e3,fun p hp=>?_,e5,e6⟩;rw [en'] at hp;rcases iz5.mp hp with z|z
  ·exact e4 p z
  ·exact ix0 (iq3 (Heap.lt_size e2) (fn p z).2)
theorem St.loc (S:St n A (env::outer) sc ρ env ι σ s) (hf:env.frame=some env.locals):yj9 s.heap env.locals:=by
 refine hid fun G kG=>?_;obtain ⟨k,L,o,e1,e2,e3,_⟩:=S.fo env iz6;refine kG ?_;rw [hf] at e1;cases e1;exact ⟨o,e2,e3⟩
theorem yy5 {x:Str} {v:V} {u:Value} (S:St n A (env::outer) sc ρ env ι σ s) (hf:env.frame=some env.locals) (hl:zj0 sc x=true) (rv:Rel ι s.heap v u)
 (K:∀ s',Nx [env.locals] ι ι s.heap s'.heap->St n A (env::outer) sc (upd ρ x v) env ι σ s'->Q () s'):wpAny (model P w) A (storeName env x u) Q E s:=by
 have hloc:sc.names.lookup x=some .local:=by unfold zj0 at hl;simpa using hl
 have hk:env.kindOf x=some .local:=by
  rcases S.F.kinds x with q|⟨q,_⟩
  ·exact q.trans hloc
  ·rw [hloc] at q;cases q
 rw [storeName_local hk (by rw [S.F.kind];rfl)];refine el11 S.F.ns fun m hns hm=>?_;have hX:zx4 [env.locals] s.heap:=zk2 hns;have cl:=S.loc hf;have O:yk1 ι env.locals:=by
  refine ⟨fun p hp=>⟨fun q=>?_,S.F.apart.1 p hp⟩,S.F.apart.2.1,S.F.apart.2.2⟩;refine el11 cl fun o e1 pq17=>?_;obtain ⟨_,es,mm,e2⟩:=pq17;obtain ⟨ob,r⟩:=S.I.at_ hp;cases ob with
  | lst l=>exact S.F.apart.1 p hp (r.1▸q)
  | inst c f=>
   refine el42 r fun C sl es' m' U b1 U=>?_;rw [q,e1] at b1;cases b1;cases e2
 refine yf9 hns cl x u fun h' hns' hsb cl'=>?_;refine zz9 (S.I.turned (h':=h') O hX (ij3 hsb.1.symm) (fun b o hb e=>(hsb.2 b hb).trans e) (s.toks + 1)) fun I' N=>?_;refine K { s with heap:=h',toks:=s.toks + 1 } N (S.step (s':={ s with heap:=h',toks:=s.toks + 1 }) hf N I' ?_ cl' (iv7 _));refine S.F.turned S.I N ⟨_,hns',fun y z e1 e2=>?_⟩ fun y hy=>?_
 ·rw [yk8] at e1
  by_cases q:y=x
  ·subst q
   rw [if_pos rfl] at e1;cases e1;exact ⟨u,if_pos rfl,rv.nx S.I hX N⟩
  ·rw [if_neg q] at e1
   refine el11 (hm y z e1 e2) fun u' g1 g2=>?_;exact ⟨u',(if_neg q).trans g1,g2.nx S.I hX N⟩
 ·rw [yk8,if_neg]
  rintro rfl;rw [hloc] at hy;rcases hy with q|q <;> cases q
noncomputable def wj0 (env:Env):List (Value->Sem Unit)->List Str->Prop
 | [],[]=>True
 | f::fs,x::xs=>(∀ {A:Around} {Q:Unit->Shared->Prop} {E:QV0} {s:Shared} (u:Value),wpAny (model P w) A (storeName env x u) Q E s->wpAny (model P w) A (f u) Q E s)/\wj0 env fs xs
 | _,_=>False
theorem xg4 (hf:env.frame=some env.locals):∀ (fs:List (Value->Sem Unit)) (xs:List Str) (vs:List V) (us:List Value) {ρ:Rho} {s:Shared} {Q:Unit->Shared->Prop},wj0 env fs xs->(∀ x∈xs,zj0 sc x=true)->xs.length=vs.length->
 St n A (env::outer) sc ρ env ι σ s->zq2 ι s.heap vs us->
 (∀ s',Nx [env.locals] ι ι s.heap s'.heap->St n A (env::outer) sc (updAll ρ (xs.zip vs)) env ι σ s'->Q () s')->wpAny (model P w) A (assignInOrder fs us) Q E s
 | [],[],[],us,ρ,s,Q,_,_,_,S,r,K=>by
  exact wpAny_assignInOrder_none (K s Nx.refl S)
 | [],_::_,_,_,_,_,_,h,_,_,_,_,_=>h.elim
 | _::_,[],_,_,_,_,_,h,_,_,_,_,_=>h.elim
 | [],[],_::_,_,_,_,_,_,_,h,_,_,_=>by cases h
 | _::_,_::_,[],_,_,_,_,_,_,h,_,_,_=>by cases h
 | f::fs,x::xs,v::vs,us,ρ,s,Q,h,hl,hn,S,r,K=>by
  refine el22 r fun u us' eq3 ru rs=>?_;subst eq3;refine wpAny_assignInOrder_more (h.1 u (yy5 S hf (hl x iz6) ru fun s1 N1 S1=>?_));have hX:zx4 [env.locals] s.heap:=by obtain ⟨m,q,_⟩:=S.F.ns;exact zk2 q
  exact xg4 hf fs xs vs us' h.2 (fun y hy=>hl y (ix3 _ hy)) (by simpa using hn) S1 (rs.nx S.I hX N1) fun s2 N2 S2=>K s2 (N1.trans N2) S2
end
section
noncomputable def FlR (n0:Nat) (ι:Lay) (h:Heap):Fl->Flow->Prop
 | .next,f=>f=.next
 | .cont,f=>f=.cont
 | .ret v,f=>∃ u,f=.ret u/\Rel ι h v u
 | .retex,f=>∃ e,f=.ret (.ref e)/\zf8 n0 e h
noncomputable abbrev RS (n0:Nat) (sc:Scope) (env:Env):Lay->Heap->(Fl×Rho)->Flow->Prop:=fun ι h x f=>Frm sc x.2 env ι h/\yj9 h env.locals/\FlR n0 ι h x.1 f
noncomputable abbrev EF (env:Env) (E:QV0):QV0:=fun e s'=>yj9 s'.heap env.locals->E e s'
noncomputable abbrev EvS (C:zz5) (n k:Nat):Prop:=∀ {A:Around} {outer:List Env} {sc:Scope} {ρ:Rho} {env:Env} {ι:Lay} {σ:zz0} {s:Shared} {st:Stmt} {n0:Nat} {Q:Flow->Shared->Prop} {QX:QA0} {E:QV0},
 St n A (env::outer) sc ρ env ι σ s->env.frame=some env.locals->n0<=s.heap.objs.size->zz3 (RS n0 sc env) [env.locals] (evS C k sc st ρ σ) ι s Q QX (EF env E)->wpAny (model P w) A (exec st env) Q E s
end
section
variable {X:List Addr} {α β γ δ:Type} {R:Lay->Heap->α->β->Prop} {R':Lay->Heap->γ->δ->Prop} {n k n0:Nat} {C:zz5} {A:Around} {fr outer:List Env} {sc:Scope} {ρ ρ':Rho} {env:Env} {ι ι':Lay} {σ σ':zz0} {s s':Shared} {h':Heap}
 {Q:Flow->Shared->Prop} {QX:QA0} {E E2:QV0}
theorem xj5.loc {h:Heap} (fo:xj5 ι h (env::outer)) (hf:env.frame=some env.locals):yj9 h env.locals:=by
 refine hid fun G kG=>?_;obtain ⟨k,L,o,e1,e2,e3,_⟩:=fo env iz6;refine kG ?_;rw [hf] at e1;cases e1;exact ⟨o,e2,e3⟩
theorem St.em (S:St n A (env::outer) sc ρ env ι σ s) (hf:env.frame=some env.locals):∀ ι' e s',Nx [] ι ι' s.heap s'.heap->EF env E e s'->E e s':=fun ι' e s' N q=>q ((S.fo.nx N).loc hf)
theorem zz3.bindE {r:Out α} {f:α->zz0->Out γ} {Q1:β->Shared->Prop} {QX1:QA0} {Q':δ->Shared->Prop} (H:zz3 R' X (r.bnd f) ι s Q' QX E2)
 (em:∀ ι' e s',Nx [] ι ι' s.heap s'.heap->E2 e s'->E e s')
 (k:∀ a σ' ι' b s',Nx [] ι ι' s.heap s'.heap->Inv ι' σ' s'->R ι' s'.heap a b->zz3 R' X (f a σ') ι' s' Q' QX E2->Q1 b s'):zz3 R [] r ι s Q1 QX1 E:=by
 have up:∀ {ι':Lay} {h:Heap},Nx [] ι ι' s.heap h->Nx X ι ι' s.heap h:=fun N=>N.weaken fun U q=>nomatch q;cases r with
 | ok a σ'=>exact fun ι₂ b s₂ N₂ I r=>k a σ' ι₂ b s₂ N₂ I r (zz3.rebase H (up N₂))
 | exc σ'=>exact fun ι' e s' N I t=>em ι' _ s' N (H ι' e s' (up N) I t)
 | ex σ'=>exact H.elim
 | bad=>exact H.elim
theorem uy8 {t:Sem β} {r:Out α} {f:α->zz0->Out γ} {Q1:β->Shared->Prop} {Q':δ->Shared->Prop} (S:St n A fr sc ρ env ι σ s)
 (ih:∀ (Q:β->Shared->Prop) (QX:QA0) (E:QV0),zz3 R [] r ι s Q QX E->wpAny (model P w) A t Q E s)
 (H:zz3 R' X (r.bnd f) ι s Q' QX E2) (em:∀ ι' e s',Nx [] ι ι' s.heap s'.heap->E2 e s'->E e s')
 (K:∀ a σ' ι' v s',Nx [] ι ι' s.heap s'.heap->St n A fr sc ρ env ι' σ' s'->R ι' s'.heap a v->zz3 R' X (f a σ') ι' s' Q' QX E2->Q1 v s'):wpAny (model P w) A t Q1 E s:=by
 refine wpAny_with_toks (n:=1) S.tk (ih _ (fun U U=>True) _ (zz3.mono (zz3.bindE (Q1:=fun v s'=>1<=s'.toks->Q1 v s') (QX1:=fun U U=>True) H em fun a σ' ι' b s' N I q H' tk=>K a σ' ι' b s' N (S.nx N I tk) q H') (fun U U q=>q) (fun U U q=>q) fun e s' q U=>q))
theorem EvE.useE (ih:EvE C n k) (S:St n A fr sc ρ env ι σ s) {e:Expr} {f:V->zz0->Out γ} {Q1:QV0} {Q':δ->Shared->Prop} (H:zz3 R' X ((evE C k sc ρ e σ).bnd f) ι s Q' QX E2)
 (em:∀ ι' e s',Nx [] ι ι' s.heap s'.heap->E2 e s'->E e s')
 (K:∀ a σ' ι' v s',Nx [] ι ι' s.heap s'.heap->St n A fr sc ρ env ι' σ' s'->Rel ι' s'.heap a v->zz3 R' X (f a σ') ι' s' Q' QX E2->Q1 v s'):wpAny (model P w) A (eval e env) Q1 E s:=by
 refine wpAny_with_toks (n:=1) S.tk (ih S (zz3.mono (zz3.bindE (Q1:=fun v s'=>1<=s'.toks->Q1 v s') (QX1:=fun e s'=>1<=s'.toks->Q1 (.ref e) s') H em fun a σ' ι' b s' N I q H' tk=>K a σ' ι' b s' N (S.nx N I tk) q H') (fun U U q=>q) (fun U U q=>q) fun e s' q U=>q))
theorem EvT.useE (ih:EvT C n k) (S:St n A fr sc ρ env ι σ s) {e:Expr} {f:Bool->zz0->Out γ} {Q1:Bool->Shared->Prop} {Q':δ->Shared->Prop} (H:zz3 R' X ((evT C k sc ρ e σ).bnd f) ι s Q' QX E2)
 (em:∀ ι' e s',Nx [] ι ι' s.heap s'.heap->E2 e s'->E e s')
 (K:∀ a σ' ι' s',Nx [] ι ι' s.heap s'.heap->St n A fr sc ρ env ι' σ' s'->zz3 R' X (f a σ') ι' s' Q' QX E2->Q1 a s'):wpAny (model P w) A (isTrue e env (eval e env)) Q1 E s:=
 uy8 (R:=RelB) S (fun U U U h=>ih S h) H em fun a σ' ι' v s' N S' q H'=>q▸K a σ' ι' s' N S' H'
theorem ux9 {t:Sem Flow} {r:Out (Fl×Rho)} {f:Fl×Rho->zz0->Out γ} {Q1:Flow->Shared->Prop} {Q':δ->Shared->Prop} (S:St n A (env::outer) sc ρ env ι σ s) (hf:env.frame=some env.locals) (hn:n0<=s.heap.objs.size)
 (ih:∀ (Q:Flow->Shared->Prop) (QX:QA0) (E:QV0),zz3 (RS n0 sc env) [env.locals] r ι s Q QX (EF env E)->wpAny (model P w) A t Q E s)
 (H:zz3 R' [env.locals] (r.bnd f) ι s Q' QX (EF env E))
 (K:∀ x σ' ι' fl s',Nx [env.locals] ι ι' s.heap s'.heap->St n A (env::outer) sc x.2 env ι' σ' s'->n0<=s'.heap.objs.size->FlR n0 ι' s'.heap x.1 fl->zz3 R' [env.locals] (f x σ') ι' s' Q' QX (EF env E)->Q1 fl s'):wpAny (model P w) A t Q1 E s:=by
 refine wpAny_with_toks (n:=1) S.tk (ih _ (fun U U=>True) _ (zz3.mono (zz3.bind (Q1:=fun v s'=>1<=s'.toks->Q1 v s') (QX1:=fun U U=>True) H fun a σ' ι' b s' N I q H' tk=>?_) (fun U U q=>q) (fun U U q=>q) fun e s' q l U=>q l));refine zg6 q fun q1 q2 q3=>?_;exact K a σ' ι' b s' N (S.step hf N I q1 q2 tk) (iq2 hn N.size) q3 H'
set_option tactic.hygienic true in
theorem xf3 (ih:EvS C n k) (hf:env.frame=some env.locals):∀ (l:List Stmt) {ρ:Rho} {ι:Lay} {σ:zz0} {s:Shared} {Q:Flow->Shared->Prop} {QX:QA0} {E:QV0},St n A (env::outer) sc ρ env ι σ s->n0<=s.heap.objs.size->
 zz3 (RS n0 sc env) [env.locals] (seqS (fun s ρ σ=>evS C k sc s ρ σ) l ρ σ) ι s Q QX (EF env E)->wpAny (model P w) A (execs l env) Q E s:=by
 intro l;induction l with
 | nil=>
  intro ρ ι σ s Q QX E S hn H;exact wpAny_execs_nil (H.here S.I ⟨S.F,S.loc hf,rfl⟩)
 | cons st l ih0=>
  intro ρ ι σ s Q QX E S hn H;refine wpAny_execs_cons (ux9 (n0:=n0) S hf hn (fun U U U h=>ih S hf hn h) H fun x σ1 ι1 fl s1 N1 S1 hn1 r H1=>?_);obtain ⟨x,ρ1⟩:=x;cases x with
  | next=>
   cases (show fl=.next from r);exact ih0 S1 hn1 H1
  | cont=>
   cases (show fl=.cont from r);exact H1.here S1.I ⟨S1.F,S1.loc hf,rfl⟩
  | ret v=>
   refine el11 r fun u eq1 ru=>?_;subst eq1;exact H1.here S1.I ⟨S1.F,S1.loc hf,u,rfl,ru⟩
  | retex=>
   refine el11 r fun e eq2 re=>?_;subst eq2;exact H1.here S1.I ⟨S1.F,S1.loc hf,e,rfl,re⟩
theorem ret_ok {e:Expr} {pos:Pos} (ih:EvE C n k) (S:St n A (env::outer) sc ρ env ι σ s) (hf:env.frame=some env.locals) (hn:n0<=s.heap.objs.size)
 (H:zz3 (RS n0 sc env) [env.locals] (retO ρ (evE C k sc ρ e σ)) ι s Q QX (EF env E)):wpAny (model P w) A (exec (.Return (some e) pos) env) Q E s:=by
 have up:∀ {ι':Lay} {h:Heap},Nx [] ι ι' s.heap h->Nx [env.locals] ι ι' s.heap h:=fun N=>N.weaken fun U q=>nomatch q;refine wpAny_Return_some (ih S ?_);cases er:evE C k sc ρ e σ with
 | ok v σ'=>rw [er] at H;exact fun ι' b s' N I r=>H ι' _ s' (up N) I ⟨S.F.nx S.I N,(S.fo.nx N).loc hf,b,rfl,r⟩
 | ex σ'=>rw [er] at H;exact fun ι' e s' N I t=>H ι' _ s' (up N) I ⟨S.F.nx S.I N,(S.fo.nx N).loc hf,e,rfl,t.mono hn⟩
 | exc σ'=>rw [er] at H;exact fun ι' e s' N I t=>H ι' e s' (up N) I t ((S.fo.nx N).loc hf)
 | bad=>rw [er] at H;exact H.elim
theorem ug9 {e:Expr} {pos:Pos} {v:Value} (hc:¬ noStm e=true) (h:Q .next s):wpAny (model P w) A (dropValue e pos v) Q E s:=by
 have h1:wpAny (model P w) A (pure Flow.next) Q E s:=wpAny_pure h;have h2:wpAny (model P w) A (do standAt pos;let _ <-runValue (.builtin "proto.let_go" {});pure Flow.next) Q E s:=
  wpAny_bind (wpAny_standAt (wpAny_bind (wpAny_runValue (codeAny_builtin entry_let_go (show wpAny _ _ (ret .none) _ _ s from wpAny_pure (wpAny_pure h))))))
 cases e with
 | Call=>cases v <;> first|exact h1|exact h2
 | Constant=>cases v <;> first|exact h1|exact h2
 | _=>exact absurd rfl hc
theorem expr_ok {e:Expr} {pos:Pos} (ih:EvE C n k) (S:St n A (env::outer) sc ρ env ι σ s) (hf:env.frame=some env.locals)
 (H:zz3 (RS n0 sc env) [env.locals] (if noStm e=true then .bad else (evE C k sc ρ e σ).bnd fun U σ=>.ok (.next,ρ) σ) ι s Q QX (EF env E)):wpAny (model P w) A (exec (.Expr e pos) env) Q E s:=by
 refine zz9 (zz3.ifn H) fun hc H=>?_
 ·have hs:swapsWith e none pos.line env=pure false:=by
   cases e <;> first|rfl|exact absurd rfl hc
  refine (exec_Expr env e pos (by unfold interactive;rw [S.F.kind];rfl) hs).symm▸?_;exact wpAny_bind (wpAny_standAt (wpAny_bind (ih.useE S H (S.em hf) fun U σ1 ι1 v s1 N S1 U H1=>ug9 hc (H1.here S1.I ⟨S1.F,S1.loc hf,rfl⟩))))
theorem if_ok {t:Expr} {b o:List Stmt} {pos:Pos} (it:EvT C n k) (ih:EvS C n k) (S:St n A (env::outer) sc ρ env ι σ s) (hf:env.frame=some env.locals) (hn:n0<=s.heap.objs.size)
 (H:zz3 (RS n0 sc env) [env.locals] ((evT C k sc ρ t σ).bnd fun c σ=>match c with
  | true=>seqS (fun s ρ σ=>evS C k sc s ρ σ) b ρ σ
  | false=>seqS (fun s ρ σ=>evS C k sc s ρ σ) o ρ σ) ι s Q QX (EF env E)):wpAny (model P w) A (exec (.If t b o pos) env) Q E s:=by
 refine wpAny_If (it.useE S H (S.em hf) fun c σ1 ι1 s1 N S1 H1=>?_);cases c
 ·exact xf3 ih hf o S1 (iq2 hn N.size) H1
 ·exact xf3 ih hf b S1 (iq2 hn N.size) H1
theorem xj5.step (S:St n A (env::outer) sc ρ env ι σ s) (N:Nx [env.locals] ι ι' s.heap h') (cl:yj9 h' env.locals):xj5 ι' h' (env::outer):=fun en he=>by
 refine hid fun G kG=>?_;obtain ⟨k,L,o,e1,e2,e3,e4,e5,e6⟩:=S.fo en he;refine el11 N.pre fun new en' fn=>?_;refine kG ?_;have ap:∀ p∈ι',p.2≠L:=fun p hp=>by
  replace hp:=en'▸hp;rcases iz5.mp hp with z|z
  ·exact e4 p z
  ·exact ix0 (iq3 (Heap.lt_size e2) (fn p z).2)
 by_cases q:L=env.locals
 ·refine hid fun G kG=>?_
  subst q;refine el11 cl fun o' q1 q2=>?_;refine kG ?_;exact ⟨k,_,o',e1,q1,q2,ap,e5,e6⟩
 ·refine el10 (N.keep L o e2 (fun z=>q (iq4.mp z)) e4 e5) fun sl z=>?_
  exact ⟨k,L,_,e1,z,e3,ap,e5,e6⟩
theorem zz3.own {r:Out γ} {Q':δ->Shared->Prop} (S:St n A (env::outer) sc ρ env ι σ s) (hf:env.frame=some env.locals) (H:zz3 R' [env.locals] r ι s Q' QX (EF env E)) :
 zz3 R' [env.locals] r ι s Q' QX (EF env (notedBy (model P w) A env fun e s'=>cameBackBy (model P w) A env E e s')):=by
 cases r with
 | ok a σ'=>exact H
 | ex σ'=>exact H
 | bad=>exact H
 | exc σ'=>
  intro ι' e s' N I t hl;have Y:Fly [env.locals] ι s.heap (env::outer) ι' σ' s':=⟨fun a ha=>zw0 S.I ha,N,I,xj5.step S N hl⟩;refine wv3 Y S.rm.frames hf t fun h1 Y1 t1=>?_;refine hid fun G kG=>?_;obtain ⟨oe,vs,T,oT,ts,v,he,hn,hc,hd,h1',r⟩:=id t1;refine kG ?_;refine wpAny_bind (wpAny_field he hd h1' ?_);exact yj3 Y1 t1 fun h2 Y2 t2=>H ι' e _ Y2.n Y2.I t2.thrown (Y2.fo.loc hf)
set_option tactic.hygienic true in
theorem while_ok {t:Expr} {b:List Stmt} {pos:Pos} (it:EvT C n k) (ih:EvS C n k) (S:St n A (env::outer) sc ρ env ι σ s) (hf:env.frame=some env.locals) (hn:n0<=s.heap.objs.size)
 (H:zz3 (RS n0 sc env) [env.locals] (zx2 (fun ρ σ=>evT C k sc ρ t σ) (fun ρ σ=>seqS (fun s ρ σ=>evS C k sc s ρ σ) b ρ σ) LF ρ σ) ι s Q QX (EF env E)):wpAny (model P w) A (exec (.While t b [] pos) env) Q E s:=by
 refine wpAny_While (codeAny_whileLoop (fun m s=>∃ ρ ι σ,St n A (env::outer) sc ρ env ι σ s/\n0<=s.heap.objs.size/\
  zz3 (RS n0 sc env) [env.locals] (zx2 (fun ρ σ=>evT C k sc ρ t σ) (fun ρ σ=>seqS (fun s ρ σ=>evS C k sc s ρ σ) b ρ σ) m ρ σ) ι s Q QX (EF env (notedBy (model P w) A env fun e s'=>cameBackBy (model P w) A env E e s'))) ?_ LF ⟨ρ,ι,σ,S,hn,H.own S hf⟩)
 clear H hn S;rintro m s ⟨ρ,ι,σ,S,hn,H⟩;cases m with
 | zero=>exact H.elim
 | succ m=>
  refine it.useE S H (S.em hf) fun c σ1 ι1 s1 N S1 H1=>?_;cases c with
  | false=>
   exact wpAny_execs_nil (H1.here S1.I ⟨S1.F,S1.loc hf,rfl⟩)
  | true=>
   refine ux9 (n0:=n0) S1 hf (iq2 hn N.size) (fun U U U h=>xf3 ih hf b S1 (iq2 hn N.size) h) H1 fun x σ2 ι2 fl s2 N2 S2 hn2 r H2=>?_;obtain ⟨x,ρ2⟩:=x;cases x with
   | next=>
    cases (show fl=.next from r);exact ⟨m,ij7 _,ρ2,ι2,σ2,S2,hn2,H2⟩
   | cont=>
    cases (show fl=.cont from r);exact ⟨m,ij7 _,ρ2,ι2,σ2,S2,hn2,H2⟩
   | ret v=>
    refine el11 r fun u eq3 ru=>?_;subst eq3;exact H2.here S2.I ⟨S2.F,S2.loc hf,u,rfl,ru⟩
   | retex=>exact H2.elim
end
theorem yx9 {sc:Scope} {t:Expr} {r:List Expr} {ns:List Str} (h:zy3 sc (t::r)=some ns):∃ x p ms,t=.Name x p/\zj0 sc x=true/\zy3 sc r=some ms/\ns=x::ms:=by
 cases t with
 | Name x p=>
  have h:(if zj0 sc x=true then (zy3 sc r).map (fun U=>x::U) else Option.none)=some ns:=h;by_cases q:zj0 sc x=true
  ·rw [if_pos q] at h
   refine el10 (ix1.mp h) fun ms pq2=>?_;obtain ⟨e,e2⟩:=pq2;exact ⟨x,p,ms,rfl,q,e,e2.symm⟩
  ·rw [if_neg q] at h;exact zz7 h
 | _=>exact zz7 h
theorem names_lt {sc:Scope} (f:Expr->Option Str) (hf:∀ x p y,f (.Name x p)=some y->y=x) {ts:List Expr}:∀ {ns:List Str},zy3 sc ts=some ns->(ts.filterMap f).length<=ts.length/\((ts.filterMap f).length=ts.length->ts.filterMap f=ns):=by
 induction ts with
 | nil=>intro ns h;cases h;exact ⟨iq1 _,fun U=>rfl⟩
 | cons t r ih=>
  intro ns h;refine el32 (yx9 h) fun x p ms eq6 U pq7=>?_;subst eq6;obtain ⟨e1,rfl⟩:=pq7;obtain ⟨q1,q2⟩:=ih e1;refine oq8.symm▸?_;cases e:f (.Name x p) with
  | none=>exact ⟨Nat.le_succ_of_le q1,fun z=>absurd z (ij5 (oq6 q1))⟩
  | some y=>exact ⟨iv1 q1,fun z=>congr (congrArg _ (hf x p y e)) (q2 (Nat.succ.inj z))⟩
theorem locs_of {sc:Scope} {ts:List Expr}:∀ {ns:List Str},zy3 sc ts=some ns->(∀ x∈ns,zj0 sc x=true)/\ns.length=ts.length/\∀ env:Env,wj0 env ((assignEach ts env).map (fun U=>U.2)) ns/\(assignEach ts env).length=ts.length/\(assignEach ts env).findIdx? (fun U=>U.1)=none:=by
 induction ts with
 | nil=>intro ns h;cases h;exact ⟨fun U q=>(nomatch q),rfl,fun env=>⟨trivial,rfl,rfl⟩⟩
 | cons t r ih=>
  intro ns h;refine el32 (yx9 h) fun x p ms eq15 hx pq16=>?_;subst eq15;obtain ⟨e1,rfl⟩:=pq16;obtain ⟨q1,q2,q3⟩:=ih e1;refine ⟨fun y hy=>(ix7.mp hy).elim (fun q=>q▸hx) (q1 y),congrArg Nat.succ q2,fun env=>?_⟩;refine zz9 (q3 env) fun g1 pq22=>?_;obtain ⟨g2,g3⟩:=pq22;refine ⟨⟨fun u h=>wpAny_assign_Name h,g1⟩,congrArg (fun U=>U + 1) g2,?_⟩;refine (?_:List.findIdx? (fun U=>U.1) ((false,assign (.Name x p) env)::assignEach r env)=none);rw [List.findIdx?_cons,g3];rfl
theorem xg5 (env:Env):∀ l:List Str,wj0 env (l.map fun n=>bindName env n) l:=by
 intro l;induction l with
 | nil=>
  exact trivial
 | cons x l ih0=>
  exact ⟨fun u h=>wpAny_bindName h,ih0⟩
theorem xp2 {α:Type} {c:Prop} [Decidable c] {a b x y:α} (ha:c->a=x\/a=y) (hb:¬ c->b=x\/b=y):(if c then a else b)=x\/(if c then a else b)=y:=by
 by_cases h:c
 ·rw [if_pos h];exact ha h
 ·rw [if_neg h];exact hb h
theorem xj7 {sc:Scope} {ts:List Expr} {ns:List Str} {e:Expr} {x1:Nat} {pos:Pos} {env:Env} (h:zy3 sc ts=some ns) (ok:xz8 sc (.Tuple ts x1 pos) e=true) :
 swappedStores [.Tuple ts x1 pos] e env=pure none\/swappedStores [.Tuple ts x1 pos] e env=pure (some ns):=by
 cases e with
 | Tuple vs y1 vp=>
  have ok:(vs.all (foldedForSure 8)||!vs.all (constantsAlone 8))=true:=ok;refine xp2 (fun U=>.inl rfl) fun U=>xp2 (fun U=>.inl rfl) fun U=>xp2 (fun U=>.inl rfl) fun hc=>xp2 (fun U=>.inl rfl) fun hfold=>xp2 (fun q=>?_) fun U=>.inr ?_
  ·rw [oz0 _ |>.mp hfold,q] at ok;nomatch ok
  ·have hc1:=Classical.byContradiction fun z=>hc (Bool.or_eq_true_iff.mpr (.inl (bne_iff_ne.mpr z)))
   exact congrArg (fun l:List Str=>(pure (some l):Sem (Option (List Str)))) ((names_lt (sc:=sc) _ (fun x p y q=>(ifs q).2.symm) h).2 hc1)
 | _=>exact .inl rfl
section
variable {X:List Addr} {α β γ δ:Type} {R:Lay->Heap->α->β->Prop} {R':Lay->Heap->γ->δ->Prop} {n k n0:Nat} {C:zz5} {A:Around} {fr outer:List Env} {sc csc:Scope} {ρ ρ':Rho} {env:Env} {ι ι' ι1:Lay} {σ σ' σ1:zz0} {s s' s1:Shared} {h':Heap}
 {Q:Flow->Shared->Prop} {QX:QA0} {E E2:QV0} {D:Addr}
set_option tactic.hygienic true in
theorem vf2 {t:Expr} {v:V} {u:Value} (B:zf9) (ih:EvE C n k) (S:St n A (env::outer) sc ρ env ι σ s) (hf:env.frame=some env.locals) (rv:Rel ι s.heap v u) (ht:∀ ts c p,t≠.Tuple ts c p)
 (H:zz3 (RS n0 sc env) [env.locals] ((zg0 (fun e σ=>evE C k sc ρ e σ) sc t v ρ σ).bnd fun ρ σ=>.ok (.next,ρ) σ) ι s Q QX (EF env E)):wpAny (model P w) A (assign t env u) (fun U=>Q .next) E s:=by
 cases t <;> first|exact H.elim|skip
 ·rename_i o a pos
  unfold zg0 at H;replace H:=H.assoc;refine wpAny_bind (wpAny_holding (ih.useE S H (S.em hf) fun r σ1 ι1 x s1 N1 S1 rx H1=>?_));replace H1:=H1.assoc;refine wpAny_bind (wpAny_standAt (wpAny_bind (wpAny_holding (uy8 (R:=fun U U (U:Unit) (U:Unit)=>True) S1 (fun U U U h=>vj4 B S1.I rx (S.rel N1 rv) h) H1 (S1.em hf) fun U σ2 ι2 U s2 N2 S2 U H2=>?_))));exact wpAny_release (H2.here S2.I ⟨S2.F,S2.loc hf,rfl⟩)
 ·rename_i o i pos
  unfold zg0 at H;replace H:=H.assoc;refine wpAny_bind (wpAny_holding (ih.useE S H (S.em hf) fun r σ1 ι1 x s1 N1 S1 rx H1=>?_));replace H1:=H1.assoc;refine wpAny_bind (wpAny_holding (ih.useE S1 H1 (S1.em hf) fun j σ2 ι2 y s2 N2 S2 ry H2=>?_));replace H2:=H2.assoc;refine wpAny_bind (wpAny_standAt (wpAny_bind (wpAny_holding (uy8 (R:=fun U U (U:Unit) (U:Unit)=>True) S2 (fun U U U h=>vj3 S2.I (S1.rel N2 rx) ry (S1.rel N2 (S.rel N1 rv)) h) H2 (S2.em hf) fun U σ3 ι3 U s3 N3 S3 U H3=>?_))));exact wpAny_release (H3.here S3.I ⟨S3.F,S3.loc hf,rfl⟩)
 ·rename_i x pos
  unfold zg0 at H;simp only at H;split at H
  ·rename_i hl
   exact wpAny_assign_Name (yy5 S hf hl rv fun s' N S'=>H ι _ s' N S'.I ⟨S'.F,S'.loc hf,rfl⟩)
  ·exact H.elim
 ·exact absurd rfl (ht _ _ _)
theorem xh5 {t:Sem α} {Q:α->Shared->Prop} (h:wpAny (model P w) A t (fun a s'=>s.heap.objs.size<=s'.heap.objs.size->Q a s') E s):wpAny (model P w) A t Q E s:=zv8 (wpAny_mono h (fun U U q=>q) fun U U q U=>q)
theorem zip_rev {α β:Type} {xs:List α} {ys:List β} (h:xs.length=ys.length):xs.reverse.zip ys.reverse=(xs.zip ys).reverse:=by
 exact (List.reverse_zipWith h).symm
theorem vz8 {a:Addr} {us:List Value} {m:Nat} {Q:List Value->Shared->Prop} (hh:A.handled=none) (T:IsTup s.heap a us.toArray) (hn:m=us.length) (K:∀ h',s.heap.objs.size<=h'.objs.size->Heap.ExtBut s.heap.objs.size s.heap h'->Q us { s with heap:=h' }) :
 wpAny (model P w) A (unpackItems (.ref a) m none) Q E s:=by
 subst hn;exact xh5 (wpAny_unpackItems_tuple hh T fun h' he hz=>K h' hz he)
theorem vb2 {ts:List Expr} {c:Nat} {tp:Pos} {e:Expr} {pos:Pos} (ih:EvE C n k) (S:St n A (env::outer) sc ρ env ι σ s) (hf:env.frame=some env.locals) (ok:xz8 sc (.Tuple ts c tp) e=true) (hc:yz4 e=false)
 (H:zz3 (RS n0 sc env) [env.locals] ((evE C k sc ρ e σ).bnd fun v σ=>(zg0 (fun e σ=>evE C k sc ρ e σ) sc (.Tuple ts c tp) v ρ σ).bnd fun ρ σ=>.ok (.next,ρ) σ) ι s Q QX (EF env E)):wpAny (model P w) A (exec (.Assign [.Tuple ts c tp] e pos) env) Q E s:=by
 have hs:swapsWithSole [.Tuple ts c tp] e pos.line env=pure false:=by
  cases e <;> first|rfl|cases hc
 refine wpAny_bind (wpAny_standAt ?_);refine (hs).symm▸?_;refine wpAny_bind (wpAny_pure ?_);refine wpAny_bind (ih.useE S H (S.em hf) fun v σ1 ι1 u s1 N S1 rv H1=>?_);refine el11 (zz3.eb H1) fun vs ev H1=>?_;refine el11 (zz3.eb H1) fun ns hns H1=>?_;refine zz9 (zz3.ib H1) fun hnd H2=>?_;rw [zf7 ev] at rv;refine zz9 hnd fun hnd hlen=>?_;refine hid fun G kG=>?_;refine zg6 (locs_of hns) fun q1 q2 q3=>?_;refine zg6 (q3 env) fun g1 g2 g3=>?_;refine el22 rv fun a us eq1 T rs=>?_;subst eq1;have hl:=rs.length;refine kG ?_;have go:∀ (fs:List (Value->Sem Unit)) (xs:List Str) (ws:List V) (us':List Value) (h':Heap),s1.heap.objs.size<=h'.objs.size->Heap.ExtBut s1.heap.objs.size s1.heap h'->wj0 env fs xs->(∀ x∈xs,zj0 sc x=true)->xs.length=ws.length->zq2 ι1 s1.heap ws us'->
  (∀ y,(updAll ρ (ns.zip vs)).lookup y=(updAll ρ (xs.zip ws)).lookup y)->wpAny (model P w) A (assignInOrder fs us') (fun U=>Q .next) E { s1 with heap:=h' }:=by
  intro fs xs ws us' h' hz he hst hloc hxl hr hlk;refine zz9 (S1.more (h':=h') (t:=s1.toks) hz (fun b o e=>he b o (ij5 (Heap.lt_size e)) e) S1.tk) fun S2 N2=>?_;refine xg4 hf fs xs ws us' hst hloc hxl S2 (hr.nx S1.I (zq1 _) N2) fun s3 N3 S3=>?_;have S4:=S3.congr hlk;exact H2 ι1 _ s3 ((N2.weaken fun U q=>nomatch q).trans N3) S3.I ⟨S4.F,S3.loc hf,rfl⟩
 have hzl:(ns.zip vs).map (fun U=>U.1)=ns:=xw8 _ _ hlen;rcases xj7 (env:=env) hns ok with hw|hw
 ·rw [hw]
  refine wpAny_bind (wpAny_pure ?_);refine wpAny_bind (wpAny_mono (Q:=fun U=>Q .next) (E:=E) ?_ (fun U U q=>wpAny_pure q) fun U U q=>q);refine wpAny_bind (wpAny_standAt ?_);unfold unpack;refine (g3).symm▸?_;exact wpAny_bind (wpAny_holding (vz8 S1.rm.handled T (by rw [g2,hl,<-hlen,q2]) fun h' hz he=>go _ ns vs us h' hz he g1 q1 hlen rs fun U=>rfl))
 ·rw [hw]
  refine wpAny_bind (wpAny_pure ?_);refine wpAny_bind (wpAny_rule (wpAny_bind (vz8 S1.rm.handled T (by rw [hl,hlen]) fun h' hz he=>wpAny_bind (wpAny_mono (Q:=fun U=>Q .next) (E:=E) ?_ (fun U U q=>wpAny_pure q) fun U U q=>q))));refine go _ ns.reverse vs.reverse us.reverse h' hz he (xg5 env _) (fun x hx=>q1 x (List.mem_reverse.mp hx)) (by rw [ox2,ox2,hlen]) rs.reverse fun y=>?_;have hnd2:((ns.zip vs).map (fun U=>U.1)).Nodup:=by rw [hzl];exact hnd
  have hnd3:((ns.zip vs).reverse.map (fun U=>U.1)).Nodup:=by rw [List.map_reverse];exact List.pairwise_reverse.mpr (hnd2.imp Ne.symm)
  rw [zip_rev hlen,yx8 hnd2,yx8 hnd3,vv4 hnd2]
end
section
variable {X:List Addr} {α β γ δ:Type} {R:Lay->Heap->α->β->Prop} {R':Lay->Heap->γ->δ->Prop} {n k n0:Nat} {C:zz5} {A:Around} {fr outer:List Env} {sc csc:Scope} {ρ ρ':Rho} {env:Env} {ι ι' ι1:Lay} {σ σ' σ1:zz0} {s s' s1:Shared} {h':Heap}
 {Q:Flow->Shared->Prop} {QX:QA0} {E E2:QV0} {D:Addr}
theorem St.adopt {ρ1:Rho} (S:St n A fr sc ρ env ι σ s) (S1:St n A fr sc ρ1 env ι1 σ1 s1) (hD:s1.heap.objs.size<=D) (I':Inv (ι++[(D,D)]) σ' s):St n A fr sc ρ env (ι++[(D,D)]) σ' s:=by
 have ap:∀ {L:Addr},L < s1.heap.objs.size->(∀ p∈ι,p.2≠L)->∀ p∈ι++[(D,D)],p.2≠L:=fun hL h p hp=>by
  rcases iz5.mp hp with z|z
  ·exact h p z
  ·rw [iq4] at z;subst z
   exact ix0 (iq3 hL hD)
 have F:=S.F;refine ⟨I',⟨F.kind,F.glob,F.blt,F.kinds,?_,fun x v q r=>?_,F.lam,ap ?_ F.apart.1,F.apart.2⟩,S.rm,fun en he=>?_,S.tk⟩
 ·refine el11 F.ns fun m a b=>?_
  exact ⟨m,a,fun x v q r=>el11 (b x v q r) fun u g1 g2=>⟨u,g1,Rel.grow g2⟩⟩
 ·refine el22 (F.cells x v q r) fun c u g1 g2 g3=>?_
  exact ⟨c,u,g1,g2,Rel.grow g3⟩
 ·refine el11 S1.F.ns fun m pq1 U=>?_
  refine el31 pq1 fun o es e ho U=>?_;exact Heap.lt_size ho
 ·refine hid fun G kG=>?_
  obtain ⟨k,L,o,e1,e2,e3,e4,e5,e6⟩:=S.fo en he;obtain ⟨_,L',o',e1',e2',_⟩:=S1.fo en he;refine kG ?_;refine ⟨k,L,o,e1,e2,e3,ap ?_ e4,e5,e6⟩;rw [e1] at e1';cases e1';exact Heap.lt_size e2'
set_option tactic.hygienic true in
theorem comp_put {x y:Str} {ifs:List Expr} {elt itE:Expr} {px py vpos pos:Pos} (ih:EvE C n k) (itT:EvT C n k) (ihI:EvI C n k) (S:St n A (env::outer) sc ρ env ι σ s) (hf:env.frame=some env.locals)
 (ok:xz8 sc (.Name y py) (.ListComp elt [⟨.Name x px,itE,ifs,0⟩] csc vpos)=true)
 (H:zz3 (RS n0 sc env) [env.locals] ((evE C (k + 1) sc ρ (.ListComp elt [⟨.Name x px,itE,ifs,0⟩] csc vpos) σ).bnd' fun v σ=>.ok (.next,upd ρ y v) σ) ι s Q QX (EF env E)) :
 wpAny (model P w) A (exec (.Assign [.Name y py] (.ListComp elt [⟨.Name x px,itE,ifs,0⟩] csc vpos) pos) env) Q E s:=by
 have H:zz3 (RS n0 sc env) [env.locals] ((if zg3 sc csc ρ x=false then .bad else (evIt C k sc ρ itE σ).bnd fun i σ=>
  if zq5 i < SL then (yz5 (compF (fun e σ v=>evT C k csc ((x,v)::ρ) e σ) (fun e σ v=>evE C k csc ((x,v)::ρ) e σ) ifs elt) i σ).bnd fun vs σ=>.ok (.loc σ.length) (σ++[.lst vs]) else .bad).bnd' fun v σ=>.ok (.next,upd ρ y v) σ) ι s Q QX (EF env E):=H
 by_cases hcc:zg3 sc csc ρ x=false
 ·rw [if_pos hcc] at H;exact H.elim
 ·rw [if_neg hcc] at H
  have hc:zg3 sc csc ρ x=true:=(Bool.eq_false_or_eq_true _).resolve_right hcc;have ok:(zj0 sc y&&py.line == vpos.line&&!(csc.names.any fun p=>p.1 == y&&(p.2 == .local||p.2 == .cell)))=true:=ok;simp only [iq5] at ok;refine zz9 ok fun pq6 o3=>?_;refine zz9 pq6 fun o1 o2=>?_;have hloc:sc.names.lookup y=some .local:=by unfold zj0 at o1;simpa using o1
  have hk:env.kindOf y=some .local:=by
   rcases S.F.kinds y with q|⟨q,_⟩
   ·exact q.trans hloc
   ·rw [hloc] at q;cases q
  have hbk:env.blockKind=.function:=by unfold Env.blockKind;rw [S.F.kind];rfl
  have hsw:swapsWith (.ListComp elt [⟨.Name x px,itE,ifs,0⟩] csc vpos) (some (.Name y py)) pos.line env=pure true:=by
   unfold swapsWith;simp only;refine hbk.symm▸hk.symm▸?_;refine (o3).symm▸?_;have:(py.line == (Expr.ListComp elt [⟨.Name x px,itE,ifs,0⟩] csc vpos).pos.line)=true:=o2;refine (this).symm▸?_;rfl
  have H2:zz3 (RS n0 sc env) [env.locals] ((evIt C k sc ρ itE σ).bnd fun i σ=>if zq5 i < SL then (yz5 (compF (fun e σ v=>evT C k csc ((x,v)::ρ) e σ) (fun e σ v=>evE C k csc ((x,v)::ρ) e σ) ifs elt) i σ).bnd (fun vs σ=>.ok (.next,upd ρ y (.loc σ.length)) (σ++[.lst vs])) else .bad) ι s Q QX E:=by
   cases e1:evIt C k sc ρ itE σ with
   | bad=>rw [e1] at H;exact H.elim
   | ex _=>rw [e1] at H;exact H.elim
   | exc _=>rw [e1] at H;exact H.elim
   | ok i σ1=>
    replace H:=e1▸H;dsimp only [Out.bnd] at H ⊢;split at H
    ·rename_i hz
     rw [if_pos hz];cases e2:yz5 (compF (fun e σ v=>evT C k csc ((x,v)::ρ) e σ) (fun e σ v=>evE C k csc ((x,v)::ρ) e σ) ifs elt) i σ1 with
     | bad=>rw [e2] at H;exact H.elim
     | ex _=>rw [e2] at H;exact H.elim
     | exc _=>rw [e2] at H;exact H.elim
     | ok vs σ2=>
      rw [e2] at H;exact H
    ·exact H.elim
  clear H;refine (exec_Assign_Name_used _ _ _ _ hsw).symm▸?_;refine wpAny_bind (wpAny_standAt (wpAny_bind ?_));refine wpAny_bind (wpAny_mono (wx0 (use:=some (assign (.Name y py) env)) (Q:=fun U s'=>Q .next s') ih itT ihI hc S H2 fun ι1 σ1 s1 D L vs ι5 σ5 s5 N01 St1 hD hL hDL M H5=>?_) (fun U s' hq=>wpAny_pure (wpAny_pure hq)) fun U U e=>e);refine hid fun G kG=>?_;refine el10 M.ns fun m hns=>?_;refine el21 M.ls fun ys mm hDo rs=>?_;refine zg6 (M.st.I.adopt M.oD hDo rs M.nx hD) fun I7 N7 r7=>?_;have S7:=M.st.adopt St1 hD I7;refine kG ?_;have oL7:yk1 (ι5++[(D,D)]) L:=⟨fun p hp=>by
   rcases iz5.mp hp with z|z
   ·exact M.oL.lay p z
   ·rw [iq4] at z;subst z;exact ⟨hDL,hDL⟩,M.oL.tab,M.oL.base⟩
  have hlt:env.locals < s1.heap.objs.size:=by
   refine el11 St1.F.ns fun m pq4 U=>?_;refine el31 pq4 fun o es e ho U=>?_;exact Heap.lt_size ho
  have hLl:L∉[env.locals]:=fun q=>by
   rw [iq4] at q;exact oq2 _ (iq3 hlt (q▸hL))
  refine wpAny_assign_Name (yy5 S7 hf o1 r7 fun s8 N8 S8=>?_);have hns8:=oL7.ns hLl N8 hns;refine ⟨m,hns8,fun h9 hs9=>?_⟩;refine zz9 (S8.turned (h':=h9) (t:=s8.toks) St1 oL7 hL (zk2 hns8) (ij3 hs9.1.symm) (fun b o hb e=>(hs9.2 b hb).trans e) S8.tk) fun S9 N9=>?_;exact H5 (ι5++[(D,D)]) _ { s8 with heap:=h9,toks:=s8.toks } ((N7.trans N8).since N9 hL) S9.I ⟨S9.F,S9.loc hf,rfl⟩
theorem uf6 {sc:Scope} {t e:Expr} (hc:yz4 e=true) (ok:xz8 sc t e=true):∃ elt gens csc vpos,e=.ListComp elt gens csc vpos:=by
 cases e <;> first|exact ⟨_,_,_,_,rfl⟩|exact absurd hc ix8|exact absurd ok ix8
theorem vh2 {t e:Expr} {pos:Pos} (ih:EvE C n k) (S:St n A (env::outer) sc ρ env ι σ s) (hf:env.frame=some env.locals) (hs:swapsWithSole [t] e pos.line env=pure false) (hbad:∀ v ρ σ,zg0 (fun e σ=>evE C k sc ρ e σ) sc t v ρ σ=.bad)
 (H:zz3 (RS n0 sc env) [env.locals] ((evE C k sc ρ e σ).bnd fun v σ=>(zg0 (fun e σ=>evE C k sc ρ e σ) sc t v ρ σ).bnd fun ρ σ=>.ok (.next,ρ) σ) ι s Q QX (EF env E)):wpAny (model P w) A (exec (.Assign [t] e pos) env) Q E s:=by
 refine wpAny_bind (wpAny_standAt ?_);refine (hs).symm▸?_;refine wpAny_bind (wpAny_pure ?_);refine wpAny_bind (ih.useE S H (S.em hf) fun v σ1 ι1 u s1 N S1 rv H1=>?_);rw [hbad] at H1;exact H1.elim
set_option maxHeartbeats 1000000 in
theorem tgt_sort (t:Expr):(∃ ts c p,t=.Tuple ts c p)\/(∀ (f:Expr->zz0->Out V) (sc:Scope) (v:V) (ρ:Rho) (σ:zz0),zg0 f sc t v ρ σ=.bad)\/((∀ (e:Expr) (env:Env),swappedStores [t] e env=pure none)/\(∀ ts c p,t≠.Tuple ts c p)/\∀ (u:Value) (env:Env),assignAll u ((assignEach [t] env).map (fun U=>U.2))=assign t env u):=by
 cases t <;> first|exact .inl ⟨_,_,_,rfl⟩|exact .inr (.inl fun U U U U U=>rfl)|exact .inr (.inr ⟨fun U U=>rfl,fun U U U q=>(nomatch q),fun U U=>rfl⟩)
theorem vb5 {t e:Expr} {l:Nat} {env:Env} (h:yz4 e=false):swapsWithSole [t] e l env=pure false:=by
 cases e <;> first|rfl|exact absurd h.symm ix8
theorem el_ok {α β γ δ:Type} {R':Lay->Heap->γ->δ->Prop} {X:List Addr} {ι:Lay} {s:Shared} {Q':δ->Shared->Prop} {QX:QA0} {E:QV0} {o:Option α} {F:α->Out β} {f:β->zz0->Out γ} (H:zz3 R' X ((o.elim .bad F).bnd' f) ι s Q' QX E):∃ x,o=some x:=by
 cases o with
 | none=>exact H.elim
 | some x=>exact ⟨x,rfl⟩
theorem qz6 {ts:List Expr} {e:Expr} {pos:Pos} (B:zf9) (ih:EvE C n k) (hk:∀ j,j + 1=k->EvE C n j/\EvT C n j/\EvI C n j) (S:St n A (env::outer) sc ρ env ι σ s) (hf:env.frame=some env.locals)
 (H:zz3 (RS n0 sc env) [env.locals] (evS C (k + 1) sc (.Assign ts e pos) ρ σ) ι s Q QX (EF env E)):wpAny (model P w) A (exec (.Assign ts e pos) env) Q E s:=by
 rcases ts with _|⟨t,_|⟨_,_⟩⟩
 ·exact H.elim
 ·refine zz9 (zz3.ifp H) fun ok H1=>?_
  clear H;cases hc:yz4 e with
  | true=>
   rw [hc] at H1;refine el40 (uf6 hc ok) fun elt gens csc vpos e0=>?_;refine el11 (zz3.opt H1) fun y qy H=>?_;clear H1;refine el10 (yx6 qy) fun py e1=>?_;cases k with
   | zero=>exact (e0▸H:_).elim
   | succ k=>
    refine zg6 (hk k rfl) fun j1 j2 j3=>?_;subst e0;refine el10 (el_ok (o:=lcOf gens) H) fun x q=>?_;refine el10 (vz2 q) fun px e0=>?_;subst e0;subst e1;exact comp_put j1 j2 j3 S hf ok H
  | false=>
   rw [hc] at H1;rcases tgt_sort t with ht|hb|hw
   ·refine el30 ht fun ts c p e0=>?_
    subst e0;exact vb2 ih S hf ok hc H1
   ·exact vh2 ih S hf (vb5 hc) (fun U U U=>hb ..) H1
   ·refine wpAny_Assign_stores (ih.useE S H1 (S.em hf) fun v σ1 ι1 u s1 N1 S1 ru H1=>?_) (vb5 hc) (hw.1 ..)
    exact hw.2.2 ..▸vf2 B ih S1 hf ru hw.2.1 H1
 ·exact H.elim
end
theorem nx_if {α:Type} {c:Prop} [Decidable c] {a:Out α} {σ:zz0} (h:(if c then a else .bad)=.exc σ):a=.exc σ:=by
 by_cases q:c
 ·rwa [if_pos q] at h
 ·rw [if_neg q] at h;nomatch h
theorem nx_el {α β:Type} {o:Option β} {f:β->Out α} {σ:zz0} (h:o.elim .bad f=.exc σ):∃ x,f x=.exc σ:=by
 cases o with
 | none=>nomatch h
 | some x=>exact ⟨x,h⟩
theorem nx_b {α β:Type} {r:Out β} {f:β->zz0->Out α} {σ:zz0} (h:r.bnd' f=.exc σ):∃ a s,f a s=.exc σ:=by
 cases r with
 | ok a s=>exact ⟨a,s,h⟩
 | _=>nomatch h
theorem vw4 {B:V->Rho->zz0->Out (Fl×Rho)} {it:It} (r:Nat):∀ (ρ:Rho) (σ σ':zz0),forK B it r ρ σ≠.exc σ':=by
 induction r with
 | zero=>exact fun ρ σ σ' h=>nomatch nx_if h
 | succ r ih=>
  intro ρ σ σ' h;refine el10 (nx_el h) fun v h=>el20 (nx_b h) fun y s h=>?_;obtain ⟨y,ρ'⟩:=y;cases y with
  | next=>exact ih _ _ _ h
  | cont=>exact ih _ _ _ h
  | _=>nomatch h
section
variable {X:List Addr} {α β γ δ:Type} {R:Lay->Heap->α->β->Prop} {R':Lay->Heap->γ->δ->Prop} {n k n0:Nat} {C:zz5} {A:Around} {fr outer:List Env} {sc csc:Scope} {ρ ρ':Rho} {env:Env} {ι ι' ι1:Lay} {σ σ' σ1:zz0} {s s' s1:Shared} {h':Heap}
 {Q:Flow->Shared->Prop} {QX:QA0} {E E2:QV0} {D I:Addr} {x:Str}
theorem zz3.noexc {r:Out γ} {Q':δ->Shared->Prop} (H:zz3 R' X r ι s Q' QX E2) (h:∀ σ',r≠.exc σ'):zz3 R' X r ι s Q' QX E:=by
 cases r with
 | exc σ'=>exact absurd rfl (h σ')
 | ok a σ'=>exact H
 | ex σ'=>exact H
 | bad=>exact H
theorem zz3.ob {r:Out α} {f:α->zz0->Out γ} {Q':δ->Shared->Prop} (H:zz3 R' X (r.bnd' f) ι s Q' QX E):∃ a σ',r=.ok a σ'/\zz3 R' X (f a σ') ι s Q' QX E:=by
 cases r with
 | ok a σ'=>exact ⟨a,σ',rfl,H⟩
 | _=>exact H.elim
theorem for_loop {b:List Stmt} {px:Pos} {it:It} {RR:Result->Shared->Prop} (ih:EvS C n k) (hf:env.frame=some env.locals) (hl:zj0 sc x=true)
 (S1:St n A (env::outer) sc ρ env ι1 σ1 s1) (hn:n0<=s1.heap.objs.size) (hI:s1.heap.objs.size<=I)
 (fin:∀ f s',Q f s'->RR (.ok f) s') (r:Nat) (ρ:Rho) (ι:Lay) (σ:zz0) (s:Shared) (hr:r<=zq5 it) (S:St n A (env::outer) sc ρ env ι σ s) (N:Nx [env.locals] ι1 ι s1.heap s.heap) (Z:wj1 A ι s.heap I it (zq5 it - r)) (O:yk1 ι I)
 (H:zz3 (RS n0 sc env) [env.locals] (forK (fun v ρ σ=>seqS (fun s ρ σ=>evS C k sc s ρ σ) b (upd ρ x v) σ) it r ρ σ) ι1 s1 Q QX E) :
 codeAny (model P w) A (.forLoop (.Name x px) (.ref I) b [] env) RR s:=by
 refine exI (α:=Nat) (β:=Shared) (fun r s=>∃ ρ ι σ,r<=zq5 it/\St n A (env::outer) sc ρ env ι σ s/\Nx [env.locals] ι1 ι s1.heap s.heap/\wj1 A ι s.heap I it (zq5 it - r)/\yk1 ι I/\
  zz3 (RS n0 sc env) [env.locals] (forK (fun v ρ σ=>seqS (fun s ρ σ=>evS C k sc s ρ σ) b (upd ρ x v) σ) it r ρ σ) ι1 s1 Q QX E) fun CI ci co=>?_
 refine codeAny_forLoop_any CI ?_ r (co _ _ ⟨ρ,ι,σ,hr,S,N,Z,O,H⟩);clear H O Z N S hr s σ ι ρ r;intro r s hci;refine hid fun G0 kG0=>?_;refine el35 (ci r s hci) fun ρ ι σ hr S N Z O H=>?_;refine kG0 ?_;refine wpAny_with_toks (n:=1) S.tk ?_;cases r with
 | zero=>
  refine zz9 (zz3.ifp H) fun he H=>?_;refine wp2 S.rm.handled he Z O S.I fun h' t N' I' tk=>?_;have S':=S.over (s':={ s with heap:=h',toks:=t }) S1 hI Z.isIt.dicts N' I' tk;exact wpAny_execs_nil (fin _ _ (H ι _ { s with heap:=h',toks:=t } (N.since N' hI) I' ⟨S'.F,S'.loc hf,rfl⟩))
 | succ r=>
  refine el11 (zz3.opt H) fun v hv H=>?_;refine el21 (zz3.ob H) fun y σ' (er:seqS (fun s ρ σ=>evS C k sc s ρ σ) b (upd ρ x v) σ=.ok y σ') H=>?_;obtain ⟨y,ρ3⟩:=y;have hk1:zq5 it - (r + 1) + 1=zq5 it - r:=tsub hr;refine xp3 hv Z O S.I fun xv h1 t1 N1 I1 Z1 rx tk1=>?_;refine hid fun G1 kG=>?_;replace Z1:=hk1▸Z1;have St1:=S.over (s':={ s with heap:=h1,toks:=t1 }) S1 hI Z.isIt.dicts N1 I1 tk1;refine kG ?_;refine wpAny_pure (wpAny_assign_Name (yy5 St1 hf hl rx fun s2 N2 S2=>?_));refine hid fun G1 kG=>?_;have hIl:I∉[env.locals]:=fun q=>by
   rw [iq4] at q;refine el10 S1.F.ns fun m pq1=>?_;exact oq2 _ (iq3 (el31 pq1.1 fun o es e ho U=>Heap.lt_size ho) (q▸hI))
  have Z2:=Z1.nx I1 (el10 St1.F.ns fun m q=>zk2 q.1) hIl O N2;have nx2:=(N.since N1 hI).trans N2;refine kG ?_;refine wpAny_with_toks (n:=1) S2.tk (xf3 (n0:=n0) (QX:=QX) ih hf b S2 (iq2 hn nx2.size) ?_);refine er.symm▸?_;intro ι3 fl s3 N3 I3 r3 tk3;refine hid fun G1 kG=>?_;refine zg6 r3 fun F3 L3 r3=>?_;have S3:=S2.step hf N3 I3 F3 L3 tk3;have O3:=O.nx N3 (el10 Z2.isIt fun o e=>Heap.lt_size e.1);have Z3:=Z2.nx S2.I (el10 S2.F.ns fun m q=>zk2 q.1) hIl O N3;have nx3:=nx2.trans N3;cases y with
  | next=>
   cases (show fl=.next from r3);exact kG ⟨r,ij7 _,co _ _ ⟨ρ3,ι3,σ',l21 0x81371187 hr,S3,nx3,Z3,O3,H⟩⟩
  | cont=>
   cases (show fl=.cont from r3);exact kG ⟨r,ij7 _,co _ _ ⟨ρ3,ι3,σ',l21 0x81371187 hr,S3,nx3,Z3,O3,H⟩⟩
  | ret v=>
   refine el11 r3 fun u eq2 ru=>?_;subst eq2;exact kG (fin _ _ (H ι3 _ s3 nx3 I3 ⟨S3.F,S3.loc hf,u,rfl,ru⟩))
  | retex=>exact H.elim
theorem for_ok {itE:Expr} {b:List Stmt} {px pos:Pos} (ihI:EvI C n k) (ih:EvS C n k) (S:St n A (env::outer) sc ρ env ι σ s) (hf:env.frame=some env.locals) (hn:n0<=s.heap.objs.size)
 (H:zz3 (RS n0 sc env) [env.locals] (if zj0 sc x=true then (evIt C k sc ρ itE σ).bnd' fun i σ=>forIt (fun v ρ σ=>seqS (fun s ρ σ=>evS C k sc s ρ σ) b (upd ρ x v) σ) i ρ σ else .bad) ι s Q QX (EF env E)) :
 wpAny (model P w) A (exec (.For (.Name x px) itE b [] pos) env) Q E s:=by
 refine zz9 (zz3.ifp H) fun hl H=>?_
 ·have H2:zz3 (RS n0 sc env) [env.locals] ((evIt C k sc ρ itE σ).bnd fun i σ=>forIt (fun v ρ σ=>seqS (fun s ρ σ=>evS C k sc s ρ σ) b (upd ρ x v) σ) i ρ σ) ι s Q QX E:=by
   refine el21 (zz3.ob H) fun i σ1 e1 H=>?_;rw [e1];exact H.noexc fun σ'=>vw4 _ _ _ _
  obtain ⟨hset,hw⟩:=ihI (Q1:=fun it s2=>codeAny (model P w) A (.forLoop (.Name x px) it b [] env) (fun r s'=>match r with|.ok f=>Q f s'|.error e=>cameBackBy (model P w) A env E e s') s2) S H2 (fun it σ1 ι1 s1 I s2 N01 St1 N12 hI hIlt St2 Z O H1=>
   for_loop ih hf hl St1 (iq2 hn N01.size) hI (fun f s' q=>q) (zq5 it) ρ ι1 σ1 s2 (iq1 _) St2 (N12.weaken fun U q=>nomatch q) (by rw [iv4];exact Z) O H1)
  refine wpAny_For hw fun y=>?_;exact xx8 hset
end
theorem wz7 (P:Params):(PySem.W.subIn (K0 P) (.ref 72) (.type "BaseException") == some true&&PySem.W.subIn (K0 P) (.ref 72) (.ref 72) == some true&&instIn (K0 P) (.ref 72) (.type "tuple") == some false&&typeIn (K0 P) (.ref 72) == some (.type "type"))=true:=by rfl
theorem gf_is (P:Params):(match (K0 P).lookup 72 with|some ⟨_,_,.cls _,_⟩=>true|_=>false)=true:=by rfl
theorem zf8.thrown {n:Nat} {e:Addr} {h:Heap} (t:zf8 n e h):yj8 n e h:=by
 refine hid fun G kG=>?_;obtain ⟨oe,vs,a,b,c,d,f,g⟩:=t;refine kG ?_;exact ⟨oe,vs,.none,a,b,c,d,g,.inl rfl⟩
section
variable {n k n0:Nat} {C:zz5} {A:Around} {outer:List Env} {sc:Scope} {ρ:Rho} {env:Env} {ι:Lay} {σ:zz0} {s:Shared} {h:Heap}
 {Q:Flow->Shared->Prop} {QX:QA0} {E:QV0} {e:Addr} {oe:Obj} {vs:Array Value}
theorem yh8 {c:Value} (he:h.get? e=some oe) (hc:oe.cls=c):Looks (model P w) h (typeOf (.ref e)) c:=by
 subst hc;exact (Looks.ld he).andThen .now
theorem xj1 (he:h.get? e=some oe) (hd:oe.data=.fields vs):Looks (model P w) h (isType (.ref e)) false:=
 (Looks.ld he).andThen (Looks.of_pure (by rw [hd]))
theorem wh3 (he:h.get? e=some oe) (hd:oe.data=.fields vs):Looks (model P w) h (isExcClass (.ref e)) false:=by
 unfold isExcClass;exact (xj1 he hd).andThen (Looks.of_pure rfl)
theorem exc_inst (X:(K0 w.params).In h) (he:h.get? e=some oe) (hc:oe.cls=.ref 72):Looks (model P w) h (isInstance (.ref e) (.type "BaseException")) true:=by
 have g:=wz7 w.params;simp only [iq5,beq_iff_eq] at g;unfold isInstance;exact (yh8 he hc).andThen (looks_subIn X g.1.1.1)
theorem exc_from {m:String} (X:(K0 w.params).In h) (he:h.get? e=some oe) (hc:oe.cls=.ref 72) (hd:oe.data=.fields vs):Looks (model P w) h (excFromValue (.ref e) m) (.ref e):=by
 unfold excFromValue;refine (wh3 he hd).andThen ?_;dsimp only [oz3,if_false];exact (exc_inst X he hc).andThen (Looks.of_pure rfl)
theorem vw9 (X:(K0 w.params).In h) (he:h.get? e=some oe) (hc:oe.cls=.ref 72):Looks (model P w) h (raisedInstance (.ref e)) (.ref e):=by
 have g:=wz7 w.params;simp only [iq5,beq_iff_eq] at g;unfold raisedInstance;exact (yh8 he hc).andThen ((looks_typeIn X g.2).andThen (Looks.of_pure rfl))
theorem raise_ok {x:Expr} {pos:Pos} (B:zf9) (ih:EvE C n k) (S:St n A (env::outer) sc ρ env ι σ s) (hf:env.frame=some env.locals)
 (H:zz3 (RS n0 sc env) [env.locals] (uq1 (evE C k sc ρ x σ)) ι s Q QX (EF env E)):wpAny (model P w) A (exec (.Raise (some x) none pos) env) Q E s:=by
 rw [arm_exec_Raise];have up:∀ {ι':Lay} {h:Heap},Nx [] ι ι' s.heap h->Nx [env.locals] ι ι' s.heap h:=fun N=>N.weaken fun U q=>nomatch q;refine wpAny_bind (wpAny_standAt ?_);show wpAny (model P w) A (raiseStmt env (some (do let v <-eval x env;standAt pos;pure v)) none) Q E s;unfold raiseStmt;refine wpAny_bind (wpAny_bind (ih S (Q:=fun v s'=>wpAny (model P w) A (do standAt pos;pure v) _ E s') ?_));cases er:evE C k sc ρ x σ with
 | bad=>rw [er] at H;exact H.elim
 | ok v σ'=>rw [er] at H;exact H.elim
 | exc σ'=>rw [er] at H;exact fun ι' e s' N I t=>H ι' e s' (up N) I t ((S.fo.nx N).loc hf)
 | ex σ'=>
  replace H:=er▸H;intro ι' e s' N I t;have X:=I.K B;refine el24 (id t) fun oe vs he hn hc hd pq4=>?_;obtain ⟨hz,h1⟩:=pq4;refine wpAny_bind (wpAny_standAt (wpAny_pure ?_));refine wpAny_bind (wpAny_pure (wpAny_bind (wpAny_holding ((exc_from X he hc hd).here ?_))));refine wpAny_bind ((xj1 he hd).here ?_);dsimp only [oz3,if_false];refine wpAny_bind ((vw9 X he hc).here ?_);unfold setFlight;refine wpAny_bind (wpAny_bind (wpAny_field he hd h1 ?_));rw [if_neg (by decide)];refine wpAny_pure ?_;exact wpAny_raiseNew_none S.rm.handled (H ι' e s' (up N) I t.thrown ((S.fo.nx N).loc hf))
end
section
variable {n k n0:Nat} {C:zz5} {A A':Around} {outer:List Env} {sc:Scope} {ρ:Rho} {env:Env} {ι:Lay} {σ:zz0} {s:Shared} {h:Heap}
 {Q:Flow->Shared->Prop} {QX:QA0} {E:QV0} {e:Addr} {oe:Obj} {vs:Array Value}
theorem gf_name {pos:Pos} {Q:QV0} (B:zf9) (I:Inv ι σ s) (F:Frm sc ρ env ι s.heap) (hg:zw6 sc "GrammarFault" = true) (h:Q (.ref 72) s):wpAny (model P w) A' (eval (.Name "GrammarFault" pos) env) Q E s:=by
 unfold zw6 at hg;rw [beq_iff_eq] at hg;have hk:=F.kinds "GrammarFault";rw [hg] at hk;rcases hk with hk|⟨q,_⟩
 ·refine el10 (uy9 B I (x:= "GrammarFault") (v:=.cls "GrammarFault") (by rfl)) fun u pq2=>?_
  obtain ⟨r,q⟩:=pq2;have hu:u=.ref 72:=by
   obtain ⟨a,ha,rfl⟩:=r;have:(zw9.all fun p=>p.1 != "GrammarFault"||p.2 == 72)=true:=by decide +kernel
   have h2:=iz0.mp this _ ha;simp only [bne_self_eq_false,ox8,beq_iff_eq] at h2;rw [h2]
  subst hu;have hgl:s.heap.Ns env.globals mg:=by rw [F.glob];exact B.g.keeps I.keep
  have hbb:s.heap.Ns env.builtins mb:=by rw [F.blt];exact B.b.keeps I.keep
  rcases q with q|⟨q1,q2⟩
  ·exact Name_function_global F.kind hk (loadGlobal_global hgl q h) (by decide)
  ·exact Name_function_global F.kind hk (loadGlobal_builtin hgl q1 hbb q2 h) (by decide)
 ·nomatch q
set_option tactic.hygienic true in
theorem gf_class (X:(K0 w.params).In h):Looks (model P w) h (isExcClass (.ref 72)) true:=by
 have g:=wz7 w.params;simp only [iq5,beq_iff_eq] at g;have g2:=gf_is w.params;unfold isExcClass;refine Looks.andThen (a:=true) ?_ ?_
 ·split at g2
  ·rename_i q
   exact (Looks.ld (X _ _ q)).andThen .now
  ·cases g2
 ·simp only [if_true]
  exact looks_subIn X g.1.1.1
theorem ug3 {Q:Bool->Shared->Prop} (X:(K0 w.params).In s.heap) (he:s.heap.get? e=some oe) (hc:oe.cls=.ref 72) (h:Q true s):wpAny (model P w) A (excMatches (.ref e) (.ref 72)) Q E s:=by
 have g:=wz7 w.params;simp only [iq5,beq_iff_eq] at g;unfold excMatches;refine wpAny_bind ((looks_instIn X g.1.2).here ?_);dsimp only [oz3,if_false];refine wpAny_bind (wpAny_pure ?_);simp only [oq9,List.forIn_nil,bind_assoc];refine wpAny_bind ((gf_class X).here ?_);simp only [Bool.not_true,oz3,if_false];refine wpAny_bind (wpAny_pure (wpAny_bind (wpAny_pure (wpAny_bind ((yh8 he hc).here (wpAny_bind ((looks_subIn X g.1.1.2).here ?_)))))));simp only [if_true];exact wpAny_bind (wpAny_pure (wpAny_bind (wpAny_pure (wpAny_pure h))))
set_option tactic.hygienic true in
theorem try_ok {x:Expr} {g:Str} {gp rp hp pos pos' p1:Pos} {kd:Nat} (B:zf9) (ih:EvE C n k) (S:St n A (env::outer) sc ρ env ι σ s) (hf:env.frame=some env.locals) (hn:n0<=s.heap.objs.size)
 (H:zz3 (RS n0 sc env) [env.locals] (if g = "GrammarFault"/\zw6 sc "GrammarFault" = true then tryO ρ (evE C k sc ρ x σ) else .bad) ι s Q QX (EF env E)) :
 wpAny (model P w) A (exec (.Try [.Return (some x) rp] [.ExceptHandler (some (.Name g gp)) none [.Return (some (.Constant .none kd p1)) hp] pos'] [] [] pos) env) Q E s:=by
 split at H
 ·rename_i hg
  obtain ⟨rfl,hg⟩:=hg;have up:∀ {ι':Lay} {h:Heap},Nx [] ι ι' s.heap h->Nx [env.locals] ι ι' s.heap h:=fun N=>N.weaken fun U q=>nomatch q;refine wpAny_Try_except (wpAny_execs_cons (wpAny_Return_some (ih S ?_)));cases er:evE C k sc ρ x σ with
  | bad=>rw [er] at H;exact H.elim
  | ex _=>rw [er] at H;exact H.elim
  | ok v σ'=>rw [er] at H;exact fun ι' u s' N I r=>H ι' _ s' (up N) I ⟨S.F.nx S.I N,(S.fo.nx N).loc hf,u,rfl,r⟩
  | exc σ'=>
   replace H:=er▸H;intro ι' e s' N I t;have Y:Fly [] ι s.heap (env::outer) ι' σ' s':=⟨fun a ha=>zw0 S.I ha,N,I,S.fo.nx N⟩;refine wv3 Y S.rm.frames hf t fun h1 Y1 t1=>yj3 Y1 t1 fun h2 Y2 t2=>?_;have F2:=S.F.nx S.I Y2.n;refine hid fun G kG=>?_;obtain ⟨oe,vs,T,oT,ts,v,he,hn',hc,hd,h1',r⟩:=id t2;have X:=Y2.I.K B;refine kG ?_;refine wpAny_handleBy_cons (codeAny_handlers_test (gf_name (ρ:=ρ) B Y2.I F2 hg (ug3 X he hc ?_))) (by intro q;cases q);dsimp only [if_true];refine codeAny_handlers_suite (yj3 Y2 t2 fun h3 Y3 t3=>?_);have F3:=S.F.nx S.I Y3.n;refine wpAny_execs_cons (wpAny_Return_some (wpAny_Constant_none ?_));exact H ι' _ _ (up Y3.n) Y3.I ⟨F3,Y3.fo.loc hf,.none,rfl,rfl⟩
 ·exact H.elim
end
section
variable {n:Nat}
theorem wb2 {s:Stmt} {e:Expr} (h:retE s=some e):∃ p,s=.Return (some e) p:=by
 cases s with
 | Return o p=>exact ⟨p,congrArg (fun U=>Stmt.Return U p) h⟩
 | _=>exact zz7 h
theorem cnst_inv {e:Expr} {c:Const} (h:cnst e=some c):∃ kd p,e=.Constant c kd p:=by
 exact exConst_ind (M:=fun e x=>x=some c->∃ kd p,e=.Constant c kd p) (fun c' kd p q=>⟨kd,p,congrArg (fun U=>Expr.Constant U kd p) (Option.some.inj q)⟩) (fun e q=>zz7 q) h
theorem uj1 {c:Const} (h:noneC c=true):c=.none:=by cases c <;> first|rfl|exact absurd h ix8
theorem wk4 {s:Stmt} (h:wk5 s=true):∃ kd p1 p,s=.Return (some (.Constant .none kd p1)) p:=by
 unfold wk5 at h;refine ocs ((retE s).elim Option.none cnst) (fun q=>?_) fun c q=>?_
 ·rw [q] at h;exact absurd h ix8
 ·rw [q] at h
  refine oe q fun e e1 e2=>?_;refine el20 (cnst_inv e2) fun kd p1 e3=>?_;refine el10 (wb2 e1) fun p e4=>?_;exact ⟨kd,p1,p,by rw [e4,e3,uj1 h]⟩
theorem hdlG_inv {hd:ExceptHandler} {g:Str} (h:hdlG hd=some g):∃ gp kd p1 p pos,hd=.ExceptHandler (some (.Name g gp)) Option.none [.Return (some (.Constant .none kd p1)) p] pos:=by
 refine hid fun G kG=>?_;obtain ⟨t,n,b,pos⟩:=hd;refine zz9 (ift h) fun hn h=>oe h fun x ex h=>oe ex fun t' et ex=>?_;refine el10 (yx6 ex) fun gp e1=>?_;refine el11 (yy8 h) fun s es h=>zz9 (ifs h) fun hr e2=>?_;refine el30 (wk4 hr) fun kd p1 p e3=>?_;refine kG ?_;exact ⟨gp,kd,p1,p,pos,by rw [et,e1,es,e2,e3,iv3.mp hn]⟩
theorem try_form {A:Around} {outer:List Env} {sc:Scope} {ρ:Rho} {env:Env} {ι:Lay} {σ:zz0} {s:Shared} {n0 k:Nat} {C:zz5} {Q:Flow->Shared->Prop} {QX:QA0} {E:QV0} {st:Stmt} {hd:ExceptHandler} {pos:Pos}
 (B:zf9) (e1:EvE C n k) (S:St n A (env::outer) sc ρ env ι σ s) (hf:env.frame=some env.locals) (hn:n0<=s.heap.objs.size)
 (H:zz3 (RS n0 sc env) [env.locals] (evS C (k + 1) sc (.Try [st] [hd] [] [] pos) ρ σ) ι s Q QX (EF env E)):wpAny (model P w) A (exec (.Try [st] [hd] [] [] pos) env) Q E s:=by
 refine el11 (zz3.opt H) fun e q1 H=>?_;refine el11 (zz3.opt H) fun g q2 H=>?_;refine el10 (wb2 q1) fun p eq1=>?_;subst eq1;refine el50 (hdlG_inv q2) fun gp kd p1 hp pos' eq2=>?_;subst eq2;exact try_ok B e1 S hf hn H
theorem evS_step (B:zf9) (hc:yz7 n) (k:Nat) (ih:EvS (zz4 n) n k):EvS (zz4 n) n (k + 1):=by
 intro A outer sc ρ env ι σ s st n0 Q QX E S hf hn H;refine zg6 (ug6 B hc k) fun e1 e2 e3=>?_;have hj:∀ j,j + 1=k->EvE (zz4 n) n j/\EvT (zz4 n) n j/\EvI (zz4 n) n j:=fun j U=>ug6 B hc j;cases st with
 | Pass pos=>exact wpAny_Pass (H.here S.I ⟨S.F,S.loc hf,rfl⟩)
 | Continue pos=>exact wpAny_Continue (H.here S.I ⟨S.F,S.loc hf,rfl⟩)
 | Expr e pos=>exact expr_ok e1 S hf H
 | Return o pos=>
  cases o with
  | none=>exact wpAny_Return_none (H.here S.I ⟨S.F,S.loc hf,.none,rfl,rfl⟩)
  | some e=>exact ret_ok e1 S hf hn H
 | Assign ts e pos=>
  rcases ts with _|⟨t,_|⟨t2,ts⟩⟩
  ·exact H.elim
  ·exact qz6 (ts:=[t]) B e1 hj S hf H
  ·exact H.elim
 | If t b o pos=>exact if_ok e2 ih S hf hn H
 | While t b o pos=>
  cases o with
  | nil=>exact while_ok e2 ih S hf hn H
  | cons=>exact H.elim
 | For t it b o pos=>
  cases o with
  | cons=>exact H.elim
  | nil=>
   refine el11 (zz3.opt H) fun x qx H=>?_;refine el10 (yx6 qx) fun px e0=>?_;subst e0;exact for_ok e3 ih S hf hn H
 | Raise e c pos=>
  cases c with
  | some c=>exact H.elim
  | none=>cases e with
   | none=>exact H.elim
   | some e=>exact raise_ok B e1 S hf H
 | Try b hs o f pos=>
  cases o with
  | cons=>exact H.elim
  | nil=>cases f with
   | cons=>exact H.elim
   | nil=>
    refine el11 (zz3.opt H) fun st q1 H=>el11 (zz3.opt H) fun hd q2 H=>?_;refine el11 (yy8 q1) fun U z1 z2=>el11 (yy8 q2) fun U z3 z4=>?_;cases Option.some.inj z2;cases Option.some.inj z4;subst z1;subst z3;exact try_form B e1 S hf hn H
 | _=>exact H.elim
theorem wh4 (B:zf9) (hc:yz7 n):∀ k,EvS (zz4 n) n k:=by
 intro k;induction k with
 | zero=>
  exact fun S hf hn H=>False.elim H
 | succ k ih0=>
  exact evS_step B hc k (ih0)
end
theorem uv4 {P:List (Str×Value)} {x:Str} (h:x∉P.map (fun U=>U.1)):P.lookup x=none:=by
 induction P with
 | nil=>rfl
 | cons p P ih=>
  rw [ij2,ix7,not_or] at h;rw [iz2,show (x == p.1)=false from beq_false_of_ne h.1];exact ih h.2
theorem uv3 {P:List (Str×Value)} {x:Str} (h:x∈P.map (fun U=>U.1)):(P.lookup x).isNone=false:=by
 induction P with
 | nil=>cases h
 | cons p P ih=>
  rw [iz2];cases e:x == p.1 with
  | true=>rfl
  | false=>exact ih ((ix7.mp h).resolve_left (ne_of_beq_false e))
theorem loop_add {M:Model} {A:Around} {s:Shared} {Q:List (Str×Value)->Shared->Prop} {E:QV0} (p2:List (Str×Value)):∀ b:List (Str×Value),((b++p2).map (fun U=>U.1)).Nodup->Q (b++p2) s->
 wpAny M A (forIn p2 b fun x r=>if (List.lookup x.1 r).isNone=true then pure (ForInStep.yield (r++[(x.1,x.2)])) else pure (ForInStep.yield r)) Q E s:=by
 induction p2 with
 | nil=>exact fun b U h=>wpAny_pure (iq7 b▸h)
 | cons p r ih=>
  intro b nd h;have hn:p.1∉b.map (fun U=>U.1):=fun q=>by
   rw [iv6,oz7] at nd;exact nd.2.2 _ q _ iz6 rfl
  rw [oq9,if_pos (by rw [uv4 hn];rfl),pure_bind];refine ih (b++[p]) ?_ ?_
  ·rw [iq0];exact nd
  ·rw [iq0];exact h
theorem loop_ok {M:Model} {A:Around} {s:Shared} {Q:List (Str×Value)->Shared->Prop} {E:QV0} {ps p1 p2 b:List (Str×Value)} (e:ps=p1++p2) (h1:∀ x∈p1.map (fun U=>U.1),x∈b.map (fun U=>U.1)) (nd:((b++p2).map (fun U=>U.1)).Nodup) (h:Q (b++p2) s) :
 wpAny M A (forIn ps b fun x r=>if (List.lookup x.1 r).isNone=true then pure (ForInStep.yield (r++[(x.1,x.2)])) else pure (ForInStep.yield r)) Q E s:=by
 subst e;induction p1 with
 | nil=>exact loop_add p2 b nd h
 | cons p r ih=>
  rw [ix2,oq9,if_neg (by rw [uv3 (h1 _ iz6)];exact ix8),pure_bind];exact ih fun x q=>h1 x (ix3 _ q)
theorem fmap_zip {P Q:List (Str×Value)}:((P++Q).map (fun U=>U.1)).Nodup->(Q.map (fun U=>U.1)).filterMap (fun n=>((P++Q).lookup n).map fun v=>(n,v))=Q:=by
 induction Q generalizing P with
 | nil=>exact fun U=>rfl
 | cons p r ih=>
  intro nd;have hn:p.1∉P.map (fun U=>U.1):=fun q=>by
   rw [iv6,oz7] at nd;exact nd.2.2 _ q _ iz6 rfl
  have e:P++p::r=(P++[p])++r:=by rw [iq0];rfl
  rw [ij2,oq8,List.lookup_append,uv4 hn,iz2,beq_self_eq_true];exact congrArg (fun U=>p::U) (e▸ih (e▸nd))
structure BdA (ns:List Str) (vals ds:List Value) (p1 p2:List (Str×Value)):Prop where
 ps:(ns.drop (ns.length - (ds.drop (ds.length - ns.length)).length)).zip (ds.drop (ds.length - ns.length))=p1++p2
 k1:∀ x∈p1.map (fun U=>U.1),x∈(ns.zip vals).map (fun U=>U.1)
 all:ns.zip vals++p2=ns.zip (vals++ds.drop (ds.length - (ns.length - vals.length)))
 key:(ns.zip vals++p2).map (fun U=>U.1)=ns
 k0:∀ x∈ns.take (ns.length - (ds.drop (ds.length - ns.length)).length),x∈(ns.zip vals).map (fun U=>U.1)
theorem bd_ok {ns:List Str} {vals ds:List Value} (l0:ds.length<=ns.length) (l1:vals.length<=ns.length) (l2:ns.length<=vals.length + ds.length):∃ p1 p2,BdA ns vals ds p1 p2:=by
 refine el10 (Nat.le.dest l1) fun k hk=>?_;refine el10 (Nat.le.dest (Nat.le_of_add_le_add_left (hk▸l2))) fun m hm=>?_;have hma:m<=vals.length:=Nat.le_of_add_le_add_left (Nat.add_comm vals.length k▸hm▸hk▸l0);have e1:ns.length - vals.length=k:=by rw [<-hk];exact Nat.add_sub_cancel_left _ _
 have e2:ds.length - k=m:=by rw [<-hm];exact Nat.add_sub_cancel_left _ _
 have e3:ns.length - ds.length=vals.length - m:=by rw [<-hm,<-hk,Nat.add_comm];exact Nat.add_sub_add_left k vals.length m
 have e4:ds.drop (ds.length - ns.length)=ds:=by rw [Nat.sub_eq_zero_of_le l0];rfl
 have lt:(ns.take vals.length).length=vals.length:=List.length_take_of_le l1;have hb:ns.zip vals=(ns.take vals.length).zip vals:=by
  have:=List.zip_append (l₁:=ns.take vals.length) (r₁:=ns.drop vals.length) (l₂:=vals) (r₂:=[]) lt
  rwa [List.take_append_drop,iq7,List.zip_nil_right,iq7] at this
 have kb:(ns.zip vals).map (fun U=>U.1)=ns.take vals.length:=hb▸List.map_fst_zip (ij3 lt);have all:ns.zip vals++(ns.drop vals.length).zip (ds.drop m)=ns.zip (vals++ds.drop m):=by
  rw [hb,<-List.zip_append lt,List.take_append_drop]
 refine ⟨((ns.take vals.length).drop (vals.length - m)).zip (ds.take m),(ns.drop vals.length).zip (ds.drop m),?_,?_,?_,?_,?_⟩
 ·rw [e4,e3,<-List.zip_append (by rw [iw1,lt,Nat.sub_sub_self hma];exact (List.length_take_of_le (hm▸ik4 m k)).symm),List.take_append_drop,<-List.drop_append_of_le_length (by rw [lt];exact Nat.sub_le _ _),List.take_append_drop]
 ·intro x q
  rw [kb];refine List.mem_of_mem_drop (i:=vals.length - m) ?_;rw [List.map_fst_zip (by rw [iw1,lt,Nat.sub_sub_self hma];exact ij3 (List.length_take_of_le (hm▸ik4 m k)).symm)] at q;exact q
 ·rw [e1,e2];exact all
 ·rw [all]
  refine List.map_fst_zip ?_;rw [iq6,iw1,<-hm,Nat.add_sub_cancel,hk];exact iq1 _
 ·rw [e4,e3,kb]
  exact fun x q=>List.take_subset_take_left _ (Nat.sub_le _ _) q
theorem fmap_ok {ns:List Str} {L:List (Str×Value)} (hk:L.map (fun U=>U.1)=ns) (nd:ns.Nodup):(ns++[]).filterMap (fun n=>(L.lookup n).map fun v=>(n,v))=L:=by
 rw [iq7,<-hk];exact fmap_zip (P:=[]) (hk.symm▸nd)
theorem ux3 {p:Arguments} (h1:p.posonlyargs=[]) (h2:p.kwonlyargs=[]) (h3:p.vararg=none) (h4:p.kwarg=none):{ p with posonlyargs:=[],kwonlyargs:=[],vararg:=none,kwarg:=none }=p:=by
 cases p;cases h1;cases h2;cases h3;cases h4;rfl
theorem wg9 {M:Model} {A:Around} {s:Shared} {fd:FuncData} {vals ds:List Value} {o:Option (Array Value)} {Q:List (Str×Value)->Shared->Prop} {E:QV0} (h1:fd.params.posonlyargs=[]) (h2:fd.params.kwonlyargs=[]) (h3:fd.params.vararg=none) (h4:fd.params.kwarg=none)
 (hnd:(fd.params.args.map (fun U=>U.arg)).Nodup) (hd:Looks M s.heap (seqItems? fd.defaults) o) (ho:(o.getD #[]).toList=ds) (l0:ds.length<=fd.params.args.length) (l1:vals.length<=fd.params.args.length) (l2:fd.params.args.length<=vals.length + ds.length)
 (h:Q ((fd.params.args.map (fun U=>U.arg)).zip (vals++ds.drop (ds.length - (fd.params.args.length - vals.length)))) s):wpAny M A (bindArgs fd ⟨vals,[]⟩) Q E s:=by
 subst ho;have hl:(fd.params.args.map (fun U=>U.arg)).length=fd.params.args.length:=iq9 ..;rw [<-hl] at l0 l1 l2 h;refine el20 (bd_ok l0 l1 l2) fun p1 p2 B=>?_;rw [<-B.all] at h;refine hid fun G kG=>?_;have hm:((fd.params.args.map (fun U=>U.arg)).take ((fd.params.args.map (fun U=>U.arg)).length - ((o.getD #[]).toList.drop ((o.getD #[]).toList.length - (fd.params.args.map (fun U=>U.arg)).length)).length)).filter (fun n=>(((fd.params.args.map (fun U=>U.arg)).zip vals).lookup n).isNone)=[]:=
  List.filter_eq_nil_iff.mpr fun x q z=>absurd z (by rw [uv3 (B.k0 x q)];exact ix8)
 have hr:=Eq.mpr (congrArg (fun l=>Q l s) (fmap_ok B.key hnd)) h;refine kG ?_
 delta bindArgs
 refine ux3 h1 h2 h3 h4▸?_;refine wpAny_bind (wpAny_pure (wpAny_bind (hd.here ?_)));refine wpAny_ite_false (c:=(decide (vals.length > ((fd.params.args.map (fun U=>U.arg)).length))&&true)=true) (decide_eq_false (by rw [iw6];exact fun q=>Nat.not_lt_of_le l1 (of_decide_eq_true q))) ?_;refine wpAny_ite_false (decide_eq_false (hm.symm▸ix8)) ?_;refine wpAny_bind (loop_ok B.ps B.k1 (B.key.symm▸hnd) ?_);exact wpAny_bind (wpAny_pure (wpAny_ite_false (decide_eq_false ix8) (wpAny_pure hr)))
structure Laid (s0:Shared) (L:Addr) (env:Env) (done:List (Str×Value)) (s':Shared):Prop where
 same:∃ h tk,s'={ s0 with heap:=h,toks:=tk }/\s0.toks + (done.filter fun p=>env.kindOf p.1 == some .local).length<=tk
 ns:∃ m,s'.heap.Ns L m/\∀ n u,(n,u)∈done->env.kindOf n=some .local->m n=some u
 fl:yj9 s'.heap L
 cell:∀ n u,(n,u)∈done->env.kindOf n=some .cell->∃ c,env.cells.lookup n=some c/\s'.heap.IsCell c (some u)
 free:∀ n c,env.cells.lookup n=some c->env.kindOf n=some .cell->n∉done.map (fun U=>U.1)->s'.heap.IsCell c none
 keep:∀ b o,s0.heap.get? b=some o->s'.heap.get? b=some o
theorem Laid.toks {s0 s':Shared} {L:Addr} {env:Env} {done:List (Str×Value)} (x:Laid s0 L env done s'):s0.toks + (done.filter fun p=>env.kindOf p.1 == some .local).length<=s'.toks:=by
 refine el21 x.same fun h tk eq1 q=>?_;subst eq1;exact q
theorem xy8 {h:Heap} {L c:Addr} {v:Option Value} (fl:yj9 h L) (x:h.IsCell c v):c≠L:=by
 rintro rfl;refine el11 fl fun o e pq2=>?_;obtain ⟨_,es,m,d⟩:=pq2;refine el11 x fun o' e' d'=>?_;rw [e] at e';cases e';rw [d] at d';cases d'
theorem yj9.sameBut {h h':Heap} {L c:Addr} (fl:yj9 h L) (hs:Heap.SameBut c h h') (hc:c≠L):yj9 h' L:=by
 refine el11 fl fun o e r=>?_;exact ⟨o,(hs.2 L hc.symm).trans e,r⟩
section
variable {A:Around} {s0:Shared} {L:Addr} {env:Env} {E:QV0}
theorem vh0 (hk:env.scope.kind=.function) (hL:env.locals=L) (hs0:s0.heap.objs.size<=L) (above:∀ n c,env.cells.lookup n=some c->env.kindOf n=some .cell->L < c)
 (apart:∀ n n' c,env.cells.lookup n=some c->env.cells.lookup n'=some c->env.kindOf n=some .cell->env.kindOf n'=some .cell->n=n')
 (f:Str×Value->PUnit->Sem (ForInStep PUnit)) (hf:∀ n v u,f (n,v) u=(do storeName env n v;pure (.yield ⟨⟩))) :
 ∀ (rest done:List (Str×Value)) (s:Shared) (Q:PUnit->Shared->Prop),Laid s0 L env done s->((done++rest).map (fun U=>U.1)).Nodup->
  (∀ x∈rest,env.kindOf x.1=some .local\/(env.kindOf x.1=some .cell/\(env.cells.lookup x.1).isSome=true))->(∀ s',Laid s0 L env (done++rest) s'->Q ⟨⟩ s')->wpAny (model P w) A (forIn rest ⟨⟩ f) Q E s:=by
 intro rest;induction rest with
 | nil=>
  intro done s Q x U U h;rw [iq7] at h;exact wpAny_pure (h s x)
 | cons p0 r ih0=>
  obtain ⟨n,v⟩:=p0;intro done s Q x nd hkind h;rw [oq9,hf];have nd2:((done++[(n,v)]++r).map (fun U=>U.1)).Nodup:=by rw [iq0];exact nd
  have hr:∀ y∈r,env.kindOf y.1=some .local\/(env.kindOf y.1=some .cell/\(env.cells.lookup y.1).isSome=true):=fun y hy=>hkind y (ix3 _ hy);have hnew:n∉done.map (fun U=>U.1):=fun q=>by
   rw [iv6,oz7] at nd;exact absurd rfl (nd.2.2 n q n (by simp))
  refine hid fun G kG=>?_;refine el21 x.same fun h0 tk eq2 htk=>?_;subst eq2;refine el11 x.ns fun m hns hm=>?_;refine kG ?_;have go:∀ s',Laid s0 L env (done++[(n,v)]) s'->wpAny (model P w) A (forIn r ⟨⟩ f) Q E s':=fun s' x'=>by
   refine ih0 _ s' Q x' nd2 hr fun s'' x''=>h s'' ?_;rw [iq0] at x'';exact x''
  rcases hkind (n,v) iz6 with hl|⟨hl,hc⟩
  ·refine wpAny_bind (wpAny_bind ?_)
   rw [storeName_local hl (by rw [hk];rfl),hL];refine yf9 hns x.fl n v fun h' hns' hs' fl'=>wpAny_pure (go _ ?_);refine ⟨⟨h',tk + 1,rfl,by rw [List.filter_append,iq6];have:([(n,v)].filter fun p=>env.kindOf p.1 == some .local).length<=1:=List.length_filter_le _ _;exact l42 0x1391a871113a198171 htk this⟩,⟨_,hns',fun n' u' hm' hl'=>?_⟩,fl',fun n' u' hm' hl'=>?_,fun n' c hc' hl' hnd=>?_,fun b o e=>?_⟩
   ·rcases iz5.mp hm' with q|q
    ·have:n'≠n:=fun z=>hnew (z▸ik5.mpr ⟨_,q,rfl⟩)
     refine (if_neg this).symm▸?_;exact hm n' u' q hl'
    ·rw [iq4] at q
     cases q;exact if_pos rfl
   ·rcases iz5.mp hm' with q|q
    ·refine el11 (x.cell n' u' q hl') fun c g1 g2=>?_
     exact ⟨c,g1,g2.sameBut hs' (xy8 x.fl g2)⟩
    ·rw [iq4] at q
     cases q;rw [hl] at hl';cases hl'
   ·have hnd':n'∉done.map (fun U=>U.1):=fun q=>hnd (by rw [iv6];exact List.mem_append_left _ q)
    have g2:=x.free n' c hc' hl' hnd';exact g2.sameBut hs' (xy8 x.fl g2)
   ·exact (hs'.2 b (ij5 (iq3 (Heap.lt_size e) hs0))).trans (x.keep b o e)
  ·refine el10 (ik0.mp hc) fun c hc=>?_
   have hcell:=x.free n c hc hl hnew;have hcL:=xy8 x.fl hcell;refine wpAny_bind (wpAny_bind (wpAny_storeName_cell hk hl hc hcell fun h' hc' hs'=>wpAny_pure (go _ ?_)));refine ⟨⟨h',tk,rfl,by
    have z:([(n,v)].filter fun p=>env.kindOf p.1 == some .local)=[]:=by simp [hl]
    rw [List.filter_append,z,iq7];exact htk⟩,⟨m,hns.sameBut hs' hcL.symm,fun n' u' hm' hl'=>?_⟩,x.fl.sameBut hs' hcL,fun n' u' hm' hl'=>?_,fun n' c' hc2 hl' hnd=>?_,fun b o e=>?_⟩
   ·rcases iz5.mp hm' with q|q
    ·exact hm n' u' q hl'
    ·rw [iq4] at q
     cases q;rw [hl] at hl';cases hl'
   ·rcases iz5.mp hm' with q|q
    ·refine el11 (x.cell n' u' q hl') fun c' g1 g2=>?_
     refine ⟨c',g1,g2.sameBut hs' fun z=>?_⟩;subst z;exact hnew (apart n' n c' g1 hc hl' hl▸ik5.mpr ⟨_,q,rfl⟩)
    ·rw [iq4] at q
     cases q;exact ⟨c,hc,hc'⟩
   ·refine hid fun G kG=>?_
    have hnd':n'∉done.map (fun U=>U.1):=fun q=>hnd (by rw [iv6];exact List.mem_append_left _ q);refine kG ?_;refine (x.free n' c' hc2 hl' hnd').sameBut hs' fun z=>?_;subst z;exact hnd (by rw [apart n' n c' hc2 hc hl' hl];simp)
   ·have hlt:=above n c hc hl
    exact (hs'.2 b (ij5 (Nat.lt_trans (iq3 (Heap.lt_size e) hs0) hlt))).trans (x.keep b o e)
theorem xz7:∀ (names:List (Str×NameKind)) (k:Nat) (acc:List (Str×Addr)),(∀ x∈names,x.2≠.cell)->cellsFrom k names acc=acc:=by
 intro names;induction names with
 | nil=>
  intro U U U;exact rfl
 | cons p0 r ih0=>
  obtain ⟨name,kind⟩:=p0;intro k acc h;unfold cellsFrom;have:(kind == NameKind.cell)=false:=by simpa using h _ iz6
  rw [if_neg (by rw [this];decide)];exact ih0 k acc fun x hx=>h x (ix3 _ hx)
theorem xy7:∀ (names:List (Str×NameKind)) (k:Nat) (acc:List (Str×Addr)) (n:Str),(acc.lookup n).isSome=true->((cellsFrom k names acc).lookup n).isSome=true:=by
 intro names;induction names with
 | nil=>
  intro U U U h;exact h
 | cons p0 r ih0=>
  obtain ⟨name,kind⟩:=p0;intro k acc n h;unfold cellsFrom;split
  ·refine ih0 _ _ n ?_
   rw [iz2];split
   ·rfl
   ·exact h
  ·exact ih0 _ _ n h
theorem xz6:∀ (names:List (Str×NameKind)) (k:Nat) (acc:List (Str×Addr)) (n:Str),(n,NameKind.cell)∈names->((cellsFrom k names acc).lookup n).isSome=true:=by
 intro names;induction names with
 | nil=>
  intro U U U h;exact nomatch h
 | cons p0 r ih0=>
  obtain ⟨name,kind⟩:=p0;intro k acc n h;unfold cellsFrom;rcases ix7.mp h with q|q
  ·cases q
   refine xy7 r _ _ _ ?_;simp
  ·split
   ·exact ih0 _ _ n q
   ·exact ih0 _ _ n q
theorem xy0 {scope:Scope} {globals:Addr} {closure:List (Str×Addr)} {binds:List (Str×Value)} {qual:Str} {func:Option Addr} {code:Value} {builtins:Addr} {Q:Env->Shared->Prop} (hk:scope.kind=.function)
 (hcl:closure=[]\/∀ x∈scope.names,x.2≠.cell) (hnd:(binds.map (fun U=>U.1)).Nodup) (hb:∀ x∈binds,scope.names.lookup x.1=some .local\/scope.names.lookup x.1=some .cell)
 (h:∀ cells s',(closure=[]\/cells=closure)->Laid s0 s0.heap.objs.size (newEnv scope s0.heap.objs.size globals cells qual func code none builtins) binds s'->Q (newEnv scope s0.heap.objs.size globals cells qual func code none builtins) s') :
 wpAny (model P w) A (newFunctionEnv scope globals closure binds qual func code none builtins) Q E s0:=by
 simp only [newFunctionEnv,Option.isSome_none,oz3,if_false];refine wpAny_bind (wpAny_alloc ?_);refine wpAny_bind (wpAny_layCells _ (fun name kind cells=>by cases hkc:kind == NameKind.cell <;> simp [hkc]) _ _ _ _ ?_);rw [show ({ s0 with heap:=s0.heap.push { cls:=.type "frame",data:=.dict #[]}}:Shared).heap.objs.size=s0.heap.objs.size + 1 from Heap.size_push ..];have ok:=cellsFrom_ok scope.names (s0.heap.push { cls:=.type "frame",data:=.dict #[]}) (s0.heap.objs.size + 1) [] ⟨fun U U hm=>(nomatch hm),List.Pairwise.nil⟩ (by rw [Heap.size_push];exact iq1 _);rw [Heap.size_push] at ok;have hmem:∀ {n:Str},scope.names.lookup n=some .cell->(n,NameKind.cell)∈scope.names:=fun q=>mem_of_lookup q;have hcs:∀ n,scope.names.lookup n=some .cell->closure=[]:=fun n q=>hcl.resolve_right fun z=>z _ (hmem q) rfl;have hlk:∀ n c,scope.names.lookup n=some .cell->(cellsFrom (s0.heap.objs.size + 1) scope.names closure).lookup n=some c->(n,c)∈cellsFrom (s0.heap.objs.size + 1) scope.names []:=fun n c q z=>by
  rw [hcs n q] at z;exact mem_of_lookup z
 refine wpAny_bind (vh0 (s0:=s0) (L:=s0.heap.objs.size) (env:=newEnv scope s0.heap.objs.size globals (cellsFrom (s0.heap.objs.size + 1) scope.names closure) qual func code none builtins) hk rfl (iq1 _)
  (fun n c q z=>(ok.empty n c (hlk n c z q)).2) (fun n n' c q q' z z'=>name_of_addr ok.apart (hlk n c z q) (hlk n' c z' q')) _ (fun U U U=>rfl) binds [] _ _ ?_ hnd (fun x hx=>?_) fun s' x=>wpAny_pure (h _ s' ?_ x))
 ·have hL:(s0.heap.push { cls:=.type "frame",data:=.dict #[]}).get? s0.heap.objs.size=some { cls:=.type "frame",data:=.dict #[]}:=Heap.get?_push_size _ rfl
  refine ⟨⟨_,_,rfl,iq1 _⟩,⟨_,(Heap.Ns.new s0.heap (.type "frame")).keeps (pushCells_keeps _ _),fun U U q=>(nomatch q)⟩,⟨_,pushCells_keeps _ _ _ _ hL,rfl,_,_,rfl⟩,fun U U q=>(nomatch q),fun n c q z U=>(ok.empty n c (hlk n c z q)).1,fun b o e=>pushCells_keeps _ _ b o (Heap.get?_push_of_some _ e)⟩
 ·rcases hb x hx with q|q
  ·exact .inl q
  ·exact .inr ⟨q,xz6 _ _ _ _ (hmem q)⟩
 ·rcases hcl with q|q
  ·exact .inl q
  ·exact .inr (xz7 _ _ _ q)
end
noncomputable def asB (v:V):Option Bool:=V.casesOn (motive_1:=fun U=>Option Bool) v Option.none (fun b=>some b) (fun U=>.none) (fun U=>.none) (fun U=>.none) (fun U=>.none) (fun U=>.none) (fun U=>.none) (fun U=>.none) (fun U=>.none) (fun U U=>.none) (fun U U U U U=>.none) (fun U=>.none)
theorem asB_eq {v:V} {b:Bool} (e:asB v=some b):v=.bool b:=by cases v <;> first|exact zz7 e|exact congrArg V.bool (Option.some.inj e)
noncomputable def relF (v:V) (x:Value):Bool:=Value.casesOn (motive:=fun U=>Bool) x (isNone v == some true) (false) (false) (fun b=>asB v == some b) (fun i U=>zj9 v == some i) (fun U U=>false) (fun s U=>zx9 v == some s.cps.toList) (fun U U=>false) (fun U=>false) (fun U=>false) (fun U=>false)
noncomputable def relL (f:V->Value->Bool) (l:List V):List Value->Bool:=List.rec (fun xs=>xs.isEmpty) (fun v U ih xs=>List.casesOn xs false fun x xs=>f v x&&ih xs) l
noncomputable def typOf (x:Value):Option String:=Value.casesOn (motive:=fun U=>Option String) x (.none) (.none) (.none) (fun U=>.none) (fun U U=>.none) (fun U U=>.none) (fun U U=>.none) (fun U U=>.none) (fun a=>some a) (fun U=>.none) (fun U=>.none)
noncomputable def seqD (d:Data):Option (List Value):=Data.casesOn (motive:=fun U=>Option (List Value)) d (.none) (fun U=>.none) (fun xs U=>some xs.toList) (fun U U=>.none) (fun U U U=>.none) (fun U U=>.none) (fun U=>.none) (fun U=>.none) (fun U=>.none) (fun U=>.none) (.none)
noncomputable def relK (K:Frag) (v:V) (x:Value):Bool:=(zj2 v).elim (relF v x) fun l=>(refOf x).elim false fun a=>(K.lookup a).elim false fun o=>typOf o.cls == some "tuple"&&(seqD o.data).elim false fun xs=>relL relF l xs
noncomputable def relKs (K:Frag):List V->List Value->Bool:=relL (relK K)
noncomputable def dfls (K:Frag) (x:Value):Option (List Value):=Value.casesOn (motive:=fun U=>Option (List Value)) x (some []) (.none) (.none) (fun U=>.none) (fun U U=>.none) (fun U U=>.none) (fun U U=>.none) (fun U U=>.none) (fun U=>.none) (fun U=>.none) (fun a=>(K.lookup a).elim .none fun o=>seqD o.data)
theorem refOf_eq {x:Value} {a:Addr} (e:refOf x=some a):x=.ref a:=by cases x <;> first|exact zz7 e|exact congrArg Value.ref (Option.some.inj e)
theorem typOf_eq {x:Value} {a:String} (e:typOf x=some a):x=.type a:=by cases x <;> first|exact zz7 e|exact congrArg Value.type (Option.some.inj e)
theorem vp7 {d:Data} {xs:List Value} (e:seqD d=some xs):∃ n,d=.seq xs.toArray n:=by
 cases d <;> first|exact zz7 e|(cases Option.some.inj e;exact ⟨_,rfl⟩)
theorem eb {α:Type} {o:Option α} {f:α->Bool} (h:o.elim false f=true):∃ a,o=some a/\f a=true:=by
 cases o with
 | none=>exact absurd h ix8
 | some a=>exact ⟨a,rfl,h⟩
theorem vj6 {o:Option Obj} {v:Value} (e:yf2 o=some v):∃ c d vs sl,o=some ⟨c,d,.fields vs,sl⟩/\vs[1]?=some v:=by
 cases o with
 | none=>nomatch e
 | some o=>
  obtain ⟨c,d,da,sl⟩:=o;cases da <;> first|exact ⟨_,_,_,_,rfl,e⟩|nomatch e
theorem vx0 {h:Heap} (B:zf9) (k:∀ b o,hb.get? b=some o->h.get? b=some o) {f:Fn} (hf:f∈fns):h.CodeRec (.ref f.c) f.q:=
 el40 (vj6 (B.codes f hf)) fun c d vs sl q=>⟨f.c,_,vs,f.ct,rfl,k _ _ q.1,rfl,q.2⟩
noncomputable def fdG (P:Params) (f:Fn) (ps:Arguments) (sc:Scope):Bool:=sc.kind == .function&&!sc.isGenerator&&!sc.isCoroutine&&ps.posonlyargs.isEmpty&&ps.kwonlyargs.isEmpty&&ps.vararg.isNone&&ps.kwarg.isNone&&decide (ps.args.map (fun U=>U.arg)).Nodup&&
 (ps.args.map (fun U=>U.arg)).all (fun x=>sc.names.lookup x == some .local||sc.names.lookup x == some .cell)&&(!xw5 sc||yw5.any fun q=>q.1 == f.c&&(f.q++ ".<locals>."++ "<lambda>" == yg9 q.2))&&
 (xy1 ps.defaults).elim true (fun ds=>(dfls (K0 P) f.dfl).elim false fun xs=>relKs (K0 P) ds xs&&decide (ds.length<=ps.args.length))&&(f.q != "law"||(ps.args.map (fun U=>U.arg) == [Str.ofString "script"]&&sc.names.lookup (Str.ofString "script") == some .local))
structure FG (P:Params) (f:Fn) (ps:Arguments) (sc:Scope):Prop where
 kind:sc.kind=.function
 gen:sc.isGenerator=false
 cor:sc.isCoroutine=false
 po:ps.posonlyargs=[]
 ko:ps.kwonlyargs=[]
 va:ps.vararg=Option.none
 kw:ps.kwarg=Option.none
 nd:(ps.args.map (fun U=>U.arg)).Nodup
 ns:∀ y∈ps.args.map (fun U=>U.arg),sc.names.lookup y=some .local\/sc.names.lookup y=some .cell
 lam:xw5 sc=true->∃ t∈yw5,t.1=f.c/\f.q++ ".<locals>."++ "<lambda>" = yg9 t.2
 df:∀ ds,xy1 ps.defaults=some ds->∃ xs,dfls (K0 P) f.dfl=some xs/\relKs (K0 P) ds xs=true/\ds.length<=ps.args.length
 law:f.q = "law"->ps.args.map (fun U=>U.arg)=[Str.ofString "script"]/\sc.names.lookup (Str.ofString "script")=some .local
theorem fdG_ok {P:Params} {f:Fn} {ps:Arguments} {sc:Scope} (h:fdG P f ps sc=true):FG P f ps sc:=by
 refine zz9 (bb h) fun h g12=>zz9 (bb h) fun h g11=>zz9 (bb h) fun h g10=>zz9 (bb h) fun h g9=>zz9 (bb h) fun h g8=>zz9 (bb h) fun h g7=>zz9 (bb h) fun h g6=>zz9 (bb h) fun h g5=>zz9 (bb h) fun h g4=>zz9 (bb h) fun h g3=>zz9 (bb h) fun g1 g2=>?_;refine ⟨beq_iff_eq.mp g1,(ij9 _).mp g2,(ij9 _).mp g3,ik3.mp g4,ik3.mp g5,iv3.mp g6,iv3.mp g7,of_decide_eq_true g8,fun y hy=>?_,fun q=>?_,fun ds e=>?_,fun q=>?_⟩
 ·exact ((iw3 _ _).mp (iz0.mp g9 y hy)).imp beq_iff_eq.mp beq_iff_eq.mp
 ·rw [q] at g10
  refine el11 (iw9.mp g10) fun t ht z=>zz9 (bb z) fun z1 z2=>?_;exact ⟨t,ht,beq_iff_eq.mp z1,beq_iff_eq.mp z2⟩
 ·rw [e] at g11
  refine el11 (eb g11) fun xs ex z=>zz9 (bb z) fun z1 z2=>?_;exact ⟨xs,ex,z1,of_decide_eq_true z2⟩
 ·rw [q] at g12
  refine zz9 (bb g12) fun z1 z2=>?_;exact ⟨beq_iff_eq.mp z1,beq_iff_eq.mp z2⟩
theorem fdN_ind {M:Stmt->Option (Str×Arguments×List Stmt×Scope)->Prop} (h:∀ n ps b a1 a2 a3 sc a4 a5 a6,M (.FunctionDef n ps b a1 a2 a3 sc a4 a5 a6) (some (n,ps,b,sc))) (z:∀ s,M s Option.none) (s:Stmt):M s (fdN s):=by
 cases s with
 | FunctionDef=>exact h ..
 | _=>exact z _
noncomputable def fnGood (P:Params) (f:Fn):Bool:=((fnAt f.q).elim false fun g=>g.i == f.i&&g.j == f.j)&&((zg1 f.i f.j).elim .none fdN).elim false fun p=>fdG P f p.2.1 p.2.2.2
theorem vq2 (P:Params):(fns.all (fnGood P))=true:=by rfl
theorem fg_of (P:Params) {f:Fn} (hf:f∈fns) {nm:Str} {ps:Arguments} {b:List Stmt} {a1:List Expr} {a2:Option Expr} {a3:List TypeParam} {sc:Scope} {a4:Option Scope} {a5:Str} {a6:Pos} (est:zg1 f.i f.j=some (.FunctionDef nm ps b a1 a2 a3 sc a4 a5 a6)):FG P f ps sc:=by
 have good:=(bb (iz0.mp (vq2 P) f hf)).2;rw [est] at good;exact fdG_ok good
theorem fn_facts {C:Prop} (P:Params) {f:Fn} (hf:f∈fns) (k:yw8 f.q=zg1 f.i f.j->∀ nm ps body d1 d2 d3 sc d4 d5 d6,zg1 f.i f.j=some (.FunctionDef nm ps body d1 d2 d3 sc d4 d5 d6)->FG P f ps sc->C):C:=by
 have good:=iz0.mp (vq2 P) f hf;refine zz9 (bb good) fun g0 good=>?_;refine el11 (eb g0) fun g eg g0=>zz9 (bb g0) fun gi gj=>?_;have hst:yw8 f.q=zg1 f.i f.j:=by
  unfold yw8;rw [eg];show zg1 g.i g.j=_;rw [beq_iff_eq.mp gi,beq_iff_eq.mp gj]
 refine el11 (eb good) fun p ep good=>?_;refine oe ep fun st est ep=>?_;refine fdN_ind (M:=fun s o=>o=some p->zg1 f.i f.j=some s->C) (fun n ps body a1 a2 a3 sc a4 a5 a6 q est=>?_) (fun s q=>zz7 q) st ep est;cases q;exact k hst _ _ _ _ _ _ _ _ _ _ est (fdG_ok good)
theorem wq0:(fns.map (fun U=>U.a)).Nodup:=by decide +kernel
theorem xp6:∀ {l:List Fn} {r:Frag} {f:Fn},(l.map (fun U=>U.a)).Nodup->f∈l->(l.map (fun f=>(f.a,f.obj))++r).lookup f.a=some f.obj:=by
 intro l;induction l with
 | nil=>
  intro U U U h;exact nomatch h
 | cons g l ih0=>
  intro r f nd h;rw [ij2,List.nodup_cons] at nd;rw [ij2,ix2,iz2];rcases ix7.mp h with q|q
  ·subst q;simp
  ·have:f.a≠g.a:=fun z=>nd.1 (z▸ik5.mpr ⟨f,q,rfl⟩)
   rw [show (f.a == g.a)=false from by simpa using this];exact ih0 nd.2 q
section
variable {ι:Lay} {h:Heap}
set_option tactic.hygienic true in
theorem uz7 (v:V) (x:Value) (e:relF v x=true):Rel ι h v x:=by
 cases x <;> first|exact absurd e ix8|skip
 case none=>rw [wv4 (beq_iff_eq.mp e)];exact rfl
 case bool=>rw [asB_eq (beq_iff_eq.mp e)];exact rfl
 case int i t=>rw [yj7 (beq_iff_eq.mp e)];exact ⟨t,rfl⟩
 case str s t=>rw [yj6 (beq_iff_eq.mp e)];exact ⟨t,rfl⟩
theorem uz6 {f:V->Value->Bool} (hf:∀ v x,f v x=true->Rel ι h v x) (l:List V):∀ xs:List Value,relL f l xs=true->zq2 ι h l xs:=by
 induction l with
 | nil=>exact fun xs e=>ik3.mp e
 | cons v l ih=>
  intro xs e;cases xs with
  | nil=>exact absurd e ix8
  | cons x xs=>exact ⟨x,xs,rfl,hf v x (bb e).1,ih xs (bb e).2⟩
theorem relK_ok {K:Frag} (X:K.In h) (v:V) (x:Value) (e:relK K v x=true):Rel ι h v x:=by
 unfold relK at e;refine ocs (zj2 v) (fun et=>?_) fun l et=>?_
 ·rw [et] at e;exact uz7 v x e
 ·rw [et] at e
  refine el11 (eb e) fun a e1 e=>el11 (eb e) fun o e2 e=>zz9 (bb e) fun e3 e=>el11 (eb e) fun xs e4 e=>?_;refine el10 (vp7 e4) fun n e5=>?_;rw [zf7 et,refOf_eq e1];exact ⟨a,xs,rfl,⟨o,X _ _ e2,typOf_eq (beq_iff_eq.mp e3),n,e5⟩,uz6 uz7 l xs e⟩
theorem wb4 {K:Frag} (X:K.In h) {l:List V} {xs:List Value} (e:relKs K l xs=true):zq2 ι h l xs:=uz6 (relK_ok X) l xs e
set_option tactic.hygienic true in
theorem uf1 {M:Model} {K:Frag} (X:K.In h) {x:Value} {xs:List Value} (e:dfls K x=some xs):∃ o,Looks M h (seqItems? x) o/\(o.getD #[]).toList=xs:=by
 cases x <;> first|exact zz7 e|skip
 case none=>cases Option.some.inj e;exact ⟨none,Looks.of_pure rfl,rfl⟩
 case ref a=>
  refine oe e fun o q e=>el10 (vp7 e) fun n e5=>?_;exact ⟨some xs.toArray,fun A Q E s k z=>wpAny_seqItems (k _ _ (X _ _ q)) e5 z,rfl⟩
theorem zq2.drop:∀ {l:List V} {xs:List Value} {n:Nat},zq2 ι h l xs->zq2 ι h (l.drop n) (xs.drop n)
 | _,_,0,r=>r
 | [],xs,n + 1,r=>by
  subst r;rfl
 | v::l,xs,n + 1,r=>by
  refine el22 r fun x ys eq1 U rs=>?_;subst eq1;simpa using zq2.drop rs
theorem yf3 {y:Str} {v:V}:∀ {ns:List Str} {vs:List V} {us:List Value},zq2 ι h vs us->(ns.zip vs).lookup y=some v->y∈ns/\∃ u,(y,u)∈ns.zip us/\Rel ι h v u:=by
 intro ns;induction ns with
 | nil=>
  intro U U U e;simp at e
 | cons n ns ih0=>
  intro l0;cases l0 with
  | nil=>
   intro U U e;simp at e
  | cons v' vs=>
   intro us r e;refine el22 r fun x ys eq2 rx rs=>?_;subst eq2;rw [ik1,iz2] at e;by_cases q:y=n
   ·subst q
    simp at e;subst e;exact ⟨iz6,x,by simp,rx⟩
   ·rw [show (y == n)=false from by simpa using q] at e
    obtain ⟨g1,u,g2,g3⟩:=ih0 rs e;exact ⟨ix3 _ g1,u,by rw [ik1];exact ix3 _ g2,g3⟩
end
structure Rc (A:Around) (n:Nat) (fr:List Env):Prop where
 depth:A.depth + 1 + 2 * n < recursionLimit
 units:A.units + 3 + 8 * n + 101<=cLine
 frames:A.frames=some fr
 handled:A.handled=none
theorem Rm.rc {A:Around} {n:Nat} {fr:List Env} (rm:Rm A (n + 1) fr):Rc A n fr:=⟨by have:=rm.depth;exact l21 0x00003e8413138122711100003e8413822137111 this,by have:=rm.units;exact l21 0x00026ac4656138182711100026ac4656882337111 this,rm.frames,rm.handled⟩
section
variable {n n0:Nat} {C:zz5} {A:Around} {fr:List Env} {sc:Scope} {ρ:Rho} {env:Env} {ι ι2:Lay} {σ σ':zz0} {s s' s2:Shared} {h:Heap}
 {Q:QV0} {QX:QA0} {E:QV0} {e L:Addr}
theorem uw8 {cells:List (Str×Addr)} {qual:Str} {func:Option Addr} {code:Value} {ns:List Str} {vs:List V} {us:List Value} (rm:Rc A n fr) (fo:xj5 ι s.heap fr) (In:Inv ι σ s) (tk:0 < s'.toks)
 (x:Laid s s.heap.objs.size (newEnv sc s.heap.objs.size mainGlobals cells qual func code none builtinsNs) (ns.zip us) s') (hk:sc.kind=.function) (rs:zq2 ι s.heap vs us)
 (hns:∀ y∈ns,sc.names.lookup y=some .local\/sc.names.lookup y=some .cell)
 (hρ:∀ y v,ρ.lookup y=some v->(ns.zip vs).lookup y=some v\/(sc.names.lookup y=some .free/\∃ c u,cells.lookup y=some c/\s.heap.IsCell c (some u)/\Rel ι s.heap v u))
 (hlam:xw5 sc=true->∃ q∈yw5,code=.ref q.1/\qual++ "<lambda>" = yg9 q.2) :
 St n (A.deeper (newEnv sc s.heap.objs.size mainGlobals cells qual func code none builtinsNs)) (newEnv sc s.heap.objs.size mainGlobals cells qual func code none builtinsNs::fr) sc ρ (newEnv sc s.heap.objs.size mainGlobals cells qual func code none builtinsNs) ι σ s'/\Nx [] ι ι s.heap s'.heap:=by
 refine el21 x.same fun h t eq1 ht=>?_;subst eq1;have hz:s.heap.objs.size<=h.objs.size:=by
  refine el11 x.fl fun o e U=>?_;exact oz9 (Heap.lt_size e)
 refine zz9 (In.more (h':=h) hz x.keep t) fun I' N=>?_;have O:=yf8 (a:=s.heap.objs.size) In (iq1 _);have ap:∀ p∈ι,p.2≠s.heap.objs.size:=fun p hp=>(O.lay p hp).2;refine ⟨⟨I',⟨hk,rfl,rfl,fun y=>.inl rfl,?_,fun y v q r=>?_,hlam,ap,O.tab,O.base⟩,⟨?_,?_,?_,rm.handled⟩,fun en he=>?_,tk⟩,N⟩
 ·refine el11 x.ns fun m hm1 hm2=>?_
  refine ⟨m,hm1,fun y v q r=>?_⟩;rcases hρ y v q with z|⟨z,_⟩
  ·obtain ⟨_,u,g2,g3⟩:=yf3 rs z
   exact ⟨u,hm2 y u g2 r,g3.nx In (zq1 _) N⟩
  ·rw [z] at r;cases r
 ·rcases hρ y v q with z|⟨z,c,u,g1,⟨o,g2,g3⟩,g4⟩
  ·refine hid fun G kG=>?_
   obtain ⟨g1,u,g2,g3⟩:=yf3 rs z;refine kG ?_;rcases hns y g1 with q1|q1
   ·rw [q1] at r
    rcases r with r|r <;> cases r
   ·refine el11 (x.cell y u g2 q1) fun c g4 g5=>?_
    exact ⟨c,u,g4,g5,g3.nx In (zq1 _) N⟩
  ·exact ⟨c,u,g1,⟨o,x.keep _ _ g2,g3⟩,g4.nx In (zq1 _) N⟩
 ·refine (?_:A.depth + 1 + 2 * n < recursionLimit)
  have:=rm.depth;exact l21 0x00003e8413822137111100003e8413822137111 this
 ·refine (?_:A.units + 3 + 8 * n + 101<=cLine)
  have:=rm.units;exact l21 0x00026ac4656882337111100026ac4656882337111 this
 ·show A.frames.map (fun U=>_::U)=_
  refine rm.frames.symm▸?_;rfl
 ·rcases ix7.mp he with q|q
  ·subst q
   refine el11 x.fl fun o e1 e2=>?_;refine ⟨?_,s.heap.objs.size,o,rfl,e1,e2,ap,O.tab,O.base⟩;refine (?_:sc.kind≠.module);rw [hk];decide
  ·exact (fo.nx N) en q
theorem vz1 {Q:Unit->Shared->Prop} (In:Inv ι σ s) (S:St n A (env::fr) sc ρ env ι σ s') (hf:env.frame=some env.locals) (hL:s.heap.objs.size<=env.locals) (N:Nx [] ι ι s.heap s'.heap) (N2:Nx [env.locals] ι ι2 s'.heap s2.heap) (I2:Inv ι2 σ' s2) (t:yj8 s'.heap.objs.size e s2.heap) (hl:yj9 s2.heap env.locals)
 (K:∀ s3,Nx [] ι ι2 s.heap s3.heap->Inv ι2 σ' s3->yj8 s.heap.objs.size e s3.heap->Q () s3):wpAny (model P w) A (leaving env (.ref e)) Q E s2:=by
 have Y:Fly [] ι s.heap (env::fr) ι2 σ' s2:=⟨fun a ha=>zw0 In ha,N.since N2 hL,I2,xj5.step S N2 hl⟩;exact wpAny_bind (wv3 Y S.rm.frames hf (t.mono N.size) fun h1 Y1 t1=>yj3 Y1 t1 fun h2 Y2 t2=>K _ Y2.n Y2.I t2.thrown)
noncomputable def fdR (f:Fn) (nm:Str) (ps:Arguments) (body:List Stmt) (sc:Scope):FuncData:={ name:=nm,qualname:=f.q,params:=ps,body:=.stmts body,scope:=sc,globals:=mainGlobals,closure:=[],defaults:=f.dfl,kwdefaults:=.none,doc:=.none,pyModule:=.str f.md f.mt,annotations:=none,code:=.ref f.c,closureTuple:=.none,builtins:=0 }
theorem toks_one {a m:Nat} {k:Str} {v:Value} {r:List Value} {p:Str×Value->Bool} (hp:p (k,v)=true) (h:a + (([k].zip (v::r)).filter p).length<=m):0 < m:=by
 rw [ik1,List.filter_cons,if_pos hp] at h;exact iq3 (iq3 (iv7 _) (ik4 _ _)) h
theorem wy8 {f:Fn} {args:List V} {vals:List Value} (B:zf9) (ih:EvS (zz4 n) n KD) (rm:Rc A n fr) (fo:xj5 ι s.heap fr) (In:Inv ι σ s) (tk:0 < s.toks\/(f.q = "law"/\args.length=1)) (hf:f∈fns) (rs:zq2 ι s.heap args vals)
 (H:zj5 (xk4 (zz4 n) f.q args σ) ι s Q E):codeAny (model P w) A (.call (.ref f.a) ⟨vals,[]⟩) (fun r s'=>match r with|.ok (.ret v)=>Q v s'|.ok _=>False|.error e=>E e s') s:=by
 refine fn_facts w.params hf fun hst nm ps body d1 d2 d3 sc d4 d5 d6 est g=>?_;refine hid fun G kG=>?_;have H1:zj5 (vp8 (zz4 n) (some (.FunctionDef nm ps body d1 d2 d3 sc d4 d5 d6)) args σ) ι s Q E:=(hst.trans est)▸H;refine el11 (zz3.opt (o:=yp4 ps args) H1) fun ρ eb H=>?_;refine oe eb fun ds ec eb=>?_;refine el12 (g.df ds ec) fun xs ex rk hdl=>?_;refine zz9 (ifs eb) fun hl eb=>?_;have X:=In.K B;have ho:s.heap.get? f.a=some { cls:=.type "function",data:=.func (fdR f nm ps body sc)}:=(X _ _ (xp6 wq0 hf)).trans (congrArg (fun st=>some (fnObj st f.q f.dfl f.md f.mt f.c)) est);refine el11 (uf1 (M:=model P w) X ex) fun o hlk hox=>?_;have rds:zq2 ι s.heap ds xs:=wb4 X rk;have hxl:=rds.length;have hvl:=rs.length;have rall:zq2 ι s.heap (args++ds.drop (ds.length - (ps.args.length - args.length))) (vals++xs.drop (xs.length - (ps.args.length - vals.length))):=by
  refine hxl.symm▸hvl.symm▸?_;exact rs.append rds.drop
 have hzl:(vals++xs.drop (xs.length - (ps.args.length - vals.length))).length=ps.args.length:=by
  rw [iq6,iw1,hxl,hvl,Nat.sub_sub_self (Nat.sub_le_iff_le_add'.mpr hl.2)];exact Nat.add_sub_cancel' hl.1
 refine kG ?_;refine codeAny_call_function (by have:=rm.depth;exact l21 0x00003e8413822137111100003e841371 this) ho rfl g.cor g.gen rfl (vx0 B In.keep hf) (wg9 g.po g.ko g.va g.kw g.nd hlk hox (by rw [hxl];exact hdl) (by rw [hvl];exact hl.1) (by rw [hvl,hxl];exact hl.2) ?_);have hzn:((ps.args.map (fun U=>U.arg)).zip (vals++xs.drop (xs.length - (ps.args.length - vals.length)))).map (fun U=>U.1)=ps.args.map (fun U=>U.arg):=xw8 _ _ (by rw [hzl,iq9]);refine xy0 g.kind (.inl rfl) (hzn.symm▸g.nd) (fun y hy=>g.ns y.1 (hzn▸ik5.mpr ⟨y,hy,rfl⟩)) fun cells s' U x=>?_;refine hid fun G1 kG1=>?_;have tk':0 < s'.toks:=by
  refine tk.elim (fun tk=>iq3 tk (iq2 (ij4 _ _) x.toks)) fun q=>?_;refine zz9 (g.law q.1) fun l1 l2=>?_;have hx:=x.toks;have hz1:(ps.args.map (fun U=>U.arg)).length=ps.args.length:=iq9 ..;rw [l1] at hz1;rw [show (fdR f nm ps body sc).params.args=ps.args from rfl,l1] at hx;refine lcs (vals++xs.drop (xs.length - (ps.args.length - vals.length))) (fun e=>?_) fun v r e=>?_
  ·exact absurd ((congrArg List.length e).symm.trans (hzl.trans hz1.symm):0=1) Nat.zero_ne_one
  ·rw [e] at hx
   exact toks_one (by rw [beq_iff_eq];exact l2) hx
 refine zz9 (uw8 (ρ:=ρ) rm fo In tk' x g.kind rall g.ns (fun y v q=>.inl (eb▸q)) fun q=>el12 (g.lam q) fun t ht z1 z2=>⟨t,ht,(congrArg Value.ref z1).symm,z2⟩) fun S' N=>?_;refine kG1 ?_;refine ⟨B.nolimit.keeps S'.I.keep,codeAny_func (xf3 (sc:=sc) (n0:=s.heap.objs.size) (QX:=fun U U=>True) ih rfl body S' N.size ?_)⟩;cases er:seqS (fun s ρ σ=>evS (zz4 n) KD sc s ρ σ) body ρ σ with
 | bad=>rw [er] at H;exact H.elim
 | ex _=>rw [er] at H;exact H.elim
 | exc σ'=>
  replace H:=er▸H;exact fun ι2 e s2 N2 I2 t2 hl2=>vz1 In S' rfl (iq1 _) N N2 I2 t2 hl2 fun s3 N3 I3 t3=>H ι2 e s3 N3 I3 t3
 | ok y σ'=>
  rw [er] at H;obtain ⟨y,ρ'⟩:=y;intro ι2 fl s2 N2 I2 r2;refine zg6 r2 fun F2 L2 r2=>?_;have N3:Nx [] ι ι2 s.heap s2.heap:=N.since N2 (iq1 _);cases y with
  | next=>cases (show fl=.next from r2);exact H ι2 .none s2 N3 I2 zx6.none
  | cont=>exact H.elim
  | ret v=>obtain ⟨u,rfl,ru⟩:=r2;exact H ι2 u s2 N3 I2 ru
  | retex=>obtain ⟨e,rfl,re⟩:=r2;exact H ι2 e s2 N3 I2 re
end
section
variable {n n0:Nat} {C:zz5} {A:Around} {fr:List Env} {sc:Scope} {ρ:Rho} {env:Env} {ι ι2:Lay} {σ σ':zz0} {s s' s2:Shared} {h:Heap}
 {Q:QV0} {QX:QA0} {E:QV0} {e L:Addr}
theorem xf9 {y:Str} {v:V}:∀ {ns:List Str} {vs:List V} {us:List Value},zq2 ι h vs us->(ns.zip vs).lookup y=some v->y∈ns/\∃ u,(ns.zip us).lookup y=some u/\Rel ι h v u:=by
 intro ns;induction ns with
 | nil=>
  intro U U U e;simp at e
 | cons n ns ih0=>
  intro l0;cases l0 with
  | nil=>
   intro U U e;simp at e
  | cons v' vs=>
   intro us r e;refine el22 r fun x ys eq1 rx rs=>?_;subst eq1;rw [ik1,iz2] at e;by_cases q:y=n
   ·subst q
    simp at e;subst e;exact ⟨iz6,x,by simp,rx⟩
   ·rw [show (y == n)=false from by simpa using q] at e
    obtain ⟨g1,u,g2,g3⟩:=ih0 rs e;exact ⟨ix3 _ g1,u,by rw [ik1,iz2,show (y == n)=false from by simpa using q];exact g2,g3⟩
structure LamG (ps:Arguments) (sc:Scope):Prop where
 po:ps.posonlyargs=[]
 va:ps.vararg=Option.none
 ko:ps.kwonlyargs=[]
 kw:ps.kwarg=Option.none
 df:ps.defaults=[]
 kind:sc.kind=.function
 gen:sc.isGenerator=false
 cor:sc.isCoroutine=false
 cell:∀ x∈sc.names,x.2≠NameKind.cell
 ns:∀ y∈ps.args.map (fun U=>U.arg),sc.names.lookup y=some .local\/sc.names.lookup y=some .cell
 nd:(ps.args.map (fun U=>U.arg)).Nodup
 lam:xw5 sc=false
theorem okLam_ok {ps:Arguments} {sc:Scope} (h:vv1 ps sc=true):LamG ps sc:=by
 refine zz9 (bb h) fun h g13=>zz9 (bb h) fun h g12=>zz9 (bb h) fun h g11=>zz9 (bb h) fun h g10=>zz9 (bb h) fun h g9=>zz9 (bb h) fun h g8=>zz9 (bb h) fun h g7=>zz9 (bb h) fun h g6=>zz9 (bb h) fun h g5=>zz9 (bb h) fun h g4=>zz9 (bb h) fun h g3=>zz9 (bb h) fun g1 g2=>?_;refine ⟨ik3.mp g1,iv3.mp g2,ik3.mp g3,iv3.mp g5,ik3.mp g6,beq_iff_eq.mp g7,(ij9 _).mp g8,(ij9 _).mp g9,fun x hx=>bne_iff_ne.mp (iz0.mp g10 x hx),fun y hy=>.inl (beq_iff_eq.mp (iz0.mp g11 y hy)),of_decide_eq_true g12,(ij9 _).mp g13⟩
theorem bindV_ok {ps:Arguments} {args:List V} {ρ:Rho} (g:ps.defaults=[]) (e:yp4 ps args=some ρ):args.length=ps.args.length/\(ps.args.map (fun U=>U.arg)).zip args=ρ:=by
 unfold yp4 at e;rw [g] at e;have e:(if args.length<=ps.args.length/\ps.args.length<=args.length + ([]:List V).length then some ((ps.args.map (fun U=>U.arg)).zip (args++([]:List V).drop (([]:List V).length - (ps.args.length - args.length)))) else Option.none)=some ρ:=e;refine zz9 (ifs e) fun hl e=>⟨ix9 hl.1 hl.2,?_⟩;rw [List.drop_nil,iq7] at e;exact e
theorem clo_code {ps:Arguments} {b:Expr} {ns:List Str} {vs args:List V} {fv:Value} {vals:List Value} (B:zf9) (ih:EvE (zz4 n) n KD) (rm:Rc A n fr) (fo:xj5 ι s.heap fr) (In:Inv ι σ s) (tk:0 < s.toks) (rf:Rel ι s.heap (.clo ps b sc ns vs) fv) (rs:zq2 ι s.heap args vals)
 (H:zj5 (zz4 (n + 1) (.clo ps b sc ns vs) args σ) ι s Q E):codeAny (model P w) A (.call fv ⟨vals,[]⟩) (fun r s'=>match r with|.ok (.ret v)=>Q v s'|.ok _=>False|.error e=>E e s') s:=by
 refine zz9 (zz3.ifn H) fun hok H1=>?_
 ·clear H
  rw [Bool.not_eq_false] at hok;refine zz9 (bb hok) fun g hfree=>?_;replace g:=okLam_ok g;refine el40 rf fun a o fd caps r=>?_;refine el11 (zz3.opt H1) fun ρ eb H=>?_;clear H1;refine hid fun G kG=>?_;obtain ⟨rfl,ho,hd,rfl,r2,rfl,r⟩:=r;refine zz9 (bindV_ok g.df eb) fun hl eb=>?_;refine kG ?_;have hvl:=rs.length;have hzn:((fd.params.args.map (fun U=>U.arg)).zip vals).map (fun U=>U.1)=fd.params.args.map (fun U=>U.arg):=xw8 _ _ (by rw [hvl,iq9];exact hl.symm);refine kla_callFunE (by have:=rm.depth;exact l21 0x00003e8413822137111100003e841371 this) ho hd g.cor g.gen r2 r.2.2.1 (wg9 (o:=none) (ds:=[]) g.po g.ko g.va g.kw g.nd (r.2.2.2.1▸Looks.of_pure rfl) rfl (iv8 _) (hvl▸hl▸iq1 _) (hvl▸hl▸iq1 _) ?_);refine (List.drop_nil).symm▸?_;refine (iq7 _).symm▸?_;rw [r.1,r.2.1];refine xy0 g.kind (.inr g.cell) (hzn.symm▸g.nd) (fun y hy=>g.ns y.1 (hzn▸ik5.mpr ⟨y,hy,rfl⟩)) fun cells s' hcl x=>?_;obtain ⟨S',N⟩:=uw8 (ρ:=ρ++ns.zip vs) rm fo In (iq3 tk (iq2 (ij4 _ _) x.toks)) x g.kind rs g.ns (fun y v q=>by
   rw [List.lookup_append] at q;cases e1:ρ.lookup y with
   | some v'=>
    rw [e1] at q;replace e1:=eb.symm▸e1;exact .inl (e1.trans q)
   | none=>
    rw [e1] at q;refine hid fun G kG=>?_;obtain ⟨m1,u,m2,m3⟩:=xf9 r.2.2.2.2.2.1 q;have hfr:=iz0.mp hfree y m1;refine kG ?_;rw [beq_iff_eq] at hfr;obtain ⟨c,hc⟩:=ik0.mp (r.2.2.2.2.2.2.2 y u m2);refine el11 (r.2.2.2.2.2.2.1 y c hc) fun u' m4 m5=>?_;exact .inr ⟨hfr,c,u,hcl.elim (fun z=>zz7 (z▸hc)) fun z=>z▸hc,(Option.some.inj (m2.symm.trans m4))▸m5,m3⟩) (fun q=>absurd (g.lam.symm.trans q) ix8)
  refine ⟨B.nolimit.keeps S'.I.keep,kla_codeExpr (ih S' ?_)⟩;cases er:evE (zz4 n) KD fd.scope (ρ++ns.zip vs) b σ with
  | bad=>rw [er] at H;exact H.elim
  | ok v σ'=>rw [er] at H;exact fun ι2 u s2 N2 I2 r2=>H ι2 u s2 (N.trans N2) I2 r2
  | ex σ'=>rw [er] at H;exact fun ι2 e s2 N2 I2 t2=>H ι2 e s2 (N.trans N2) I2 (t2.mono N.size)
  | exc σ'=>
   replace H:=er▸H;exact fun ι2 e s2 N2 I2 t2=>vz1 In S' rfl (iq1 _) N (N2.weaken fun U q=>nomatch q) I2 t2 ((S'.fo.nx N2).loc rfl) fun s3 N3 I3 t3=>H ι2 e s3 N3 I3 t3
theorem uf9 (P:Params):(zw9.all fun p=>p.1 == "GrammarFault"||match wz6 p.1 with
 | some q=>makesIn (K0 P) p.2&&fns.any (fun f=>f.q == q&&findIn (K0 P) (.ref p.2) "__init__" == some (some (.ref f.a))&&typeIn (K0 P) (.ref f.a) == some (.type "function"))
 | none=>false)=true:=by rfl
theorem cls_code {c:Str} {q:Str} {args:List V} {fv:Value} {vals:List Value} (B:zf9) (ih:EvS (zz4 n) n KD) (rm:Rm A (n + 1) fr) (fo:xj5 ι s.heap fr) (In:Inv ι σ s) (tk:0 < s.toks) (rf:Rel ι s.heap (.cls c) fv) (rs:zq2 ι s.heap args vals)
 (hc:c ≠ "GrammarFault") (hi:wz6 c=some q)
 (H:zj5 (made σ (xk4 (zz4 n) q (.loc σ.length::args) (σ++[.inst c []]))) ι s Q E):codeAny (model P w) A (.call fv ⟨vals,[]⟩) (fun r s'=>match r with|.ok (.ret v)=>Q v s'|.ok _=>False|.error e=>E e s') s:=by
 refine el11 rf fun Ca hm eq6=>?_;subst eq6;have g:=iz0.mp (uf9 w.params) _ hm;rw [hi] at g;have hcn:(c == ("GrammarFault" : Str))=false:=by simpa using hc
 simp only [hcn,ox8,iq5] at g;obtain ⟨g1,g2⟩:=g;refine el11 (iw9.mp g2) fun f hf g3=>?_;simp only [iq5,beq_iff_eq] at g3;obtain ⟨⟨g4,g5⟩,g6⟩:=g3;have X:=In.K B;obtain ⟨h,gg,d,t,os⟩:=s;have kp:∀ b o,h.get? b=some o->((h.push emptyDict).push (instObj Ca h.objs.size)).get? b=some o:=fun b o e=>Heap.get?_push_of_some _ (Heap.get?_push_of_some _ e);have hz:((h.push emptyDict).push (instObj Ca h.objs.size)).objs.size=h.objs.size + 2:=by rw [Heap.size_push,Heap.size_push]
 have hg1:((h.push emptyDict).push (instObj Ca h.objs.size)).get? (h.objs.size + 1)=some (instObj Ca h.objs.size):=by
  have:=Heap.get?_push_size (h.push emptyDict) (o:=instObj Ca h.objs.size) rfl
  rwa [Heap.size_push] at this
 have hg2:((h.push emptyDict).push (instObj Ca h.objs.size)).get? h.objs.size=some (dictOf [] 0):=Heap.get?_push_of_some _ (Heap.get?_push_size h rfl);refine Classical.byContradiction fun ng=>?_;obtain ⟨I1,N1,r1⟩:=In.alloc (s:=⟨h,gg,d,t,os⟩) (h':=(h.push emptyDict).push (instObj Ca h.objs.size)) (rp:=(h.objs.size + 1,h.objs.size)) (o:=.inst c []) (by rw [hz];exact ij4 _ 2) kp ⟨oz5 _,iq1 _⟩ t ⟨Ca,_,[],0,hm,hg1,hg2,rfl⟩;refine ng (make_core (makes_of X g1) (looks_findIn X g5) (fun self=>bind_fn X self g6) (.inl rfl) ?_);subst g4;have rm':Rc (A.under (.builtin "type.__call__" ⟨.ref Ca::vals,[]⟩)) n fr:=by
  have w0:(Code.builtin "type.__call__" ⟨.ref Ca::vals,[]⟩).weight=1:=by rfl
  have w1:(Code.builtin "type.__call__" ⟨.ref Ca::vals,[]⟩).cUnits=1:=by rfl
  refine ⟨?_,?_,?_,rm.handled⟩
  ·refine (?_:A.depth + (Code.builtin "type.__call__" ⟨.ref Ca::vals,[]⟩).weight + 1 + 2 * n < recursionLimit)
   have:=rm.depth;exact l32 0x00003e84131391227111138900003e841392213871111 w0 this
  ·refine (?_:A.units + (Code.builtin "type.__call__" ⟨.ref Ca::vals,[]⟩).cUnits + 3 + 8 * n + 101<=cLine)
   have:=rm.units;exact l32 0x00026ac46561391827111138900026ac465698233871111 w1 this
  ·refine (?_:pushEnvs (Code.builtin "type.__call__" ⟨.ref Ca::vals,[]⟩).envs A.frames=some fr)
   exact rm.frames
 refine codeAny_mono (wy8 (Q:=fun v s'=>v=.none/\Q (.ref (h.objs.size + 1)) s') (E:=E) (σ:=σ++[.inst c []]) (ι:=ι++[(h.objs.size + 1,h.objs.size)]) B ih rm' (fo.nx N1) I1 (.inl tk) hf (args:=.loc σ.length::args) (vals:=.ref (h.objs.size + 1)::vals) (⟨_,_,rfl,r1,rs.nx In (zq1 _) N1⟩) ?_) ?_
 ·cases er:xk4 (zz4 n) f.q (.loc σ.length::args) (σ++[.inst c []]) with
  | bad=>rw [er] at H;exact H.elim
  | ex _=>rw [er] at H;exact H.elim
  | exc σ'=>rw [er] at H;exact fun ι2 e s2 N2 I2 t2=>H ι2 e s2 (N1.trans N2) I2 (t2.mono N1.size)
  | ok v σ'=>
   replace H:=er▸H;cases v <;> first|exact H.elim|skip
   intro ι2 u s2 N2 I2 r2;refine ⟨r2,H ι2 _ s2 (N1.trans N2) I2 (r1.nx I1 (zq1 _) N2)⟩
 ·intro r s' h'
  cases r with
  | error e=>exact h'
  | ok fl=>cases fl <;> first|exact h'|exact h'.elim
end
theorem uh2 (P:Params):∃ nm q N bs hdct sn sub ab col dd k0 k1 k2 k3 k5,(K0 P).lookup 72=some (excClassObj nm q 72 N bs [.ref 47,.type "Exception",.type "BaseException",.type "object"] hdct sn sub ab col dd k0 k1 k2 k3 k5 "Exception.__new__"):=⟨_,_,_,_,_,_,_,_,_,_,_,_,_,_,_,rfl⟩
theorem yh6 (P:Params):(findIn (K0 P) (.ref 72) "__setattr__" == some (some (.builtin "object.__setattr__"))&&findIn (K0 P) (.ref 72) "__init__" == some (some (.ref 37))&&typeIn (K0 P) (.ref 37) == some (.type "function")&&takerIn (K0 P) 72 "what" == some none&&takerIn (K0 P) 72 "at" == some none&&
 specialIn (K0 P) (.ref 72) "__call__" == some (some (.builtin "type.__call__"))&&instIn (K0 P) (.ref 72) (.type "type") == some true&&hasDictIn (K0 P) 72)=true:=by rfl
section
variable {A:Around} {R:Result->Shared->Prop} {h:Heap} {g:Array GenState} {d:Drawn} {t:Nat} {os:OsState}
variable {nm q:Str} {C N:Addr} {bs bm bmB:List Value} {hdct:Bool} {sn:List Str} {sub:List Value} {ab:Bool} {col:Option Bool} {dd:Option Addr} {k0 k1 k2 k3 k5:Option Value} {B newId initId:String}
theorem ug4 (F:ExcBaseFacts B newId initId bmB) {M:Model} {E:QV0} {rest:List Value} {Q:Unit->Shared->Prop} (hC:h.get? C=some (excClassObj nm q C N bs bm hdct sn sub ab col dd k0 k1 k2 k3 k5 newId)) (hB:(Value.ref C::bm).contains (.type B)=true)
 (hq:Q () ⟨h,g,d,t,os⟩):wpAny M A (checkBuiltinCall newId ⟨.ref C::rest,[]⟩) Q E ⟨h,g,d,t,os⟩:=by
 have hstar:=F.noStar
 delta checkBuiltinCall
 refine F.newKind.symm▸F.newSplit.symm▸F.newRow.symm▸?_;refine wpAny_ite_true (c:=("__new__" == "__new__")=true) rfl ?_;repeat (first|with_reducible refine wpAny_loadPart_at hC ?_|(with_reducible refine wpAny_isSubtype_exc hC ?_;rw [hB])|with_reducible refine wpAny_staticBase_exc hC ?_|with_reducible refine wpAny_madeBy_exc hC ?_|wp_step)
 exact hq
theorem exc_new (F:ExcBaseFacts B newId initId bmB) {rest:List Value} (hC:h.get? C=some (excClassObj nm q C N bs bm hdct sn sub ab col dd k0 k1 k2 k3 k5 newId))
 (hcB:(Value.ref C::bm).contains (.type B)=true) (hcA:(Value.ref C::bm).contains (.type "AttributeError")=false) (hcN:(Value.ref C::bm).contains (.type "NameError")=false)
 (hq:R (.ok (.ret (.ref (h.objs.size + 1)))) ⟨(h.push { cls:=.type "tuple",data:=.seq rest.toArray }).push { cls:=.ref C,data:=.fields #[.ref h.objs.size,.none,.none,.none,.bool false,.none]},g,d,t,os⟩) (hrest:rest.length<=sizeLine) :
 codeAny (model P w) A (.builtin newId ⟨.ref C::rest,[]⟩) R ⟨h,g,d,t,os⟩:=by
 have hends:=F.ends;refine codeAny_builtinAt F.entry ?_;unfold Builtin.«BaseException.__new__»;refine PySem.wpAt_bind ?_;show PySem.wpAt _ _ _ (stack >>= _) _ _ _;refine PySem.wpAt_bind (PySem.wpAt_stack fun p below=>PySem.wpAt_of_wpAny ?_)
 wp_walk
 refine PySem.wpAt_of_wpAny ?_;refine F.owner.symm▸?_;repeat (first|with_reducible refine wpAny_madeHere_exc F.canon hC ?_|with_reducible refine wpAny_loadPart_at hC ?_|(with_reducible refine wpAny_isSubtype_exc hC ?_;first|rw [hcB]|rw [hcA]|rw [hcN])|wp_step)
 show R _ _;rw [Heap.size_push];exact hq
end
section
variable {A:Around} {K:Frag} {R:Result->Shared->Prop} {h:Heap} {g:Array GenState} {d:Drawn} {t:Nat} {os:OsState}
noncomputable abbrev zh5 (t:Addr):Obj:={ cls:=.ref 72,data:=.fields #[.ref t,.none,.none,.none,.bool false,.none]}
noncomputable abbrev xq2 (l:List Value):Obj:={ cls:=.type "tuple",data:=.seq l.toArray }
set_option maxHeartbeats 2000000 in
theorem gf_make {rest:List Value} (X:(K0 w.params).In h) (hrest:rest.length<=sizeLine)
 (hq:codeAny (model P w) (A.under (.builtin "type.__call__" ⟨.ref 72::rest,[]⟩)) (.call (.ref 37) ⟨.ref (h.objs.size + 1)::rest,[]⟩) (InitBack (h.objs.size + 1) R) ⟨(h.push (xq2 rest)).push (zh5 h.objs.size),g,d,t,os⟩) :
 codeAny (model P w) A (.call (.ref 72) ⟨rest,[]⟩) R ⟨h,g,d,t,os⟩:=by
 refine hid fun G kG=>?_;obtain ⟨nm,q,N,bs,hdct,sn,sub,ab,col,dd,k0,k1,k2,k3,k5,hk⟩:=uh2 w.params;have hC:=X _ _ hk;have gf:=yh6 w.params;refine kG ?_;simp only [iq5,beq_iff_eq] at gf;refine hid fun G kG=>?_;obtain ⟨⟨⟨⟨⟨⟨⟨f1,f2⟩,f3⟩,f4⟩,f5⟩,f6⟩,f7⟩,f8⟩:=gf;have F:=PySem.F.excBase_Exception;have call:=looks_specialIn (M:=model P w) X f6;have typ:=looks_instIn (M:=model P w) X f7;have hi:=looks_findIn (M:=model P w) X f2;have g2:=wz7 w.params;refine kG ?_;simp only [iq5,beq_iff_eq] at g2;have self:Looks (model P w) h (isSubtype (.ref 72) (.ref 72)) true:=looks_subIn X g2.1.1.2;refine codeAny_of_tree ?_;show wpAny _ _ (callAny (.ref 72) _) _ _ _;refine nd_load hC ?_;show wpAny _ _ (callAny.viaDunder (.ref 72) _) _ _ _;unfold callAny.viaDunder;refine wpAny_bind (call.at ?_);dsimp only;rw [tc_bind];refine wpAny_bind (wpAny_pure (wpAny_bind (wpAny_pure ?_)));refine wpAny_pure (a:=Fin.again (.call (.builtin "type.__call__") ⟨.ref 72::rest,[]⟩)) (And.intro rfl ?_);refine codeAny_call_builtin_at (Code.quiet_builtin _ (by decide +kernel)) entry_typeCall ?_
 with_reducible refine check_slot tc_kind tc_split typ (tc_args _ _ _) ?_
 repeat (first|with_reducible refine wpAny_loadPart_at hC ?_|with_reducible refine wpAny_madeBy_exc hC ?_|wp_step)
 refine codeAny_call_builtin_code (Code.quiet_builtin _ F.quiet) (ug4 F hC (by decide) ?_);refine exc_new F hC (by decide) (rfl) (rfl) ?_ hrest;show wpAny _ _ _ _ _ _;have k:∀ b o,h.get? b=some o->((h.push (xq2 rest)).push (zh5 h.objs.size)).get? b=some o:=fun b o e=>Heap.get?_push_of_some _ (Heap.get?_push_of_some _ e);have hx:((h.push (xq2 rest)).push (zh5 h.objs.size)).get? (h.objs.size + 1)=some (zh5 h.objs.size):=by heap_get
 have t1:Looks (model P w) ((h.push (xq2 rest)).push (zh5 h.objs.size)) (typeOf (.ref (h.objs.size + 1))) (.ref 72):=(Looks.ld hx).andThen .now;have s1:=self.keeps k;have i1:=hi.keeps k;have b1:=bind_fn (M:=model P w) (fun b o e=>k b o (X b o e)) (.ref (h.objs.size + 1)) f3
 delta isInstance callSpecial? specialOf
 repeat (first|with_reducible refine wpAny_call ?_|lk)
 refine codeAny_mono hq fun r s' z=>?_;rcases r with e|(v|_|_|_) <;> first|exact z|exact z.elim|skip
 obtain ⟨rfl,z⟩:=z;exact wpAny_pure (wpAny_pure z)
end
end
section
open PySem PySem.W PyProof.Rows PySem.Calls PySem.Builtin PySem.Builtin.ObjectAttr
section
variable {A:Around} {E:QV0} {h:Heap} {g:Array GenState} {d:Drawn} {t:Nat} {os:OsState}
variable {nm q:Str} {C N:Addr} {bs bm bmB:List Value} {hdct:Bool} {sn:List Str} {sub:List Value} {ab:Bool} {col:Option Bool} {dd:Option Addr} {k0 k1 k2 k3 k5:Option Value} {B newId initId:String} {e t0:Addr}
theorem xz4 (F:ExcBaseFacts B newId initId bmB) {M:Model} {oe:Obj} {rest:List Value} {Q:Unit->Shared->Prop}
 (hC:h.get? C=some (excClassObj nm q C N bs bm hdct sn sub ab col dd k0 k1 k2 k3 k5 newId)) (hcB:(Value.ref C::bm).contains (.type B)=true) (he:h.get? e=some oe) (hcls:oe.cls=.ref C) (hq:Q () ⟨h,g,d,t,os⟩) :
 wpAny M A (checkBuiltinCall initId ⟨.ref e::rest,[]⟩) Q E ⟨h,g,d,t,os⟩:=by
 have hshort:=F.noStar
 delta checkBuiltinCall
 rw [F.initKind,F.initSplit,F.initRow];repeat (first|(with_reducible refine wpAny_loadPart_at he ?_;rw [hcls])|with_reducible refine wpAny_loadPart_at hC ?_|(with_reducible refine wpAny_isSubtype_exc hC ?_;rw [hcB])|wp_step)
 refine wpAny_onRaise ?_;rw [show ∀ (a b:String) (n:Nat),Bind.check ⟨.positional,"*",B,.self,[⟨"args",.varPos,false⟩]⟩ a b n (List.map (fun x=>x.fst) ({ pos:=Value.ref e::rest }:Args).kw)=pure () from
  fun a b n=>check_star_args _ _ _ _ _ _]
 exact wpAny_pure hq
theorem exc_init {xv:Value} {Q:QV0} (X:(K0 w.params).In h) (he:h.get? e=some (zh5 t0))
 (hq:∀ h' t1,(∀ b o,b≠e->h.get? b=some o->h'.get? b=some o)->h'.get? e=some (zh5 t1)->Q .none ⟨h',g,d,t,os⟩) :
 wpAny (model P w) A (call (.builtin "Exception.__init__") [.ref e,xv]) Q E ⟨h,g,d,t,os⟩:=by
 refine hid fun G kG=>?_;obtain ⟨nm,q,N,bs,hdct,sn,sub,ab,col,dd,k0,k1,k2,k3,k5,hk⟩:=uh2 w.params;have hC:=X _ _ hk;have F:=PySem.F.excBase_Exception;refine kG ?_;refine wpAny_call (codeAny_call_builtin F.init.plain F.initEntry (xz4 F hC (rfl) he rfl ?_))
 wp_walk
 refine hq _ h.objs.size (fun b o hb e1=>?_) ?_
 ·rw [Heap.get?_update_other _ _ (Ne.symm hb)]
  exact Heap.get?_push_of_some _ e1
 ·rw [Heap.get?_update_self _ (Heap.get?_push_of_some _ he) rfl]
  rfl
end
section
variable {A:Around} {E:QV0} {s:Shared} {e t0 dx:Addr} {R:Result->Shared->Prop} {name:Str} {v:Value} {tk:Tok}
theorem uh3 (X:(K0 w.params).In s.heap) {oe:Obj} (he:s.heap.get? e=some oe) (hc:oe.cls=.ref 72) (hn:notCls oe=true) (hnm:name = "what"\/name = "at")
 (h:wpAny (model P w) A.in1 (storeInOwnDict (.ref e) (.ref 72) (.str name tk) name v false)
  (fun fin s'=>match fin with|.done f=>R (.ok f) s'|.again c'=>c'.quiet=true/\codeAny (model P w) A c' R s') (fun e s'=>R (.error e) s') s)
 (h2:wpAny (model P w) A.in1 (storeInOwnDict (.ref e) (.ref 72) (.str name tk) name v true)
  (fun fin s'=>match fin with|.done f=>R (.ok f) s'|.again c'=>c'.quiet=true/\codeAny (model P w) A c' R s') (fun e s'=>R (.error e) s') s) :
 codeAny (model P w) A (.call (.builtin "object.__setattr__") ⟨[.ref e,.str name tk,v],[]⟩) R s:=by
 have SF:=PySem.F.store_object;refine hid fun G kG=>?_;obtain ⟨nm,q,N,bs,hdct,sn,sub,ab,col,dd,k0,k1,k2,k3,k5,hk⟩:=uh2 w.params;have gf:=yh6 w.params;refine kG ?_;simp only [iq5,beq_iff_eq] at gf;refine hid fun G kG=>?_;obtain ⟨⟨⟨⟨⟨⟨⟨f1,f2⟩,f3⟩,f4⟩,f5⟩,f6⟩,f7⟩,f8⟩:=gf;refine kG ?_;have ht:takerIn (K0 w.params) 72 name=some none:=by
  rcases hnm with rfl|rfl
  ·exact f4
  ·exact f5
 have T:Looks (model P w) s.heap (typeOf (.ref e)) (.ref 72):=yh8 he hc;have sb:PySem.W.subIn (K0 w.params) (.ref 72) (.type "object")=some true:=by rfl
 have sub:Looks (model P w) s.heap (isInstance (.ref e) (.type "object")) true:=T.andThen (looks_subIn X sb);refine codeAny_call_builtin SF.slot.plain SF.entry (@check_slot (model P w) _ _ s "object.__setattr__" "object" "__setattr__" (.ref e) [.str name tk,v] [] _ SF.kind SF.split sub (SF.args (.ref e) (.str name tk) v) ?_);refine el10 (ox1.mp ht) fun attr pq8=>?_;obtain ⟨ha,hr⟩:=pq8;have hm:Looks (model P w) s.heap (mroOf (.ref 72)) (.ref 72::[.ref 47,.type "Exception",.type "BaseException",.type "object"]):=by
  have hcl:∃ cd,clsIn (K0 w.params) 72=some cd/\cd.mro=(.ref 72::[.ref 47,.type "Exception",.type "BaseException",.type "object"]):=⟨_,by unfold clsIn;rw [hk],rfl⟩;obtain ⟨cd,h1,h2⟩:=hcl;refine h2▸?_;exact (looks_clsIn X h1).andThen .now
 have L3:Looks (model P w) s.heap (storeTaker? attr) none:=by
  cases attr with
  | none=>cases hr;exact .now
  | some a=>
   obtain ⟨b,hb,q⟩:=ix1.mp hr;refine (looks_takesIn X hb).andThen ?_;cases b
   ·exact .now
   ·cases q
 rw [osa_eq,refuse_eq];refine wpAny_bind (wpAny_bind (T.here (wpAny_bind (hm.here ?_))));rw [refuseLoop_ref,refuseLoop_ref,show refuseLoop (.ref e) "__setattr__" [.type "Exception",.type "BaseException",.type "object"]=pure () from by kernel_rfl];refine wpAny_pure (wpAny_bind (T.here (wpAny_bind ((looks_findIn X ha).here (wpAny_bind (L3.here ?_))))));cases attr
 ·exact h
 ·exact h2
set_option tactic.hygienic true in
theorem vq9 {es:List DictEntry} {n:Nat} {Q:PySem.Fin->Shared->Prop} (D:s.heap.get? dx=some (dictOf es n)) (hl:(getL name es).isSome=true) (hz:(putL name (PyData.keyHash w.params name) (.str name s.toks) v es).length<=1000)
 (h:∀ h',Heap.SameBut dx s.heap h'->h'.get? dx=some (dictOf (putL name (PyData.keyHash w.params name) (.str name s.toks) v es) (putN name es n))->Q (.done (.ret .none)) { s with heap:=h',toks:=s.toks + 1 }) :
 wpAny (model P w) A (storeInDict dx (.str name tk) name v) Q E s:=by
 delta storeInDict newKeyGuard
 refine wpAny_bind (wpAny_pure (wpAny_bind ?_));unfold nsSet;refine wpAny_bind (wpAny_bind (wpAny_askSetting (wpAny_pure (wpAny_bind (wpAny_mkText (wpAny_bind (wpAny_loadPart D ?_)))))));dsimp only;have c:(!es.toArray.any (fun U=>U.key.isStr name)&&es.toArray.any (fun U=>U.refKey))=false:=by
  refine Array.any_toList▸Array.any_toList▸?_;unfold getL at hl;show (!es.any _&&es.any _)=false;split at hl
  ·rename_i en he
   rw [iw9.mpr ⟨en,List.mem_of_find?_eq_some he,List.find?_some he⟩];rfl
  ·split at hl
   ·nomatch hl
   ·rename_i z;rw [oz0] at z;rw [z,Bool.and_false]
 rw [aRefKeyMayBeTheName_at,c];refine wpAny_updatePart D ?_;have D':(s.heap.update dx (Obj.putName name (PyData.keyHash w.params name) (.str name s.toks) v)).get? dx=some (dictOf (putL name (PyData.keyHash w.params name) (.str name s.toks) v es) (putN name es n)):=by
  rw [<-putName_dict];exact Heap.get?_update_self _ D (by rw [putName_dict];rfl)
 refine wpAny_bind (wpAny_lookBehind D' (pastItsLine_dict (by rw [iz1,sizeLine_eq];exact l11 0x00003e8471131000000417 hz)) ?_);exact wpAny_pure (h _ (Heap.SameBut.update _ _ _) D')
theorem gf_store {es:List DictEntry} {n:Nat} {Q:Unit->Shared->Prop} {oe:Obj} {vs:Array Value} (X:(K0 w.params).In s.heap) (he:s.heap.get? e=some oe) (hc:oe.cls=.ref 72) (hd:oe.data=.fields vs) (hnm:name = "what"\/name = "at")
 (hdx:oe.dict=some dx) (D:s.heap.get? dx=some (dictOf es n)) (hl:(getL name es).isSome=true) (hz:(putL name (PyData.keyHash w.params name) (.str name (s.toks + 1)) v es).length<=1000)
 (h:∀ h',Heap.SameBut dx s.heap h'->Q () { s with heap:=h',toks:=s.toks + 2 }):wpAny (model P w) A (setAttr (.ref e) name v) Q E s:=by
 have gf:=yh6 w.params;simp only [iq5,beq_iff_eq] at gf;refine hid fun G kG=>?_;obtain ⟨⟨⟨⟨⟨⟨⟨f1,f2⟩,f3⟩,f4⟩,f5⟩,f6⟩,f7⟩,f8⟩:=gf;have hno:notCls oe=true:=by unfold notCls;rw [hd]
 refine el10 (any_some f8) fun cd pq20=>?_;obtain ⟨hcl,hd'⟩:=pq20;refine kG ?_;have go:∀ b,wpAny (model P w) A.in1 (storeInOwnDict (.ref e) (.ref 72) (.str name s.toks) name v b) (fun fin s'=>match fin with|.done f=>(match Except.ok f with|.ok (.ret _)=>Q () s'|.ok _=>False|.error e=>E e s')|.again c'=>c'.quiet=true/\codeAny (model P w) A c' (fun r s'=>match r with|.ok (.ret _)=>Q () s'|.ok _=>False|.error e=>E e s') s') (fun e s'=>E e s') { s with toks:=s.toks + 1 }:=by
  intro b;obtain ⟨oc,odi,oda,osl⟩:=oe;dsimp only at hc hdx;subst hc hdx;refine wpAny_bind (wpAny_pure (wpAny_bind (wpAny_bind (wpAny_loadPart (s:={ s with toks:=s.toks + 1 }) he (wpAny_bind (Looks.here (s:={ s with toks:=s.toks + 1 }) (looks_clsIn X hcl) ?_))))));refine hd'.symm▸?_;refine wpAny_pure (a:=some dx) (vq9 (s:={ s with toks:=s.toks + 1 }) D hl hz fun h' a U=>h h' a)
 exact set_plain (od:=some (dictOf es n)) X ⟨he,hc,hno,by rw [hdx];exact D⟩ f1 (uh3 (s:={ s with toks:=s.toks + 1 }) X he hc hno hnm (go _) (go _))
end
section
variable {A:Around} {E:QV0} {s:Shared} {e t0 dx:Addr} {R:Result->Shared->Prop} {name:Str} {v:Value} {tk:Tok}
theorem wz8 {Q:Unit->Shared->Prop} {oe:Obj} {vs:Array Value} (X:(K0 w.params).In s.heap) (he:s.heap.get? e=some oe) (hc:oe.cls=.ref 72) (hd:oe.data=.fields vs) (hnm:name = "what"\/name = "at")
 (hdx:oe.dict=none)
 (h:∀ h',(∀ b o,b≠e->s.heap.get? b=some o->h'.get? b=some o)->h'.get? e=some { oe with dict:=some s.heap.objs.size }->
  h'.get? s.heap.objs.size=some (dictOf (putL name (PyData.keyHash w.params name) (.str name (s.toks + 1)) v []) (putN name [] 0))->Q () { s with heap:=h',toks:=s.toks + 2 }):wpAny (model P w) A (setAttr (.ref e) name v) Q E s:=by
 have gf:=yh6 w.params;simp only [iq5,beq_iff_eq] at gf;refine hid fun G kG=>?_;obtain ⟨⟨⟨⟨⟨⟨⟨f1,f2⟩,f3⟩,f4⟩,f5⟩,f6⟩,f7⟩,f8⟩:=gf;have hno:notCls oe=true:=by unfold notCls;rw [hd]
 refine el10 (any_some f8) fun cd pq4=>?_;obtain ⟨hcl,hd'⟩:=pq4;have hes:e≠s.heap.objs.size:=ij5 (Heap.lt_size he);refine kG ?_;have go:∀ b,wpAny (model P w) A.in1 (storeInOwnDict (.ref e) (.ref 72) (.str name s.toks) name v b) (fun fin s'=>match fin with|.done f=>(match Except.ok f with|.ok (.ret _)=>Q () s'|.ok _=>False|.error e=>E e s')|.again c'=>c'.quiet=true/\codeAny (model P w) A c' (fun r s'=>match r with|.ok (.ret _)=>Q () s'|.ok _=>False|.error e=>E e s') s') (fun e s'=>E e s') { s with toks:=s.toks + 1 }:=by
  intro b;obtain ⟨oc,odi,oda,osl⟩:=oe;dsimp only at hc hdx hd;subst hc hdx hd;refine wpAny_bind (wpAny_pure (wpAny_bind (wpAny_bind (wpAny_loadPart (s:={ s with toks:=s.toks + 1 }) he (wpAny_bind (Looks.here (s:={ s with toks:=s.toks + 1 }) (looks_clsIn X hcl) ?_))))));refine hd'.symm▸?_;have he1:(s.heap.push emptyDict).get? e=some ⟨.ref 72,none,.fields vs,osl⟩:=Heap.get?_push_of_some _ he;refine wpAny_bind (wpAny_alloc (wpAny_bind (wpAny_update he1 ?_)));refine wpAny_pure ?_;have ot:∀ b,b≠e->((s.heap.push emptyDict).update e fun o=>{ o with dict:=some s.heap.objs.size }).get? b=(s.heap.push emptyDict).get? b:=fun b hb=>Heap.get?_update_other _ _ (Ne.symm hb);have hD:((s.heap.push emptyDict).update e fun o=>{ o with dict:=some s.heap.objs.size }).get? s.heap.objs.size=some (dictOf [] 0):=(ot _ hes.symm).trans (Heap.get?_push_size _ rfl);have hE:((s.heap.push emptyDict).update e fun o=>{ o with dict:=some s.heap.objs.size }).get? e=some ⟨.ref 72,some s.heap.objs.size,.fields vs,osl⟩:=Heap.get?_update_self _ he1 rfl;refine vq9 (s:={ s with heap:=(s.heap.push emptyDict).update e fun o=>{ o with dict:=some s.heap.objs.size },toks:=s.toks + 1 }) hD rfl (by unfold putL;simp) fun h' hs hD'=>?_;refine h h' (fun b o hb eb=>?_) ((hs.2 e hes).trans hE) hD';have hbs:b≠s.heap.objs.size:=ij5 (Heap.lt_size eb);exact (hs.2 b hbs).trans ((ot b hb).trans (Heap.get?_push_of_some _ eb))
 exact set_plain (od:=none) X ⟨he,hc,hno,by rw [hdx];trivial⟩ f1 (uh3 (s:={ s with toks:=s.toks + 1 }) X he hc hno hnm (go _) (go _))
theorem gm_init {pl:Sem Bool} {Q:Value×List Value->Shared->Prop} (X:(K0 w.params).In s.heap) (h:Q (.builtin "Exception.__init__",[]) { s with toks:=s.toks + 1 }):wpAny (model P w) A (getMethod (.type "Exception") "__init__" pl) Q E s:=by
 have ht:typeOf (.type "Exception")=pure (.type "type"):=by rfl
 have hs:Manifest.isStub "Exception" = false:=by decide +kernel
 have hstub:opaqueClassAbove (.type "Exception")=pure none:=by unfold opaqueClassAbove;dsimp only;rw [hs];rfl
 have e:findCls (K0 w.params) (.type "Exception") (.type "type") "__init__" = some (.val (.builtin "Exception.__init__")):=by rfl
 have L0:Looks (model P w) s.heap (typeOf (.type "Exception")) (.type "type"):=Looks.of_pure ht;have hg:findIn (K0 w.params) (.type "type") "__getattribute__" = some (some (.builtin "type.__getattribute__")):=type_tga
 delta getMethod specialOf
 refine wpAny_bind (wpAny_bind (L0.here ((looks_findIn X hg).here ?_)));dsimp only;rw [if_pos canon_tga];refine wpAny_bind (wpAny_mono (Q:=fun v=>Q (v,[])) (E:=E) ?_ (fun U U z=>wpAny_pure z) fun U U z=>z);have LO:Looks (model P w) s.heap (opaqueClassAbove (.type "Exception")) none:=Looks.of_pure hstub;refine cls_open X LO L0 hg (looks_hook X (r:=none) (by rfl)) (by show PySem.W.subIn (K0 w.params) _ _=_;rfl) e
  (wpAny_pure (by show wpAny _ _ (handedOut _) _ _ _;rw [handedOut_of rfl];exact wpAny_pure h))
end
noncomputable def uv6:Fn:=⟨Str.ofString "LedgerError.__init__",2,some 0,37,.ref 30,Str.ofString "ledgerspeak.errors",194,36,211⟩
theorem uv5:uv6∈fns:=iv0 (i:=51) (by rfl)
noncomputable def liOk (ps:Arguments) (sc:Scope) (p2 p5:Pos):Bool:=ps.args.map (fun U=>U.arg) == [Str.ofString "self",Str.ofString "what",Str.ofString "at"]&&sc.names.lookup (Str.ofString "self") == some .local&&sc.names.lookup (Str.ofString "what") == some .local&&sc.names.lookup (Str.ofString "at") == some .local&&
 sc.names.lookup (Str.ofString "Exception") == some .globalImplicit&&p2.endLine == p5.line
theorem li_elim {C:Prop} (k:∀ nm ps d1 d2 d3 sc d4 d5 d6 p1 p2 p3 p4 p5 p6 p7 p8 p9 p10 p11 p12 p13 p14,zg1 uv6.i uv6.j=some (.FunctionDef nm ps [.Expr (.Call (.Attribute (.Name "Exception" p1) "__init__" p2) [.Name "self" p3,.Name "what" p4] [] p5) p6,
 .Assign [.Attribute (.Name "self" p7) "what" p8] (.Name "what" p9) p10,.Assign [.Attribute (.Name "self" p11) "at" p12] (.Name "at" p13) p14] d1 d2 d3 sc d4 d5 d6)->liOk ps sc p2 p5=true->C):C:=k _ _ _ _ _ _ _ _ _ _ _ _ _ _ _ _ _ _ _ _ _ _ _ rfl rfl
section
variable {n:Nat} {A:Around} {fr:List Env} {sc:Scope} {env:Env} {ι:Lay} {σ:zz0} {s:Shared} {e L t0:Addr} {E:QV0}
theorem yx7 {x:Str} {p:Pos} {v:Value} {m:Str->Option Value} {Q:QV0} (hk:env.scope.kind=.function) (hl:env.kindOf x=some .local) (hns:s.heap.Ns env.locals m) (hv:m x=some v) (hd:(x == ("__debug__" : Str))=false) (h:Q v s):wpAny (model P w) A (eval (.Name x p) env) Q E s:=
 wpAny_Name (wpAny_loadName_local hk hl hns hv h) hd
set_option tactic.hygienic true in
theorem vx7 {a x:Str} {p7 p8 p9 p10:Pos} {v:Value} {m:Str->Option Value} {Q:Flow->Shared->Prop} (hk:env.scope.kind=.function) (h1:env.kindOf "self" = some .local) (h2:env.kindOf x=some .local) (hns:s.heap.Ns env.locals m) (hv:m "self" = some (.ref e)) (hx:m x=some v) (hd:(x == ("__debug__" : Str))=false)
 (h:wpAny (model P w) A (setAttr (.ref e) a v) (fun U s'=>Q .next s') E s):wpAny (model P w) A (exec (.Assign [.Attribute (.Name "self" p7) a p8] (.Name x p9) p10) env) Q E s:=by
 refine wpAny_Assign_stores (yx7 hk h2 hns hx hd ?_) rfl rfl;refine (?_:wpAny _ A (assign (.Attribute (.Name "self" p7) a p8) env v) _ E s);exact wpAny_bind (wpAny_holding (yx7 hk h1 hns hv (rfl) (wpAny_bind (wpAny_standAt (wpAny_bind (wpAny_holding (wpAny_mono h (fun U U q=>wpAny_release q) fun U U q=>q)))))))
theorem ub6 {p1 p2 p3 p4 p5 p6:Pos} {xv:Value} {m:Str->Option Value} {Q:Flow->Shared->Prop} (hk:env.scope.kind=.function) (h1:env.kindOf "self" = some .local) (h2:env.kindOf "what" = some .local) (h3:env.kindOf "Exception" = some .globalImplicit) (hp:(p2.endLine == p5.line)=true)
 (hns:s.heap.Ns env.locals m) (hv:m "self" = some (.ref e)) (hx:m "what" = some xv) (hg:s.heap.Ns env.globals mg) (hbb:s.heap.Ns env.builtins mb) (g1:mg "Exception" = none) (g2:mb "Exception" = some (.type "Exception"))
 (X:(K0 w.params).In s.heap) (he:s.heap.get? e=some (zh5 t0)) (h:∀ h' t t1,(∀ b o,b≠e->s.heap.get? b=some o->h'.get? b=some o)->h'.get? e=some (zh5 t1)->Q .next { s with heap:=h',toks:=t }) :
 wpAny (model P w) A (exec (.Expr (.Call (.Attribute (.Name "Exception" p1) "__init__" p2) [.Name "self" p3,.Name "what" p4] [] p5) p6) env) Q E s:=by
 obtain ⟨hh,gg,d,t,os⟩:=s;rw [exec_Expr env _ p6 (by unfold interactive;rw [hk];rfl) rfl];refine wpAny_bind (wpAny_standAt (wpAny_bind ?_));refine wpAny_bind (Name_function_global hk h3 (loadGlobal_builtin hg g1 hbb g2 (wpAny_bind (wpAny_standAt (zp8 rfl (by show 2 < 20;decide) hp (gm_init X ?_))))) (rfl));refine callWith_of (P:=yz6 (model P w) (.builtin "Exception.__init__")) rfl (fun U x=>x) (yq6 rfl ?_);refine spliced_cons (yx7 hk h1 hns hv (rfl) (spliced_cons (yx7 hk h2 hns hx (rfl) (spliced_nil ?_))));refine ⟨yz2,exc_init (h:=hh) X he fun h' t1 k1 k2=>ug9 ix8 (h h' _ t1 k1 k2)⟩
end
theorem ns_at {h h':Heap} {L:Addr} {m:Str->Option Value} (x:h.Ns L m) (k:∀ o,h.get? L=some o->h'.get? L=some o):h'.Ns L m:=el31 (x) fun o es ep ho r=>⟨o,es,ep,k o ho,r⟩
theorem wb7 {name:Str} {h:Int} {k v:Value} {es:List DictEntry}:(putL name h k v es).length<=es.length + 1:=by
 induction es with
 | nil=>simp [putL]
 | cons e r ih=>
  unfold putL;split
  ·simp
  ·simp only [ik8];exact l21 0x13817113138111371 ih
section
variable {n:Nat} {A:Around} {fr:List Env} {sc:Scope} {env:Env} {ι:Lay} {σ:zz0} {s:Shared} {e L t0:Addr} {Q:QV0} {E:QV0}
theorem gf_body {xv yv:Value} {R:Result->Shared->Prop} (B:zf9) (In:Inv ι σ s) (hn:∀ q t,Value.ref e≠.str q t) (hroom:A.depth + 1 < recursionLimit) (hse:s.heap.get? e=none) (hz:s.heap.objs.size<=e) {s1:Shared} (hs1:∃ h t,s1={ s with heap:=h,toks:=t })
 (k1:∀ b o,s.heap.get? b=some o->s1.heap.get? b=some o) (he:s1.heap.get? e=some (zh5 t0))
 (h:∀ h' t oe vs,(∀ b o,s.heap.get? b=some o->h'.get? b=some o)->h'.get? e=some oe->oe.cls=.ref 72->oe.data=.fields vs->4 < vs.size->vs[1]?=some .none->R (.ok (.ret .none)) { s with heap:=h',toks:=t }) :
 codeAny (model P w) A (.call (.ref 37) ⟨[.ref e,xv,yv],[]⟩) R s1:=by
 refine li_elim fun nm ps d1 d2 d3 sc d4 d5 d6 p1 p2 p3 p4 p5 p6 p7 p8 p9 p10 p11 p12 p13 p14 est ok=>?_;refine hid fun G kG=>?_;have g:=fg_of w.params uv5 est;refine zz9 (bb ok) fun ok o6=>zz9 (bb ok) fun ok o5=>zz9 (bb ok) fun ok o4=>zz9 (bb ok) fun ok o3=>zz9 (bb ok) fun o1 o2=>?_;replace o1:=beq_iff_eq.mp o1;replace o2:=beq_iff_eq.mp o2;replace o3:=beq_iff_eq.mp o3;replace o4:=beq_iff_eq.mp o4;replace o5:=beq_iff_eq.mp o5;have hps:ps.args.length=3:=(iq9 ..).symm.trans (congrArg List.length o1);have X:(K0 w.params).In s1.heap:=(In.K B).keeps k1;have ho:=(X _ _ (xp6 wq0 uv5)).trans (congrArg (fun st=>some (fnObj st uv6.q uv6.dfl uv6.md uv6.mt uv6.c)) est);have hc:((zg1 uv6.i uv6.j).elim Option.none fdN).elim false (fun p=>(xy1 p.2.1.defaults).isSome)=true:=by rfl
 rw [est] at hc;refine el10 (ik0.mp hc) fun ds ec=>?_;refine el12 (g.df ds ec) fun xs ex rk hdl=>?_;refine el11 (uf1 (M:=model P w) X ex) fun o hlk hox=>?_;have hxl:xs.length=ds.length:=(wb4 (ι:=ι) X rk).length;refine kG ?_;refine codeAny_call_function (a:=uv6.a) (l11 0x00003e841313711100003e841371 hroom) ho rfl g.cor g.gen rfl (vx0 B (fun b o q=>k1 _ _ (In.keep _ _ q)) uv5) (wg9 g.po g.ko g.va g.kw g.nd hlk hox (by rw [hxl];exact hdl) (by rw [hps];exact iq1 3) (by rw [hps];exact ij4 3 _) ?_);have hz2:(ps.args.map (fun U=>U.arg)).zip ([Value.ref e,xv,yv]++xs.drop (xs.length - (ps.args.length - [Value.ref e,xv,yv].length)))=[(Str.ofString "self",.ref e),(Str.ofString "what",xv),(Str.ofString "at",yv)]:=by
  rw [o1];rfl
 refine (hz2).symm▸?_;refine xy0 g.kind (.inl rfl) (by show [Str.ofString "self",Str.ofString "what",Str.ofString "at"].Nodup;decide +kernel) (fun y hy=>?_) fun cells s' U x=>?_
 ·simp only [ix7,oq4,or_false] at hy
  rcases hy with rfl|rfl|rfl
  ·exact .inl o2
  ·exact .inl o3
  ·exact .inl o4
 ·refine hid fun G kG=>?_
  refine el10 x.ns fun m pq9=>?_;obtain ⟨hm1,hm2⟩:=pq9;refine el21 x.same fun hh tt eq3 U=>?_;subst eq3;obtain ⟨h1,t1,rfl⟩:=hs1;have kp:∀ b o,s.heap.get? b=some o->hh.get? b=some o:=fun b o q=>x.keep _ _ (k1 _ _ q);have bne:∀ {b o},s.heap.get? b=some o->b≠e:=fun q z=>by rw [z,hse] at q;cases q
  have he1:hh.get? e=some (zh5 t0):=x.keep _ _ he;have hLe:h1.objs.size≠e:=ix0 (Heap.lt_size he);have v1:=hm2 "self" (.ref e) (by simp) o2;have v2:=hm2 "what" xv (by simp) o3;have v3:=hm2 "at" yv (by simp) o4;refine kG ?_;refine ⟨B.nolimit.keeps fun b o q=>kp _ _ (In.keep _ _ q),codeAny_func (wpAny_execs_cons (ub6 (xv:=xv) g.kind o2 o3 o5 o6 hm1 v1 v2 (B.g.keeps fun b o q=>kp _ _ (In.keep _ _ q)) (B.b.keeps fun b o q=>kp _ _ (In.keep _ _ q)) (B.free _ (by decide +kernel)) ((B.blt _ (by decide +kernel)).trans (by rfl)) ((In.K B).keeps kp) he1 fun h2 t2 tt2 k2 he2=>?_))⟩;have kp2:∀ b o,s.heap.get? b=some o->h2.get? b=some o:=fun b o q=>k2 b o (bne q) (kp _ _ q);have ns2:=ns_at hm1 fun o q=>k2 _ o hLe q;refine wpAny_execs_cons (vx7 g.kind o2 o3 ns2 v1 v2 (rfl) (wz8 (s:={ s with heap:=h2,toks:=t2 }) ((In.K B).keeps kp2) he2 rfl rfl (.inl rfl) rfl fun h3 k3 he3 hd3=>?_));have kp3:∀ b o,s.heap.get? b=some o->h3.get? b=some o:=fun b o q=>k3 b o (bne q) (kp2 _ _ q);have ns3:=ns_at ns2 fun o q=>k3 _ o hLe q;refine wpAny_execs_cons (vx7 g.kind o2 o4 ns3 v1 v3 (rfl) (gf_store (s:={ s with heap:=h3,toks:=t2 + 2 }) ((In.K B).keeps kp3) he3 rfl rfl (.inr rfl) rfl hd3 (by rfl) (by have a:=wb7 (name:= "at") (h:=PyData.keyHash w.params "at") (k:=.str "at" (t2 + 2 + 1)) (v:=yv) (es:=putL "what" (PyData.keyHash w.params "what") (.str "what" (t2 + 1)) xv []);have b:=wb7 (name:= "what") (h:=PyData.keyHash w.params "what") (k:=.str "what" (t2 + 1)) (v:=xv) (es:=[]);simp only [List.length_nil] at b;exact iq2 a (l11 0x130317100003e841371 b)) fun h4 hs4=>?_));have hde:e≠h2.objs.size:=ij5 (Heap.lt_size he2);refine wpAny_execs_nil (h h4 _ _ _ (fun b o q=>(hs4.2 b ?_).trans (kp3 b o q)) ((hs4.2 e hde).trans he3) rfl rfl (by simp) (rfl));exact ij5 (Heap.lt_size (kp2 b o q))
end
section
variable {n:Nat} {A:Around} {fr:List Env} {ι:Lay} {σ:zz0} {s:Shared} {Q:QV0} {E:QV0}
theorem gf_code {xv yv:Value} (B:zf9) (rm:Rm A (n + 1) fr) (In:Inv ι σ s) (H:zj5 (.ex σ) ι s Q E) :
 codeAny (model P w) A (.call (.ref 72) ⟨[xv,yv],[]⟩) (fun r s'=>match r with|.ok (.ret v)=>Q v s'|.ok _=>False|.error e=>E e s') s:=by
 obtain ⟨h,g,d,t,os⟩:=s;have kp:∀ b o,h.get? b=some o->((h.push (xq2 [xv,yv])).push (zh5 h.objs.size)).get? b=some o:=fun b o e=>Heap.get?_push_of_some _ (Heap.get?_push_of_some _ e);have hx:((h.push (xq2 [xv,yv])).push (zh5 h.objs.size)).get? (h.objs.size + 1)=some (zh5 h.objs.size):=by heap_get
 refine gf_make (In.K B) (by rw [zw5];show 2<=16777216;decide) (gf_body (s:=⟨h,g,d,t,os⟩) B In (fun U U q=>nomatch q) ?_ (Heap.get?_none_of_le (oz5 _)) (oz5 _) ⟨_,_,rfl⟩ kp hx fun h' t' oe vs k he hc hd hz h1=>⟨rfl,?_⟩)
 ·have w0:(Code.builtin "type.__call__" ⟨[.ref 72,xv,yv],[]⟩).weight=1:=by rfl
  show A.depth + (Code.builtin "type.__call__" ⟨[.ref 72,xv,yv],[]⟩).weight + 1 < recursionLimit;have:=rm.depth;exact l32 0x00003e84131391227111138900003e84131387111 w0 this
 ·have hsz:h.objs.size<=h'.objs.size:=oz9 (Nat.lt_trans (ij7 _) (Heap.lt_size he))
  obtain ⟨I',N⟩:=In.more (s:=⟨h,g,d,t,os⟩) (h':=h') hsz k t';exact H ι (h.objs.size + 1) _ N I' ⟨oe,vs,he,oz5 _,hc,hd,hz,h1⟩
theorem uh9 {σ:zz0} {as:List V} (h:fault σ as≠.bad):∃ l m,as=[.str l,.tup m]:=by
 rcases as with _|⟨x,_|⟨y,_|⟨_,_⟩⟩⟩
 ·exact absurd rfl h
 ·cases x <;> exact absurd rfl h
 ·cases x with
  | str l=>cases y with
   | tup m=>exact ⟨l,m,rfl⟩
   | _=>exact absurd rfl h
  | _=>exact absurd rfl h
 ·cases x <;> first|exact absurd rfl h|(cases y <;> exact absurd rfl h)
theorem ub5 (B:zf9) (hc:yz7 n):yz7 (n + 1):=by
 intro A fr ι σ s f args fv vals Q E rm fo In tk rf rs H;cases f with
 | fn q=>
  have rf':=rf;refine el11 rf' fun f hf pq5=>?_;obtain ⟨rfl,rfl⟩:=pq5;exact wpAny_call (wy8 B (wh4 B hc KD) rm.rc fo In (.inl tk) hf rs H)
 | clo ps b sc ns vs=>exact wpAny_call (clo_code B (ug6 B hc KD).1 rm.rc fo In tk rf rs H)
 | blt id=>
  subst rf;exact vy7 In rm.handled rs H
 | typ t=>
  subst rf;exact typ_ok In rs H
 | cls c=>
  by_cases hcc:c = "GrammarFault"
  ·have H:zj5 (if c = "GrammarFault" then fault σ args else _) ι s Q E:=H
   rw [if_pos hcc] at H;refine el20 (uh9 H.nb) fun l m e0=>?_;subst hcc e0;refine el22 rs.two_of fun x y e0 rx ry=>?_;subst e0;refine el11 rf fun a ha e0=>?_;have:(zw9.all fun p=>p.1 != "GrammarFault"||p.2 == 72)=true:=by decide +kernel
   have h2:=iz0.mp this _ ha;have h2:a=72:=by simpa using h2
   subst e0 h2;exact wpAny_call (gf_code B rm In H)
  ·have H:zj5 (if c = "GrammarFault" then _ else (wz6 c).elim .bad fun q=>made σ (xk4 (zz4 n) q (.loc σ.length::args) (σ++[.inst c []]))) ι s Q E:=H
   rw [if_neg hcc] at H;refine el11 (zz3.opt H) fun q hi H=>?_;exact wpAny_call (cls_code B (wh4 B hc KD) rm fo In tk rf rs hcc hi H)
 | _=>exact H.elim
theorem call_all (B:zf9):∀ n,yz7 n:=by
 intro n;induction n with
 | zero=>
  exact fun U U U U U U H=>False.elim H
 | succ n ih0=>
  exact ub5 B (ih0)
end
end
section
open PySem PySem.W PyProof.Rows PySem.Calls
theorem tabs_off (P:Params):((K0 P).all fun p=>!zk9.contains p.1)=true:=by rfl
theorem uf7:(fns.all fun f=>!zk9.contains f.c)=true:=by decide +kernel
theorem off {b:Addr} (h:(!zk9.contains b)=true):b∉zk9:=fun q=>by
 rw [ij9] at h;rw [List.contains_iff_mem.mpr q] at h;nomatch h
theorem xv7 {L:Addr} {m:Str->Option Value} (x:at0.s.heap.Ns L m) (hL:L∉zk9):hb.Ns L m:=el32 x fun o es ep ho r d=>⟨o,es,ep,xx7 ho hL,r,d⟩
theorem uy3 {ι:Lay} {h:Heap} {R:WRecords} {cl:Str->Option Addr} {xs:List WData}:∀ {vs:List Value} {as:List Addr},WShape.hasItems R xs .int=true->ReadsAllW R cl h vs xs as->∃ ns:List Int,ns.length=xs.length/\zq2 ι h (ns.map V.int) vs:=by
 induction xs with
 | nil=>intro vs as _ r;cases r;exact ⟨[],rfl,rfl⟩
 | cons x xs ih=>
  intro vs as hi r;simp only [WShape.hasItems,iq5] at hi;refine el10 (hasW_int hi.1) fun i ei=>?_;subst ei;obtain ⟨v,vs',a1,b1,e4,U,r1,r2⟩:=readsAllW_cons_inv r;obtain ⟨t,e5,U⟩:=readsW_int_inv r1;refine el11 (ih hi.2 r2) fun ns hl rs=>?_;exact ⟨i::ns,congrArg (fun U=>U + 1) hl,e4▸e5▸⟨_,_,rfl,⟨t,rfl⟩,rs⟩⟩
theorem far5 {F A B C D E:List Str} (h:((A++(B++(C++(D++E)))).all fun y=>!F.contains y)=true) {x:Str} (hx:x∈F):x∉A/\x∉B/\x∉C/\x∉D/\x∉E:=by
 have z:∀ y∈A++(B++(C++(D++E))),y≠x:=by
  rintro y hy rfl;have h:=iz0.mp h y hy;rw [ij9] at h;rw [List.contains_iff_mem.mpr hx] at h;nomatch h
 refine ⟨fun q=>z x ?_ rfl,fun q=>z x ?_ rfl,fun q=>z x ?_ rfl,fun q=>z x ?_ rfl,fun q=>z x ?_ rfl⟩ <;> simp [q]
noncomputable def free0:List Str:=["len","chr","ord","abs","min","isinstance","str","tuple","list","range","reversed","Exception"]
theorem free_all:((startupNames++(looseW q0 zb7++((recsOf q0).map (fun U=>U.name)++((litsOf q0).map (fun U=>U.1)++(clssOf q0 (looseW q0 zb7)).map (fun U=>U.name))))).all fun y=>!free0.contains y)=true:=by decide +kernel
set_option tactic.hygienic true in
theorem wf1 {s₀:Shared} (G:Ground q0 zb7 r0.records (fun U U=>True) w s₀ mg mb at0.s.heap) (Y:Says w at0.s.heap):zf9:=by
 have T:=G.T;refine ⟨xv7 T.g (by decide),xv7 T.b (by decide),fun g hg=>?_,fun x hx=>?_,T.builtins,?_,?_,?_,fun a o e=>?_,fun f hf=>?_,fun a ha=>hb_none ha⟩
 ·rw [T.g.eq_nsMap];exact Y.globs g hg
 ·refine el03 (far5 free_all (x:=x) hx) fun a1 a2 a3 pq2=>?_
  obtain ⟨a4,a5⟩:=pq2;exact T.free _ a1 a2 a3 a4 a5
 ·refine el24 T.bmain fun bm ob h1 h2 h3 h4 pq6=>?_
  obtain ⟨h5,h6⟩:=pq6;refine ⟨bm,ob,h1,h2,xx7 h3 fun q=>?_,h4,h5,h6⟩;have:=Y.tabs bm q;replace this:=h3▸this;cases this;cases h6
 ·obtain ⟨mc,h1,h2⟩:=T.nolimit
  exact ⟨mc,xv7 h1 (by decide),h2⟩
 ·obtain ⟨mc,h1,h2⟩:=T.nodigits
  exact ⟨mc,xv7 h1 (by decide),h2⟩
 ·have hm:(a,o)∈K0 w.params:=by
   have:∀ {l:Frag},l.lookup a=some o->(a,o)∈l:=by
    intro l;induction l with
    | nil=>intro q;cases q
    | cons p l ih=>
     obtain ⟨y,u⟩:=p;intro q;rw [iz2] at q;by_cases z:a=y
     ·subst z
      simp at q;exact q▸iz6
     ·rw [show (a == y)=false from by simpa using z] at q
      exact ix3 _ (ih q)
   exact this e
  exact xx7 (Y.objs a o e) (off (iz0.mp (tabs_off w.params) _ hm))
 ·have hc:=Y.codes f hf
  unfold yf2 at hc ⊢;split at hc
  ·rename_i c d vs sl q
   rw [xx7 q (off (iz0.mp uf7 _ hf))];exact hc
  ·cases hc
noncomputable abbrev NN:Nat:=300
noncomputable def vj0:Prop:=∀ ns:List Int,ns.length<=63->∃ σ',zz4 (NN + 1) (.fn "law") [.fz (ns.map V.int)] []=.ok (.bool true) σ'
noncomputable def flds (d:Data):Option (Array Value):=match d with
 | .fields vs=>some vs
 | _=>none
noncomputable def elev (b:Addr) (o:Obj):Bool:=o.cls == .type "code"&&(flds o.data).elim false fun vs=>vs[11]? == some (.ref b)
theorem elev_inv {b:Addr} {o:Obj} (e:elev b o=true):∃ vs,o.cls=.type "code"/\o.data=.fields vs/\vs[11]?=some (.ref b):=by
 obtain ⟨e1,e2⟩:=Bool.and_eq_true_iff.mp e;refine el11 (eb e2) fun vs e3 e4=>?_;refine ⟨vs,beq_iff_eq.mp e1,?_,beq_iff_eq.mp e4⟩;clear e e1 e2 e4;generalize o.data=da at e3 ⊢;cases da <;> first|exact zz7 e3|exact Option.some.inj e3▸rfl
theorem vf4 (P:Params):(zk9.all fun b=>(K0 P).any fun p=>((K0 P).lookup p.1).elim false (elev b))=true:=by rfl
theorem pre_len {xs:List WData} (h:rw0.row.toRowW.pre.holds rw0.row.toRowW.records { args:=[.list xs]}=true):xs.length<=63:=by
 have e:rw0.row.toRowW.pre=.and (.not (.lt (.lit (.int 63)) (.len (.arg 0)))) (.lit (.bool true)):=rfl;rw [e] at h;by_cases q:xs.length<=63
 ·exact q
 ·exfalso
  dsimp only [WTm.holds,WTm.value] at h;have hl:less? (.int 63) (.int (xs.length:Int))=some true:=by
   show some (decide ((63:Int) < (xs.length:Int)))=some true;rw [decide_eq_true (show (63:Int) < (xs.length:Int) from ik6.mpr (oq0 q))]
  simp [hl] at h
theorem qz9 {R:WRecords} {cl:Str->Option Addr} {h:Heap} {vals:List Value} {args:List WData} {as:List Addr} (h1:WShape.hasAll R args [.list .int]=true) (hr:ReadsAllW R cl h vals args as) {c:Prop}
 (k:∀ xs la lo vs nn ns,args=[.list xs]->vals=[.ref la]->h.get? la=some lo->lo.cls=Value.type "list"->lo.data=Data.seq vs nn->List.length ns=List.length xs->zq2 [] h (ns.map V.int) vs.toList->c):c:=by
 refine el21 (hasAllW_cons h1) fun x r e1 q1=>?_;refine el11 (hasW_list q1.1) fun xs e2 h6=>?_;have e3:args=[.list xs]:=e1.trans (hasAllW_nil q1.2▸e2▸rfl);obtain ⟨v,vs',a1,b1,e4,U,r1,r2⟩:=readsAllW_cons_inv (e3▸hr);obtain ⟨l,o,its,n,ai,e5,e6,e7,e8,r3⟩:=readsW_list_open r1;refine el11 (uy3 (ι:=[]) (h:=h) h6 r3.1) fun ns hnl rs=>?_;exact k _ _ _ _ _ ns e3 (e4.trans ((readsAllW_nil_inv r2).1▸e5▸rfl)) e6 e7 e8 hnl rs
set_option tactic.hygienic true in
theorem start (hp:vj0):∀ d kwd,d.name=("law" : Str)->WalkO q0 zb7 (fun U U=>True) (fun w h=>Says w h) r0 d kwd fun f vs=>PySem.call f vs:=by
 refine picked at0_q fun d kwd hd=>?_;rw [show pick at0_q=at0 from rfl,w_eq,mg_eq,mb_eq];intro G Y a o pm cd doc dV kV ho hod hcr hdf hmg hgens args vals as hpre hlay hrd hwell has;have B:=wf1 G Y;have ha:a=753:=by
  have h1:=zf4 (x:= "law") (a:=753) B (by rfl);replace hmg:=hd▸hmg;have h2:=hmg.symm.trans h1;cases h2;rfl
 subst ha;obtain ⟨h1,h2⟩:=pre_splitW hpre;refine qz9 h1 hrd fun xs la lo vs nn ns ea ev g1 g2 g3 hnl rs=>?_;subst ev;obtain ⟨σ',hlaw⟩:=hp ns (hnl.symm▸pre_len (ea▸h2));have hla:la∉zk9:=fun q=>by
  have:=Y.tabs la q;replace this:=g1▸this;cases this;cases g2
 have In:Inv [] [] at0.s:=by
  refine ⟨rfl,fun i o e=>by simp at e,List.nodup_nil,(fun p hp=>nomatch hp),fun b o e=>hb_of e,fun P hP=>⟨#[],Y.tabs P hP,trivial,fun pos cv e=>by simp [codeAmong] at e⟩,hgens,os_eq⟩
 have rl:Rel [] at0.s.heap (.fz (ns.map V.int)) (.ref la):=by
  exact ⟨la,lo,vs.toList,nn,rfl,xx7 g1 hla,g2,by simpa using g3,rs⟩
 obtain ⟨f,hf,hfa⟩:∃ f∈fns,f.q = "law"/\f.a=753:=by
  have:(fns.any fun f=>f.q == "law"&&f.a == 753)=true:=by decide +kernel
  obtain ⟨f,hf,q⟩:=iw9.mp this;simp only [iq5,beq_iff_eq] at q;exact ⟨f,hf,q⟩
 have rc:Rc callerA NN []:=⟨by decide +kernel,by decide +kernel,rfl,rfl⟩;have fo:xj5 [] at0.s.heap []:=fun U q=>nomatch q;refine hfa.2▸?_;refine wpAny_call (wy8 B (wh4 B (call_all B NN) KD) rc fo In (.inr ⟨hfa.1,rfl⟩) hf (args:=[.fz (ns.map V.int)]) (⟨_,_,rfl,rl,rfl⟩) ?_);have e1:xk4 (zz4 NN) f.q [.fz (ns.map V.int)] []=.ok (.bool true) σ':=by
  refine hfa.1.symm▸?_;exact hlaw
 refine e1.symm▸?_;intro ι' b s' N I rb;have hb:b=.bool true:=rb;subst hb;have kp:∀ b o,at0.s.heap.get? b=some o->b∉zk9->s'.heap.get? b=some o:=fun b o e q=>I.keep b o (xx7 e q);refine ⟨.inl ⟨.bool true,.bool true,[],rfl,fun cls=>rfl,.bool true,by kernel_rfl,fun U=>⟨List.nodup_nil,(fun U q=>nomatch q)⟩⟩,⟨fun b o e=>?_,fun b o e=>?_⟩,I.os.trans os_eq.symm,AllBare.of_eq I.gens⟩
 ·by_cases q:b∈zk9
  ·have q1:=Y.tabs b q
   cases e.symm.trans q1;refine el11 (I.tabs b q) fun ps q2 U=>?_;refine .inr (.inl ⟨?_,rfl,#[],ps,rfl,by rw [q2];simp⟩);have z:=iz0.mp (vf4 w.params) b q;obtain ⟨p,hp1,z⟩:=iw9.mp z;refine el11 (eb z) fun o1 eob z=>?_;obtain ⟨vs',z1,z3,z2⟩:=elev_inv z;exact ⟨p.1,_,vs',Y.objs _ _ eob,z1,z3,z2⟩
  ·exact .inl (kp b o e q)
 ·by_cases q:b∈zk9
  ·refine el11 (I.tabs b q) fun ps q2 U=>?_
   exact ⟨_,q2⟩
  ·exact ⟨o,kp b o e q⟩
theorem holds_of (hp:vj0):rw0.Holds:=by
 refine holds_law said fun U=>?_;refine holds_open (q:=q0) (loose:=zb7) (Xt:=fun U=>true) (XP:=fun U U=>True) (Yf:=fun s=>see s.heap) (Ya:=vj5) (YP:=fun w h=>Says w h) (N:=5000) left0
  (fun w s e=>says_of w s.heap e) (fun w h h' x k=>x.keeps k) (fun U U=>trivial) (fun U U U U U=>trivial) (by rfl) (by rfl) (by rfl) (fun s e=>recFacts_nil rfl) (by rfl) (by assumption) (by decide +kernel) ⟨rfl,rfl,rfl,rfl,rfl,by decide +kernel⟩ ?hw ?hc
 case hw=>exact ⟨[.list [.int 3,.int 1]],by decide +kernel,by decide +kernel⟩
 case hc=>exact start hp _ _ rfl
end
section
open PySem
noncomputable def eqL (a b:List Nat):Bool:=List.rec (motive:=fun U=>List Nat->Bool) (fun b=>b.isEmpty) (fun x U ih b=>List.casesOn b false fun y s=>bif Nat.beq x y then ih s else false) a b
noncomputable def yv0 {α:Type} (x:List Nat) (l:List (Str×α)):Option α:=List.rec none (fun p U ih=>bif eqL x p.1.cps.toList then some p.2 else ih) l
theorem ug8 (a:List Nat):∀ b:List Nat,eqL a b=true ↔ a=b:=by
 induction a with
 | nil=>exact fun b=>ik3.trans eq_comm
 | cons x a ih=>
  intro b;cases b with
  | nil=>exact ⟨fun h=>absurd h ix8,fun h=>nomatch h⟩
  | cons y s=>
   show (bif Nat.beq x y then eqL a s else false)=true ↔ _;cases q:Nat.beq x y with
   | true=>
    rw [Nat.eq_of_beq_eq_true q];exact (ih s).trans ⟨congrArg (fun U=>y::U),fun h=>(List.cons.inj h).2⟩
   | false=>exact ⟨fun h=>absurd h ix8,fun h=>absurd (List.cons.inj h).1 (Nat.ne_of_beq_eq_false q)⟩
theorem str_eq {a b:Str} (h:a.cps.toList=b.cps.toList):a=b:=by
 obtain ⟨⟨a⟩⟩:=a;obtain ⟨⟨b⟩⟩:=b;cases h;rfl
theorem yq7 (a b:Str):eqL a.cps.toList b.cps.toList=(a == b):=by
 rw [Bool.eq_iff_iff,ug8,beq_iff_eq];exact ⟨str_eq,fun h=>h▸rfl⟩
theorem yb2 {α:Type} (x:Str) (l:List (Str×α)):yv0 x.cps.toList l=l.lookup x:=by
 induction l with
 | nil=>rfl
 | cons p r ih=>
  obtain ⟨k,v⟩:=p;show (bif eqL x.cps.toList k.cps.toList then some v else yv0 x.cps.toList r)=_;rw [yq7,ih,iz2];cases x == k <;> rfl
noncomputable def hdIs (c:Nat):List Nat->Bool
 | d::_=>Nat.beq c d
 | []=>false
theorem ww4 {α:Type} (c:Nat) (s:List Nat) (l:List (Str×α)):yv0 (c::s) (l.filter fun p=>hdIs c p.1.cps.toList)=yv0 (c::s) l:=by
 induction l with
 | nil=>rfl
 | cons p r ih=>
  rw [List.filter_cons];cases h:hdIs c p.1.cps.toList with
  | true=>exact congrArg (fun z=>bif eqL (c::s) p.1.cps.toList then some p.2 else z) ih
  | false=>
   have q:eqL (c::s) p.1.cps.toList=false:=by
    cases q:eqL (c::s) p.1.cps.toList with
    | false=>rfl
    | true=>rw [<-(ug8 _ _).mp q] at h;exact absurd ((Nat.beq_refl c).symm.trans h) (by decide)
   exact ih.trans (congrArg (fun z=>bif z then some p.2 else yv0 (c::s) r) q).symm
noncomputable def uf0:List (Nat×List (Str×V)):=[(114,[("read_decimal",V.fn "read_decimal"),("run_end",V.fn "run_end"),("read_subscripts",V.fn "read_subscripts"),("read_part",V.fn "read_part"),("read_ref",V.fn "read_ref"),("read_figure",V.fn "read_figure"),("read_operand",V.fn "read_operand"),("read_expression",V.fn "read_expression"),("read_sum",V.fn "read_sum"),("read_product",V.fn "read_product"),("read_factor",V.fn "read_factor"),("read_power",V.fn "read_power"),("read_primary",V.fn "read_primary"),("right_part",V.fn "right_part"),("refs_within",V.fn "refs_within")]),(105,[("is_word_sign",V.fn "is_word_sign"),("is_parted",V.fn "is_parted"),("is_blank_at",V.fn "is_blank_at"),("is_picture_next",V.fn "is_picture_next"),("is_part_next",V.fn "is_part_next"),("is_lone_number",V.fn "is_lone_number"),("is_reserved",V.fn "is_reserved"),("is_ref",V.fn "is_ref"),("isinstance",V.blt "isinstance")]),(115,[("shown_subscripts",V.fn "shown_subscripts"),("show_ref",V.fn "show_ref"),("show_operand",V.fn "show_operand"),("sign_among",V.fn "sign_among"),("show_expression",V.fn "show_expression"),("show_signed",V.fn "show_signed"),("str",V.typ "str")]),(77,[("MOST_WORD",V.int 30),("MOST_FIGURES",V.int 18),("MOST_LITERAL",V.int 160),("MOST_SUBSCRIPTS",V.int 7),("MOST_DEEP",V.int 20),("MOST_OCTET",V.int 255)]),(99,[("capital_of",V.fn "capital_of"),("capitals",V.fn "capitals"),("checked_word",V.fn "checked_word"),("checked_number",V.fn "checked_number"),("chr",V.blt "chr")]),(95,[("_law_draw",V.fn "_law_draw"),("_law_expr",V.fn "_law_expr"),("_law_plain",V.fn "_law_plain"),("_law_read",V.fn "_law_read"),("_law_numbers",(.tup [.tup [.int 0,.int 0],.tup [.int 5,.int 0],.tup [.int (-5),.int 0],.tup [.int 25,.int 2],.tup [.int (-75),.int 1]]:V))]),(108,[("level_of",V.fn "level_of"),("law",V.fn "law"),("len",V.blt "len"),("list",V.typ "list")]),(110,[("negated",V.fn "negated"),("number_end",V.fn "number_end"),("need_apart",V.fn "need_apart")]),(119,[("worth_of",V.fn "worth_of"),("write_decimal",V.fn "write_decimal"),("worth_at",V.fn "worth_at")]),(76,[("Line",V.cls "Line"),("LETTERS",V.str (Str.ofString "ABCDEFGHIJKLMNOPQRSTUVWXYZ").cps.toList),("LEVELS",(cmap [("+",.int 1),("-",.int 1),("*",.int 2),("/",.int 2),("**",.int 4)]:V))]),(82,[("Reader",V.cls "Reader"),("RAISED",V.int 4),("RESERVED",V.str RES.cps.toList)]),(70,[("FIGURES_decimals",V.str (Str.ofString "0123456789").cps.toList),("FIGURES_tokens",V.str (Str.ofString "0123456789").cps.toList),("FIGURE_NAMES",(cmap [("ZERO",txt "ZERO"),("ZEROS",txt "ZERO"),("ZEROES",txt "ZERO"),("SPACE",txt "SPACE"),("SPACES",txt "SPACE"),("HIGH-VALUE",txt "HIGH"),("HIGH-VALUES",txt "HIGH"),("LOW-VALUE",txt "LOW"),("LOW-VALUES",txt "LOW"),("QUOTE",txt "QUOTE"),("QUOTES",txt "QUOTE")]:V))]),(109,[("mark_at",V.fn "mark_at"),("min",V.blt "min")]),(97,[("add_tokens",V.fn "add_tokens"),("abs",V.blt "abs")]),(116,[("tokens_of",V.fn "tokens_of"),("tuple",V.typ "tuple")]),(83,[("SINGLE_SIGNS",V.str (Str.ofString "():+-*/=<>").cps.toList),("SIGNED",V.int 3)]),(66,[("BARE",V.int 5),("BRANCHED",(.tup ((["arith","divide","corr","search","search-all","string","unstring","read","write","rewrite","delete","start","return","call"]:List String).map txt):V))]),(100,[("decimal",V.fn "decimal")]),(98,[("bracketed",V.fn "bracketed")]),(101,[("exchanged_bodies",V.fn "exchanged_bodies")]),(84,[("Token",V.cls "Token")]),(71,[("GrammarFault",V.cls "GrammarFault")]),(111,[("ord",V.blt "ord")]),(81,[("QUOTES",V.str (Str.ofString "\"'").cps.toList)]),(87,[("WORD_SIGNS",V.str (Str.ofString "ABCDEFGHIJKLMNOPQRSTUVWXYZ0123456789-").cps.toList)]),(68,[("DOUBLE_SIGNS",V.str (Str.ofString "** <= >=").cps.toList)]),(69,[("ENDS",V.str (Str.ofString ".,;").cps.toList)])]
noncomputable def qz2 (l:List (Nat×List (Str×V))) (c:Nat):List (Str×V):=List.rec [] (fun p U ih=>bif Nat.beq c p.1 then p.2 else ih) l
noncomputable abbrev bkt (c:Nat):List (Str×V):=qz2 uf0 c
noncomputable def Good:List (Nat×List (Str×V))->Prop
 | []=>True
 | p::r=>(p.2=yp2.filter fun x=>hdIs p.1 x.1.cps.toList)/\Good r
theorem bktIn_ok (c:Nat) (l:List (Nat×List (Str×V))) (h:Good l):qz2 l c=[]\/qz2 l c=yp2.filter fun p=>hdIs c p.1.cps.toList:=by
 induction l with
 | nil=>exact .inl rfl
 | cons p r ih=>
  show (bif Nat.beq c p.1 then p.2 else qz2 r c)=[]\/(bif Nat.beq c p.1 then p.2 else qz2 r c)=_;cases q:Nat.beq c p.1 with
  | true=>exact .inr (Nat.eq_of_beq_eq_true q▸h.1)
  | false=>exact ih h.2
theorem bkt_ok (c:Nat):bkt c=[]\/bkt c=yp2.filter fun p=>hdIs c p.1.cps.toList:=bktIn_ok c uf0 ⟨rfl,⟨rfl,⟨rfl,⟨rfl,⟨rfl,⟨rfl,⟨rfl,⟨rfl,⟨rfl,⟨rfl,⟨rfl,⟨rfl,⟨rfl,⟨rfl,⟨rfl,⟨rfl,⟨rfl,⟨rfl,⟨rfl,⟨rfl,⟨rfl,⟨rfl,⟨rfl,⟨rfl,⟨rfl,⟨rfl,⟨rfl,trivial⟩⟩⟩⟩⟩⟩⟩⟩⟩⟩⟩⟩⟩⟩⟩⟩⟩⟩⟩⟩⟩⟩⟩⟩⟩⟩⟩
noncomputable def globF:List Nat->Option V
 | []=>none
 | c::s=>yv0 (c::s) (bkt c)
theorem glob_le {x:Str} {v:V} (h:globF x.cps.toList=some v):uh1 x=some v:=by
 unfold uh1;rw [<-yb2];cases e:x.cps.toList with
 | nil=>rw [e] at h;cases h
 | cons c s=>
  rw [e] at h;change yv0 (c::s) (bkt c)=some v at h;rcases bkt_ok c with q|q
  ·rw [q] at h;cases h
  ·rw [q,ww4] at h;exact h
noncomputable def uj8 (sc:Scope) (ρ:Rho) (x:Str):Option V:=match eqL (Str.ofString "super").cps.toList x.cps.toList with
 | true=>none
 | false=>match eqL (Str.ofString "__debug__").cps.toList x.cps.toList with
  | true=>none
  | false=>match eqL (Str.ofString "__classdict__").cps.toList x.cps.toList with
   | true=>none
   | false=>match yv0 x.cps.toList sc.names with
    | some .local=>yv0 x.cps.toList ρ
    | some .cell=>yv0 x.cps.toList ρ
    | some .free=>yv0 x.cps.toList ρ
    | some .globalImplicit=>globF x.cps.toList
    | _=>none
theorem name_le {sc:Scope} {ρ:Rho} {x:Str} {v:V} (h:uj8 sc ρ x=some v):vv3 sc ρ x=some v:=by
 unfold uj8 at h;rw [yq7,yq7,yq7] at h;unfold vv3;have sy:∀ a:Str,(x == a)=(a == x):=fun a=>by
  by_cases q:x=a
  ·subst q;rfl
  ·rw [beq_eq_false_iff_ne.mpr q,beq_eq_false_iff_ne.mpr (Ne.symm q)]
 rw [sy "__debug__",sy "__classdict__",sy "super"];cases h1:(Str.ofString "super" == x) with
 | true=>rw [h1] at h;cases h
 | false=>
  rw [h1] at h;dsimp only at h;cases h2:(Str.ofString "__debug__" == x) with
  | true=>rw [h2] at h;cases h
  | false=>
   rw [h2] at h;dsimp only at h;cases h3:(Str.ofString "__classdict__" == x) with
   | true=>rw [h3] at h;cases h
   | false=>
    rw [h3] at h;dsimp only at h;rw [if_neg (by decide)];rw [yb2] at h;cases h4:sc.names.lookup x with
    | none=>rw [h4] at h;cases h
    | some k=>
     rw [h4] at h;cases k <;> dsimp only at h ⊢ <;> first|exact glob_le h|(rw [yb2] at h;exact h)|cases h
noncomputable def methF (c n:Str):Option Str:=match eqL (Str.ofString "Reader").cps.toList c.cps.toList with
 | false=>none
 | true=>yv0 n.cps.toList [("__init__","Reader.__init__"),("peek","Reader.peek"),("fault","Reader.fault"),("take","Reader.take"),("is_kind","Reader.is_kind"),("is_word","Reader.is_word"),("skip","Reader.skip"),("one_of","Reader.one_of"),("is_name","Reader.is_name"),("name","Reader.name"),("is_sign","Reader.is_sign"),("skip_sign","Reader.skip_sign"),("need_sign","Reader.need_sign"),("is_number","Reader.is_number"),("signed","Reader.signed")]
theorem meth_le {c n q:Str} (h:methF c n=some q):xp5 c n=some q:=by
 unfold methF at h;rw [yq7] at h;cases e:(Str.ofString "Reader" == c) with
 | false=>rw [e] at h;cases h
 | true=>
  rw [e] at h;dsimp only at h;rw [yb2] at h;have hc:=eq_of_beq e;subst hc;have gen:∀ l:List (Str×Str),(l.map fun p=>((Str.ofString "Reader",p.1),p.2)).lookup (Str.ofString "Reader",n)=l.lookup n:=by
   intro l;induction l with
   | nil=>rfl
   | cons p l ih=>
    simp only [ij2,List.lookup];have:((Str.ofString "Reader",n) == (Str.ofString "Reader",p.1))=(n == p.1):=by
     show ((Str.ofString "Reader" == Str.ofString "Reader")&&(n == p.1))=_;rw [beq_self_eq_true,iw5]
    rw [this,ih]
  rw [<-gen] at h;exact h
noncomputable def fnF (k:List Nat) (l:List Fn):Option Fn:=List.rec none (fun f U ih=>bif eqL k f.q.cps.toList then some f else ih) l
theorem fnF_eq (q:Str) (l:List Fn):fnF q.cps.toList l=l.find? (fun U=>U.q == q):=by
 induction l with
 | nil=>rfl
 | cons f r ih=>
  show (bif eqL q.cps.toList f.q.cps.toList then some f else fnF q.cps.toList r)=_;rw [yq7,ih,oq7,Bool.beq_comm (a:=q)];cases f.q == q <;> rfl
noncomputable def yv4 (q:Str):Option Stmt:=(fnF q.cps.toList fns).bind fun f=>zg1 f.i f.j
theorem vw5 (q:Str):yv4 q=yw8 q:=by
 unfold yv4 yw8 fnAt;rw [fnF_eq]
inductive Tr (α:Type):Type 1 where
 | ret (a:α) (σ:zz0)
 | bad
 | get {β:Type} (r:Out β) (k:β->zz0->Tr α)
noncomputable def Tr.ctorIdx {α:Type} (x:Tr α):Nat:=Tr.casesOn (motive:=fun U=>Nat) x (fun U U=>0) 1 (@fun U U U=>2)
noncomputable def Tr.run {α:Type}:Tr α->Out α
 | .ret a σ=>.ok a σ
 | .bad=>.bad
 | .get r k=>r.bnd fun v σ=>(k v σ).run
noncomputable def Out.le {α:Type} (a b:Out α):Prop:=a=.bad\/a=b
theorem Out.le_refl {α:Type} {a:Out α}:a.le a:=.inr rfl
noncomputable abbrev Kn (β α:Type):Type 1:=α->zz0->Tr β
noncomputable abbrev Cp (β α:Type):Type 1:=zz0->Kn β α->Tr β
noncomputable abbrev KS (β:Type):Type 1:=Fl->Rho->zz0->Tr β
section
variable {α β γ δ:Type}
noncomputable def cOpt (o:Option α) (σ:zz0) (κ:Kn β α):Tr β:=o.elim .bad fun a=>κ a σ
noncomputable def sq (g:Cp β γ) (h:α->Kn β γ):Kn β α:=fun a σ=>g σ (h a)
noncomputable def vz7 (f:α->zz0->Out γ) (κ:Kn β γ):Kn β α:=fun a σ=>.get (f a σ) κ
noncomputable def kGet2 (f:δ->α->zz0->Out γ) (κ:Kn β γ):δ->Kn β α:=fun d a σ=>.get (f d a σ) κ
noncomputable def kCons (κ:Kn β (List γ)):γ->Kn β (List γ):=fun v vs σ=>κ (v::vs) σ
noncomputable def cMap (f:α->Cp β γ):List α->Cp β (List γ)
 | [],σ,κ=>κ [] σ
 | e::r,σ,κ=>f e σ (sq (cMap f r) (kCons κ))
noncomputable def kSeq (g:Rho->zz0->KS β->Tr β) (κ:KS β):KS β:=fun x ρ σ=>match x with
 | .next=>g ρ σ κ
 | x=>κ x ρ σ
noncomputable def vh6 (f:Stmt->Rho->zz0->KS β->Tr β):List Stmt->Rho->zz0->KS β->Tr β
 | [],ρ,σ,κ=>κ .next ρ σ
 | s::r,ρ,σ,κ=>match r with
  | []=>f s ρ σ κ
  | _::_=>f s ρ σ (kSeq (vh6 f r) κ)
noncomputable def cBlk (f:Stmt->Rho->zz0->KS β->Tr β) (l:List Stmt) (ρ:Rho) (σ:zz0) (κ:KS β):Tr β:=match l with
 | []=>κ .next ρ σ
 | s::r=>vh6 f (s::r) ρ σ κ
noncomputable def kBT (op:BoolOp) (g:Cp β Bool) (κ:Kn β Bool):Kn β Bool:=fun t σ=>match stops op t with
 | true=>κ t σ
 | false=>g σ κ
noncomputable def vx6 (f:Expr->Cp β Bool) (op:BoolOp):List Expr->Cp β Bool
 | [],σ,κ=>κ (op == .And) σ
 | e::r,σ,κ=>f e σ (kBT op (vx6 f op r) κ)
noncomputable def isT (v:V) (σ:zz0):Out Bool:=liftO (zv5 v σ) σ
noncomputable def kBV (op:BoolOp) (g:Cp β V) (κ:Kn β V) (v:V):Kn β Bool:=fun t σ=>match stops op t with
 | true=>κ v σ
 | false=>g σ κ
noncomputable def kTr (h:V->Kn β Bool):Kn β V:=fun v σ=>.get (isT v σ) (h v)
noncomputable def up0 (f:Expr->Cp β V) (op:BoolOp):List Expr->Cp β V
 | [],_,_=>.bad
 | e::r,σ,κ=>match r with
  | []=>f e σ κ
  | _::_=>f e σ (kTr (kBV op (up0 f op r) κ))
noncomputable def kC3 (g:V->Cp β α) (κ:Kn β α) (e:V->α) (b:V) (r:V):Kn β Bool:=fun t σ=>match t with
 | true=>g b σ κ
 | false=>κ (e r) σ
noncomputable def kC2 (g:V->Cp β α) (κ:Kn β α) (e:V->α) (b:V):Kn β V:=fun r σ=>.get (isT r σ) (kC3 g κ e b r)
noncomputable def kC1 (op:CmpOp) (g:V->Cp β α) (κ:Kn β α) (e:V->α) (a:V):Kn β V:=fun b σ=>.get (zy8 op a b σ) (kC2 g κ e b)
noncomputable def wg6 (f:Expr->Cp β V):List CmpOp->List Expr->V->Cp β V
 | op::ops,c::cs,a,σ,κ=>match ops,cs with
  | [],[]=>f c σ (vz7 (zy8 op a) κ)
  | _::_,_::_=>f c σ (kC1 op (wg6 f ops cs) κ id a)
  | _,_=>.bad
 | _,_,_,_,_=>.bad
noncomputable def toF (_:V):Bool:=false
noncomputable def wg7 (f:Expr->Cp β V):List CmpOp->List Expr->V->Cp β Bool
 | op::ops,c::cs,a,σ,κ=>match ops,cs with
  | [],[]=>f c σ (vz7 (zy8 op a) (vz7 isT κ))
  | _::_,_::_=>f c σ (kC1 op (wg7 f ops cs) κ toF a)
  | _,_=>.bad
 | _,_,_,_,_=>.bad
noncomputable def kOpt (κ:Kn β (Option Int)):Kn β V:=fun v σ=>(zj9 v).elim .bad fun i=>κ (some i) σ
noncomputable def cOptE (f:Expr->Cp β V):Option Expr->Cp β (Option Int)
 | Option.none,σ,κ=>κ Option.none σ
 | some e,σ,κ=>f e σ (kOpt κ)
noncomputable def kPair (κ:Kn β (V×V)):V->Kn β V:=fun a b σ=>κ (a,b) σ
noncomputable def cPair (f:Expr->Cp β V) (p:Expr×Expr):Cp β (V×V):=fun σ κ=>f p.1 σ (sq (f p.2) (kPair κ))
noncomputable def cMeth (C:zz5) (m:MK) (r:V) (args:List V) (σ:zz0) (κ:Kn β V):Tr β:=match m with
 | .fm q=>.get (C (.fn q) (r::args) σ) κ
 | .bm id=>.get (zq7 id r args σ) κ
noncomputable def kIf (b o:Cp β α) (κ:Kn β α):Kn β Bool:=fun c σ=>match c with
 | true=>b σ κ
 | false=>o σ κ
noncomputable def kChn (g:V->Cp β α) (κ:Kn β α):Kn β V:=fun a σ=>g a σ κ
noncomputable def kTup (κ:Kn β V):Kn β (List V):=fun vs σ=>if vs.length<=1000 then κ (.tup vs) σ else .bad
noncomputable def kLst (κ:Kn β V):Kn β (List V):=fun vs σ=>if vs.length<=1000 then κ (.loc σ.length) (σ++[.lst vs]) else .bad
noncomputable def kNew (κ:Kn β V):Kn β (List V):=fun vs σ=>κ (.loc σ.length) (σ++[.lst vs])
noncomputable def kSl (g:Cp β (Option Int)) (κ:Kn β V) (v:V):Kn β (Option Int):=fun a σ=>g σ (vz7 (zy6 v a) κ)
noncomputable def kD3 (kk:KK) (vs:List V) (κ:Kn β V):Kn β V:=fun i σ=>.get (liftO (wh6 kk vs i) σ) κ
noncomputable def kD2 (vs:List V) (g:Cp β V) (κ:Kn β V):Kn β KK:=fun kk σ=>g σ (kD3 kk vs κ)
noncomputable def kD1 (g:Cp β V) (κ:Kn β V):Kn β (List (V×V)):=fun xs σ=>cOpt (vz6 (xs.map (fun U=>U.1))) σ (kD2 (xs.map (fun U=>U.2)) g κ)
noncomputable def kM3 (C:zz5) (r:V) (κ:Kn β V) (m:MK):Kn β (List V):=fun vs σ=>cMeth C m r vs σ κ
noncomputable def kM1 (C:zz5) (n:Str) (g:Cp β (List V)) (κ:Kn β V):Kn β V:=fun r σ=>.get (liftO (zk3 r n σ) σ) (sq g (kM3 C r κ))
noncomputable def kRepl (a b:Str) (κ:Kn β V):Kn β V:=fun v σ=>.get (xf8 v a b σ) κ
noncomputable def kRj (g:Cp β V) (κ:Kn β V):Kn β V:=fun r σ=>(zx9 r).elim .bad fun x=>g σ (vz7 (xk6 x) κ)
noncomputable def lcI (F:V->zz0->Out (Option V)) (i:It) (σ:zz0):Out (List V):=if zq5 i < SL then yz5 F i σ else .bad
noncomputable def liftS (r:List V) (σ:zz0):Out It:=liftO ((yk3 r).map It.seq) σ
noncomputable def kNot (κ:Kn β Bool):Kn β Bool:=fun b σ=>κ (!b) σ
noncomputable def cDs (f:Expr->Cp β V) (p:List (Option Expr)×List Expr) (s:Expr) (σ:zz0) (κ:Kn β V):Tr β:=(yk6 p.1).elim .bad
 fun es=>if es.length=p.2.length/\0 < es.length/\es.length<=15 then cMap (cPair f) (es.zip p.2) σ (kD1 (f s) κ) else .bad
noncomputable def cCall (f:Expr->Cp β V) (C:zz5) (sc:Scope) (args:List Expr) (cf:CF) (σ:zz0) (κ:Kn β V):Tr β:=match cf with
 | .meth o n=>f o σ (kM1 C n (cMap f args) κ)
 | .repl o a b=>f o σ (kRepl a b κ)
 | .revjoin o a=>if zw6 sc "reversed" = false then .bad else f o σ (kRj (f a) κ)
 | .call g=>f g σ (sq (cMap f args) (kGet2 C κ))
 | .no=>.bad
mutual
noncomputable def cE (C:zz5):Nat->Scope->Rho->Expr->zz0->(V->zz0->Tr β)->Tr β
 | 0,_,_,_,_,_=>.bad
 | k + 1,sc,ρ,e,σ,κ=>Expr.casesOn (motive_1:=fun U=>Tr β) e (fun op vs U=>up0 (cE C k sc ρ) op vs σ κ) (fun U U U=>.get (evE C (k + 1) sc ρ e σ) κ) (fun l op r U=>cE C k sc ρ l σ (sq (cE C k sc ρ r) (kGet2 (yv6 op) κ))) (fun op x U=>cE C k sc ρ x σ (vz7 (unOp op) κ)) (fun U U U U=>.get (evE C (k + 1) sc ρ e σ) κ) (fun t b o U=>cT C k sc ρ t σ (kIf (cE C k sc ρ b) (cE C k sc ρ o) κ)) (fun ks vs U=>if (ks.isEmpty&&vs.isEmpty)=true then κ (.map [] []) σ else .bad) (fun U U U=>.get (evE C (k + 1) sc ρ e σ) κ) (fun elt gens csc U=>(lcOf gens).elim .bad fun x=>if zg3 sc csc ρ x.1=false then .bad else cIt C k sc ρ x.2.1 σ
  (vz7 (lcI (compF (fun e σ v=>evT C k csc ((x.1,v)::ρ) e σ) (fun e σ v=>evE C k csc ((x.1,v)::ρ) e σ) x.2.2 elt)) (kNew κ))) (fun U U U U=>.get (evE C (k + 1) sc ρ e σ) κ) (fun U U U U U=>.get (evE C (k + 1) sc ρ e σ) κ) (fun U U U U=>.get (evE C (k + 1) sc ρ e σ) κ) (fun U U=>.get (evE C (k + 1) sc ρ e σ) κ) (fun U U=>.get (evE C (k + 1) sc ρ e σ) κ) (fun U U=>.get (evE C (k + 1) sc ρ e σ) κ) (fun l ops cs U=>if lastMarks ops cs=true then .bad else cE C k sc ρ l σ (kChn (wg6 (cE C k sc ρ) ops cs) κ)) (fun f args kws pos=>cCall (cE C k sc ρ) C sc args (zw3 f args kws pos) σ κ) (fun U U U U=>.get (evE C (k + 1) sc ρ e σ) κ) (fun U U=>.get (evE C (k + 1) sc ρ e σ) κ) (fun c U U=>cOpt (wq9 c) σ κ) (fun o a U=>cE C k sc ρ o σ (vz7 (fun v σ=>wx7 v a σ) κ)) (fun o s pos=>(slOf s).elim ((vy2 o).elim (cE C k sc ρ o σ (sq (cE C k sc ρ s) (kGet2 zv7 κ))) fun p=>cDs (cE C k sc ρ) p s σ κ) fun p=>p.2.2.elim
  (cE C k sc ρ o σ (sq (cOptE (cE C k sc ρ) p.1) (kSl (cOptE (cE C k sc ρ) p.2.1) κ)))
  fun U=>.get (evSl (fun e σ=>evE C k sc ρ e σ) o p σ) κ) (fun U U=>.get (evE C (k + 1) sc ρ e σ) κ) (fun x U=>cOpt (uj8 sc ρ x) σ κ) (fun es U=>cMap (cE C k sc ρ) es σ (kLst κ)) (fun es U U=>cMap (cE C k sc ρ) es σ (kTup κ)) (fun U U U U=>.get (evE C (k + 1) sc ρ e σ) κ)
noncomputable def cT (C:zz5):Nat->Scope->Rho->Expr->zz0->(Bool->zz0->Tr β)->Tr β
 | 0,_,_,_,_,_=>.bad
 | k + 1,sc,ρ,e,σ,κ=>exTest e (cE C k sc ρ e σ (vz7 isT κ)) (fun op vs U=>vx6 (cT C k sc ρ) op vs σ κ) (fun op x U=>if op=.Not then cT C k sc ρ x σ (kNot κ) else cE C k sc ρ e σ (vz7 isT κ)) (fun t b o U=>cT C k sc ρ t σ (kIf (cT C k sc ρ b) (cT C k sc ρ o) κ)) (fun l ops cs U=>if lastMarks ops cs=true then .bad else cE C k sc ρ l σ (kChn (wg7 (cE C k sc ρ) ops cs) κ))
noncomputable def cIt (C:zz5):Nat->Scope->Rho->Expr->zz0->(It->zz0->Tr β)->Tr β
 | 0,_,_,_,_,_=>.bad
 | k + 1,sc,ρ,e,σ,κ=>exCall e (cE C k sc ρ e σ (vz7 itOf κ)) (fun f args kws U=>if xw6 f=true then if (!zw6 sc "range"||args.any zy7||!kws.isEmpty)=true then .bad else cMap (cE C k sc ρ) args σ (vz7 liftS κ) else cE C k sc ρ e σ (vz7 itOf κ))
end
noncomputable def kPut (p:Str×V) (κ:Rho->Tr β):Rho->Tr β:=fun r=>κ (p::r)
noncomputable def updK (x:Str) (v:V):Rho->(Rho->Tr β)->Tr β
 | [],κ=>κ [(x,v)]
 | (y,u)::r,κ=>match eqL y.cps.toList x.cps.toList with
  | true=>κ ((y,v)::r)
  | false=>updK x v r (kPut (y,u) κ)
noncomputable def yg6:List (Str×V)->Rho->(Rho->Tr β)->Tr β
 | [],ρ,κ=>κ ρ
 | (x,v)::r,ρ,κ=>updK x v ρ fun ρ=>yg6 r ρ κ
noncomputable def layK:Rho->(Rho->Tr β)->Tr β
 | [],κ=>κ []
 | (x,v)::r,κ=>layK r (kPut (x,v) κ)
noncomputable def yy9 (sc:Scope) (x:Str):Bool:=match yv0 x.cps.toList sc.names with
 | some .local=>true
 | _=>false
noncomputable def kSt (σ:zz0) (κ:Rho->zz0->Tr β):Rho->Tr β:=fun ρ=>κ ρ σ
noncomputable def kRh (ρ:Rho) (κ:Rho->zz0->Tr β):Kn β α:=fun U σ=>κ ρ σ
noncomputable def up6 (f:Expr->Cp β V) (sc:Scope) (t:Expr) (v:V) (ρ:Rho) (σ:zz0) (κ:Rho->zz0->Tr β):Tr β:=Expr.casesOn (motive_1:=fun U=>Tr β) t (fun U U U=>.bad) (fun U U U=>.bad) (fun U U U U=>.bad) (fun U U U=>.bad) (fun U U U U=>.bad) (fun U U U U=>.bad) (fun U U U=>.bad) (fun U U U=>.bad) (fun U U U U=>.bad) (fun U U U U=>.bad) (fun U U U U U=>.bad) (fun U U U U=>.bad) (fun U U=>.bad) (fun U U=>.bad) (fun U U=>.bad) (fun U U U U=>.bad) (fun U U U U=>.bad) (fun U U U U=>.bad) (fun U U=>.bad) (fun U U U=>.bad) (fun o a U=>f o σ (vz7 (fun r σ=>zg2 r a v σ) (kRh ρ κ))) (fun o i U=>f o σ (sq (f i) (kGet2 (fun r j σ=>zb4 r j v σ) (kRh ρ κ)))) (fun U U=>.bad) (fun x U=>if yy9 sc x=true then updK x v ρ (kSt σ κ) else .bad) (fun U U=>.bad) (fun ts U U=>(zj2 v).elim .bad fun vs=>(zy3 sc ts).elim .bad fun ns=>if ns.Nodup/\ns.length=vs.length then yg6 (ns.zip vs) ρ (kSt σ κ) else .bad) (fun U U U U=>.bad)
noncomputable def kFl (x:Fl) (ρ:Rho) (κ:KS β):Kn β α:=fun U σ=>κ x ρ σ
noncomputable def kRet (ρ:Rho) (κ:KS β):Kn β V:=fun v σ=>κ (.ret v) ρ σ
noncomputable def kNx (κ:KS β):Rho->zz0->Tr β:=fun ρ σ=>κ .next ρ σ
noncomputable def kFR (κ:KS β):Kn β (Fl×Rho):=fun x σ=>κ x.1 x.2 σ
noncomputable def kAsg (f:Expr->Cp β V) (sc:Scope) (t:Expr) (ρ:Rho) (κ:KS β):Kn β V:=fun v σ=>up6 f sc t v ρ σ (kNx κ)
noncomputable def kCase (b o:Rho->zz0->KS β->Tr β) (ρ:Rho) (κ:KS β):Kn β Bool:=fun c σ=>match c with
 | true=>b ρ σ κ
 | false=>o ρ σ κ
noncomputable def cS (C:zz5):Nat->Scope->Stmt->Rho->zz0->(Fl->Rho->zz0->Tr β)->Tr β
 | 0,_,_,_,_,_=>.bad
 | k + 1,sc,s,ρ,σ,κ=>Stmt.casesOn (motive_2:=fun U=>Tr β) s (fun U U U U U U U U U U=>.get (evS C (k + 1) sc s ρ σ) (kFR κ)) (fun U U U U U U U U U U=>.get (evS C (k + 1) sc s ρ σ) (kFR κ)) (fun U U U U U U U U U U U=>.get (evS C (k + 1) sc s ρ σ) (kFR κ)) (fun o U=>o.elim (κ (.ret .none) ρ σ) fun e=>cE C k sc ρ e σ (kRet ρ κ)) (fun U U=>.get (evS C (k + 1) sc s ρ σ) (kFR κ)) (fun ts e pos=>(one1 ts some).elim .bad fun t=>if xz8 sc t e=true then (if yz4 e=true then .get (evS C (k + 1) sc (.Assign [t] e pos) ρ σ) (kFR κ) else cE C k sc ρ e σ (kAsg (cE C k sc ρ) sc t ρ κ)) else .bad) (fun U U U U U U U=>.get (evS C (k + 1) sc s ρ σ) (kFR κ)) (fun U U U U=>.get (evS C (k + 1) sc s ρ σ) (kFR κ)) (fun U U U U U=>.get (evS C (k + 1) sc s ρ σ) (kFR κ)) (fun U U U U U=>.get (evS C (k + 1) sc s ρ σ) (kFR κ)) (fun U U U U U=>.get (evS C (k + 1) sc s ρ σ) (kFR κ)) (fun U U U U=>.get (evS C (k + 1) sc s ρ σ) (kFR κ)) (fun t b o U=>cT C k sc ρ t σ (kCase (vh6 (cS C k sc) b) (cBlk (cS C k sc) o) ρ κ)) (fun U U U=>.get (evS C (k + 1) sc s ρ σ) (kFR κ)) (fun U U U=>.get (evS C (k + 1) sc s ρ σ) (kFR κ)) (fun U U U=>.get (evS C (k + 1) sc s ρ σ) (kFR κ)) (fun U U U=>.get (evS C (k + 1) sc s ρ σ) (kFR κ)) (fun U U U U U=>.get (evS C (k + 1) sc s ρ σ) (kFR κ)) (fun U U U U U=>.get (evS C (k + 1) sc s ρ σ) (kFR κ)) (fun U U U=>.get (evS C (k + 1) sc s ρ σ) (kFR κ)) (fun U U=>.get (evS C (k + 1) sc s ρ σ) (kFR κ)) (fun U U U U=>.get (evS C (k + 1) sc s ρ σ) (kFR κ)) (fun U U=>.get (evS C (k + 1) sc s ρ σ) (kFR κ)) (fun U U=>.get (evS C (k + 1) sc s ρ σ) (kFR κ)) (fun e U=>if noStm e=true then .bad else cE C k sc ρ e σ (kFl .next ρ κ)) (fun U=>κ .next ρ σ) (fun U=>.get (evS C (k + 1) sc s ρ σ) (kFR κ)) (fun U=>κ .cont ρ σ)
end
noncomputable def kEnd:KS V:=fun x U σ=>match x with
 | .ret v=>.ret v σ
 | .next=>.ret .none σ
 | _=>.bad
noncomputable def cBody (C:zz5) (body:List Stmt) (sc:Scope) (σ:zz0):Rho->Tr V:=fun ρ=>vh6 (cS C KD sc) body ρ σ kEnd
noncomputable def cFn (C:zz5) (q:Str) (args:List V) (σ:zz0):Tr V:=(fdOf (yv4 q)).elim .bad fun f=>(yp4 f.1 args).elim .bad fun ρ=>layK ρ (cBody C f.2.1 f.2.2 σ)
theorem yv5 {α β γ:Type} (r:Out α) (f:α->zz0->Out β) (g:β->zz0->Out γ):(r.bnd f).bnd g=r.bnd fun a σ=>(f a σ).bnd g:=by cases r <;> rfl
theorem zq9 {α:Type} {b:Out α}:Out.le .bad b:=.inl rfl
theorem uw2 {α β:Type} {a:Out α} {f g:α->zz0->Out β} (k:∀ v σ,(f v σ).le (g v σ)):(a.bnd f).le (a.bnd g):=by
 cases a
 ·exact k _ _
 ·exact Out.le_refl
 ·exact Out.le_refl
 ·exact Out.le_refl
section
variable {α β γ δ:Type}
theorem xw4 {a b c:Out α} (h:a.le b) (k:b.le c):a.le c:=by
 rcases h with rfl|rfl
 ·exact zq9
 ·exact k
noncomputable abbrev Uk (κ:Kn β α):α->zz0->Out β:=fun v σ=>(κ v σ).run
noncomputable def Sd (F:Cp β α) (G:zz0->Out α):Prop:=∀ σ κ,(F σ κ).run.le ((G σ).bnd (Uk κ))
theorem Sd.b {F:Cp β α} {G:zz0->Out α} (h:Sd F G) {σ:zz0} {f:Kn β α} {g:α->zz0->Out γ} {K:γ->zz0->Out β} (k:∀ v σ,(f v σ).run.le ((g v σ).bnd K)):(F σ f).run.le (((G σ).bnd g).bnd K):=by
 rw [yv5];exact xw4 (h σ f) (uw2 k)
theorem lg {r:Out α} {f:Kn β α} {g:α->zz0->Out γ} {K:γ->zz0->Out β} (k:∀ v σ,(f v σ).run.le ((g v σ).bnd K)):(Tr.get r f).run.le ((r.bnd g).bnd K):=by
 rw [yv5];exact uw2 k
theorem vv6 {c:Prop} [Decidable c] {t:Tr β} {o:Out γ} {K:γ->zz0->Out β} (h:t.run.le (o.bnd K)):(if c then t else Tr.bad).run.le ((if c then o else .bad).bnd K):=by
 by_cases q:c
 ·rw [if_pos q,if_pos q];exact h
 ·rw [if_neg q];exact zq9
theorem xx4 {c:Prop} [Decidable c] {t:Tr β} {o:Out γ} {K:γ->zz0->Out β} (h:t.run.le (o.bnd K)):(if c then Tr.bad else t).run.le ((if c then .bad else o).bnd K):=by
 by_cases q:c
 ·rw [if_pos q];exact zq9
 ·rw [if_neg q,if_neg q];exact h
theorem le_ite {c:Prop} [Decidable c] {t u:Tr β} {o p:Out γ} {K:γ->zz0->Out β} (h:t.run.le (o.bnd K)) (k:u.run.le (p.bnd K)):(if c then t else u).run.le ((if c then o else p).bnd K):=by
 by_cases q:c
 ·rw [if_pos q,if_pos q];exact h
 ·rw [if_neg q,if_neg q];exact k
theorem lg_if {c:Prop} [Decidable c] {r:Out α} {f:Kn β α} {g:α->zz0->Out γ} {K:γ->zz0->Out β} (k:∀ v σ,(f v σ).run.le ((g v σ).bnd K)):(Tr.get (if c then r else .bad) f).run.le ((if c then r.bnd g else .bad).bnd K):=by
 by_cases q:c
 ·rw [if_pos q,if_pos q];exact lg k
 ·rw [if_neg q];exact zq9
theorem cOpt_le (o:Option α) {σ:zz0} {κ:Kn β α} {g:α->zz0->Out γ} {K:γ->zz0->Out β} (k:∀ v σ,(κ v σ).run.le ((g v σ).bnd K)):(cOpt o σ κ).run.le (((liftO o σ).bnd g).bnd K):=by
 cases o
 ·exact zq9
 ·exact k _ _
theorem cOpt_le' (o:Option α) {σ:zz0} {κ:Kn β α}:(cOpt o σ κ).run.le ((liftO o σ).bnd (Uk κ)):=by cases o <;> exact Out.le_refl
theorem yq8 {f:α->Cp β γ} {g:α->zz0->Out γ} (h:∀ e,Sd (f e) (g e)) (l:List α):Sd (cMap f l) (zh2 g l):=by
 induction l with
 | nil=>exact fun U U=>Out.le_refl
 | cons e r ih=>exact fun U U=>(h e).b fun v σ=>ih.b fun vs σ=>Out.le_refl
theorem up5 {f:Expr->Cp β Bool} {g:Expr->zz0->Out Bool} {op:BoolOp} (h:∀ e,Sd (f e) (g e)) (l:List Expr):Sd (vx6 f op l) (vy8 g op l):=by
 induction l with
 | nil=>exact fun U U=>Out.le_refl
 | cons e r ih=>exact fun U κ=>(h e).b fun t σ=>by (cases op <;> cases t <;> first|exact Out.le_refl|exact ih σ κ)
theorem ub9 {f:Expr->Cp β V} {g:Expr->zz0->Out V} {op:BoolOp} (h:∀ e,Sd (f e) (g e)) (l:List Expr):Sd (up0 f op l) (boolV g op l):=by
 induction l with
 | nil=>exact fun U U=>zq9
 | cons e r ih=>
  cases r with
  | nil=>exact h e
  | cons=>exact fun U κ=>(h e).b fun v σ=>lg fun t σ=>by (cases op <;> cases t <;> first|exact Out.le_refl|exact ih σ κ)
theorem vy4 {f:Expr->Cp β V} {g:Expr->zz0->Out V} (h:∀ e,Sd (f e) (g e)) (ops:List CmpOp):∀ cs a,Sd (wg6 f ops cs a) (wx3 g a ops cs):=by
 induction ops with
 | nil=>exact fun U U U U=>zq9
 | cons op ops ih=>
  intro cs a σ κ;cases cs with
  | nil=>exact zq9
  | cons c cs=>
   cases ops <;> cases cs
   ·exact (h c).b fun b σ=>Out.le_refl
   ·exact zq9
   ·exact zq9
   ·exact (h c).b fun b σ=>lg fun r σ=>lg fun t σ=>by (cases t;exact Out.le_refl;exact ih _ b σ κ)
theorem vy5 {f:Expr->Cp β V} {g:Expr->zz0->Out V} (h:∀ e,Sd (f e) (g e)) (ops:List CmpOp):∀ cs a,Sd (wg7 f ops cs a) (wx4 g a ops cs):=by
 induction ops with
 | nil=>exact fun U U U U=>zq9
 | cons op ops ih=>
  intro cs a σ κ;cases cs with
  | nil=>exact zq9
  | cons c cs=>
   cases ops <;> cases cs
   ·exact (h c).b fun b σ=>lg fun r σ=>Out.le_refl
   ·exact zq9
   ·exact zq9
   ·exact (h c).b fun b σ=>lg fun r σ=>lg fun t σ=>by (cases t;exact Out.le_refl;exact ih _ b σ κ)
theorem yw3 {δ:Type} {o:Option δ} {t:δ->Tr β} {u:Tr β} {a:δ->Out γ} {b:Out γ} {K:γ->zz0->Out β} (h:∀ x,(t x).run.le ((a x).bnd K)) (k:u.run.le (b.bnd K)):(o.elim u t).run.le ((o.elim b a).bnd K):=by
 cases o
 ·exact k
 ·exact h _
theorem vx5 {f:Expr->Cp β V} {g:Expr->zz0->Out V} (h:∀ e,Sd (f e) (g e)) (o:Option Expr):Sd (cOptE f o) (optE g o):=by
 cases o with
 | none=>exact fun U U=>Out.le_refl
 | some e=>exact fun U U=>(h e).b fun v σ=>yw3 (o:=zj9 v) (fun i=>Out.le_refl) zq9
theorem cPair_le {f:Expr->Cp β V} {g:Expr->zz0->Out V} (h:∀ e,Sd (f e) (g e)) (p:Expr×Expr):Sd (cPair f p) (xv3 g p):=
 fun U U=>(h p.1).b fun a σ=>(h p.2).b fun b σ=>Out.le_refl
theorem cMeth_le {C:zz5} (m:MK) (r:V) (args:List V):Sd (cMeth (β:=β) C m r args) (yh0 C m r args):=fun σ κ=>by cases m <;> exact Out.le_refl
end
section
variable {β γ:Type} {C:zz5} {k:Nat}
noncomputable abbrev LE (β:Type) (C:zz5) (k:Nat):Prop:=∀ sc ρ e,Sd (β:=β) (cE C k sc ρ e) (evE C k sc ρ e)
noncomputable abbrev LT (β:Type) (C:zz5) (k:Nat):Prop:=∀ sc ρ e,Sd (β:=β) (cT C k sc ρ e) (evT C k sc ρ e)
noncomputable abbrev LI (β:Type) (C:zz5) (k:Nat):Prop:=∀ sc ρ e,Sd (β:=β) (cIt C k sc ρ e) (evIt C k sc ρ e)
theorem sub_le (hE:LE β C k) {sc:Scope} {ρ:Rho} {o s:Expr} {pos:Pos}:Sd (β:=β) (cE C (k + 1) sc ρ (.Subscript o s pos)) (evE C (k + 1) sc ρ (.Subscript o s pos)):=by
 intro σ κ;refine yw3 (o:=slOf s) (fun p=>?_) (yw3 (o:=vy2 o) (fun p=>?_) ?_)
 ·obtain ⟨lo,hi,st⟩:=p
  cases st with
  | none=>exact (hE sc ρ o).b fun v σ=>(vx5 (hE sc ρ) lo).b fun a σ=>(vx5 (hE sc ρ) hi).b fun b σ=>Out.le_refl
  | some e=>exact Out.le_refl
 ·refine yw3 (o:=yk6 p.1) (fun es=>?_) zq9
  exact vv6 ((yq8 (cPair_le (hE sc ρ)) _).b fun xs σ=>cOpt_le _ fun kk σ=>(hE sc ρ _).b fun i σ=>Out.le_refl)
 ·exact (hE sc ρ _).b fun v σ=>(hE sc ρ _).b fun i σ=>Out.le_refl
theorem call_le {f:Expr->Cp β V} {g:Expr->zz0->Out V} (h:∀ e,Sd (f e) (g e)) {sc:Scope} {args:List Expr} (cf:CF):Sd (cCall f C sc args cf) (wq5 g C sc args cf):=by
 intro σ κ;cases cf with
 | meth o n=>exact (h o).b fun r σ=>lg fun m σ=>(yq8 h args).b fun vs σ=>cMeth_le m r vs σ κ
 | repl o a b=>exact (h o).b fun v σ=>Out.le_refl
 | revjoin o a=>exact xx4 ((h o).b fun r σ=>yw3 (o:=zx9 r) (fun x=>(h a).b fun v σ=>Out.le_refl) zq9)
 | call f=>exact (h f).b fun g σ=>(yq8 h args).b fun vs σ=>Out.le_refl
 | no=>exact zq9
theorem cE_le (hE:LE β C k) (hT:LT β C k) (hI:LI β C k):LE β C (k + 1):=by
 intro sc ρ e;cases e with
 | Constant c kd pos=>exact fun σ κ=>cOpt_le' _
 | Name x pos=>
  intro σ κ;refine (?_:(cOpt (uj8 sc ρ x) σ κ).run.le ((liftO (vv3 sc ρ x) σ).bnd (Uk κ)));cases q:uj8 sc ρ x with
  | none=>exact zq9
  | some v=>rw [name_le q];exact Out.le_refl
 | BoolOp op vs pos=>exact ub9 (hE sc ρ) vs
 | BinOp l op r pos=>exact fun σ κ=>(hE sc ρ l).b fun a σ=>(hE sc ρ r).b fun b σ=>Out.le_refl
 | UnaryOp op x pos=>exact fun σ κ=>(hE sc ρ x).b fun a σ=>Out.le_refl
 | IfExp t b o pos=>exact fun σ κ=>(hT sc ρ t).b fun c σ=>by (cases c;exact hE sc ρ o σ κ;exact hE sc ρ b σ κ)
 | Compare l ops cs pos=>exact fun σ κ=>xx4 ((hE sc ρ l).b fun a σ=>vy4 (hE sc ρ) ops cs a σ κ)
 | Tuple es c pos=>exact fun σ κ=>(yq8 (hE sc ρ) es).b fun vs σ=>vv6 Out.le_refl
 | List es c=>exact fun σ κ=>(yq8 (hE sc ρ) es).b fun vs σ=>vv6 Out.le_refl
 | Dict ks vs pos=>exact fun σ κ=>vv6 Out.le_refl
 | Attribute o a pos=>exact fun σ κ=>(hE sc ρ o).b fun v σ=>Out.le_refl
 | Subscript o s pos=>exact sub_le hE
 | Call f args kws pos=>exact call_le (hE sc ρ) (zw3 f args kws pos)
 | ListComp elt gens csc pos=>
  exact fun σ κ=>yw3 (o:=lcOf gens) (fun x=>xx4 ((hI sc ρ _).b fun i σ=>lg_if fun U U=>Out.le_refl)) zq9
 | _=>exact fun σ κ=>Out.le_refl
theorem cT_le (hE:LE β C k) (hT:LT β C k):LT β C (k + 1):=by
 intro sc ρ e σ κ;exact exTest_rel (R:=fun (a:Tr β) (b:Out Bool)=>a.run.le (b.bnd (Uk κ))) ((hE sc ρ _).b fun v σ=>Out.le_refl) (fun op vs pos=>up5 (hT sc ρ) vs σ κ) (fun op x pos=>le_ite ((hT sc ρ x).b fun b σ=>Out.le_refl) ((hE sc ρ _).b fun v σ=>Out.le_refl)) (fun t b o pos=>(hT sc ρ t).b fun c σ=>by (cases c;exact hT sc ρ o σ κ;exact hT sc ρ b σ κ))
  fun l ops cs pos=>xx4 ((hE sc ρ l).b fun a σ=>vy5 (hE sc ρ) ops cs a σ κ)
theorem cIt_le (hE:LE β C k):LI β C (k + 1):=by
 intro sc ρ e σ κ;exact exCall_rel (R:=fun (a:Tr β) (b:Out It)=>a.run.le (b.bnd (Uk κ))) ((hE sc ρ _).b fun v σ=>Out.le_refl) fun f args kws pos=>le_ite (xx4 ((yq8 (hE sc ρ) args).b fun vs σ=>Out.le_refl)) ((hE sc ρ _).b fun v σ=>Out.le_refl)
noncomputable abbrev LE3 (β:Type) (C:zz5) (k:Nat):Prop:=LE β C k/\LT β C k/\LI β C k
theorem le3 (β:Type) (C:zz5) (k:Nat):LE3 β C k:=by
 induction k with
 | zero=>exact ⟨fun U U U U U=>zq9,fun U U U U U=>zq9,fun U U U U U=>zq9⟩
 | succ k ih=>exact ⟨cE_le ih.1 ih.2.1 ih.2.2,cT_le ih.1 ih.2.1,cIt_le ih.1⟩
end
section
variable {α β γ δ:Type}
theorem xj6 (x:Str) (v:V) (ρ:Rho):∀ κ:Rho->Tr β,updK x v ρ κ=κ (upd ρ x v):=by
 induction ρ with
 | nil=>exact fun κ=>rfl
 | cons p r ih=>
  intro κ;obtain ⟨y,u⟩:=p;refine (?_:(match eqL y.cps.toList x.cps.toList with|true=>κ ((y,v)::r)|false=>updK x v r (kPut (y,u) κ))=κ (if y=x then (y,v)::r else (y,u)::upd r x v))
  rw [yq7];by_cases h:y=x
  ·rw [if_pos h,beq_iff_eq.mpr h]
  ·rw [if_neg h,beq_eq_false_iff_ne.mpr h];exact ih _
theorem xq1 (l:List (Str×V)):∀ (ρ:Rho) (κ:Rho->Tr β),yg6 l ρ κ=κ (updAll ρ l):=by
 induction l with
 | nil=>exact fun ρ κ=>rfl
 | cons p r ih=>exact fun ρ κ=>(xj6 p.1 p.2 ρ _).trans (ih _ κ)
theorem uw4:∀ (ρ:Rho) (κ:Rho->Tr β),layK ρ κ=κ ρ:=by
 intro ρ;induction ρ with
 | nil=>
  intro κ;exact rfl
 | cons p0 r ih0=>
  obtain ⟨x,v⟩:=p0;intro κ;exact ih0 _
theorem wv2 (sc:Scope) (x:Str):yy9 sc x=zj0 sc x:=by
 unfold yy9 zj0;rw [yb2];cases sc.names.lookup x with
 | none=>rfl
 | some k=>cases k <;> rfl
theorem vy6 {f:Expr->Cp β V} {g:Expr->zz0->Out V} (h:∀ e,Sd (f e) (g e)) (sc:Scope) (t:Expr) (v:V) (ρ:Rho):Sd (up6 f sc t v ρ) (zg0 g sc t v ρ):=by
 intro σ κ;cases t with
 | Name x pos=>
  refine (?_:(Tr.run (ite (yy9 sc x=true) (updK x v ρ (kSt σ κ)) _)).le _);rw [wv2,xj6];exact vv6 Out.le_refl
 | Tuple ts c pos=>
  refine yw3 (o:=zj2 v) (fun vs=>yw3 (o:=zy3 sc ts) (fun ns=>?_) zq9) zq9;refine (?_:(Tr.run (ite (ns.Nodup/\ns.length=vs.length) (yg6 (ns.zip vs) ρ (kSt σ κ)) _)).le _);rw [xq1];exact vv6 Out.le_refl
 | Attribute o a pos=>exact (h o).b fun r σ=>lg fun U σ=>Out.le_refl
 | Subscript o i pos=>exact (h o).b fun r σ=>(h i).b fun j σ=>lg fun U σ=>Out.le_refl
 | _=>exact zq9
noncomputable abbrev US (κ:KS β):Fl×Rho->zz0->Out β:=fun x σ=>(κ x.1 x.2 σ).run
noncomputable def Ss (F:Rho->zz0->KS β->Tr β) (G:Rho->zz0->Out (Fl×Rho)):Prop:=∀ ρ σ κ,(F ρ σ κ).run.le ((G ρ σ).bnd (US κ))
theorem xh0 {f:Stmt->Rho->zz0->KS β->Tr β} {g:Stmt->Rho->zz0->Out (Fl×Rho)} (h:∀ s,Ss (f s) (g s)) (l:List Stmt):Ss (vh6 f l) (seqS g l):=by
 induction l with
 | nil=>exact fun U U U=>Out.le_refl
 | cons s r ih=>
  intro ρ σ κ;have z:∀ κ':KS β,(∀ (x:Fl×Rho) σ,(κ' x.1 x.2 σ).run.le (((match x.1 with|.next=>seqS g r x.2 σ|_=>.ok x σ:Out (Fl×Rho))).bnd (US κ)))->(f s ρ σ κ').run.le ((seqS g (s::r) ρ σ).bnd (US κ)):=by
   intro κ' k;refine xw4 (h s ρ σ κ') ?_;refine (?_:Out.le _ (((g s ρ σ).bnd _).bnd _));rw [yv5];exact uw2 k
  cases r with
  | nil=>exact z κ fun x σ=>by (obtain ⟨x,ρ⟩:=x;cases x <;> exact Out.le_refl)
  | cons=>exact z _ fun x σ=>by (obtain ⟨x,ρ⟩:=x;cases x <;> first|exact Out.le_refl|exact ih ρ σ κ)
theorem cBlk_le {f:Stmt->Rho->zz0->KS β->Tr β} {g:Stmt->Rho->zz0->Out (Fl×Rho)} (h:∀ s,Ss (f s) (g s)) (l:List Stmt):Ss (cBlk f l) (seqS g l):=by
 cases l with
 | nil=>exact fun U U U=>Out.le_refl
 | cons=>exact xh0 h _
theorem kRet_le {r:Out V} {κ:KS β} {ρ:Rho} {a:Out β} (h:a.le (r.bnd (Uk (kRet ρ κ)))):a.le ((retO ρ r).bnd (US κ)):=by
 cases r with
 | ex σ=>exact xw4 h zq9
 | _=>exact h
theorem cS_le (C:zz5) (k:Nat):∀ sc s,Ss (β:=β) (cS C k sc s) (evS C k sc s):=by
 induction k with
 | zero=>exact fun U U U U U=>zq9
 | succ k ih=>
  refine zg6 (le3 β C k) fun hE hT hI=>?_;intro sc s ρ σ κ;cases s with
  | Expr e pos=>exact xx4 ((hE sc ρ e).b fun U σ=>Out.le_refl)
  | Return o pos=>
   cases o with
   | none=>exact Out.le_refl
   | some e=>exact kRet_le (hE sc ρ e σ _)
  | Assign ts e pos=>
   rcases ts with _|⟨t,_|⟨t2,ts⟩⟩
   ·exact zq9
   ·refine (?_:(Tr.run (ite (xz8 sc t e=true) (ite (yz4 e=true) (.get (evS C (k + 1) sc (.Assign [t] e pos) ρ σ) _) _) _)).le (Out.bnd (ite (xz8 sc t e=true) (ite (yz4 e=true) _ _) _) _))
    by_cases h1:xz8 sc t e=true
    ·rw [if_pos h1,if_pos h1]
     by_cases h2:yz4 e=true
     ·rw [if_pos h2,if_pos h2]
      refine .inr (congrArg (fun x=>Out.bnd x (US κ)) ?_);exact (if_pos h1).trans (if_pos h2)
     ·rw [if_neg h2,if_neg h2]
      exact (hE sc ρ e).b fun v σ=>(vy6 (hE sc ρ) sc t v ρ).b fun ρ σ=>Out.le_refl
    ·rw [if_neg h1];exact zq9
   ·exact zq9
  | If t b o pos=>exact (hT sc ρ t).b fun c σ=>by (cases c;exact cBlk_le (ih sc) o ρ σ κ;exact xh0 (ih sc) b ρ σ κ)
  | _=>exact Out.le_refl
theorem ob {r:Out α} {v:α} {σ:zz0} {f:α->zz0->Out β} {o:Out β} (h:r=.ok v σ) (k:f v σ=o):r.bnd f=o:=by rw [h];exact k
theorem ob' {r:Out α} {v:α} {σ:zz0} {f:α->zz0->Out β} {o:Out β} (h:r=.ok v σ) (k:f v σ=o):r.bnd' f=o:=by rw [h];exact k
theorem wx5 {r:Out α}:(r.bnd fun v σ=>.ok v σ).le r:=by cases r <;> first|exact zq9|exact Out.le_refl
end
section
variable {C:zz5} {k:Nat} {sc:Scope} {ρ:Rho} {σ:zz0}
noncomputable def rE (C:zz5) (k:Nat) (sc:Scope) (ρ:Rho) (e:Expr) (σ:zz0):Tr V:=cE C k sc ρ e σ .ret
noncomputable def rT (C:zz5) (k:Nat) (sc:Scope) (ρ:Rho) (e:Expr) (σ:zz0):Tr Bool:=cT C k sc ρ e σ .ret
noncomputable def rIt (C:zz5) (k:Nat) (sc:Scope) (ρ:Rho) (e:Expr) (σ:zz0):Tr It:=cIt C k sc ρ e σ .ret
noncomputable def rMap (C:zz5) (k:Nat) (sc:Scope) (ρ:Rho) (l:List Expr) (σ:zz0):Tr (List V):=cMap (fun e σ κ=>cE C k sc ρ e σ κ) l σ .ret
noncomputable def rSeq (C:zz5) (k:Nat) (sc:Scope) (l:List Stmt) (ρ:Rho) (σ:zz0):Tr (Fl×Rho):=vh6 (fun s ρ σ κ=>cS C k sc s ρ σ κ) l ρ σ fun x ρ σ=>.ret (x,ρ) σ
theorem rE_le {e:Expr}:(rE C k sc ρ e σ).run.le (evE C k sc ρ e σ):=xw4 ((le3 V C k).1 _ _ _ _ _) wx5
theorem rT_le {e:Expr}:(rT C k sc ρ e σ).run.le (evT C k sc ρ e σ):=xw4 ((le3 Bool C k).2.1 _ _ _ _ _) wx5
theorem rIt_le {e:Expr}:(rIt C k sc ρ e σ).run.le (evIt C k sc ρ e σ):=xw4 ((le3 It C k).2.2 _ _ _ _ _) wx5
theorem uq3 {l:List Expr}:(rMap C k sc ρ l σ).run.le (zh2 (fun e σ=>evE C k sc ρ e σ) l σ):=xw4 (yq8 ((le3 (List V) C k).1 sc ρ) l σ _) wx5
theorem uq2 {l:List Stmt}:(rSeq C k sc l ρ σ).run.le (seqS (fun s ρ σ=>evS C k sc s ρ σ) l ρ σ):=xw4 (xh0 (cS_le C k sc) l ρ σ _) wx5
theorem end_le {r:Out (Fl×Rho)}:(r.bnd (US kEnd)).le (xg1 r):=by
 cases r with
 | ok x σ'=>
  obtain ⟨x,ρ'⟩:=x;cases x <;> first|exact Out.le_refl|exact zq9
 | _=>first|exact Out.le_refl|exact zq9
theorem ub8 {q:Str} {args:List V}:(cFn C q args σ).run.le (xk4 C q args σ):=by
 refine (?_:(Tr.run ((fdOf (yv4 q)).elim .bad fun f=>(yp4 f.1 args).elim .bad fun ρ=>layK ρ (cBody C f.2.1 f.2.2 σ))).le ((fdOf (yw8 q)).elim .bad _));rw [vw5];cases fdOf (yw8 q) with
 | none=>exact Out.le_refl
 | some f=>
  refine (?_:(Tr.run ((yp4 f.1 args).elim .bad fun ρ=>layK ρ (cBody C f.2.1 f.2.2 σ))).le ((yp4 f.1 args).elim .bad _));cases yp4 f.1 args with
  | none=>exact Out.le_refl
  | some ρ=>
   refine (?_:(Tr.run (layK ρ (cBody C f.2.1 f.2.2 σ))).le _);rw [uw4];exact xw4 (xh0 (cS_le C KD f.2.2) f.2.1 ρ σ _) end_le
end
noncomputable def Rn {α:Type} (t:Tr α) (Q:α->zz0->Prop):Prop:=∃ a σ,t.run=.ok a σ/\Q a σ
noncomputable def RnX {α:Type} (t:Tr α) (Q:zz0->Prop):Prop:=∃ σ,t.run=.exc σ/\Q σ
theorem zc0 {α:Type} {a:α} {σ:zz0} {Q:α->zz0->Prop} (h:Q a σ):Rn (.ret a σ) Q:=⟨a,σ,rfl,h⟩
theorem za0 {α β:Type} {r:Out β} {k:β->zz0->Tr α} {v:β} {σ:zz0} {Q:α->zz0->Prop} (h:r=.ok v σ) (hk:Rn (k v σ) Q):Rn (.get r k) Q:=by
 refine el21 hk fun a σ' e q=>?_;refine ⟨a,σ',?_,q⟩;simp only [h];exact e
noncomputable def cAt (C:zz5) (q:Str) (i:Nat) (ρ:Rho) (σ:zz0):Tr V:=(fdOf (yv4 q)).elim .bad fun f=>vh6 (cS C KD f.2.2) (f.2.1.drop i) ρ σ kEnd
noncomputable def Tr.go {α:Type}:Nat->Tr α->Tr α
 | 0,t=>t
 | n + 1,t=>match t with
  | .get r k=>match r with
   | .ok v σ=>(k v σ).go n
   | _=>.bad
  | _=>.bad
theorem go_ok {α:Type} {a:α} {σ:zz0} (n:Nat):∀ {t:Tr α},(t.go n).run=.ok a σ->t.run=.ok a σ:=by
 induction n with
 | zero=>exact fun h=>h
 | succ n ih=>
  intro t h;cases t with
  | get r k=>cases r with
   | ok v σ=>exact ih (t:=k v σ) h
   | _=>cases h
  | _=>cases h
theorem Rn.go {α:Type} (n:Nat) {t:Tr α} {Q:α->zz0->Prop} (h:Rn (t.go n) Q):Rn t Q:=el21 h fun a σ e q=>⟨a,σ,go_ok n e,q⟩
theorem ze0 {α:Type} {r:Out Bool} {k:Bool->zz0->Tr α} {b:Bool} {σ:zz0} {Q:α->zz0->Prop} (h:r=.ok b σ) (hb:b=true) (hk:Rn (k true σ) Q):Rn (.get r k) Q:=by subst hb;exact za0 h hk
theorem zd0 {α:Type} {r:Out Bool} {k:Bool->zz0->Tr α} {b:Bool} {σ:zz0} {Q:α->zz0->Prop} (h:r=.ok b σ) (hb:b=false) (hk:Rn (k false σ) Q):Rn (.get r k) Q:=by subst hb;exact za0 h hk
theorem yr0 {α β:Type} {r:Out β} {k:β->zz0->Tr α} {v:β} {σ:zz0} {Q:zz0->Prop} (h:r=.ok v σ) (hk:RnX (k v σ) Q):RnX (.get r k) Q:=by
 refine el11 hk fun σ' e q=>?_;refine ⟨σ',?_,q⟩;simp only [h];exact e
theorem RnX.now {α β:Type} {r:Out β} {k:β->zz0->Tr α} {σ:zz0} {Q:zz0->Prop} (h:r=.exc σ) (hq:Q σ):RnX (.get r k) Q:=⟨σ,congrArg (fun r:Out β=>r.bnd fun v σ=>(k v σ).run) h,hq⟩
theorem Rn.mono {α:Type} {t:Tr α} {Q Q':α->zz0->Prop} (h:Rn t Q) (hq:∀ a σ,Q a σ->Q' a σ):Rn t Q':=by
 refine el21 h fun a σ e q=>?_;exact ⟨a,σ,e,hq _ _ q⟩
theorem ww5 {α:Type} {a b:Out α} {v:α} {σ:zz0} (h:a.le b) (e:a=.ok v σ):b=.ok v σ:=by
 rcases h with q|q
 ·rw [q] at e;cases e
 ·exact q▸e
theorem le_exc {α:Type} {a b:Out α} {σ:zz0} (h:a.le b) (e:a=.exc σ):b=.exc σ:=by
 rcases h with q|q
 ·rw [q] at e;cases e
 ·exact q▸e
theorem Rn.evE {C:zz5} {k:Nat} {sc:Scope} {ρ:Rho} {e:Expr} {σ:zz0} {Q:V->zz0->Prop} (h:Rn (rE C k sc ρ e σ) Q):∃ v σ',Mine.evE C k sc ρ e σ=.ok v σ'/\Q v σ':=by
 refine el21 h fun a σ' e1 q=>?_;exact ⟨a,σ',ww5 rE_le e1,q⟩
theorem Rn.evT {C:zz5} {k:Nat} {sc:Scope} {ρ:Rho} {e:Expr} {σ:zz0} {Q:Bool->zz0->Prop} (h:Rn (rT C k sc ρ e σ) Q):∃ v σ',Mine.evT C k sc ρ e σ=.ok v σ'/\Q v σ':=by
 refine el21 h fun a σ' e1 q=>?_;exact ⟨a,σ',ww5 rT_le e1,q⟩
theorem Rn.evIt {C:zz5} {k:Nat} {sc:Scope} {ρ:Rho} {e:Expr} {σ:zz0} {Q:It->zz0->Prop} (h:Rn (rIt C k sc ρ e σ) Q):∃ v σ',Mine.evIt C k sc ρ e σ=.ok v σ'/\Q v σ':=by
 refine el21 h fun a σ' e1 q=>?_;exact ⟨a,σ',ww5 rIt_le e1,q⟩
theorem Rn.seqS {C:zz5} {k:Nat} {sc:Scope} {ρ:Rho} {l:List Stmt} {σ:zz0} {Q:Fl×Rho->zz0->Prop} (h:Rn (rSeq C k sc l ρ σ) Q):∃ v σ',Mine.seqS (fun s ρ σ=>evS C k sc s ρ σ) l ρ σ=.ok v σ'/\Q v σ':=by
 refine el21 h fun a σ' e1 q=>?_;exact ⟨a,σ',ww5 uq2 e1,q⟩
theorem Rn.fn {n:Nat} {q:Str} {args:List V} {σ:zz0} {Q:V->zz0->Prop} (h:Rn (cFn (zz4 n) q args σ) Q):∃ v σ',zz4 (n + 1) (.fn q) args σ=.ok v σ'/\Q v σ':=by
 refine el21 h fun a σ' e1 hq=>?_;exact ⟨a,σ',ww5 ub8 e1,hq⟩
theorem RnX.fn {n:Nat} {q:Str} {args:List V} {σ:zz0} {Q:zz0->Prop} (h:RnX (cFn (zz4 n) q args σ) Q):∃ σ',zz4 (n + 1) (.fn q) args σ=.exc σ'/\Q σ':=by
 refine el11 h fun σ' e1 hq=>?_;exact ⟨σ',le_exc ub8 e1,hq⟩
section
variable {b:Rho->zz0->KS V->Tr V} {f f':Stmt->Rho->zz0->KS V->Tr V} {r:List Stmt} {ρ:Rho} {σ:zz0} {Q:V->zz0->Prop} {g:Expr->Cp V Bool} {k:Cp V Bool}
theorem Rn.no2 (h:Rn (vh6 f r ρ σ kEnd) Q):Rn (kBT .And k (kCase b (cBlk f' []) ρ (kSeq (vh6 f r) kEnd)) false σ) Q:=h
theorem Rn.no3 (h:Rn (vh6 f r ρ σ kEnd) Q):Rn (kBT .Or (vx6 g .Or []) (kCase b (cBlk f' []) ρ (kSeq (vh6 f r) kEnd)) false σ) Q:=h
end
theorem Rn.at (q:Str) (i:Nat) {C:zz5} {f:Arguments×List Stmt×Scope} {ρ:Rho} {σ:zz0} {Q:V->zz0->Prop} (k:Rn (cAt C q i ρ σ) Q) (h:fdOf (yv4 q)=some f:=by rfl):Rn (vh6 (cS C KD f.2.2) (f.2.1.drop i) ρ σ kEnd) Q:=by
 unfold cAt at k;rw [h] at k;exact k
theorem Rn.upd {α:Type} {x:Str} {v:V} {ρ ρ':Rho} {κ:Rho->Tr α} {Q:α->zz0->Prop} (h:upd ρ x v=ρ') (k:Rn (κ ρ') Q):Rn (updK x v ρ κ) Q:=by rw [xj6,h];exact k
theorem Rn.updAll {α:Type} {l:List (Str×V)} {ρ ρ':Rho} {κ:Rho->Tr α} {Q:α->zz0->Prop} (h:Mine.updAll ρ l=ρ') (k:Rn (κ ρ') Q):Rn (yg6 l ρ κ) Q:=by rw [xq1,h];exact k
theorem zo0 {n:Nat} {q:Str} {args:List V} {σ σ':zz0} {v:V} (h:Rn (cFn (zz4 n) q args σ) fun a s=>a=v/\s=σ'):zz4 (n + 1) (.fn q) args σ=.ok v σ':=by
 refine el22 h.fn fun a s e eq1 eq2=>?_;subst eq1;subst eq2;exact e
theorem zj7 {β:Type} {σ:zz0} {i:Nat} {l:List V} {d:β} {F:List V->β} (h:σ[i]?=some (.lst l)):(zj3 σ i).elim d F=F l:=congrArg (fun o=>Option.elim o d F) (xx2 h)
theorem uy4 {β:Type} {σ:zz0} {i:Nat} {c:Str} {f:List (Str×V)} {d:β} {F:Str×List (Str×V)->β} (h:σ[i]?=some (.inst c f)):(wz5 σ i).elim d F=F (c,f):=congrArg (fun o=>Option.elim o d F) (ins_of h)
theorem uk0 {σ:zz0} {i:Nat} {l:List V} {nm:Str} (h:σ[i]?=some (.lst l)):zk3 (.loc i) nm σ=(zx3 (.loc i) nm σ).map MK.bm:=
 congrArg (fun o=>Option.elim (Option.elim o Option.none insO) ((zx3 (.loc i) nm σ).map MK.bm) fun p=>if (p.2.lookup nm).isSome=true then Option.none else (xp5 p.1 nm).map MK.fm) h
theorem uw0 {n:Nat} {v:V} {σ:zz0} {m:Nat} (h:lenOf v σ=some m) (hm:m<=SL):zz4 (n + 1) (.blt "len") [v] σ=.ok (.int m) σ:=by
 show (lenOf v σ).elim Out.bad (fun n:Nat=>if (n:Int) < big then Out.ok (V.int n) σ else Out.bad)=_;have this:(m:Int) < big:=iv9 (ix6.mpr hm) (by decide);simp only [h,Option.elim,if_pos this]
theorem len_str {n:Nat} {l:List Nat} {σ:zz0} (hm:l.length<=SL):zz4 (n + 1) (.blt "len") [.str l] σ=.ok (.int l.length) σ:=uw0 rfl hm
theorem uv9 {n:Nat} {l:List V} {σ:zz0} (hm:l.length<=SL):zz4 (n + 1) (.blt "len") [.tup l] σ=.ok (.int l.length) σ:=uw0 rfl hm
theorem zb8 {n i:Nat} {l:List V} {σ:zz0} (h:σ[i]?=some (.lst l)) (hm:l.length<=SL):zz4 (n + 1) (.blt "len") [.loc i] σ=.ok (.int l.length) σ:=uw0 (zj7 (F:=fun l=>some l.length) h) hm
theorem zz6 {i:Nat} {c a:Str} {f:List (Str×V)} {v:V} {σ:zz0} (h:σ[i]?=some (.inst c f)) (hf:zb1.contains (c,a)=true) (hv:f.lookup a=some v) (hb:uj3 v=some v):wx7 (.loc i) a σ=.ok v σ:=
 (uy4 (F:=fun p=>if zb1.contains (p.1,a)=true then liftO ((p.2.lookup a).bind uj3) σ else Out.bad) h).trans ((if_pos hf).trans ((congrArg (fun o=>liftO (Option.bind o uj3) σ) hv).trans (congrArg (fun o=>liftO o σ) hb)))
theorem xb8 {k n:Nat} (h:k < n) (hn:n<=SL):zg9 (k:Int) n=some k:=by
 unfold zg9 seqIndex?;refine (if_pos hn).symm▸?_;have:¬ ((k:Int) < 0):=iv2.mpr (iw4 k);simp [this,h]
theorem xq5 {n:Nat} (h:0 < n) (hn:n<=SL):zg9 (-1) n=some (n - 1):=by
 cases n with
 | zero=>cases h
 | succ n=>
  have e:(-1:Int) + ((n + 1:Nat):Int)=n:=(Int.add_comm _ _).trans (Int.add_neg_cancel_right n 1);unfold zg9 seqIndex?;rw [if_pos hn];dsimp only;rw [if_pos (show (-1:Int) < 0 from by decide),e];exact if_pos (by rw [decide_eq_true (iw4 n),decide_eq_true (ik6.mpr (ij7 n))];rfl)
theorem zx7 {l:List Nat} {k:Nat} {c:Nat} {σ:zz0} (h:l[k]?=some c) (hl:l.length<=SL):zv7 (.str l) (.int k) σ=.ok (.str [c]) σ:=
 (congrArg (fun o=>liftO (Option.map (fun c=>V.str [c]) (Option.bind o fun j=>l[j]?)) σ) (xb8 (iz7.mp h).1 hl)).trans (congrArg (fun o=>liftO (Option.map (fun c=>V.str [c]) o) σ) h)
theorem zw2 {i k:Nat} {l:List V} {v:V} {σ:zz0} (hi:σ[i]?=some (.lst l)) (h:l[k]?=some v) (hl:l.length<=SL):zv7 (.loc i) (.int k) σ=.ok v σ:=
 (zj7 (F:=fun l=>atP l (k:Int) σ) hi).trans ((congrArg (fun o=>liftO (Option.bind o fun j=>l[j]?) σ) (xb8 (iz7.mp h).1 hl)).trans (congrArg (fun o=>liftO o σ) h))
noncomputable abbrev Tok:=List Nat×List Nat
structure RdS (σ:zz0) (r tl:Nat) (toks:List Tok) (locs:List Nat) (k:Nat):Prop where
 rd:σ[r]?=some (.inst "Reader" [("tokens",.loc tl),("at",.int k),("named",.map [] [])])
 ls:σ[tl]?=some (.lst (locs.map V.loc))
 tk:∀ (i:Nat) (kd w:List Nat),toks[i]?=some (kd,w)->∃ (l:Nat) (at' a:V),locs[i]?=some l/\σ[l]?=some (.inst "Token" [("kind",.str kd),("worth",.str w),("at",at'),("is_in_a",a)])/\(∃ z,at'=V.tup z)
 len:locs.length=toks.length
 sz:toks.length<=1000000
 ne:r≠tl/\r∉locs
 le:k<=toks.length
theorem zz1 {i:Nat} {c nm q:Str} {f:List (Str×V)} {σ:zz0} (h:σ[i]?=some (.inst c f)) (hn:(f.lookup nm).isSome=false) (hm:methF c nm=some q):liftO (zk3 (.loc i) nm σ) σ=.ok (.fm q) σ:=by
 refine (congrArg (fun o=>liftO (Option.elim o ((zx3 (.loc i) nm σ).map MK.bm) fun p:Str×List (Str×V)=>if (p.2.lookup nm).isSome=true then Option.none else (xp5 p.1 nm).map MK.fm) σ) (ins_of h)).trans ?_;show liftO (if (f.lookup nm).isSome=true then _ else (xp5 c nm).map MK.fm) σ=_;rw [hn,meth_le hm];rfl
noncomputable def locV (locs:List Nat) (k:Nat):V:=match locs[k]? with
 | some l=>.loc l
 | none=>.none
section
variable {n r tl k a:Nat} {toks:List Tok} {locs:List Nat} {σ:zz0}
theorem RdS.szl (h:RdS σ r tl toks locs k):(locs.map V.loc).length<=SL:=by
 rw [iq9,h.len];have:=h.sz;exact l11 0x00f4240471100000047 this
theorem wk8 (h:RdS σ r tl toks locs k):zz4 (n + 2) (.fn "Reader.peek") [.loc r,.int a] σ=.ok (locV locs (k + a)) σ:=by
 refine zo0 ?_;refine za0 (zz6 h.rd rfl rfl rfl) (Rn.go 1 ?_);refine za0 (zz6 h.rd rfl rfl rfl) ?_;refine za0 (zb8 h.ls h.szl) ?_;by_cases q:k + a < locs.length
 ·refine ze0 rfl (decide_eq_true (by rw [iq9];exact ik6.mpr q)) ?_
  refine za0 (zz6 h.rd rfl rfl rfl) ?_;refine za0 (zz6 h.rd rfl rfl rfl) (Rn.go 1 ?_);refine za0 (zw2 (k:=k + a) (v:=.loc locs[k + a]) h.ls (by simp [q]) h.szl) ?_;exact zc0 ⟨by unfold locV;rw [ij6 q],rfl⟩
 ·refine zd0 rfl (decide_eq_false (by rw [iq9];exact fun z=>q (ik6.mp (show ((k + a:Nat):Int) < _ from z)))) ?_
  exact zc0 ⟨by unfold locV;rw [oz2 (by exact l31 0x981719817 (ik2 q))],rfl⟩
theorem wp0 (h:RdS σ r tl toks locs k):zz4 (n + 2) (.fn "Reader.peek") [.loc r] σ=.ok (locV locs k) σ:=by
 refine zo0 ?_;refine za0 (zz6 h.rd rfl rfl rfl) (Rn.go 1 ?_);refine za0 (zz6 h.rd rfl rfl rfl) ?_;refine za0 (zb8 h.ls h.szl) ?_;by_cases q:k < locs.length
 ·refine ze0 rfl (decide_eq_true (by rw [iq9];exact ik6.mpr q)) ?_
  refine za0 (zz6 h.rd rfl rfl rfl) ?_;refine za0 (zz6 h.rd rfl rfl rfl) (Rn.go 1 ?_);refine za0 (zw2 (k:=k) (v:=.loc locs[k]) h.ls (by simp [q]) h.szl) ?_;exact zc0 ⟨by unfold locV;rw [ij6 q],rfl⟩
 ·refine zd0 rfl (decide_eq_false (by rw [iq9];exact fun z=>q (ik6.mp (show ((k + 0:Nat):Int) < _ from z)))) ?_
  exact zc0 ⟨by unfold locV;rw [oz2 (by exact l21 0x87187 (ik2 q))],rfl⟩
end
noncomputable def zw8 (toks:List Tok) (k:Nat) (kd:List Nat):Bool:=match toks[k]? with
 | some (x,_)=>x == kd
 | none=>false
noncomputable def zk7 (toks:List Tok) (k:Nat) (s:List Nat):Bool:=match toks[k]? with
 | some (x,w)=>x == S "sign"&&w == s
 | none=>false
noncomputable def mv (σ:zz0) (r tl j:Nat):zz0:=σ.set r (.inst "Reader" [("tokens",.loc tl),("at",.int j),("named",.map [] [])])
section
variable {n r tl k a j:Nat} {toks:List Tok} {locs:List Nat} {σ:zz0} {kd s w:List Nat}
theorem RdS.mv (h:RdS σ r tl toks locs k) (hj:j<=toks.length):RdS (mv σ r tl j) r tl toks locs j:=by
 have hr:r < σ.length:=(iz7.mp h.rd).1;refine ⟨by simp [Mine.mv,hr],?_,fun i kd w e=>?_,h.len,h.sz,h.ne,hj⟩
 ·unfold Mine.mv
  rw [iz9 h.ne.1];exact h.ls
 ·refine hid fun G kG=>?_
  refine el32 (h.tk i kd w e) fun l at' b h1 h2 h3=>?_;refine kG ?_;refine ⟨l,at',b,h1,?_,h3⟩;unfold Mine.mv;rw [iz9 (fun q=>h.ne.2 (by rw [q];exact iv0 h1))];exact h2
theorem mv_at (h:RdS σ r tl toks locs k):zg2 (.loc r) "at" (.int (j:Nat)) σ=.ok () (mv σ r tl j):=by
 exact (uy4 (F:=fun p=>if zb1.contains (p.1,Str.ofString "at")=true/\p.2.length<=900 then Out.ok () (σ.set r (.inst p.1 (upd p.2 "at" (.int j)))) else Out.bad) h.rd).trans rfl
theorem wp6 (h:RdS σ r tl toks locs k) (e:toks[j]?=some (kd,w)):∃ l at' b,locV locs j=.loc l/\σ[l]?=some (.inst "Token" [("kind",.str kd),("worth",.str w),("at",at'),("is_in_a",b)])/\(∃ z,at'=V.tup z):=by
 refine el32 (h.tk j kd w e) fun l at' b h1 h2 h3=>?_;refine hid fun G kG=>?_;refine kG ?_;exact ⟨l,at',b,by unfold locV;rw [h1],h2,h3⟩
theorem wp7 (h:RdS σ r tl toks locs k) (e:toks[j]?=none):locV locs j=.none:=by
 unfold locV;rw [oz2];rw [h.len];exact List.getElem?_eq_none_iff.mp e
theorem zv0 (h:RdS σ r tl toks locs k) (e:toks[k + a]?=some (kd,w)):∃ l at' b,(∀ n,zz4 (n + 2) (.fn "Reader.peek") [.loc r,.int a] σ=.ok (.loc l) σ)/\σ[l]?=some (.inst "Token" [("kind",.str kd),("worth",.str w),("at",at'),("is_in_a",b)])/\(∃ z,at'=V.tup z):=by
 refine el32 (wp6 h e) fun l at' b h1 h2 h3=>?_;refine hid fun G kG=>?_;refine kG ?_;exact ⟨l,at',b,fun n=>by rw [wk8 h,h1],h2,h3⟩
theorem yx4 (h:RdS σ r tl toks locs k) (e:toks[k + a]?=none):zz4 (n + 2) (.fn "Reader.peek") [.loc r,.int a] σ=.ok .none σ:=by rw [wk8 h,wp7 h e]
theorem yx3 (h:RdS σ r tl toks locs k) (e:toks[k]?=some (kd,w)):∃ l at' b,(∀ n,zz4 (n + 2) (.fn "Reader.peek") [.loc r] σ=.ok (.loc l) σ)/\σ[l]?=some (.inst "Token" [("kind",.str kd),("worth",.str w),("at",at'),("is_in_a",b)])/\(∃ z,at'=V.tup z):=by
 refine el32 (wp6 h e) fun l at' b h1 h2 h3=>?_;refine hid fun G kG=>?_;refine kG ?_;exact ⟨l,at',b,fun n=>by rw [wp0 h,h1],h2,h3⟩
theorem xb9 (h:RdS σ r tl toks locs k) (e:toks[k]?=none):zz4 (n + 2) (.fn "Reader.peek") [.loc r] σ=.ok .none σ:=by rw [wp0 h,wp7 h e]
theorem yv1 (e:toks[k]?=some (s,w)):zw8 toks k kd=(s == kd):=by unfold zw8;rw [e]
theorem yq4 (e:toks[k]?=none):zw8 toks k kd=false:=by unfold zw8;rw [e]
theorem vb9 (e:toks[k]?=some (kd,w)):zk7 toks k s=(kd == S "sign"&&w == s):=by unfold zk7;rw [e]
theorem vp0 (e:toks[k]?=none):zk7 toks k s=false:=by unfold zk7;rw [e]
theorem zg4 (h:RdS σ r tl toks locs k):zz4 (n + 3) (.fn "Reader.is_kind") [.loc r,.str kd,.int a] σ=.ok (.bool (zw8 toks (k + a) kd)) σ:=by
 refine zo0 ?_;cases e:toks[k + a]? with
 | none=>
  refine za0 (zz1 h.rd rfl rfl) ?_;refine za0 (yx4 h e) (Rn.go 2 ?_);refine zc0 ?_;exact ⟨by rw [yq4 e];rfl,rfl⟩
 | some p=>
  refine hid fun G kG=>?_;refine el32 (zv0 h e) fun l at' b h1 h2 h3=>?_;refine kG ?_;refine za0 (zz1 h.rd rfl rfl) ?_;refine za0 (h1 _) (Rn.go 2 ?_);refine za0 (zz6 h2 rfl rfl rfl) (Rn.go 1 ?_);refine zc0 ?_;exact ⟨by rw [yv1 e],rfl⟩
theorem yq5 (h:RdS σ r tl toks locs k):zz4 (n + 3) (.fn "Reader.is_kind") [.loc r,.str kd] σ=.ok (.bool (zw8 toks k kd)) σ:=by
 refine zo0 ?_;cases e:toks[k]? with
 | none=>
  refine za0 (zz1 h.rd rfl rfl) ?_;refine za0 (yx4 (a:=0) h e) (Rn.go 2 ?_);refine zc0 ?_;exact ⟨by rw [yq4 e];rfl,rfl⟩
 | some p=>
  refine hid fun G kG=>?_;refine el32 (zv0 (a:=0) h e) fun l at' b h1 h2 h3=>?_;refine kG ?_;refine za0 (zz1 h.rd rfl rfl) ?_;refine za0 (h1 _) (Rn.go 2 ?_);refine za0 (zz6 h2 rfl rfl rfl) (Rn.go 1 ?_);refine zc0 ?_;exact ⟨by rw [yv1 e],rfl⟩
theorem vp1 (h:zk7 toks k s=true):zw8 toks k (S "sign")=true:=by
 unfold zk7 at h;unfold zw8;split at h
 ·rw [iq5] at h
  simp only [*]
 ·cases h
theorem wz1 (h:zw8 toks k (S "sign")=false):zk7 toks k s=false:=by
 cases q:zk7 toks k s with
 | false=>rfl
 | true=>rw [vp1 q] at h;cases h
theorem yz1 (h:RdS σ r tl toks locs k):zz4 (n + 4) (.fn "Reader.is_sign") [.loc r,.str s,.int a] σ=.ok (.bool (zk7 toks (k + a) s)) σ:=by
 refine zo0 ?_;refine za0 (zz1 h.rd rfl rfl) ?_;refine za0 (zg4 h) ?_;cases e:toks[k + a]? with
 | none=>
  refine zd0 rfl (yq4 e) ?_;exact zc0 ⟨by rw [yq4 e,vp0 e],rfl⟩
 | some p=>
  cases q:zw8 toks (k + a) (S "sign") with
  | false=>
   refine zd0 rfl q ?_;exact zc0 ⟨by rw [wz1 q];exact congrArg V.bool q,rfl⟩
  | true=>
   refine ze0 rfl q ?_;refine hid fun G kG=>?_;refine el32 (zv0 h e) fun l at' b h1 h2 h3=>?_;refine kG ?_;refine za0 (zz1 h.rd rfl rfl) ?_;refine za0 (h1 _) ?_;refine za0 (zz6 h2 rfl rfl rfl) ?_;rw [yv1 e] at q;exact zc0 ⟨by rw [vb9 e,q];rfl,rfl⟩
theorem zk5 (h:RdS σ r tl toks locs k):zz4 (n + 4) (.fn "Reader.is_sign") [.loc r,.str s] σ=.ok (.bool (zk7 toks k s)) σ:=by
 refine zo0 ?_;refine za0 (zz1 h.rd rfl rfl) ?_;refine za0 (zg4 (a:=0) h) ?_;cases e:toks[k]? with
 | none=>
  refine zd0 rfl (yq4 e) ?_;exact zc0 ⟨by rw [vp0 e];exact congrArg V.bool (yq4 e),rfl⟩
 | some p=>
  cases q:zw8 toks k (S "sign") with
  | false=>
   refine zd0 rfl q ?_;exact zc0 ⟨by rw [wz1 q];exact congrArg V.bool q,rfl⟩
  | true=>
   refine ze0 rfl q ?_;refine hid fun G kG=>?_;refine el32 (zv0 (a:=0) h e) fun l at' b h1 h2 h3=>?_;refine kG ?_;refine za0 (zz1 h.rd rfl rfl) ?_;refine za0 (h1 _) ?_;refine za0 (zz6 h2 rfl rfl rfl) ?_;rw [yv1 e] at q;exact zc0 ⟨by rw [vb9 e,q];rfl,rfl⟩
theorem yk2 (h:RdS σ r tl toks locs k) (q:zk7 toks k s=false):zz4 (n + 5) (.fn "Reader.skip_sign") [.loc r,.str s] σ=.ok (.bool false) σ:=by
 refine zo0 ?_;refine za0 (zz1 h.rd rfl rfl) ?_;refine za0 (zk5 h) ?_;refine zd0 rfl q ?_;exact zc0 ⟨rfl,rfl⟩
theorem xk0 (h:RdS σ r tl toks locs k) (q:zk7 toks k s=true):zz4 (n + 5) (.fn "Reader.skip_sign") [.loc r,.str s] σ=.ok (.bool true) (mv σ r tl (k + 1)):=by
 refine zo0 ?_;refine za0 (zz1 h.rd rfl rfl) ?_;refine za0 (zk5 h) ?_;refine ze0 rfl q ?_;refine za0 (zz6 h.rd rfl rfl rfl) (Rn.go 1 ?_);refine za0 (mv_at (j:=k + 1) h) ?_;exact zc0 ⟨rfl,rfl⟩
theorem zp7 (h:RdS σ r tl toks locs k) (q:zk7 toks k s=true):zz4 (n + 6) (.fn "Reader.need_sign") [.loc r,.str s] σ=.ok .none (mv σ r tl (k + 1)):=by
 refine zo0 ?_;refine za0 (zz1 h.rd rfl rfl) ?_;refine za0 (xk0 h q) (Rn.go 1 ?_);refine zc0 ?_;exact ⟨rfl,rfl⟩
theorem zp5 (h:RdS σ r tl toks locs k) (e:toks[k]?=some (kd,w)):∃ l at' b,(∀ n,zz4 (n + 3) (.fn "Reader.take") [.loc r] σ=.ok (.loc l) (mv σ r tl (k + 1)))/\σ[l]?=some (.inst "Token" [("kind",.str kd),("worth",.str w),("at",at'),("is_in_a",b)])/\(mv σ r tl (k + 1))[l]?=some (.inst "Token" [("kind",.str kd),("worth",.str w),("at",at'),("is_in_a",b)])/\(∃ z,at'=V.tup z):=by
 refine el32 (yx3 h e) fun l at' b h1 h2 h3=>?_;refine hid fun G kG=>?_;refine kG ?_;have hne:r≠l:=by
  rintro rfl;rw [h.rd] at h2;nomatch h2
 refine ⟨l,at',b,fun n=>?_,h2,by unfold mv;rw [iz9 hne];exact h2,h3⟩;refine zo0 ?_;refine za0 (zz1 h.rd rfl rfl) ?_;refine za0 (h1 _) (Rn.go 2 ?_);refine za0 (zz6 h.rd rfl rfl rfl) (Rn.go 1 ?_);refine za0 (mv_at (j:=k + 1) h) ?_;exact zc0 ⟨rfl,rfl⟩
end
noncomputable def RnO {α:Type} (r:Out α) (Q:α->zz0->Prop):Prop:=∃ a σ,r=.ok a σ/\Q a σ
theorem zr0 {α β:Type} {r:Out β} {k:β->zz0->Tr α} {Q:α->zz0->Prop} (h:RnO r fun v σ=>Rn (k v σ) Q):Rn (.get r k) Q:=by
 refine hid fun G kG=>?_;refine el21 h fun v σ e hk=>?_;refine kG ?_;exact za0 e hk
theorem RnO.mono {α:Type} {r:Out α} {Q Q':α->zz0->Prop} (h:RnO r Q) (hq:∀ a σ,Q a σ->Q' a σ):RnO r Q':=by
 refine el21 h fun a σ e q=>?_;exact ⟨a,σ,e,hq _ _ q⟩
noncomputable def qq9 (more:Rho->zz0->Prop) (Q:Fl×Rho->zz0->Prop) (y:Fl×Rho) (s:zz0):Prop:=match y.1 with
 | .next=>more y.2 s
 | .cont=>more y.2 s
 | .ret _=>Q y s
 | .retex=>False
theorem yd0 {C:zz5} {k:Nat} {sc:Scope} {x:Str} {px pos:Pos} {it:Expr} {b:List Stmt} {ρ:Rho} {σ:zz0} {Q:Fl×Rho->zz0->Prop} (hl:zj0 sc x=true)
 (hi:Rn (rIt C k sc ρ it σ) fun i s=>RnO (forK (fun v ρ σ=>seqS (fun s ρ σ=>evS C k sc s ρ σ) b (upd ρ x v) σ) i (zq5 i) ρ s) Q):RnO (evS C (k + 1) sc (.For (.Name x px) it b [] pos) ρ σ) Q:=by
 refine hid fun G kG=>?_;obtain ⟨j,s,e,a,σ',e2,q⟩:=hi.evIt;refine kG ?_;refine ⟨a,σ',?_,q⟩;exact (if_pos hl).trans (ob' e e2)
theorem ye0 {C:zz5} {k:Nat} {sc:Scope} {x:Str} {b:List Stmt} {it:It} {m:Nat} {ρ:Rho} {σ:zz0} {v:V} {Q:Fl×Rho->zz0->Prop} (hv:yb9 it (zq5 it - (m + 1)) σ=some v)
 (hB:Rn (updK x v ρ fun ρ=>rSeq C k sc b ρ σ) (qq9 (fun ρ s=>RnO (forK (fun v ρ σ=>seqS (fun s ρ σ=>evS C k sc s ρ σ) b (upd ρ x v) σ) it m ρ s) Q) Q)) :
 RnO (forK (fun v ρ σ=>seqS (fun s ρ σ=>evS C k sc s ρ σ) b (upd ρ x v) σ) it (m + 1) ρ σ) Q:=by
 rw [xj6] at hB;refine hid fun G kG=>?_;refine el21 hB.seqS fun pq1 s e h1=>?_;obtain ⟨y,ρ'⟩:=pq1;refine kG ?_;cases y with
 | next=>obtain ⟨a,σ',e2,q⟩:=h1;exact ⟨a,σ',oel hv (ob' e e2),q⟩
 | cont=>obtain ⟨a,σ',e2,q⟩:=h1;exact ⟨a,σ',oel hv (ob' e e2),q⟩
 | ret u=>exact ⟨_,_,oel hv (ob' e rfl),h1⟩
 | retex=>exact h1.elim
theorem yi0 {B:V->Rho->zz0->Out (Fl×Rho)} {it:It} {ρ:Rho} {σ:zz0} {Q:Fl×Rho->zz0->Prop} (h:uy0 it σ=true) (hq:Q (.next,ρ) σ):RnO (forK B it 0 ρ σ) Q:=⟨_,_,if_pos h,hq⟩
theorem ym0 {C:zz5} {k:Nat} {sc:Scope} {t:Expr} {b:List Stmt} {pos:Pos} {ρ:Rho} {σ:zz0} {Q:Fl×Rho->zz0->Prop}
 (h:RnO (zx2 (fun ρ σ=>evT C k sc ρ t σ) (fun ρ σ=>seqS (fun s ρ σ=>evS C k sc s ρ σ) b ρ σ) LF ρ σ) Q):RnO (evS C (k + 1) sc (.While t b [] pos) ρ σ) Q:=by
 refine hid fun G kG=>?_;refine el21 h fun a σ' e q=>?_;refine kG ?_;exact ⟨a,σ',e,q⟩
theorem RnO.once {C:zz5} {k:Nat} {sc:Scope} {t:Expr} {b:List Stmt} {m:Nat} {ρ:Rho} {σ:zz0} {Q:Fl×Rho->zz0->Prop}
 (h:Rn (rT C k sc ρ t σ) fun c s=>match c with
  | false=>Q (.next,ρ) s
  | true=>Rn (rSeq C k sc b ρ s) (qq9 (fun ρ s=>RnO (zx2 (fun ρ σ=>evT C k sc ρ t σ) (fun ρ σ=>seqS (fun s ρ σ=>evS C k sc s ρ σ) b ρ σ) m ρ s) Q) Q)) :
 RnO (zx2 (fun ρ σ=>evT C k sc ρ t σ) (fun ρ σ=>seqS (fun s ρ σ=>evS C k sc s ρ σ) b ρ σ) (m + 1) ρ σ) Q:=by
 refine hid fun G kG=>?_;refine el21 h.evT fun c s e h1=>?_;refine kG ?_;cases c with
 | false=>exact ⟨_,_,ob e rfl,h1⟩
 | true=>
  refine el21 (Rn.seqS h1) fun pq2 s2 e2 h2=>?_;obtain ⟨y,ρ'⟩:=pq2;cases y with
  | next=>obtain ⟨a,σ',e3,q⟩:=h2;exact ⟨a,σ',ob e (ob e2 e3),q⟩
  | cont=>obtain ⟨a,σ',e3,q⟩:=h2;exact ⟨a,σ',ob e (ob e2 e3),q⟩
  | ret u=>exact ⟨_,_,ob e (ob e2 rfl),h2⟩
  | retex=>exact h2.elim
structure Adv (r:Nat) (σ σ':zz0):Prop where
 len:σ.length<=σ'.length
 same:∀ x,x < σ.length->x≠r->σ'[x]?=σ[x]?
theorem Adv.refl {r:Nat} {σ:zz0}:Adv r σ σ:=⟨iq1 _,fun U U U=>rfl⟩
theorem Adv.trans {r:Nat} {a b c:zz0} (x:Adv r a b) (y:Adv r b c):Adv r a c:=⟨iq2 x.len y.len,fun i hi hr=>(y.same i (iq3 hi x.len) hr).trans (x.same i hi hr)⟩
theorem Adv.grow {r:Nat} {σ ext:zz0}:Adv r σ (σ++ext):=⟨by simp,fun i hi U=>iz8 hi⟩
theorem Adv.mv {r tl j:Nat} {σ:zz0}:Adv r σ (mv σ r tl j):=⟨by unfold Mine.mv;simp,fun i hi hr=>by unfold Mine.mv;rw [iz9 hr.symm]⟩
theorem zq0 {σ:zz0} {i:Nat} {o:O} (h:σ[i]?=some o):i < σ.length:=(iz7.mp h).1
theorem Adv.keep {r:Nat} {σ σ':zz0} (x:Adv r σ σ') {i:Nat} {o:O} (h:σ[i]?=some o) (hr:i≠r):σ'[i]?=some o:=(x.same i (zq0 h) hr).trans h
section
variable {n r tl k a j:Nat} {toks:List Tok} {locs:List Nat} {σ σ':zz0} {kd s w:List Nat}
theorem RdS.adv (h:RdS σ r tl toks locs k) (x:Adv r σ σ') (hr:σ'[r]?=some (.inst "Reader" [("tokens",.loc tl),("at",.int j),("named",.map [] [])])) (hj:j<=toks.length):RdS σ' r tl toks locs j:=by
 refine ⟨hr,x.keep h.ls h.ne.1.symm,fun i kd w e=>?_,h.len,h.sz,h.ne,hj⟩;refine hid fun G kG=>?_;refine el32 (h.tk i kd w e) fun l at' b h1 h2 h3=>?_;refine kG ?_;exact ⟨l,at',b,h1,x.keep h2 (fun q=>h.ne.2 (by rw [<-q];exact iv0 h1)),h3⟩
theorem RdS.grow (h:RdS σ r tl toks locs k) {ext:zz0}:RdS (σ++ext) r tl toks locs k:=h.adv Adv.grow ((iz8 (zq0 h.rd))▸h.rd) h.le
noncomputable def zk6 (toks:List Tok) (k:Nat) (s:List Nat):Bool:=match toks[k]? with
 | some (x,w)=>x == S "word"&&w == s
 | none=>false
theorem wj2 (e:toks[k]?=some (kd,w)):zk6 toks k s=(kd == S "word"&&w == s):=by unfold zk6;rw [e]
theorem word_no (e:toks[k]?=none):zk6 toks k s=false:=by unfold zk6;rw [e]
end
section
variable {n r tl k a j:Nat} {toks:List Tok} {locs:List Nat} {σ σ':zz0} {kd s w:List Nat}
theorem zf3 {i:Nat} {l:List V} (h:σ[i]?=some (.lst l)):itOf (.loc i) σ=.ok (.lst i l.length) σ:=congrArg (fun o=>liftO o σ) (zj7 (F:=fun l=>some (It.lst i l.length)) h)
theorem zq4 {l:List V} {σ:zz0}:(σ++[O.lst l])[σ.length]?=some (.lst l):=by simp
noncomputable abbrev zy4 (w:List Nat) (l:List V):Prop:=∀ σ,zq7 "str.split" (.str w) [.str (S " ")] σ=.ok (.loc σ.length) (σ++[.lst l])
theorem xg6 {w:List Nat} {l:List Str} (h:Txt.split ⟨w.toArray⟩ ⟨(S " ").toArray⟩=l) (hw:w.length<=1000) (hl:l.length<=1000):zy4 w (l.map fun z=>V.str z.cps.toList):=fun σ=>by
 show uk3 w σ [.str (S " ")]=_;show (if 1≠0/\w.length<=SL/\(Txt.split ⟨w.toArray⟩ ⟨(S " ").toArray⟩).length<=SL then Out.ok (V.loc σ.length) (σ++[.lst ((Txt.split ⟨w.toArray⟩ ⟨(S " ").toArray⟩).map fun z=>V.str z.cps.toList)]) else .bad)=_;rw [h,if_pos ⟨by decide,l11 0x00003e8471100000047 hw,l11 0x00003e8471100000047 hl⟩]
theorem vb4:zy4 (S "ALL") [.str (S "ALL")]:=xg6 (l:=[Str.ofString "ALL"]) (by decide +kernel) (by decide +kernel) (by decide)
theorem xj9:zy4 (S "OF") [.str (S "OF")]:=xg6 (l:=[Str.ofString "OF"]) (by decide +kernel) (by decide +kernel) (by decide)
theorem wf8:zy4 (S "IN") [.str (S "IN")]:=xg6 (l:=[Str.ofString "IN"]) (by decide +kernel) (by decide +kernel) (by decide)
theorem xq3:zy4 (S "OF IN") [.str (S "OF"),.str (S "IN")]:=xg6 (l:=[Str.ofString "OF",Str.ofString "IN"]) (by decide +kernel) (by decide +kernel) (by decide)
theorem zf0 {i m j:Nat} {l:List V} {v:V} (h:σ[i]?=some (.lst l)) (hm:l.length=m) (hv:l[j]?=some v):yb9 (.lst i m) j σ=some v:=(zj7 (F:=fun l:List V=>if l.length=m then l[j]? else Option.none) h).trans ((if_pos hm).trans hv)
theorem yh1 {i m:Nat} {l:List V} (h:σ[i]?=some (.lst l)) (hm:l.length=m):uy0 (.lst i m) σ=true:=(zj7 (F:=fun l:List V=>decide (l.length=m)) h).trans (decide_eq_true hm)
theorem xx5 (hsp:zy4 w [.str w]) (h:RdS σ r tl toks locs k):zz4 (n + 4) (.fn "Reader.is_word") [.loc r,.str w] σ=.ok (.bool (zk6 toks k w)) (σ++[.lst [.str w]]):=by
 refine zo0 ?_;have h2:=h.grow (ext:=[.lst [.str w]]);refine zr0 (yd0 rfl ?_);refine Rn.go 1 ?_;refine za0 (hsp σ) ?_;refine za0 (zf3 zq4) ?_;refine zc0 (ye0 (zf0 zq4 rfl rfl) ?_);refine za0 (zz1 h2.rd rfl rfl) ?_;refine za0 (zg4 (a:=0) h2) ?_;cases e:toks[k]? with
 | none=>
  refine zd0 rfl (yq4 e) ?_;exact zc0 (zc0 ⟨by rw [word_no e],rfl⟩)
 | some p=>
  refine hid fun G kG=>?_;obtain ⟨x,u⟩:=p;refine kG ?_;cases q:x == S "word" with
  | false=>
   refine zd0 rfl ((yv1 e).trans q) ?_;exact zc0 (zc0 ⟨by rw [wj2 e,q];rfl,rfl⟩)
  | true=>
   refine ze0 rfl ((yv1 e).trans q) ?_;refine hid fun G kG=>?_;refine el32 (zv0 (a:=0) h2 e) fun l at' b h3 h4 h5=>?_;refine kG ?_;refine za0 (zz1 h2.rd rfl rfl) ?_;refine za0 (h3 _) ?_;refine za0 (zz6 h4 rfl rfl rfl) ?_;refine za0 rfl ?_;cases q2:u == w with
   | true=>
    refine Rn.go 2 (zc0 ?_);refine yi0 (yh1 zq4 rfl) ?_;exact zc0 ⟨by rw [wj2 e,q,q2];rfl,rfl⟩
   | false=>
    refine Rn.go 1 (zc0 ?_);refine zc0 ?_;exact ⟨by rw [wj2 e,q,q2];rfl,rfl⟩
end
set_option genCtorIdx true in
inductive Nm where
 | a|b1|c|g|h|t|b
set_option genCtorIdx true in
inductive Nb where
 | n0|n5|n25|n75
set_option genCtorIdx true in
inductive Sg where
 | plus|minus|star|slash|pow|lp|rp|colon
inductive Tk where
 | nm (x:Nm)|of_|in_|nb (x:Nb)|sg (s:Sg)
noncomputable def Tk.ctorIdx (x:Tk):Nat:=Tk.casesOn (motive:=fun U=>Nat) x (fun U=>0) 1 2 (fun U=>3) (fun U=>4)
noncomputable def Nm.txt:Nm->String
 | .a=> "A" | .b1=> "B-1" | .c=> "C" | .g=> "G" | .h=> "H" | .t=> "T" | .b=> "B"
noncomputable def Nb.txt:Nb->String
 | .n0=> "0" | .n5=> "5" | .n25=> "0.25" | .n75=> "7.5"
noncomputable def Sg.txt:Sg->String
 | .plus=> "+" | .minus=> "-" | .star=> "*" | .slash=> "/" | .pow=> "**" | .lp=> "(" | .rp=> ")" | .colon=> ":"
noncomputable def Tk.tok:Tk->Tok
 | .nm x=>(S "word",S x.txt)|.of_=>(S "word",S "OF")|.in_=>(S "word",S "IN")|.nb x=>(S "number",S x.txt)|.sg s=>(S "sign",S s.txt)
inductive Rd (α:Type) where
 | ok (a:α) (ts:List Tk)
 | no
 | out
noncomputable def Rd.ctorIdx {α:Type} (x:Rd α):Nat:=Rd.casesOn (motive:=fun U=>Nat) x (fun U U=>0) 1 2
noncomputable def Rd.bind {α β:Type} (p:Rd α) (f:α->List Tk->Rd β):Rd β:=match p with
 | .ok a ts=>f a ts
 | .no=>.no
 | .out=>.out
noncomputable def Sx {α β:Type} (p:Rd α) (o:Out β) (J:α->List Tk->β->zz0->Prop):Prop:=match p with
 | .ok a ts=>∃ b σ',o=.ok b σ'/\J a ts b σ'
 | .no=>∃ σ',o=.exc σ'
 | .out=>True
section
variable {α β γ δ:Type}
theorem Sx.le {p:Rd α} {o o':Out β} {J:α->List Tk->β->zz0->Prop} (h:Sx p o J) (l:o.le o'):Sx p o' J:=by
 rcases l with rfl|rfl
 ·cases p with
  | ok a ts=>obtain ⟨b,σ',e,_⟩:=h;cases e
  | no=>obtain ⟨σ',e⟩:=h;cases e
  | out=>trivial
 ·exact h
theorem Sx.mono {p:Rd α} {o:Out β} {J J':α->List Tk->β->zz0->Prop} (h:Sx p o J) (hj:∀ a ts b σ,J a ts b σ->J' a ts b σ):Sx p o J':=by
 cases p with
 | ok a ts=>obtain ⟨b,σ',e,j⟩:=h;exact ⟨b,σ',e,hj _ _ _ _ j⟩
 | no=>exact h
 | out=>trivial
theorem Sx.bnd {p:Rd α} {o:Out β} {f:α->List Tk->Rd γ} {k:β->zz0->Out δ} {J:α->List Tk->β->zz0->Prop} {J':γ->List Tk->δ->zz0->Prop} (h:Sx p o J) (hk:∀ a ts b σ,J a ts b σ->Sx (f a ts) (k b σ) J'):Sx (p.bind f) (o.bnd k) J':=by
 cases p with
 | ok a ts=>obtain ⟨b,σ',e,j⟩:=h;rw [e];exact hk _ _ _ _ j
 | no=>obtain ⟨σ',e⟩:=h;rw [e];exact ⟨σ',rfl⟩
 | out=>trivial
noncomputable abbrev Stp (p:Rd α) (t:Tr β) (J:α->List Tk->β->zz0->Prop):Prop:=Sx p t.run J
theorem zl0 {a:α} {ts:List Tk} {b:β} {σ:zz0} {J:α->List Tk->β->zz0->Prop} (h:J a ts b σ):Stp (.ok a ts) (.ret b σ) J:=⟨b,σ,rfl,h⟩
theorem zi0 {p:Rd α} {r:Out γ} {k:γ->zz0->Tr β} {v:γ} {σ:zz0} {J:α->List Tk->β->zz0->Prop} (h:r=.ok v σ) (hk:Stp p (k v σ) J):Stp p (.get r k) J:=by
 rw [h];exact hk
theorem go_exc {α:Type} {σ:zz0} (n:Nat):∀ {t:Tr α},(t.go n).run=.exc σ->t.run=.exc σ:=by
 induction n with
 | zero=>exact fun h=>h
 | succ n ih=>
  intro t h;cases t with
  | get r k=>cases r with
   | ok v σ=>exact ih (t:=k v σ) h
   | _=>cases h
  | _=>cases h
theorem Stp.go (n:Nat) {p:Rd α} {t:Tr β} {J:α->List Tk->β->zz0->Prop} (h:Stp p (t.go n) J):Stp p t J:=by
 cases p with
 | ok a ts=>exact el21 h fun b σ e j=>⟨b,σ,go_ok n e,j⟩
 | no=>exact el10 h fun σ e=>⟨σ,go_exc n e⟩
 | out=>trivial
theorem zn0 {p:Rd α} {r:Out Bool} {k:Bool->zz0->Tr β} {b:Bool} {σ:zz0} {J:α->List Tk->β->zz0->Prop} (h:r=.ok b σ) (hb:b=true) (hk:Stp p (k true σ) J):Stp p (.get r k) J:=by subst hb;exact zi0 h hk
theorem zm0 {p:Rd α} {r:Out Bool} {k:Bool->zz0->Tr β} {b:Bool} {σ:zz0} {J:α->List Tk->β->zz0->Prop} (h:r=.ok b σ) (hb:b=false) (hk:Stp p (k false σ) J):Stp p (.get r k) J:=by subst hb;exact zi0 h hk
theorem ya0 {p:Rd α} {r:Out γ} {f:α->List Tk->Rd δ} {k:γ->zz0->Tr β} {J':α->List Tk->γ->zz0->Prop} {J:δ->List Tk->β->zz0->Prop} (h:Sx p r J') (hk:∀ a ts b σ,J' a ts b σ->Stp (f a ts) (k b σ) J):Stp (p.bind f) (.get r k) J:=Sx.bnd h hk
theorem zu0 {p:Rd α} {r:Out γ} {k:γ->zz0->Tr β} {J':α->List Tk->γ->zz0->Prop} {J:α->List Tk->β->zz0->Prop} (h:Sx p r J') (hk:∀ a ts b σ,J' a ts b σ->Stp (.ok a ts) (k b σ) J):Stp p (.get r k) J:=by
 have z:=Sx.bnd (f:=fun a ts=>Rd.ok a ts) (k:=fun b σ=>(k b σ).run) h hk;cases p <;> exact z
theorem yc0 {r:Out γ} {k:γ->zz0->Tr β} {σ:zz0} {J:α->List Tk->β->zz0->Prop} (h:r=.exc σ):Stp (Rd.no:Rd α) (.get r k) J:=⟨σ,congrArg (fun r:Out γ=>r.bnd fun v σ=>(k v σ).run) h⟩
theorem Stp.evE {C:zz5} {k:Nat} {sc:Scope} {ρ:Rho} {e:Expr} {σ:zz0} {p:Rd α} {J:α->List Tk->V->zz0->Prop} (h:Stp p (rE C k sc ρ e σ) J):Sx p (Mine.evE C k sc ρ e σ) J:=by
 exact h.le rE_le
theorem Stp.fn {n:Nat} {q:Str} {args:List V} {σ:zz0} {p:Rd α} {J:α->List Tk->V->zz0->Prop} (h:Stp p (cFn (zz4 n) q args σ) J):Sx p (zz4 (n + 1) (.fn q) args σ) J:=by
 exact h.le ub8
theorem Sx.turn {C:zz5} {k:Nat} {sc:Scope} {t:Expr} {b:List Stmt} {m:Nat} {ρ:Rho} {σ:zz0} {p:Rd α} {f:α->List Tk->Rd γ} {J:γ->List Tk->Fl×Rho->zz0->Prop}
 (h:Rn (rT C k sc ρ t σ) fun c s=>c=true/\Stp p (rSeq C k sc b ρ s) fun a ts y s=>y.1=.next/\Sx (f a ts) (zx2 (fun ρ σ=>evT C k sc ρ t σ) (fun ρ σ=>seqS (fun s ρ σ=>evS C k sc s ρ σ) b ρ σ) m y.2 s) J) :
 Sx (p.bind f) (zx2 (fun ρ σ=>evT C k sc ρ t σ) (fun ρ σ=>seqS (fun s ρ σ=>evS C k sc s ρ σ) b ρ σ) (m + 1) ρ σ) J:=by
 refine el22 h.evT fun c s e eq1 h1=>?_;refine hid fun G kG=>?_;subst eq1;have h2:=Sx.le h1 uq2;refine kG ?_;simp only [zx2,e,Out.bnd];refine Sx.bnd h2 fun a ts y s hy=>?_;obtain ⟨y1,y2⟩:=y;obtain ⟨rfl,hz⟩:=hy;exact hz
theorem Sx.stop {C:zz5} {k:Nat} {sc:Scope} {t:Expr} {b:List Stmt} {m:Nat} {ρ:Rho} {σ:zz0} {a:α} {ts:List Tk} {J:α->List Tk->Fl×Rho->zz0->Prop}
 (h:Rn (rT C k sc ρ t σ) fun c s=>c=false/\J a ts (.next,ρ) s) :
 Sx (.ok a ts) (zx2 (fun ρ σ=>evT C k sc ρ t σ) (fun ρ σ=>seqS (fun s ρ σ=>evS C k sc s ρ σ) b ρ σ) (m + 1) ρ σ) J:=by
 refine hid fun G kG=>?_;refine el22 h.evT fun c s e eq4 h1=>?_;subst eq4;refine kG ?_;exact ⟨_,_,ob e rfl,h1⟩
theorem Sx.while_ {C:zz5} {k:Nat} {sc:Scope} {t:Expr} {b:List Stmt} {pos:Pos} {ρ:Rho} {σ:zz0} {p:Rd α} {J:α->List Tk->Fl×Rho->zz0->Prop}
 (h:Sx p (zx2 (fun ρ σ=>evT C k sc ρ t σ) (fun ρ σ=>seqS (fun s ρ σ=>evS C k sc s ρ σ) b ρ σ) LF ρ σ) J):Sx p (evS C (k + 1) sc (.While t b [] pos) ρ σ) J:=by
 exact h
end
theorem ug5 {C:zz5} {k:Nat} {sc:Scope} {ρ:Rho} {f g:Expr} {args:List Expr} {kws:List Keyword} {pos:Pos} {σ σ':zz0} (hf:zw3 f args kws pos=.call g)
 (h:Rn (rE C k sc ρ g σ) fun v s=>Rn (rMap C k sc ρ args s) fun vs s2=>C v vs s2=.ex σ'):evE C (k + 1) sc ρ (.Call f args kws pos) σ=.ex σ':=by
 refine hid fun G kG=>?_;obtain ⟨v,s,e,a,s2,e2,h3⟩:=h.evE;have z:=ww5 uq3 e2;refine kG ?_;exact (congrArg (fun cf=>wq5 _ C sc args cf σ) hf).trans (ob e (ob z h3))
theorem xw9 {C:zz5} {k:Nat} {sc:Scope} {ρ:Rho} {f o:Expr} {nm:Str} {args:List Expr} {kws:List Keyword} {pos:Pos} {σ σ':zz0} (hf:zw3 f args kws pos=.meth o nm)
 (h:Rn (rE C k sc ρ o σ) fun v s=>∃ m s1,liftO (zk3 v nm s) s=.ok m s1/\Rn (rMap C k sc ρ args s1) fun vs s2=>yh0 C m v vs s2=.ex σ'):evE C (k + 1) sc ρ (.Call f args kws pos) σ=.ex σ':=by
 refine hid fun G kG=>?_;obtain ⟨v,s,e,m,s1,e1,a,s2,e2,h3⟩:=h.evE;have z:=ww5 uq3 e2;refine kG ?_;exact (congrArg (fun cf=>wq5 _ C sc args cf σ) hf).trans (ob e (ob e1 (ob z h3)))
theorem yy6 {C:zz5} {k:Nat} {sc:Scope} {ρ:Rho} {e:Expr} {pos:Pos} {σ σ':zz0} (h:evE C k sc ρ e σ=.ex σ'):evS C (k + 1) sc (.Raise (some e) Option.none pos) ρ σ=.exc σ':=congrArg uq1 h
theorem ret_ex {C:zz5} {k:Nat} {sc:Scope} {ρ:Rho} {e:Expr} {pos:Pos} {r:List Stmt} {σ σ':zz0} (h:evE C k sc ρ e σ=.ex σ'):seqS (fun s ρ σ=>evS C (k + 1) sc s ρ σ) (.Return (some e) pos::r) ρ σ=.ok (.retex,ρ) σ':=ob (congrArg (retO ρ) h) rfl
theorem if_ff {C:zz5} {k:Nat} {sc:Scope} {ρ:Rho} {t:Expr} {b r:List Stmt} {pos:Pos} {σ:zz0} (h:Rn (rT C k sc ρ t σ) fun c s=>c=false/\s=σ):seqS (fun s ρ σ=>evS C (k + 1) sc s ρ σ) (.If t b [] pos::r) ρ σ=seqS (fun s ρ σ=>evS C (k + 1) sc s ρ σ) r ρ σ:=by
 refine hid fun G kG=>?_;refine el22 h.evT fun c s e eq5 eq6=>?_;subst eq5;cases eq6;refine kG ?_;exact ob (ob e rfl) rfl
theorem if_tt {C:zz5} {k:Nat} {sc:Scope} {ρ:Rho} {t:Expr} {b r:List Stmt} {pos:Pos} {σ σ':zz0} {y:Fl×Rho} (h:Rn (rT C k sc ρ t σ) fun c s=>c=true/\s=σ) (hb:seqS (fun s ρ σ=>evS C k sc s ρ σ) b ρ σ=.ok y σ') (hy:y.1=.retex):seqS (fun s ρ σ=>evS C (k + 1) sc s ρ σ) (.If t b [] pos::r) ρ σ=.ok y σ':=by
 refine el22 h.evT fun c s e eq7 eq8=>?_;subst eq7;subst eq8;obtain ⟨y1,y2⟩:=y;subst hy;exact ob (ob e hb) rfl
section
variable {n r tl k a j:Nat} {toks:List Tok} {locs:List Nat} {σ σ':zz0} {kd s w:List Nat}
theorem mnn_ok {n:Nat} {a b:Int} {σ:zz0}:zz4 (n + 1) (.blt "min") [.int a,.int b] σ=.ok (.int (if b < a then b else a)) σ:=rfl
theorem yh7 (h:RdS σ r tl toks locs k):zz4 (n + 2) (.fn "Reader.fault") [.loc r,.str w] σ=.ex σ:=by
 cases e:locs with
 | nil=>
  refine (congrArg xg1 (if_tt (σ':=σ) (y:=(.retex,_)) ?_ (ret_ex ?_) rfl)).trans ?_
  ·refine za0 (zz6 h.rd rfl rfl rfl) ?_
   refine za0 (v:=false) (by show liftO (zv5 (.loc tl) σ) σ=_;rw [show zv5 (.loc tl) σ=_ from zj7 (F:=fun l=>if (l.length:Int) < big then some (!l.isEmpty) else Option.none) h.ls,e];rfl) ?_;exact zc0 ⟨rfl,rfl⟩
  ·refine ug5 rfl ?_
   refine zc0 ?_;exact zc0 rfl
  ·rfl
 | cons l0 lr=>
  have hl:0 < locs.length:=by rw [e];simp
  refine (congrArg xg1 (if_ff ?_)).trans ?_
  ·refine za0 (zz6 h.rd rfl rfl rfl) ?_
   refine za0 (v:=true) (by
    show liftO (zv5 (.loc tl) σ) σ=_;rw [show zv5 (.loc tl) σ=_ from zj7 (F:=fun l=>if (l.length:Int) < big then some (!l.isEmpty) else Option.none) h.ls];have hs:=h.szl;rw [if_pos (iv9 (ix6.mpr hs) (by decide))];rw [e];rfl) ?_
   exact zc0 ⟨rfl,rfl⟩
  ·refine (congrArg xg1 (ret_ex (σ':=σ) ?_)).trans rfl
   refine ug5 rfl ?_;refine zc0 ?_;refine za0 (zz6 h.rd rfl rfl rfl) ?_;refine za0 (zz6 h.rd rfl rfl rfl) ?_;refine za0 (zz6 h.rd rfl rfl rfl) ?_;refine za0 (zb8 (n:=n) h.ls h.szl) (Rn.go 2 ?_);obtain ⟨m,hm,hq⟩:∃ m:Nat,(if ((locs.map V.loc).length:Int) - 1 < (k:Int) then ((locs.map V.loc).length:Int) - 1 else (k:Int))=m/\m < toks.length:=by
    refine (iq9 _).symm▸?_;have:=h.len;by_cases z:(locs.length:Int) - 1 < (k:Int)
    ·exact ⟨locs.length - 1,(if_pos z).trans (Int.ofNat_sub hl).symm,oz4 (Nat.sub_lt hl Nat.zero_lt_one) this⟩
    ·exact ⟨k,if_neg z,oz4 (ik6.mp (Int.lt_of_le_sub_one (iv2.mp z))) this⟩
   refine hid fun G kG=>?_;obtain ⟨p,hp⟩:∃ p,toks[m]?=some p:=⟨_,ij6 hq⟩;obtain ⟨kd,u⟩:=p;refine el32 (h.tk m kd u hp) fun l at' b h1 h2 h3=>?_;obtain ⟨z,rfl⟩:=h3;refine kG ?_;refine za0 (v:=.loc l) (σ:=σ) (by
    show zv7 (.loc tl) (.int (if ((locs.map V.loc).length:Int) - 1 < (k:Int) then ((locs.map V.loc).length:Int) - 1 else (k:Int))) σ=_;refine (hm).symm▸?_;exact zw2 h.ls (by simp [h1]) h.szl) ?_
   refine za0 (zz6 h2 rfl rfl rfl) ?_;exact zc0 rfl
end
noncomputable def Nb.ix:Nb->Nat
 | .n0=>0|.n5=>1|.n25=>2|.n75=>3
noncomputable def Sg.ix:Sg->Nat
 | .plus=>0|.minus=>1|.star=>2|.slash=>3|.pow=>4|.lp=>5|.rp=>6|.colon=>7
noncomputable def sgs:List Sg:=[.plus,.minus,.star,.slash,.pow,.lp,.rp,.colon]
theorem Sg.of_ix (s:Sg):sgs[s.ix]?=some s:=by cases s <;> rfl
theorem Sg.eq {s u:Sg} (h:(u.ix == s.ix)=true):u=s:=Option.some.inj ((Sg.of_ix u).symm.trans ((congrArg (fun U=>sgs[U]?) (eq_of_beq h)).trans (Sg.of_ix s)))
theorem wb0 {f:Sg->Bool} (h:sgs.all f=true) (s:Sg):f s=true:=iz0.mp h s (iv0 (Sg.of_ix s))
noncomputable def tkE {α:Type} (t:Tk) (a:Nm->α) (b c:α) (d:Nb->α) (e:Sg->α):α:=Tk.rec a b c d e t
noncomputable def hdE {α β:Type} (l:List β) (z:α) (f:β->List β->α):α:=List.rec z (fun t r _=>f t r) l
noncomputable def sgF (f:Sg->Bool) (t:Tk):Bool:=tkE t (fun U=>false) false false (fun U=>false) f
theorem vp6 {f:Sg->Bool} {t:Tk} (h:sgF f t=true):∃ s,t=.sg s/\f s=true:=by
 cases t with
 | sg s=>exact ⟨s,rfl,h⟩
 | _=>exact absurd h ix8
noncomputable def yq9 (s:Sg):Tk->Bool:=sgF fun u=>u.ix == s.ix
noncomputable def hd (s:Sg) (l:List Tk):Bool:=hdE l false fun t U=>yq9 s t
noncomputable def hop (ops:List Sg) (l:List Tk):Option Sg:=hdE l none fun t U=>tkE t (fun U=>none) none none (fun U=>none) fun s=>if ops.any (fun u=>u.ix == s.ix) then some s else none
noncomputable def pm:List Sg:=[.plus,.minus]
noncomputable def ts2:List Sg:=[.star,.slash]
noncomputable def pw:List Sg:=[.pow]
noncomputable def sgV (l:List Sg):V:=.tup (l.map fun s=>.str (S s.txt))
noncomputable def nbV:Nb->Int×Int
 | .n0=>(0,0)|.n5=>(5,0)|.n25=>(25,2)|.n75=>(75,1)
noncomputable def uj0 (p:Int×Int):V:=.tup [.str (S "number"),.tup [.int p.1,.int p.2]]
noncomputable def neg2 (p:Int×Int):Int×Int:=(-p.1,p.2)
noncomputable def wf0 (s:Sg) (a b:V):V:=.tup [.str (S s.txt),a,b]
noncomputable def negV (a:V):V:=.tup [.str (S "neg"),a]
structure Cx where
 r:Nat
 tl:Nat
 tk:List Tk
 locs:List Nat
noncomputable abbrev Cx.toks (c:Cx):List Tok:=c.tk.map Tk.tok
noncomputable abbrev Cx.R (c:Cx) (σ:zz0) (k:Nat):Prop:=RdS σ c.r c.tl c.toks c.locs k
noncomputable def At (c:Cx) (σ:zz0) (ts:List Tk):Prop:=∃ k,c.R σ k/\c.tk.drop k=ts
noncomputable def Jv (c:Cx) (σ0:zz0) (a:V) (ts:List Tk) (b:V) (σ':zz0):Prop:=b=a/\Adv c.r σ0 σ'/\At c σ' ts
theorem txt_sg (s u:Sg):(S u.txt == S s.txt)=(u.ix == s.ix):=eq_of_beq (wb0 (f:=fun u=>(S u.txt == S s.txt) == (u.ix == s.ix)) (wb0 (f:=fun s=>sgs.all fun u=>(S u.txt == S s.txt) == (u.ix == s.ix)) rfl s) u)
theorem yg7:∀ s:Sg,(S s.txt == S "")=false:=by intro s;cases s <;> rfl
section
variable {c:Cx} {σ σ':zz0} {ts:List Tk} {k m n:Nat}
theorem At.hd (e:c.tk.drop k=ts):c.tk[k]?=ts.head?:=by rw [<-e,List.head?_drop]
theorem yz3 (e:c.tk.drop k=ts) (a:Nat):c.toks[k + a]?=(ts[a]?).map Tk.tok:=by rw [<-e,List.getElem?_drop,iw2]
theorem sign_tok (s:Sg):∀ t:Tk,(t.tok.1 == S "sign"&&t.tok.2 == S s.txt)=yq9 s t:=by
 intro t;cases t with
 | nm x=>rfl
 | of_=>rfl
 | in_=>rfl
 | nb x=>rfl
 | sg u=>exact txt_sg s u
theorem vp2 (e:c.tk.drop k=ts) (a:Nat) (s:Sg):zk7 c.toks (k + a) (S s.txt)=(match ts[a]? with|some t=>yq9 s t|none=>false):=by
 unfold zk7;refine (yz3 e _).symm▸?_;cases ts[a]? with
 | none=>rfl
 | some t=>exact sign_tok s t
theorem zx1 (e:c.tk.drop k=ts) (s:Sg):zk7 c.toks k (S s.txt)=Mine.hd s ts:=by
 refine (vp2 e 0 s).trans ?_;cases ts <;> rfl
theorem wq6 {t:Tk} {l:List Tk} (e:c.tk.drop k=t::l):c.tk.drop (k + 1)=l:=by
 rw [<-oq5,e];rfl
theorem zh3 {t:Tk} {l:List Tk} (e:c.tk.drop k=t::l):c.toks[k]?=some t.tok:=yz3 e 0
theorem vf0 (e:c.tk.drop k=[]):c.toks[k]?=none:=yz3 e 0
theorem At.next {t:Tk} {l:List Tk} (h:c.R σ k) (e:c.tk.drop k=t::l):At c (mv σ c.r c.tl (k + 1)) l:=⟨k + 1,h.mv (iz7.mp (zh3 e)).1,wq6 e⟩
theorem At.adv (h:At c σ ts) (x:Adv c.r σ σ') (hr:σ'[c.r]?=σ[c.r]?):At c σ' ts:=by
 refine el11 h fun k h e=>?_;exact ⟨k,h.adv x (hr.trans h.rd) h.le,e⟩
theorem At.grow {ext:zz0} (h:At c σ ts):At c (σ++ext) ts:=by
 refine el11 h fun k h e=>?_;exact ⟨k,h.grow,e⟩
theorem in_signs (ops:List Sg) (ho:ops=pm\/ops=ts2\/ops=pw) (s:Sg) {σ:zz0}:zy8 .NotIn (.str (S s.txt)) (sgV ops) σ=.ok (.bool !(ops.any fun u=>u.ix == s.ix)) σ:=by
 rcases ho with rfl|rfl|rfl <;> cases s <;> rfl
theorem hop_sg {ops:List Sg} {s:Sg} {l:List Tk}:hop ops (.sg s::l)=if ops.any (fun u=>u.ix == s.ix) then some s else none:=rfl
noncomputable def hopV:Option Sg->V
 | some s=>.str (S s.txt)
 | none=>.str (S "")
theorem zk4 {ops:List Sg} (ho:ops=pm\/ops=ts2\/ops=pw) (h:c.R σ k) (e:c.tk.drop k=ts):zz4 (n + 3) (.fn "sign_among") [.loc c.r,sgV ops] σ=.ok (hopV (hop ops ts)) σ:=by
 refine zo0 ?_;refine za0 (zz1 h.rd rfl rfl) ?_;cases ts with
 | nil=>
  refine za0 (xb9 h (vf0 e)) (Rn.go 2 ?_);refine zc0 ?_;exact ⟨rfl,rfl⟩
 | cons t l=>
  refine el32 (yx3 h (zh3 e)) fun l' at' b h1 h2 h3=>?_;refine za0 (h1 _) (Rn.go 2 ?_);refine za0 (zz6 h2 rfl rfl rfl) ?_;cases t with
  | nm x=>refine za0 rfl ?_;refine za0 rfl ?_;exact zc0 ⟨rfl,rfl⟩
  | of_=>refine za0 rfl ?_;refine za0 rfl ?_;exact zc0 ⟨rfl,rfl⟩
  | in_=>refine za0 rfl ?_;refine za0 rfl ?_;exact zc0 ⟨rfl,rfl⟩
  | nb x=>refine za0 rfl ?_;refine za0 rfl ?_;exact zc0 ⟨rfl,rfl⟩
  | sg s=>
   refine Rn.go 2 ?_;refine za0 (zz6 h2 rfl rfl rfl) ?_;refine za0 (in_signs ops ho s) ?_;refine (hop_sg).symm▸?_;cases q:ops.any (fun u=>u.ix == s.ix) with
   | true=>
    refine Rn.go 1 ?_;refine za0 (zz6 h2 rfl rfl rfl) ?_;exact zc0 ⟨rfl,rfl⟩
   | false=>
    refine Rn.go 1 (zc0 ?_);exact ⟨rfl,rfl⟩
theorem xw7 {s:Sg} (h:hd s ts=true):∃ r,ts=.sg s::r:=by
 cases ts with
 | nil=>nomatch h
 | cons t r=>exact el11 (vp6 h) fun u e q=>⟨r,congrArg (fun U=>U::r) (Sg.eq q▸e)⟩
theorem yh5 {ops:List Sg} {s:Sg} (h:hop ops ts=some s):∃ l,ts=.sg s::l:=by
 cases ts with
 | nil=>nomatch h
 | cons t l=>cases t with
  | sg u=>exact zz9 (ifs h) fun U e=>⟨l,e▸rfl⟩
  | _=>nomatch h
theorem wv6 {s w:List Nat} {toks:List Tok} {r tl:Nat} {locs:List Nat} (h:RdS σ r tl toks locs k) (q:zk7 toks k s=false) (hw:s.length<=100):zz4 (n + 6) (.fn "Reader.need_sign") [.loc r,.str s] σ=.exc σ:=by
 obtain ⟨σ',e,rfl⟩:=RnX.fn (n:=n + 5) (q:= "Reader.need_sign") (args:=[.loc r,.str s]) (σ:=σ) (Q:=fun s=>s=σ) (by
  refine yr0 (zz1 h.rd rfl rfl) ?_;refine yr0 (yk2 h q) ?_;refine yr0 rfl ?_;refine RnX.now (yy6 (xw9 rfl ?_)) rfl;refine zc0 ⟨_,_,zz1 h.rd rfl rfl,?_⟩;refine za0 (v:=.str (s++S " is asked here")) (σ:=σ) (by
   have h0:(S " is asked here").length=14:=rfl;have h1:SL=16777216:=rfl;have h2:s.length + (S " is asked here").length<=SL:=by rw [h0,h1];exact l11 0x000006447110000004e371 hw
   exact if_pos h2) ?_
  exact zc0 (yh7 (n:=n + 3) h))
 exact e
end
section
variable {n r tl k a j:Nat} {toks:List Tok} {locs:List Nat} {σ σ':zz0} {kd s w:List Nat}
theorem ww2 {i:Nat} {l:List V} (h:σ[i]?=some (.lst l)) (hm:l.length<=1000):zz4 (n + 1) (.blt "len") [.loc i] σ=.ok (.int l.length) σ:=zb8 h (by have h1:SL=16777216:=rfl;exact l11 0x00003e8471100000047 hm)
set_option tactic.hygienic true in
theorem vh9 (q:zk6 toks k w=true):k < toks.length:=by
 unfold zk6 at q;split at q
 ·rename_i h;exact (iz7.mp h).1
 ·cases q
theorem zh4 (hsp:zy4 w [.str w]) (h:RdS σ r tl toks locs k) (q:zk6 toks k w=false):zz4 (n + 5) (.fn "Reader.skip") [.loc r,.str w] σ=.ok (.bool false) (σ++[.lst [.str w]]):=by
 refine zo0 ?_;refine za0 (zz1 h.rd rfl rfl) ?_;refine za0 (xx5 hsp h) ?_;refine zd0 rfl q ?_;exact zc0 ⟨rfl,rfl⟩
theorem yx2 (hsp:zy4 w [.str w]) (h:RdS σ r tl toks locs k) (q:zk6 toks k w=true):zz4 (n + 5) (.fn "Reader.skip") [.loc r,.str w] σ=.ok (.bool true) (mv (σ++[.lst [.str w]]++[.lst [.str w]]) r tl (k + 1)):=by
 refine zo0 ?_;have h2:=h.grow (ext:=[.lst [.str w]]);have h3:=h2.grow (ext:=[.lst [.str w]]);refine za0 (zz1 h.rd rfl rfl) ?_;refine za0 (xx5 hsp h) ?_;refine ze0 rfl q ?_;refine za0 (zz6 h2.rd rfl rfl rfl) (Rn.go 1 ?_);refine za0 (hsp _) ?_;refine za0 (ww2 zq4 (by simp)) (Rn.go 1 ?_);refine za0 (mv_at (j:=k + 1) h3) ?_;exact zc0 ⟨rfl,rfl⟩
theorem ux8 (h:RdS σ r tl toks locs k) (q1:zk6 toks k (S "OF")=false) (q2:zk6 toks k (S "IN")=false):∃ σ',zz4 (n + 6) (.fn "Reader.one_of") [.loc r,.str (S "OF IN")] σ=.ok (.str (S "")) σ'/\Adv r σ σ'/\RdS σ' r tl toks locs k:=by
 have h2:=h.grow (ext:=[.lst [.str (S "OF"),.str (S "IN")]]);have h3:=h2.grow (ext:=[.lst [.str (S "OF")]]);have h4:=h3.grow (ext:=[.lst [.str (S "IN")]]);have hz:Rn (cFn (zz4 (n + 5)) "Reader.one_of" [.loc r,.str (S "OF IN")] σ) fun a s=>a=.str (S "")/\Adv r σ s/\RdS s r tl toks locs k:=by
  refine zr0 (yd0 rfl ?_);refine Rn.go 1 ?_;refine za0 (xq3 σ) ?_;refine za0 (zf3 zq4) ?_;refine zc0 (ye0 (zf0 zq4 rfl rfl) ?_);refine za0 (zz1 h2.rd rfl rfl) ?_;refine za0 (zh4 xj9 h2 q1) (Rn.go 1 ?_);refine zc0 ?_;refine ye0 (zf0 (Adv.keep Adv.grow zq4 (r:=r) (ix0 (zq0 h.rd))) rfl rfl) ?_;refine za0 (zz1 h3.rd rfl rfl) ?_;refine za0 (zh4 wf8 h3 q2) (Rn.go 1 ?_);refine zc0 ?_;refine yi0 (yh1 (Adv.keep (Adv.grow.trans Adv.grow) zq4 (r:=r) (ix0 (zq0 h.rd))) rfl) ?_;exact zc0 ⟨rfl,(Adv.grow.trans Adv.grow).trans Adv.grow,h4⟩
 refine hid fun G kG=>?_;refine Classical.byContradiction fun ng=>?_;refine el23 hz.fn fun v s e eq1 h5 h6=>?_;subst eq1;refine ng (kG ?_);exact ⟨s,e,h5,h6⟩
theorem vk8 (h:RdS σ r tl toks locs k) (q:zk6 toks k (S "OF")=true\/zk6 toks k (S "OF")=false/\zk6 toks k (S "IN")=true):∃ σ',zz4 (n + 6) (.fn "Reader.one_of") [.loc r,.str (S "OF IN")] σ=.ok (.str (S "OF")) σ'/\Adv r σ σ'/\RdS σ' r tl toks locs (k + 1)\/zz4 (n + 6) (.fn "Reader.one_of") [.loc r,.str (S "OF IN")] σ=.ok (.str (S "IN")) σ'/\Adv r σ σ'/\RdS σ' r tl toks locs (k + 1):=by
 have h2:=h.grow (ext:=[.lst [.str (S "OF"),.str (S "IN")]]);have h3:=h2.grow (ext:=[.lst [.str (S "OF")]]);have hz:Rn (cFn (zz4 (n + 5)) "Reader.one_of" [.loc r,.str (S "OF IN")] σ) fun a s=>(a=.str (S "OF")\/a=.str (S "IN"))/\Adv r σ s/\RdS s r tl toks locs (k + 1):=by
  refine zr0 (yd0 rfl ?_);refine Rn.go 1 ?_;refine za0 (xq3 σ) ?_;refine za0 (zf3 zq4) ?_;refine zc0 (ye0 (zf0 zq4 rfl rfl) ?_);refine za0 (zz1 h2.rd rfl rfl) ?_;rcases q with q|⟨q1,q⟩
  ·refine za0 (yx2 xj9 h2 q) ?_
   refine Rn.go 1 (zc0 ?_);refine zc0 ?_;exact ⟨.inl rfl,((Adv.grow.trans Adv.grow).trans Adv.grow).trans Adv.mv,((h2.grow (ext:=[.lst [.str (S "OF")]])).grow (ext:=[.lst [.str (S "OF")]])).mv (vh9 q)⟩
  ·refine za0 (zh4 xj9 h2 q1) ?_
   refine Rn.go 1 (zc0 ?_);refine ye0 (zf0 (Adv.keep Adv.grow zq4 (r:=r) (ix0 (zq0 h.rd))) rfl rfl) ?_;refine za0 (zz1 h3.rd rfl rfl) ?_;refine za0 (yx2 wf8 h3 q) (Rn.go 1 ?_);refine zc0 ?_;refine zc0 ?_;exact ⟨.inr rfl,(((Adv.grow.trans Adv.grow).trans Adv.grow).trans Adv.grow).trans Adv.mv,((h3.grow (ext:=[.lst [.str (S "IN")]])).grow (ext:=[.lst [.str (S "IN")]])).mv (vh9 q)⟩
 refine hid fun G kG=>?_;refine el23 hz.fn fun v s e h7 h5 h6=>?_;refine kG ?_;rcases h7 with rfl|rfl
 ·exact ⟨s,.inl ⟨e,h5,h6⟩⟩
 ·exact ⟨s,.inr ⟨e,h5,h6⟩⟩
theorem xf7:∃ l:List Char,RES=(⟨(l.map Char.toNat).toArray⟩:Str)/\((["A","B-1","C","G","H","T","B"].all fun w=>!subIn (l.map Char.toNat) (32::S w++[32]))&&(["OF","IN"].all fun w=>subIn (l.map Char.toNat) (32::S w++[32])))=true:=
 ⟨_,PySem.W.Fast.ofString_ofList _,by decide +kernel⟩
theorem zw7 {x y:List Nat} {b:Bool} (h:subIn x y=b):zy8 .In (.str y) (.str x) σ=.ok (.bool b) σ:=congrArg (fun b=>Out.ok (V.bool b) σ) h
theorem res_sub:∀ x:Nm,subIn RES.cps.toList (32::S x.txt++[32])=false:=by
 refine el11 xf7 fun l e hl=>?_;refine (e).symm▸?_;simp only [ij1,iw0,iw6,iq5,ij9] at hl;refine hid fun G kG=>?_;refine zg6 hl fun pq2 h6 h7=>?_;refine el06 pq2 fun h1 h2 h3 h4 h5 h8 h9=>?_;refine kG ?_;intro x;cases x
 ·exact h1
 ·exact h2
 ·exact h3
 ·exact h4
 ·exact h5
 ·exact h8
 ·exact h9
theorem wb3:subIn RES.cps.toList (32::S "OF"++[32])=true/\subIn RES.cps.toList (32::S "IN"++[32])=true:=by
 refine el11 xf7 fun l e hl=>?_;refine (e).symm▸?_;simp only [ij1,iw0,iw6,iq5] at hl;refine hid fun G kG=>?_;refine zg6 hl fun pq3 h6 h7=>?_;refine el06 pq3 fun h1 h2 h3 h4 h5 h8 h9=>?_;refine kG ?_;exact ⟨h6,h7⟩
theorem add_str {a b:List Nat} (h:a.length + b.length<=SL):yv6 .Add (.str a) (.str b) σ=.ok (.str (a++b)) σ:=if_pos h
theorem yq0 {w:List Nat} {b:Bool} (hw:w.length<=100) (h:subIn RES.cps.toList (32::w++[32])=b):zz4 (n + 1) (.fn "is_reserved") [.str w] σ=.ok (.bool b) σ:=by
 refine zo0 ?_;refine za0 (add_str (by show 1 + w.length<=SL;exact l11 0x0000064471100000047131 hw)) ?_;refine za0 (add_str (by show w.length + 1 + 1<=SL;exact l11 0x0000064471100000041313711 hw)) ?_;refine za0 (zw7 h) ?_;exact zc0 ⟨rfl,rfl⟩
end
section
variable {c:Cx} {σ σ':zz0} {ts:List Tk} {k m n:Nat}
theorem vz5 (e:c.tk.drop k=ts) (a:Nat) (kd:List Nat):zw8 c.toks (k + a) kd=(match ts[a]? with|some t=>t.tok.1 == kd|none=>false):=by
 unfold zw8;refine (yz3 e _).symm▸?_;cases ts[a]? with
 | none=>rfl
 | some t=>rfl
theorem yx0 (e:c.tk.drop k=ts) (w:List Nat):zk6 c.toks k w=(match ts with|t::_=>t.tok.1 == S "word"&&t.tok.2 == w|[]=>false):=by
 unfold zk6;have:=yz3 e 0;refine (this).symm▸?_;cases ts with
 | nil=>rfl
 | cons t l=>rfl
theorem zv2 {t:Tk} {l:List Tk} (e:c.tk.drop k=t::l) (kd:List Nat):zw8 c.toks k kd=(t.tok.1 == kd):=vz5 e 0 kd
theorem yj1 (e:c.tk.drop k=[]) (kd:List Nat):zw8 c.toks k kd=false:=vz5 e 0 kd
theorem wy0 {x:Nm} {l:List Tk} (h:c.R σ k) (e:c.tk.drop k=.nm x::l):zz4 (n + 4) (.fn "Reader.is_name") [.loc c.r] σ=.ok (.bool true) σ:=by
 refine zo0 ?_;refine za0 (zz1 h.rd rfl rfl) ?_;refine za0 (zg4 (a:=0) h) ?_;refine ze0 rfl (zv2 e _) ?_;refine hid fun G kG=>?_;refine el32 (zv0 (a:=0) h (zh3 e)) fun l at' b h1 h2 h3=>?_;refine kG ?_;refine za0 (zz1 h.rd rfl rfl) ?_;refine za0 (h1 _) ?_;refine za0 (zz6 h2 rfl rfl rfl) ?_;refine za0 (yq0 (b:=false) (by cases x <;> decide) (res_sub x)) (Rn.go 1 ?_);refine zc0 ?_;exact ⟨rfl,rfl⟩
theorem name_yes {x:Nm} {l:List Tk} (h:c.R σ k) (e:c.tk.drop k=.nm x::l):zz4 (n + 5) (.fn "Reader.name") [.loc c.r] σ=.ok (.str (S x.txt)) (mv σ c.r c.tl (k + 1)):=by
 refine zo0 ?_;refine za0 (zz1 h.rd rfl rfl) ?_;refine za0 (wy0 h e) (Rn.go 1 ?_);refine hid fun G kG=>?_;refine el33 (zp5 h (zh3 e)) fun l at' b h1 h2 h3 h4=>?_;refine kG ?_;refine za0 (zz1 h.rd rfl rfl) ?_;refine za0 (h1 _) ?_;refine za0 (zz6 h3 rfl rfl rfl) ?_;exact zc0 ⟨rfl,rfl⟩
noncomputable def noName:List Tk->Bool
 | .nm _::_=>false
 | _=>true
theorem vw0 (h:c.R σ k) (e:c.tk.drop k=ts) (hn:noName ts=true):zz4 (n + 4) (.fn "Reader.is_name") [.loc c.r] σ=.ok (.bool false) σ:=by
 refine zo0 ?_;refine za0 (zz1 h.rd rfl rfl) ?_;refine za0 (zg4 (a:=0) h) ?_;cases ts with
 | nil=>
  refine zd0 rfl (yj1 e _) ?_;exact zc0 ⟨congrArg V.bool (yj1 e _),rfl⟩
 | cons t l=>
  cases t with
  | nm x=>cases hn
  | nb x=>refine zd0 rfl (zv2 e _) ?_;exact zc0 ⟨congrArg V.bool (zv2 e _),rfl⟩
  | sg x=>refine zd0 rfl (zv2 e _) ?_;exact zc0 ⟨congrArg V.bool (zv2 e _),rfl⟩
  | of_=>
   refine ze0 rfl (zv2 e _) ?_;obtain ⟨l,at',b,h1,h2,h3⟩:=zv0 (a:=0) h (zh3 e);refine za0 (zz1 h.rd rfl rfl) ?_;refine za0 (h1 _) ?_;refine za0 (zz6 h2 rfl rfl rfl) ?_;refine za0 (yq0 (b:=true) (by decide) wb3.1) (Rn.go 1 ?_);refine zc0 ?_;exact ⟨rfl,rfl⟩
  | in_=>
   refine ze0 rfl (zv2 e _) ?_;obtain ⟨l,at',b,h1,h2,h3⟩:=zv0 (a:=0) h (zh3 e);refine za0 (zz1 h.rd rfl rfl) ?_;refine za0 (h1 _) ?_;refine za0 (zz6 h2 rfl rfl rfl) ?_;refine za0 (yq0 (b:=true) (by decide) wb3.2) (Rn.go 1 ?_);refine zc0 ?_;exact ⟨rfl,rfl⟩
theorem uj7 (h:c.R σ k) (e:c.tk.drop k=ts) (hn:noName ts=true):zz4 (n + 5) (.fn "Reader.name") [.loc c.r] σ=.exc σ:=by
 obtain ⟨σ',e,rfl⟩:=RnX.fn (n:=n + 4) (q:= "Reader.name") (args:=[.loc c.r]) (σ:=σ) (Q:=fun s=>s=σ) (by
  refine yr0 (zz1 h.rd rfl rfl) ?_;refine yr0 (vw0 h e hn) ?_;refine yr0 rfl ?_;refine RnX.now (yy6 (xw9 rfl ?_)) rfl;refine zc0 ⟨_,_,zz1 h.rd rfl rfl,?_⟩;refine zc0 ?_;exact yh7 h)
 exact e
theorem hop_ne {s:Sg} (hp:hop pm ts=none) (z:(pm.any fun u=>u.ix == s.ix)=true):hd s ts=false:=by
 cases q:hd s ts with
 | false=>rfl
 | true=>exact el10 (xw7 q) fun r e=>by rw [e] at hp;exact absurd ((if_pos z).symm.trans hp) (by nofun)
theorem yw7 (hp:hop pm ts=none) (h:c.R σ k) (e:c.tk.drop k=ts):zz4 (n + 5) (.fn "Reader.is_number") [.loc c.r] σ=.ok (.bool (match ts with|.nb _::_=>true|_=>false)) σ:=by
 have h1:zk7 c.toks k (S "+")=false:=by
  refine (zx1 e .plus).trans ?_;exact hop_ne hp (by rfl)
 have h2:zk7 c.toks k (S "-")=false:=by
  refine (zx1 e .minus).trans ?_;exact hop_ne hp (by rfl)
 refine zo0 ?_;refine za0 (zz1 h.rd rfl rfl) ?_;refine za0 (zk5 h) ?_;refine zd0 rfl h1 ?_;refine za0 (zz1 h.rd rfl rfl) ?_;refine za0 (zk5 h) ?_;refine zd0 rfl h2 ?_;refine za0 (zz1 h.rd rfl rfl) ?_;refine za0 (yq5 h) ?_;refine zc0 ⟨congrArg V.bool ?_,rfl⟩;cases ts with
 | nil=>exact yj1 e _
 | cons t l=>cases t <;> exact zv2 e _
end
theorem xx6 {x y:List Nat} {k:Nat} {σ:zz0} (h:Builtin.Str.occurrences ⟨x.toArray⟩ ⟨y.toArray⟩ 0 (⟨x.toArray⟩:Str).length 1=[k]):zq7 "str.index" (.str x) [.str y] σ=.ok (.int k) σ:=by
 show (Builtin.Str.occurrences ⟨x.toArray⟩ ⟨y.toArray⟩ 0 (⟨x.toArray⟩:Str).length 1).head?.elim Out.bad (fun k=>Out.ok (V.int k) σ)=_;rw [h];rfl
noncomputable abbrev xz9 (a:Nat) (i:Nat):Prop:=∀ σ,zq7 "str.index" (.str (S "0123456789")) [.str [a]] σ=.ok (.int i) σ
theorem fig_0:xz9 48 0:=fun σ=>xx6 (by decide +kernel)
theorem fig_2:xz9 50 2:=fun σ=>xx6 (by decide +kernel)
theorem fig_5:xz9 53 5:=fun σ=>xx6 (by decide +kernel)
theorem fig_7:xz9 55 7:=fun σ=>xx6 (by decide +kernel)
theorem pt_25 {σ:zz0}:zq7 "str.index" (.str (S "0.25")) [.str (S ".")] σ=.ok (.int 1) σ:=xx6 (by decide +kernel)
theorem pt_75 {σ:zz0}:zq7 "str.index" (.str (S "7.5")) [.str (S ".")] σ=.ok (.int 1) σ:=xx6 (by decide +kernel)
section
variable {n:Nat} {σ:zz0}
theorem xx1 {x:Int} (h:zh0 x=true):yv6 .Mult (.int x) (.int 10) σ=.ok (.int (x * 10)) σ:=by
 show (if zh0 x&&zh0 10 then _ else _)=_;refine (h).symm▸?_;rfl
theorem vh8 {a:Nat} {i:Nat} (ha:xz9 a i) (hl:zh0 0=true):zz4 (n + 1) (.fn "worth_of") [.str [a]] σ=.ok (.int (0 * 10 + (i:Int))) σ:=by
 have q0:=hl;refine zo0 ?_;refine zr0 (yd0 rfl ?_);refine Rn.go 1 (zc0 ?_);refine ye0 rfl ?_;refine za0 (xx1 q0) (Rn.go 1 ?_);refine za0 (ha _) (Rn.go 1 ?_);refine zc0 ?_;refine yi0 rfl ?_;exact zc0 ⟨rfl,rfl⟩
theorem worth_2 {a b:Nat} {i j:Nat} (ha:xz9 a i) (hb:xz9 b j) (hl:zh0 0=true/\zh0 (0 * 10 + (i:Int))=true):zz4 (n + 1) (.fn "worth_of") [.str [a,b]] σ=.ok (.int ((0 * 10 + (i:Int)) * 10 + (j:Int))) σ:=by
 refine zz9 hl fun q0 q1=>?_;refine zo0 ?_;refine zr0 (yd0 rfl ?_);refine Rn.go 1 (zc0 ?_);refine ye0 rfl ?_;refine za0 (xx1 q0) (Rn.go 1 ?_);refine za0 (ha _) (Rn.go 1 ?_);refine zc0 ?_;refine ye0 rfl ?_;refine za0 (xx1 q1) (Rn.go 1 ?_);refine za0 (hb _) (Rn.go 1 ?_);refine zc0 ?_;refine yi0 rfl ?_;exact zc0 ⟨rfl,rfl⟩
theorem worth_3 {a b d:Nat} {i j m:Nat} (ha:xz9 a i) (hb:xz9 b j) (hd:xz9 d m) (hl:zh0 0=true/\zh0 (0 * 10 + (i:Int))=true/\zh0 ((0 * 10 + (i:Int)) * 10 + (j:Int))=true):zz4 (n + 1) (.fn "worth_of") [.str [a,b,d]] σ=.ok (.int (((0 * 10 + (i:Int)) * 10 + (j:Int)) * 10 + (m:Int))) σ:=by
 refine zg6 hl fun q0 q1 q2=>?_;refine zo0 ?_;refine zr0 (yd0 rfl ?_);refine Rn.go 1 (zc0 ?_);refine ye0 rfl ?_;refine za0 (xx1 q0) (Rn.go 1 ?_);refine za0 (ha _) (Rn.go 1 ?_);refine zc0 ?_;refine ye0 rfl ?_;refine za0 (xx1 q1) (Rn.go 1 ?_);refine za0 (hb _) (Rn.go 1 ?_);refine zc0 ?_;refine ye0 rfl ?_;refine za0 (xx1 q2) (Rn.go 1 ?_);refine za0 (hd _) (Rn.go 1 ?_);refine zc0 ?_;refine yi0 rfl ?_;exact zc0 ⟨rfl,rfl⟩
theorem wq8 {u:Int}:zz4 (n + 1) (.fn "decimal") [.int u,.int 0] σ=.ok (.tup [.int u,.int 0]) σ:=by
 refine zo0 ?_;refine Rn.go 2 ?_;refine zr0 (ym0 (RnO.once ?_));refine Rn.go 2 (zc0 ?_);exact zc0 ⟨rfl,rfl⟩
theorem wq7 {u s:Nat} (hs:(decide (((s:Int) + 1) > 0))=true) (hs2:(decide (((s:Int) + 1) < 0))=false) (hu:(Int.fmod u 10 == 0)=false):zz4 (n + 1) (.fn "decimal") [.int u,.int ((s:Int) + 1)] σ=.ok (.tup [.int u,.int ((s:Int) + 1)]) σ:=by
 refine zo0 ?_;refine Rn.go 1 ?_;refine zd0 rfl hs2 ?_;refine zr0 (ym0 (RnO.once ?_));refine Rn.go 1 ?_;refine ze0 rfl hs (Rn.go 2 ?_);refine zd0 rfl hu (zc0 ?_);exact zc0 ⟨rfl,rfl⟩
theorem dec_0:zz4 (n + 3) (.fn "read_decimal") [.str (S "0")] σ=.ok (.tup [.int 0,.int 0]) σ:=by
 refine zo0 ?_;repeat refine za0 rfl ?_
 refine za0 (vh8 fig_0 rfl) ?_;iterate 3 refine za0 rfl ?_
 refine za0 (len_str (by decide)) ?_;refine za0 wq8 ?_;exact zc0 ⟨rfl,rfl⟩
theorem dec_5:zz4 (n + 3) (.fn "read_decimal") [.str (S "5")] σ=.ok (.tup [.int 5,.int 0]) σ:=by
 refine zo0 ?_;repeat refine za0 rfl ?_
 refine za0 (vh8 fig_5 rfl) ?_;iterate 3 refine za0 rfl ?_
 refine za0 (len_str (by decide)) ?_;refine za0 wq8 ?_;exact zc0 ⟨rfl,rfl⟩
theorem dec_25:zz4 (n + 3) (.fn "read_decimal") [.str (S "0.25")] σ=.ok (.tup [.int 25,.int 2]) σ:=by
 refine zo0 ?_;repeat refine za0 rfl ?_
 refine za0 pt_25 ?_;repeat refine za0 rfl ?_
 refine za0 (worth_3 fig_0 fig_2 fig_5 ⟨rfl,rfl,rfl⟩) ?_;iterate 3 refine za0 rfl ?_
 refine za0 (len_str (by decide)) ?_;refine za0 (wq7 (s:=1) (u:=25) rfl rfl rfl) ?_;exact zc0 ⟨rfl,rfl⟩
theorem dec_75:zz4 (n + 3) (.fn "read_decimal") [.str (S "7.5")] σ=.ok (.tup [.int 75,.int 1]) σ:=by
 refine zo0 ?_;repeat refine za0 rfl ?_
 refine za0 pt_75 ?_;repeat refine za0 rfl ?_
 refine za0 (worth_2 fig_7 fig_5 ⟨rfl,rfl⟩) ?_;iterate 3 refine za0 rfl ?_
 refine za0 (len_str (by decide)) ?_;refine za0 (wq7 (s:=0) (u:=75) rfl rfl rfl) ?_;exact zc0 ⟨rfl,rfl⟩
end
theorem yl0 {C:zz5} {k:Nat} {sc:Scope} {t:Expr} {b:List Stmt} {Q:Fl×Rho->zz0->Prop} (I:Nat->Rho->zz0->Prop)
 (h:∀ m ρ σ,I m ρ σ->Rn (rT C k sc ρ t σ) fun c s=>match c with
  | false=>Q (.next,ρ) s
  | true=>Rn (rSeq C k sc b ρ s) (qq9 (fun ρ s=>∃ m',m' < m/\I m' ρ s) Q)):∀ (N m:Nat) (ρ:Rho) (σ:zz0),I m ρ σ->m < N->
 RnO (zx2 (fun ρ σ=>evT C k sc ρ t σ) (fun ρ σ=>seqS (fun s ρ σ=>evS C k sc s ρ σ) b ρ σ) N ρ σ) Q:=by
 intro N;induction N with
 | zero=>
  intro m ρ σ hi hm;exact absurd hm (Nat.not_lt_zero _)
 | succ N ih0=>
  intro m ρ σ hi hm;refine RnO.once ((h m ρ σ hi).mono fun c s hc=>?_);cases c with
  | false=>exact hc
  | true=>
   refine Rn.mono hc fun y s hy=>?_;unfold qq9 at hy ⊢;cases e:y.1 <;> rw [e] at hy <;> dsimp only at hy ⊢
   ·obtain ⟨m',h1,h2⟩:=hy;exact ih0 m' _ _ h2 (l32 0x91371113811391181371 hm h1)
   ·obtain ⟨m',h1,h2⟩:=hy;exact ih0 m' _ _ h2 (l32 0x91371113811391181371 hm h1)
   ·exact hy
theorem RnO.loopH {C:zz5} {k:Nat} {sc:Scope} {t:Expr} {b:List Stmt} {Q:Fl×Rho->zz0->Prop} (I:Nat->Rho->zz0->Prop)
 (h:∀ m ρ σ,I m ρ σ->∀ (K:Rho->zz0->Prop) (L:Fl×Rho->zz0->Prop),(∀ m' ρ s,m' < m->I m' ρ s->K ρ s)->(∀ y s,Q y s->L y s)->Rn (rT C k sc ρ t σ) fun c s=>match c with
  | false=>L (.next,ρ) s
  | true=>Rn (rSeq C k sc b ρ s) (qq9 K L)) (N m:Nat) (ρ:Rho) (σ:zz0) (hi:I m ρ σ) (hm:m < N) :
 RnO (zx2 (fun ρ σ=>evT C k sc ρ t σ) (fun ρ σ=>seqS (fun s ρ σ=>evS C k sc s ρ σ) b ρ σ) N ρ σ) Q:=
 yl0 I (fun m ρ σ hi=>h m ρ σ hi _ _ (fun m' ρ s a b=>⟨m',a,b⟩) fun U U q=>q) N m ρ σ hi hm
noncomputable def SxStep {γ:Type} (C:zz5) (k:Nat) (sc:Scope) (t:Expr) (b:List Stmt) (J:γ->List Tk->Fl×Rho->zz0->Prop) (I:Nat->Rd γ->Rho->zz0->Prop) (m:Nat) (p:Rd γ) (ρ:Rho) (σ:zz0):Prop:=
 p=.out\/(∃ a ts,p=.ok a ts/\Rn (rT C k sc ρ t σ) fun c s=>c=false/\J a ts (.next,ρ) s)\/
 (∃ (q:Rd V) (f:V->List Tk->Rd γ),p=q.bind f/\Rn (rT C k sc ρ t σ) fun c s=>c=true/\Stp q (rSeq C k sc b ρ s) fun a ts y s=>y.1=.next/\∃ m',m' < m/\I m' (f a ts) y.2 s)
theorem Sx.loop {γ:Type} {C:zz5} {k:Nat} {sc:Scope} {t:Expr} {b:List Stmt} {J:γ->List Tk->Fl×Rho->zz0->Prop} (I:Nat->Rd γ->Rho->zz0->Prop)
 (h:∀ m p ρ σ,I m p ρ σ->SxStep C k sc t b J I m p ρ σ):∀ (N m:Nat) (p:Rd γ) (ρ:Rho) (σ:zz0),I m p ρ σ->m < N->
 Sx p (zx2 (fun ρ σ=>evT C k sc ρ t σ) (fun ρ σ=>seqS (fun s ρ σ=>evS C k sc s ρ σ) b ρ σ) N ρ σ) J:=by
 intro N;induction N with
 | zero=>
  intro m p ρ σ hi hm;exact absurd hm (Nat.not_lt_zero _)
 | succ N ih0=>
  intro m p ρ σ hi hm;rcases h m p ρ σ hi with rfl|⟨a,ts,rfl,h1⟩|⟨q,f,rfl,h1⟩
  ·trivial
  ·exact Sx.stop h1
  ·refine Sx.turn (h1.mono fun c s hc=>⟨hc.1,Sx.mono hc.2 fun a ts y s hy=>⟨hy.1,?_⟩⟩)
   obtain ⟨m',h2,h3⟩:=hy.2;exact ih0 m' _ _ _ h3 (l32 0x91371113811391181371 hm h2)
noncomputable def need (s:Sg) (v:V) (ts:List Tk):Rd V:=if hd s ts then .ok v ts.tail else .no
noncomputable def zp6:Nat->List Tk->Bool
 | 0,_=>false
 | _ + 1,[]=>false
 | d + 1,t::r=>if yq9 .lp t then zp6 (d + 2) r else if yq9 .rp t then zp6 d r else if d == 0&&yq9 .colon t then true else zp6 (d + 1) r
noncomputable def pn (ts:List Tk):Bool:=hdE ts false fun t r=>yq9 .lp t&&zp6 1 r
noncomputable def zw1 (E:List Tk->Rd V):Nat->List V->List Tk->Rd V
 | 0,acc,ts=>if hd .rp ts then .ok (.tup acc) ts.tail else .no
 | m + 1,acc,ts=>if hd .rp ts then .ok (.tup acc) ts.tail else (E ts).bind fun v ts=>zw1 E m (acc++[v]) ts
noncomputable def ux4 (E:List Tk->Rd V) (ts:List Tk):Rd V:=(E ts).bind fun v ts=>zw1 E 6 [v] ts
noncomputable def wv1 (E:List Tk->Rd V) (ts:List Tk):Rd V:=(E ts).bind fun b ts=>if hd .colon ts then (if hd .rp ts.tail then .ok (.tup [b,.none]) ts.tail.tail else (E ts.tail).bind fun l ts=>need .rp (.tup [b,l]) ts) else .no
noncomputable def xb6 (ts:List Tk):Rd V:=hdE ts .no fun t r=>tkE t (fun y=>.ok (.str (S y.txt)) r) .no .no (fun U=>.no) fun U=>.no
noncomputable def isQ (t:Tk):Bool:=tkE t (fun U=>false) true true (fun U=>false) fun U=>false
noncomputable def yy3:Nat->List V->List Tk->Rd (List V)
 | 0,_,_=>.out
 | m + 1,acc,[]=>.ok acc []
 | m + 1,acc,t::r=>if isQ t then (xb6 r).bind fun v ts=>yy3 m (acc++[v]) ts else .ok acc (t::r)
noncomputable def yk0 (x:V) (qs:List V) (rows part:V):V:=.tup [.str (S "ref"),x,.tup qs,rows,part]
noncomputable def yy2 (E:List Tk->Rd V) (x:V) (qs:List V) (rows:V) (ts:List Tk):Rd V:=if pn ts then (wv1 E ts.tail).bind fun part ts=>.ok (yk0 x qs rows part) ts else .ok (yk0 x qs rows .none) ts
noncomputable def pRef (E:List Tk->Rd V) (ts:List Tk):Rd V:=(xb6 ts).bind fun x ts=>(yy3 8 [] ts).bind fun qs ts=>
 if hd .lp ts&&!pn ts then (ux4 E ts.tail).bind fun rows ts=>yy2 E x qs rows ts else yy2 E x qs (.tup []) ts
noncomputable def ux6 (E:List Tk->Rd V):List Tk->Rd V
 | .nb x::r=>.ok (uj0 (nbV x)) r
 | ts=>pRef E ts
section
variable {c:Cx} {σ σ':zz0} {ts:List Tk} {k m n:Nat}
theorem go_0 {r:List Tk}:zp6 0 r=false:=by cases r <;> rfl
theorem go_lp {d:Nat} {t:Tk} {r:List Tk} (h:yq9 .lp t=true):zp6 (d + 1) (t::r)=zp6 (d + 2) r:=if_pos h
theorem go_rp {d:Nat} {t:Tk} {r:List Tk} (h:yq9 .lp t=false) (h2:yq9 .rp t=true):zp6 (d + 1) (t::r)=zp6 d r:=(if_neg (ne_true_of_eq_false h)).trans (if_pos h2)
theorem go_in {d:Nat} {t:Tk} {r:List Tk} (h:yq9 .lp t=false) (h2:yq9 .rp t=false) (h3:(d == 0&&yq9 .colon t)=false):zp6 (d + 1) (t::r)=zp6 (d + 1) r:=(if_neg (ne_true_of_eq_false h)).trans ((if_neg (ne_true_of_eq_false h2)).trans (if_neg (ne_true_of_eq_false h3)))
theorem go_col {t:Tk} {r:List Tk} (h:yq9 .lp t=false) (h2:yq9 .rp t=false) (h3:yq9 .colon t=true):zp6 1 (t::r)=true:=(if_neg (ne_true_of_eq_false h)).trans ((if_neg (ne_true_of_eq_false h2)).trans (if_pos h3))
theorem yv2 (h:c.R σ k) (e:c.tk.drop k=ts):zz4 (n + 5) (.fn "is_part_next") [.loc c.r] σ=.ok (.bool (pn ts)) σ:=by
 have hlen:ts.length<=1000000:=by
  have h1:=h.sz;rw [iq9] at h1;rw [<-e,iw1];exact l22 0x87100f424048100f424047 h1 (Nat.sub_le _ _)
 refine zo0 ?_;refine zr0 (ym0 (RnO.loopH (I:=fun m ρ s=>s=σ/\((m=ts.length + 1/\ρ=([("reader",.loc c.r),("depth",.int 0),("ahead",.int 0)]:Rho))\/∃ (d a:Nat) (r:List Tk),ρ=([("reader",.loc c.r),("depth",.int (d:Nat)),("ahead",.int ((a + 1:Nat):Int))]:Rho)/\ts.drop (a + 1)=r/\m=r.length/\pn ts=zp6 d r)) ?step LF (ts.length + 1) _ _ ⟨rfl,.inl ⟨rfl,rfl⟩⟩ (by show _ < 1048576;exact l11 0x00f4240471010000041313711 hlen)));intro m ρ s hi K L hK hL;refine hid fun G kG=>?_;refine zz9 hi fun e0 hj=>?_;subst e0;rcases hj with ⟨rfl,rfl⟩|⟨d,a,r,rfl,hr,rfl,hp⟩
 ·refine kG ?_
  iterate 4 refine za0 rfl ?_
  refine za0 (zz1 h.rd rfl rfl) ?_;refine za0 (zk5 h) ?_;refine bcs (hd .lp ts) (fun q=>?_) fun q=>?_
  ·refine ze0 rfl ((zx1 e .lp).trans q) ?_
   refine zc0 ?_;refine el10 (xw7 q) fun r e1=>?_;refine el32 (zv0 (a:=0) h (zh3 (e.trans e1))) fun l at' b h1 h2 h3=>?_;refine za0 (zz1 h.rd rfl rfl) ?_;refine za0 (h1 _) (Rn.go 2 ?_);refine za0 (zz1 h.rd rfl rfl) ?_;refine za0 (yz1 (a:=0) h) ?_;refine ze0 rfl ((zx1 e .lp).trans q) (Rn.go 2 ?_);exact zc0 (hK r.length _ _ (by rw [e1,ik8];exact l10 0x13137111371) ⟨rfl,.inr ⟨1,0,r,rfl,congrArg (List.drop 1) e1,rfl,congrArg pn e1⟩⟩)
  ·refine zd0 rfl ((zx1 e .lp).trans q) ?_
   have hp:pn ts=false:=by
    cases ts with
    | nil=>rfl
    | cons t r=>exact congrArg (fun U=>U&&zp6 1 r) q
   exact zc0 (hL _ _ (zc0 ⟨hp▸rfl,rfl⟩))
 ·cases d with
  | zero=>
   refine kG ?_;refine za0 rfl (Rn.go 2 ?_);refine zd0 rfl (beq_eq_false_iff_ne.mpr fun e=>Nat.succ_ne_zero a (Int.ofNat.inj (show Int.ofNat (a + 1)=Int.ofNat 0 from e))) (zc0 ?_);exact hL _ _ (zc0 ⟨(hp.trans go_0)▸rfl,rfl⟩)
  | succ d=>
   refine kG ?_;refine za0 rfl ?_;refine ze0 rfl (decide_eq_true (ik6.mpr (iv7 d))) (zc0 ?_);refine za0 (zz1 h.rd rfl rfl) ?_;have hat:ts[a + 1]?=r.head?:=by rw [<-hr,List.head?_drop]
   cases r with
   | nil=>
    refine za0 (yx4 h ((yz3 e (a + 1)).trans (congrArg (Option.map Tk.tok) hat))) (Rn.go 2 ?_);exact zc0 (hL _ _ (zc0 ⟨hp▸rfl,rfl⟩))
   | cons t r=>
    have hs:∀ s:Sg,zk7 c.toks (k + (a + 1)) (S s.txt)=yq9 s t:=fun s=>(vp2 e (a + 1) s).trans (by rw [hat];rfl);refine el32 (zv0 (a:=a + 1) h ((yz3 e (a + 1)).trans (congrArg (Option.map Tk.tok) hat))) fun l at' b h1 h2 h3=>?_;have hr2:ts.drop (a + 1 + 1)=r:=by rw [<-oq5,hr];rfl
    have next:∀ d',pn ts=zp6 d' r->K ([("reader",.loc c.r),("depth",.int (d':Nat)),("ahead",.int ((a + 1 + 1:Nat):Int))]:Rho) s:=fun d' hd'=>hK r.length _ _ (by rw [ik8];exact l10 0x13711371) ⟨rfl,.inr ⟨d',a + 1,r,rfl,hr2,rfl,hd'⟩⟩;refine za0 (h1 _) (Rn.go 2 ?_);refine za0 (zz1 h.rd rfl rfl) ?_;refine za0 (yz1 (a:=a + 1) h) ?_;refine bcs (yq9 .lp t) (fun q1=>?_) fun q1=>?_
    ·refine ze0 rfl ((hs .lp).trans q1) ?_
     refine Rn.go 2 (zc0 ?_);exact next (d + 2) (hp.trans (go_lp q1))
    ·refine zd0 rfl ((hs .lp).trans q1) ?_
     refine za0 (zz1 h.rd rfl rfl) ?_;refine za0 (yz1 (a:=a + 1) h) ?_;refine bcs (yq9 .rp t) (fun q2=>?_) fun q2=>?_
     ·refine ze0 rfl ((hs .rp).trans q2) ?_
      refine za0 (v:=.int (d:Nat)) (σ:=s) (by show Out.ok (V.int (((d + 1:Nat):Int) - 1)) s=_;exact congrArg (fun U=>Out.ok (V.int U) s) (Int.add_sub_cancel (d:Int) 1)) (Rn.go 1 ?_);refine zc0 ?_;exact next d (hp.trans (go_rp q1 q2))
     ·refine zd0 rfl ((hs .rp).trans q2) ?_
      refine za0 rfl ?_;cases d with
      | zero=>
       refine Rn.go 1 ?_;refine za0 (zz1 h.rd rfl rfl) ?_;refine za0 (yz1 (a:=a + 1) h) ?_;refine bcs (yq9 .colon t) (fun q3=>?_) fun q3=>?_
       ·refine ze0 rfl ((hs .colon).trans q3) ?_
        exact zc0 (hL _ _ (zc0 ⟨(hp.trans (go_col q1 q2 q3))▸rfl,rfl⟩))
       ·refine zd0 rfl ((hs .colon).trans q3) ?_
        refine Rn.go 1 (zc0 ?_);exact next 1 (hp.trans (go_in q1 q2 q3))
      | succ d=>
       refine zd0 rfl (beq_eq_false_iff_ne.mpr fun e=>Nat.succ_ne_zero d (Nat.succ.inj (Int.ofNat.inj (show Int.ofNat (d + 1 + 1)=Int.ofNat 1 from e)))) (Rn.go 1 ?_);refine zc0 ?_;exact next (d + 2) (hp.trans (go_in q1 q2 rfl))
end
theorem zj1 {i:Nat} {l:List V} {σ:zz0} (h:σ[i]?=some (.lst l)):liftO (zk3 (.loc i) "append" σ) σ=.ok (.bm "list.append") σ:=by
 rw [uk0 h];exact congrArg (fun o=>liftO (Option.map MK.bm o) σ) ((zj7 h).trans rfl:zx3 (.loc i) "append" σ=some "list.append")
theorem yp5 {i:Nat} {l:List V} {v:V} {σ:zz0} (h:σ[i]?=some (.lst l)) (hl:l.length<=10000):zq7 "list.append" (.loc i) [v] σ=.ok .none (σ.set i (.lst (l++[v]))):=by
 exact (zj7 (F:=fun l=>ww1 l i σ [v]) h).trans (if_pos (l11 0x0002710471100000041371 hl))
theorem yv9 {i n:Nat} {l:List V} {σ:zz0} (h:σ[i]?=some (.lst l)) (hl:l.length<=10000):zz4 (n + 1) (.typ "tuple") [.loc i] σ=.ok (.tup l) σ:=by
 exact (zj7 (F:=fun l=>if l.length<=SL then Out.ok (V.tup l) σ else .bad) h).trans (if_pos (l11 0x0002710471100000047 hl))
theorem Adv.set {r i:Nat} {σ0 σ:zz0} {o:O} (x:Adv r σ0 σ) (hi:σ0.length<=i):Adv r σ0 (σ.set i o):=
 ⟨by rw [ox6];exact x.len,fun y hy hr=>by rw [iz9 (ix0 (iq3 hy hi))];exact x.same y hy hr⟩
section
variable {c:Cx} {σ σ' σ0:zz0} {ts:List Tk} {k m n F:Nat} {clo:V} {E:List Tk->Rd V}
theorem At.set {ts0:List Tk} {i:Nat} {o:O} (h0:At c σ0 ts0) (x:Adv c.r σ0 σ) (h:At c σ ts) (hi:σ0.length<=i):At c (σ.set i o) ts:=by
 refine hid fun G kG=>?_;refine el11 h0 fun k0 h0 U=>?_;refine el11 h fun k h e=>?_;refine kG ?_;refine ⟨k,h0.adv (x.set hi) ?_ h.le,e⟩;rw [iz9 (ix0 (iq3 (zq0 h0.rd) hi))];exact h.rd
theorem At.r_lt (h:At c σ ts):c.r < σ.length:=by obtain ⟨k,h,_⟩:=h;exact zq0 h.rd
noncomputable def HE (c:Cx) (E:List Tk->Rd V) (clo:V) (F:Nat):Prop:=∀ m,F<=m->∀ σ ts,At c σ ts->Sx (E ts) (zz4 m clo [.loc c.r] σ) (Jv c σ)
theorem uz8 (hE:HE c E clo F) (hm:F + 8<=m) (h:At c σ (.sg .lp::ts)):Sx (ux4 E ts) (zz4 m (.fn "read_subscripts") [.loc c.r,clo] σ) (Jv c σ):=by
 refine Classical.byContradiction fun ng=>?_;obtain ⟨p,rfl⟩:∃ p,m=p + 8:=⟨m - 8,(iq8 (l21 0x783811783 hm)).symm⟩;refine el11 h fun k hk e=>?_;have h0:At c σ (.sg .lp::ts):=⟨k,hk,e⟩;refine ng (Stp.fn ?_);refine zi0 (zz1 hk.rd rfl rfl) ?_;refine zi0 (zp7 hk (zx1 e .lp)) ?_;refine ya0 (hE (p + 7) (l21 0x83818371173817 hm) _ _ (At.next hk e)) fun a ts1 b s1 hj=>?_;refine zg6 hj fun eq1 x1 a1=>?_;subst eq1;have y1:Adv c.r σ s1:=Adv.mv.trans x1;refine zu0 (J':=fun a ts y s=>∃ l,a=V.tup l/\y=(.next,([("reader",.loc c.r),("read_expr",clo),("found",.loc s1.length)]:Rho))/\s[s1.length]?=some (.lst l)/\l.length<=100/\Adv c.r σ s/\At c s ts) (Sx.while_ (Sx.loop (I:=fun m p ρ s=>∃ l ts,p=zw1 E m l ts/\l.length + m=7/\ρ=([("reader",.loc c.r),("read_expr",clo),("found",.loc s1.length)]:Rho)/\s[s1.length]?=some (.lst l)/\Adv c.r σ s/\At c s ts) ?step LF 6 _ _ _ ?init (by decide))) ?fin
 case init=>exact ⟨[b],ts1,rfl,rfl,rfl,zq4,y1.trans Adv.grow,a1.grow⟩
 case fin=>
  rintro a ts y s ⟨l,rfl,rfl,hl,hn,hx,ha⟩;refine zi0 (yv9 hl (l11 0x0000064471000271047 hn)) ?_;exact zl0 ⟨rfl,hx,ha⟩
 case step=>
  rintro m p ρ s ⟨l,ts,rfl,hn,rfl,hl,hx,ha⟩;have hi:σ.length<=s1.length:=y1.len;refine el11 ha fun k2 h2 e2=>?_;cases q:hd .rp ts with
  | true=>
   refine .inr (.inl ⟨.tup l,ts.tail,by cases m <;> simp only [zw1,q,if_true],?_⟩);refine za0 (zz1 h2.rd rfl rfl) ?_;refine za0 (xk0 h2 ((zx1 e2 .rp).trans q)) ?_;cases ts with
   | nil=>cases q
   | cons t r=>
    refine zc0 ⟨rfl,l,rfl,rfl,?_,l21 0x738719000006447 hn,hx.trans Adv.mv,At.next h2 e2⟩;exact Adv.mv.keep hl (ix0 (iq3 h0.r_lt hi))
  | false=>
   cases m with
   | zero=>
    refine .inr (.inr ⟨.no,fun v ts=>.no,by simp only [zw1,q];rfl,?_⟩);refine za0 (zz1 h2.rd rfl rfl) ?_;refine za0 (yk2 h2 ((zx1 e2 .rp).trans q)) (Rn.go 1 ?_);refine zc0 ?_;refine ⟨rfl,?_⟩;refine zi0 (ww2 hl (l11 0x730371900003e847 hn)) ?_;refine Stp.go 1 ?_;refine zn0 rfl (decide_eq_true (ix6.mpr (ij3 hn.symm))) ?_;refine yc0 (σ:=s) (yy6 (xw9 rfl ?_));refine zc0 ⟨_,_,zz1 h2.rd rfl rfl,?_⟩;refine zc0 ?_;exact yh7 h2
   | succ m=>
    refine .inr (.inr ⟨E ts,fun v ts=>zw1 E m (l++[v]) ts,by simp [zw1,q],?_⟩);refine za0 (zz1 h2.rd rfl rfl) ?_;refine za0 (yk2 h2 ((zx1 e2 .rp).trans q)) (Rn.go 1 ?_);refine zc0 ?_;refine ⟨rfl,?_⟩;refine zi0 (ww2 hl (l21 0x73138171900003e847 hn)) ?_;refine Stp.go 1 ?_;refine zm0 rfl (decide_eq_false (Int.not_le.mpr (ik6.mpr (oz4 (Nat.lt_add_of_pos_right (iv7 m)) hn)))) ?_;refine zi0 (zj1 hl) ?_;refine zu0 (hE (p + 7) (l21 0x83818371173817 hm) _ _ ha) fun a ts2 b2 s2 hj=>?_;refine zg6 hj fun eq2 x2 a2=>?_;subst eq2;have hl2:=x2.keep hl (ix0 (iq3 h0.r_lt hi));refine zi0 (yp5 hl2 (l21 0x731381719000271047 hn)) ?_;refine zl0 ⟨rfl,m,l10 0x13711371,l++[b2],ts2,rfl,by rw [iq6];simp;exact ix9 (l21 0x73138171973813711 hn) (l21 0x73138171d81371173 hn),rfl,?_,(hx.trans x2).set hi,At.set h0 (hx.trans x2) a2 hi⟩;have:=zq0 hl2;simp [this]
theorem yf4 (hE:HE c E clo F) (hm:F + 8<=m) (h:At c σ (.sg .lp::ts)):Sx (wv1 E ts) (zz4 m (.fn "read_part") [.loc c.r,clo] σ) (Jv c σ):=by
 refine Classical.byContradiction fun ng=>?_;obtain ⟨p,rfl⟩:∃ p,m=p + 8:=⟨m - 8,(iq8 (l21 0x783811783 hm)).symm⟩;refine el11 h fun k hk e=>?_;refine ng (Stp.fn ?_);refine zi0 (zz1 hk.rd rfl rfl) ?_;refine zi0 (zp7 hk (zx1 e .lp)) ?_;refine ya0 (hE (p + 7) (l21 0x83818371173817 hm) _ _ (At.next hk e)) fun a ts1 b s1 hj=>?_;obtain ⟨rfl,x1,k1,h1,e1⟩:=hj;have y1:Adv c.r σ s1:=Adv.mv.trans x1;refine zi0 (zz1 h1.rd rfl rfl) ?_;cases q:hd .colon ts1 with
 | false=>exact yc0 (wv6 (w:=[]) h1 ((zx1 e1 .colon).trans q) (by decide))
 | true=>
  refine zi0 (zp7 h1 ((zx1 e1 .colon).trans q)) ?_;cases ts1 with
  | nil=>cases q
  | cons t r=>
   refine el11 (At.next h1 e1) fun k2 h2 e2=>?_;refine zi0 (zz1 h2.rd rfl rfl) ?_;refine zi0 (zk5 h2) ?_;show Stp (if hd .rp r=true then Rd.ok (.tup [b,.none]) r.tail else (E r).bind fun l ts=>need .rp (.tup [b,l]) ts) _ _;cases q2:hd .rp r with
   | true=>
    refine zn0 rfl ((zx1 e2 .rp).trans q2) ?_;refine zi0 (zz1 h2.rd rfl rfl) ?_;refine zi0 (zp7 h2 ((zx1 e2 .rp).trans q2)) ?_;cases r with
    | nil=>cases q2
    | cons t2 r2=>exact zl0 ⟨rfl,(y1.trans Adv.mv).trans Adv.mv,At.next h2 e2⟩
   | false=>
    refine zm0 rfl ((zx1 e2 .rp).trans q2) ?_;refine ya0 (hE (p + 7) (l21 0x83818371173817 hm) _ _ ⟨k2,h2,e2⟩) fun a ts3 b3 s3 hj=>?_;obtain ⟨rfl,x3,k3,h3,e3⟩:=hj;refine zi0 (zz1 h3.rd rfl rfl) ?_;unfold need;cases q3:hd .rp ts3 with
    | false=>exact yc0 (wv6 (w:=[]) h3 ((zx1 e3 .rp).trans q3) (by decide))
    | true=>
     refine zi0 (zp7 h3 ((zx1 e3 .rp).trans q3)) ?_;cases ts3 with
     | nil=>cases q3
     | cons t3 r3=>exact zl0 ⟨rfl,((y1.trans Adv.mv).trans x3).trans Adv.mv,At.next h3 e3⟩
end
section
variable {c:Cx} {σ σ' σ0:zz0} {ts:List Tk} {k m n F:Nat} {clo:V} {E:List Tk->Rd V}
theorem pn_lp (h:pn ts=true):∃ r,ts=.sg .lp::r:=by
 cases ts with
 | nil=>nomatch h
 | cons t r=>exact xw7 (bb (a:=yq9 .lp t) h).1
theorem hd_lp {s:Sg} (h:hd s ts=true):∃ r,ts=.sg s::r:=xw7 h
theorem uj6 (h:At c σ ts):Sx (xb6 ts) (zz4 (n + 5) (.fn "Reader.name") [.loc c.r] σ) (Jv c σ):=by
 obtain ⟨k,h,e⟩:=h;cases ts with
 | nil=>exact ⟨_,uj7 h e rfl⟩
 | cons t l=>
  cases t with
  | nm x=>exact ⟨_,_,name_yes h e,rfl,Adv.mv,At.next h e⟩
  | _=>exact ⟨_,uj7 h e rfl⟩
noncomputable def hdQ:List Tk->Bool
 | t::_=>isQ t
 | []=>false
theorem quals_no (h:c.R σ k) (e:c.tk.drop k=ts) (q:hdQ ts=false):∃ σ',zz4 (n + 6) (.fn "Reader.one_of") [.loc c.r,.str (S "OF IN")] σ=.ok (.str (S "")) σ'/\Adv c.r σ σ'/\c.R σ' k:=by
 refine ux8 h ?_ ?_
 ·rw [yx0 e]
  cases ts with
  | nil=>rfl
  | cons t l=>cases t with
   | nm x=>cases x <;> rfl
   | of_=>cases q
   | in_=>cases q
   | _=>rfl
 ·rw [yx0 e]
  cases ts with
  | nil=>rfl
  | cons t l=>cases t with
   | nm x=>cases x <;> rfl
   | of_=>cases q
   | in_=>cases q
   | _=>rfl
theorem uq4 {t:Tk} {l:List Tk} (h:c.R σ k) (e:c.tk.drop k=t::l) (q:isQ t=true):∃ σ' w,zz4 (n + 6) (.fn "Reader.one_of") [.loc c.r,.str (S "OF IN")] σ=.ok (.str w) σ'/\(w == S "")=false/\Adv c.r σ σ'/\c.R σ' (k + 1):=by
 have hq:zk6 c.toks k (S "OF")=true\/zk6 c.toks k (S "OF")=false/\zk6 c.toks k (S "IN")=true:=by
  refine (yx0 e _).symm▸?_;refine (yx0 e _).symm▸?_;cases t with
  | of_=>exact .inl rfl
  | in_=>exact .inr ⟨rfl,rfl⟩
  | _=>cases q
 rcases vk8 h hq with ⟨σ',⟨h1,h2,h3⟩|⟨h1,h2,h3⟩⟩
 ·exact ⟨σ',_,h1,rfl,h2,h3⟩
 ·exact ⟨σ',_,h1,rfl,h2,h3⟩
theorem read_ref (hE:HE c E clo F) (hm:F + 9<=m) (h0:At c σ ts):Sx (pRef E ts) (zz4 m (.fn "read_ref") [.loc c.r,clo] σ) (Jv c σ):=by
 refine Classical.byContradiction fun ng=>?_;obtain ⟨p,rfl⟩:∃ p,m=p + 9:=⟨m - 9,(iq8 (l21 0x793811793 hm)).symm⟩;refine el11 (id h0) fun k hk e=>?_;refine ng (Stp.fn ?_);refine zi0 (zz1 hk.rd rfl rfl) ?_;refine ya0 (uj6 h0) fun a ts1 x s1 hj=>?_;refine zg6 hj fun eq1 x1 a1=>?_;subst eq1;refine ya0 (J':=fun qs ts y s=>y=(.next,([("reader",.loc c.r),("read_expr",clo),("name",x),("qualifiers",.loc s1.length)]:Rho))/\s[s1.length]?=some (.lst qs)/\qs.length<=100/\Adv c.r σ s/\At c s ts) (Sx.while_ (Sx.loop (I:=fun m p ρ s=>∃ l ts,p=yy3 m l ts/\l.length + m=8/\ρ=([("reader",.loc c.r),("read_expr",clo),("name",x),("qualifiers",.loc s1.length)]:Rho)/\s[s1.length]?=some (.lst l)/\Adv c.r σ s/\At c s ts) ?step LF 8 _ _ _ ?init (by decide))) ?fin
 case init=>exact ⟨[],ts1,rfl,rfl,rfl,zq4,x1.trans Adv.grow,a1.grow⟩
 case step=>
  rintro m p ρ s ⟨l,ts,rfl,hn,rfl,hl,hx,ha⟩;have hi:σ.length<=s1.length:=x1.len;refine el11 (id ha) fun k2 h2 e2=>?_;cases m with
  | zero=>exact .inl rfl
  | succ m=>
   cases q:hdQ ts with
   | false=>
    obtain ⟨s3,h3,x3,h4⟩:=quals_no h2 e2 q;refine .inr (.inl ⟨l,ts,?_,?_⟩)
    ·cases ts with
     | nil=>rfl
     | cons t r=>show (if isQ t=true then _ else _)=_;rw [if_neg (by rw [show isQ t=false from q];decide)]
    ·refine za0 (zz1 h2.rd rfl rfl) ?_
     refine za0 h3 (Rn.go 2 ?_);refine zc0 ?_;exact ⟨rfl,rfl,x3.keep hl (ix0 (iq3 h0.r_lt hi)),l21 0x831381719000006447 hn,hx.trans x3,⟨k2,h4,e2⟩⟩
   | true=>
    cases ts with
    | nil=>cases q
    | cons t r=>
     refine hid fun G kG=>?_;obtain ⟨s3,w,h3,hw,x3,h4⟩:=uq4 h2 e2 q;refine kG ?_;refine .inr (.inr ⟨xb6 r,fun v ts=>yy3 m (l++[v]) ts,?_,?_⟩)
     ·exact if_pos (show isQ t=true from q)
     ·refine za0 (zz1 h2.rd rfl rfl) ?_
      have hl3:=x3.keep hl (ix0 (iq3 h0.r_lt hi));refine za0 h3 (Rn.go 1 ?_);refine ze0 rfl (by rw [ij9];exact hw) ?_;refine zc0 ⟨rfl,?_⟩;refine zi0 (zj1 hl3) ?_;refine zi0 (zz1 h4.rd rfl rfl) ?_;refine zu0 (uj6 ⟨k2 + 1,h4,wq6 e2⟩) fun a ts4 b4 s4 hj=>?_;refine zg6 hj fun eq2 x4 a4=>?_;subst eq2;have hl4:=x4.keep hl3 (ix0 (iq3 h0.r_lt hi));refine zi0 (yp5 hl4 (l21 0x831381719000271047 hn)) ?_;refine zl0 ⟨rfl,m,l10 0x13711371,l++[b4],ts4,rfl,by rw [iq6];simp;exact ix9 (l21 0x83138171983813711 hn) (l21 0x83138171d81371183 hn),rfl,?_,((hx.trans x3).trans x4).set hi,At.set h0 ((hx.trans x3).trans x4) a4 hi⟩;have:=zq0 hl4;simp [this]
 case fin=>
  rintro qs ts y s ⟨rfl,hl,hn,hx,ha⟩;have hi:σ.length<=s1.length:=x1.len;refine el11 (id ha) fun k2 h2 e2=>?_;refine zi0 (zz1 h2.rd rfl rfl) ?_;refine zi0 (zk5 h2) ?_;cases q:hd .lp ts with
  | false=>
   show Stp (yy2 E x qs (.tup []) ts) _ _;refine zm0 rfl ((zx1 e2 .lp).trans q) ?_;unfold yy2;cases q1:pn ts with
   | false=>
    refine zi0 (yv2 h2 e2) ?_;refine zm0 rfl q1 ?_;refine zi0 (yv9 hl ((ld ‹_› rfl))) ?_;exact zl0 ⟨rfl,hx,⟨_,h2,e2⟩⟩
   | true=>
    refine zi0 (yv2 h2 e2) ?_;refine zn0 rfl q1 ?_;obtain ⟨r1,rfl⟩:=pn_lp q1;refine ya0 (yf4 hE (l21 0x93819371183818371 hm) ⟨_,h2,e2⟩) fun a tz bz sz hj=>?_;obtain ⟨rfl,xz,az⟩:=hj;have hlz:=xz.keep hl (ix0 (iq3 h0.r_lt hi));refine zi0 (yv9 hlz ((ld ‹_› rfl))) ?_;exact zl0 ⟨rfl,hx.trans xz,az⟩
  | true=>
   refine zn0 rfl ((zx1 e2 .lp).trans q) ?_;refine zi0 (yv2 h2 e2) ?_;cases q2:pn ts with
   | true=>
    refine Stp.go 1 ?_;refine zi0 (yv2 h2 e2) ?_;refine zn0 rfl q2 ?_;obtain ⟨r3,rfl⟩:=pn_lp q2;have hz:yy2 E x qs (.tup []) (.sg .lp::r3)=(wv1 E r3).bind fun part ts=>.ok (yk0 x qs (.tup []) part) ts:=by unfold yy2;rw [if_pos q2];rfl
    show Stp (yy2 E x qs (.tup []) (.sg .lp::r3)) _ _;rw [hz];refine ya0 (yf4 hE (l21 0x93819371183818371 hm) ⟨_,h2,e2⟩) fun a tz bz sz hj=>?_;refine zg6 hj fun eq6 xz az=>?_;subst eq6;have hlz:=xz.keep hl (ix0 (iq3 h0.r_lt hi));refine zi0 (yv9 hlz ((ld ‹_› rfl))) ?_;exact zl0 ⟨rfl,hx.trans xz,az⟩
   | false=>
    obtain ⟨r4,rfl⟩:=hd_lp q;refine Stp.go 1 ?_;refine ya0 (uz8 hE (l21 0x93819371183818371 hm) ⟨_,h2,e2⟩) fun a ts5 b5 s5 hj=>?_;obtain ⟨rfl,x5,k5,h5,e5⟩:=hj;have hl5:=x5.keep hl (ix0 (iq3 h0.r_lt hi));unfold yy2;cases q6:pn ts5 with
    | false=>
     show Stp (Rd.ok (yk0 x qs b5 .none) ts5) _ _;refine zi0 (yv2 h5 e5) ?_;refine zm0 rfl q6 ?_;refine zi0 (yv9 hl5 (l11 0x0000064471000271047 hn)) ?_;exact zl0 ⟨rfl,(hx.trans x5),⟨_,h5,e5⟩⟩
    | true=>
     refine zi0 (yv2 h5 e5) ?_;refine zn0 rfl q6 ?_;obtain ⟨r6,rfl⟩:=pn_lp q6;show Stp ((wv1 E r6).bind fun part ts=>.ok (yk0 x qs b5 part) ts) _ _;refine ya0 (yf4 hE (l21 0x93819371183818371 hm) ⟨_,h5,e5⟩) fun a tz bz sz hj=>?_;obtain ⟨rfl,xz,az⟩:=hj;have hlz:=xz.keep hl5 (ix0 (iq3 h0.r_lt hi));refine zi0 (yv9 hlz (l11 0x0000064471000271047 hn)) ?_;exact zl0 ⟨rfl,(hx.trans x5).trans xz,az⟩
end
section
variable {c:Cx} {σ σ' σ0:zz0} {ts:List Tk} {k m n F:Nat} {clo:V} {E:List Tk->Rd V}
theorem dec_ok (x:Nb):zz4 (n + 3) (.fn "read_decimal") [.str (S x.txt)] σ=.ok (.tup [.int (nbV x).1,.int (nbV x).2]) σ:=by
 cases x
 ·exact dec_0
 ·exact dec_5
 ·exact dec_25
 ·exact dec_75
theorem vb8 {x:Nb} {l:List Tk} (h:c.R σ k) (e:c.tk.drop k=.nb x::l):zz4 (n + 6) (.fn "Reader.signed") [.loc c.r] σ=.ok (.tup [.int (nbV x).1,.int (nbV x).2]) (mv σ c.r c.tl (k + 1)):=by
 refine zo0 ?_;refine za0 (zz1 h.rd rfl rfl) ?_;refine za0 (yw7 rfl h e) (Rn.go 1 ?_);refine za0 (zz1 h.rd rfl rfl) ?_;refine za0 (yk2 h (zx1 e .minus)) (Rn.go 1 ?_);refine za0 (zz1 h.rd rfl rfl) ?_;refine za0 (yk2 h (zx1 e .plus)) ?_;refine hid fun G kG=>?_;refine el33 (zp5 h (zh3 e)) fun l at' b h1 h2 h3 h4=>?_;refine kG ?_;refine za0 (zz1 h.rd rfl rfl) ?_;refine za0 (h1 _) ?_;refine za0 (zz6 h3 rfl rfl rfl) ?_;refine za0 (dec_ok x) (Rn.go 1 ?_);refine zc0 ?_;exact ⟨rfl,rfl⟩
theorem uh7 (h:c.R σ k) (e:c.tk.drop k=ts):zz4 (n + 4) (.fn "read_figure") [.loc c.r] σ=.ok .none σ:=by
 refine zo0 ?_;refine za0 (zz1 h.rd rfl rfl) ?_;refine za0 (yq5 h) ?_;have go:∀ t l,ts=t::l->t.tok.1=S "word"->∃ l' at' b,(∀ n,zz4 (n + 2) (.fn "Reader.peek") [.loc c.r] σ=.ok (.loc l') σ)/\σ[l']?=some (.inst "Token" [("kind",.str t.tok.1),("worth",.str t.tok.2),("at",at'),("is_in_a",b)]):=by
  rintro t l rfl ht;refine hid fun G kG=>?_;refine el32 (yx3 h (zh3 e)) fun l' at' b h1 h2 h3=>?_;refine kG ?_;exact ⟨l',at',b,h1,h2⟩
 cases ts with
 | nil=>refine zd0 rfl (yj1 e _) ?_;exact zc0 ⟨rfl,rfl⟩
 | cons t l=>
  cases t with
  | sg s=>refine zd0 rfl (zv2 e _) ?_;exact zc0 ⟨rfl,rfl⟩
  | nb s=>refine zd0 rfl (zv2 e _) ?_;exact zc0 ⟨rfl,rfl⟩
  | of_=>
   refine ze0 rfl (zv2 e _) ?_;obtain ⟨l',at',b,h1,h2⟩:=go _ _ rfl rfl;refine za0 (zz1 h.rd rfl rfl) ?_;refine za0 (h1 _) ?_;refine za0 (zz6 h2 rfl rfl rfl) (Rn.go 1 ?_);refine zc0 ?_;exact ⟨rfl,rfl⟩
  | in_=>
   refine ze0 rfl (zv2 e _) ?_;obtain ⟨l',at',b,h1,h2⟩:=go _ _ rfl rfl;refine za0 (zz1 h.rd rfl rfl) ?_;refine za0 (h1 _) ?_;refine za0 (zz6 h2 rfl rfl rfl) (Rn.go 1 ?_);refine zc0 ?_;exact ⟨rfl,rfl⟩
  | nm x=>
   refine ze0 rfl (zv2 e _) ?_;refine hid fun G kG=>?_;refine el31 (go _ _ rfl rfl) fun l' at' b h1 h2=>?_;refine kG ?_;refine za0 (zz1 h.rd rfl rfl) ?_;refine za0 (h1 _) ?_;refine za0 (zz6 h2 rfl rfl rfl) ?_;refine za0 (v:=.bool true) (σ:=σ) (by cases x <;> rfl) ?_;exact zc0 ⟨rfl,rfl⟩
noncomputable def hdNb (l:List Tk):Bool:=hdE l false fun t U=>tkE t (fun U=>false) false false (fun U=>true) fun U=>false
theorem hdNb_eq {l:List Tk} (h:hdNb l=true):∃ x r,l=.nb x::r:=by
 cases l with
 | nil=>nomatch h
 | cons t r=>cases t with
  | nb x=>exact ⟨x,r,rfl⟩
  | _=>nomatch h
theorem wz2 (hp:hop pm ts=none) (h:c.R σ k) (e:c.tk.drop k=ts):zz4 (n + 5) (.fn "Reader.is_number") [.loc c.r] σ=.ok (.bool (hdNb ts)) σ:=by
 rw [yw7 hp h e];cases ts with
 | nil=>rfl
 | cons t l=>cases t <;> rfl
theorem xb4 (hE:HE c E clo F) (hm:F + 10<=m) (hp:hop pm ts=none) (h0:At c σ ts):Sx (ux6 E ts) (zz4 m (.fn "read_operand") [.loc c.r,clo] σ) (Jv c σ):=by
 obtain ⟨p,rfl⟩:∃ p,m=p + 10:=⟨m - 10,(iq8 (l21 0x7a38117a3 hm)).symm⟩;refine el11 (id h0) fun k h e=>?_;refine Stp.fn ?_;refine zi0 (zz1 h.rd rfl rfl) ?_;refine zi0 (wz2 hp h e) ?_;have rest:(∀ x l,ts≠Tk.nb x::l)->ux6 E ts=pRef E ts:=by
  intro hx;cases ts with
  | nil=>rfl
  | cons t l=>cases t with
   | nb x=>exact absurd rfl (hx x l)
   | _=>rfl
 cases q:hdNb ts with
 | true=>
  refine zn0 rfl rfl ?_;refine el20 (hdNb_eq q) fun x r eq=>?_;subst eq;refine zi0 (zz1 h.rd rfl rfl) ?_;refine zi0 (vb8 h e) ?_;exact zl0 ⟨rfl,Adv.mv,At.next h e⟩
 | false=>
  refine zm0 rfl rfl ?_;rw [rest (by rintro x l rfl;cases q)];refine zi0 (zz1 h.rd rfl rfl) ?_;refine zi0 (yq5 h) ?_;have hl:zw8 c.toks k (S "literal")=false:=by
   cases ts with
   | nil=>exact yj1 e _
   | cons t l=>rw [zv2 e];cases t <;> rfl
  refine zm0 rfl hl ?_;refine zi0 (zz1 h.rd rfl rfl) ?_;have hw:zk6 c.toks k (S "ALL")=false:=by
   rw [yx0 e];cases ts with
   | nil=>rfl
   | cons t l=>cases t with
    | nm x=>cases x <;> rfl
    | _=>rfl
  have h2:=h.grow (ext:=[.lst [.str (S "ALL")]]);refine zi0 (zh4 vb4 h hw) ?_;refine Stp.go 1 ?_;refine zi0 (uh7 h2 e) ?_;refine Stp.go 2 ?_;refine zu0 (read_ref hE (l21 0xa381a371193819371 hm) ⟨k,h2,e⟩) fun a ts1 b s1 hj=>?_;exact zl0 ⟨hj.1,Adv.grow.trans hj.2.1,hj.2.2⟩
end
noncomputable def zv1 (ops:List Sg) (P:List Tk->Rd V):Nat->V->List Tk->Rd V
 | 0,_,_=>.out
 | m + 1,v,ts=>match hop ops ts with
  | some s=>(P ts.tail).bind fun w ts=>zv1 ops P m (wf0 s v w) ts
  | none=>.ok v ts
noncomputable def pLv (ops:List Sg) (P:List Tk->Rd V) (m:Nat) (ts:List Tk):Rd V:=(P ts).bind fun v ts=>zv1 ops P m v ts
noncomputable def xv4 (Sm:Nat->List Tk->Rd V) (d:Nat) (ts:List Tk):Rd V:=match hop pm ts with
 | some _=>.no
 | none=>if hd .lp ts then (Sm (d + 1) ts.tail).bind fun v ts=>need .rp v ts else ux6 (Sm (d + 1)) ts
noncomputable def vh5 (Sm:Nat->List Tk->Rd V) (d:Nat):List Tk->Rd V:=pLv pw (xv4 Sm d) 8
noncomputable def wp5 (l:List Tk):Bool:=hdE l false fun t r=>tkE t (fun U=>false) false false (fun U=>!hd .pow r) fun U=>false
noncomputable def negNum:V->V
 | .tup [_,.tup [.int x,.int y]]=>uj0 (-x,y)
 | _=>.none
noncomputable def vp3 (s:Sg) (own:Bool) (v:V):V:=match s with
 | .minus=>if own then negNum v else negV v
 | _=>v
noncomputable def xv5 (Sm:Nat->List Tk->Rd V) (d:Nat) (ts:List Tk):Rd V:=match hop pm ts with
 | none=>vh5 Sm d ts
 | some s=>(vh5 Sm d ts.tail).bind fun v ts'=>.ok (vp3 s (wp5 ts.tail) v) ts'
noncomputable def ux5 (Sm:Nat->List Tk->Rd V) (d:Nat):List Tk->Rd V:=pLv ts2 (xv5 Sm d) 8
noncomputable def xp1 (Sm:Nat->List Tk->Rd V) (d:Nat):List Tk->Rd V:=pLv pm (ux5 Sm d) 8
noncomputable def pS:Nat->Nat->List Tk->Rd V
 | 0,_,_=>.out
 | n + 1,d,ts=>if d<=20 then xp1 (pS n) d ts else .out
section
variable {c:Cx} {σ σ' σ0:zz0} {ts:List Tk} {k m n F d:Nat} {Sm:Nat->List Tk->Rd V}
theorem clo_sx {ps:Arguments} {b:Expr} {sc:Scope} {ns:List Str} {vs:List V} {ρ:Rho} {args:List V} {p:Rd V} {J:V->List Tk->V->zz0->Prop} (h1:(vv1 ps sc&&ns.all fun x=>sc.names.lookup x == some .free)=true) (h2:yp4 ps args=some ρ)
 (h:Stp p (layK (ρ++ns.zip vs) fun ρ=>rE (zz4 n) KD sc ρ b σ) J):Sx p (zz4 (n + 1) (.clo ps b sc ns vs) args σ) J:=by
 have e:zz4 (n + 1) (.clo ps b sc ns vs) args σ=Mine.evE (zz4 n) KD sc (ρ++ns.zip vs) b σ:=by
  refine (if_neg (by rw [h1];decide)).trans ?_;rw [h2];rfl
 rw [e];rw [uw4] at h;exact Stp.evE h
noncomputable def HS (c:Cx) (Sm:Nat->List Tk->Rd V) (F:Nat):Prop:=∀ d m,F<=m->∀ σ ts,At c σ ts->Sx (Sm d ts) (zz4 m (.fn "read_sum") [.loc c.r,.int (d:Nat)] σ) (Jv c σ)
noncomputable abbrev HF (c:Cx) (q:Str) (d:Nat) (P:List Tk->Rd V) (F:Nat):Prop:=∀ m,F<=m->∀ σ ts,At c σ ts->Sx (P ts) (zz4 m (.fn q) [.loc c.r,.int (d:Nat)] σ) (Jv c σ)
theorem xb3 (hS:HS c Sm F):HF c "read_primary" d (xv4 Sm d) (F + 12):=by
 intro m hm σ ts h0;obtain ⟨p,rfl⟩:∃ p,m=p + 12:=⟨m - 12,(iq8 (l21 0x7c38117c3 hm)).symm⟩;refine el11 (id h0) fun k h e=>?_;refine Stp.fn ?_;refine zi0 (zk4 (ops:=pm) (.inl rfl) h e) ?_;unfold xv4;cases q:hop pm ts with
 | some s=>
  refine Stp.go 1 ?_;refine zn0 rfl (by show (!(S s.txt == S ""))=true;rw [yg7];rfl) ?_;refine yc0 (σ:=σ) (yy6 (xw9 rfl ?_));refine zc0 ⟨_,_,zz1 h.rd rfl rfl,?_⟩;refine zc0 ?_;exact yh7 h
 | none=>
  refine Stp.go 2 ?_;refine zi0 (zz1 h.rd rfl rfl) ?_;show Stp (if hd .lp ts=true then (Sm (d + 1) ts.tail).bind fun v ts=>need .rp v ts else ux6 (Sm (d + 1)) ts) _ _;cases q2:hd .lp ts with
  | true=>
   obtain ⟨r,rfl⟩:=hd_lp q2;refine zi0 (xk0 h (zx1 e .lp)) ?_;refine Stp.go 2 ?_;refine ya0 (hS (d + 1) (p + 11) (l21 0xc381c3711b3817 hm) _ _ (At.next h e)) fun a ts1 b s1 hj=>?_;obtain ⟨rfl,x1,k1,h1,e1⟩:=hj;refine zi0 (zz1 h1.rd rfl rfl) ?_;unfold need;cases q3:hd .rp ts1 with
   | false=>exact yc0 (wv6 (w:=[]) h1 ((zx1 e1 .rp).trans q3) (by decide))
   | true=>
    obtain ⟨r1,rfl⟩:=hd_lp q3;refine zi0 (zp7 h1 (zx1 e1 .rp)) ?_;exact zl0 ⟨rfl,(Adv.mv.trans x1).trans Adv.mv,At.next h1 e1⟩
  | false=>
   refine zi0 (yk2 h ((zx1 e .lp).trans q2)) ?_;refine Stp.go 2 ?_;refine zu0 (xb4 (F:=F + 1) ?hE (l21 0xc381c3711b381a313711 hm) q h0) fun a ts1 b s1 hj=>zl0 hj;intro m hm σ ts ha;obtain ⟨p,rfl⟩:∃ p,m=p + 1:=⟨m - 1,(iq8 (l21 0x713811713 hm)).symm⟩;refine clo_sx rfl rfl ?_;refine Stp.go 1 ?_;exact zu0 (hS (d + 1) p (l21 0x13811371187 hm) _ _ ha) fun a ts1 b s1 hj=>zl0 hj
theorem vk2 {P:List Tk->Rd V} (hF:4<=F) (hP:HF c "read_primary" d P F):HF c "read_power" d (pLv pw P 8) (F + 1):=by
 intro m hm σ ts h0;obtain ⟨p,rfl⟩:∃ p,m=p + 5:=⟨m - 5,(iq8 (l22 0x7138118431753 hF hm)).symm⟩;refine Stp.fn ?_;refine ya0 (hP (p + 4) (l21 0x53811371143817 hm) _ _ h0) fun a ts1 b s1 hj=>?_;refine zg6 hj fun eq7 x1 a1=>?_;subst eq7;refine zu0 (J':=fun v ts y s=>(∃ ρ,y=(.next,ρ)/\(ρ=([("reader",.loc c.r),("depth",.int (d:Nat)),("found",v)]:Rho)))/\Adv c.r σ s/\At c s ts) (Sx.while_ (Sx.loop (I:=fun m p ρ s=>∃ v ts,p=zv1 pw P m v ts/\(ρ=([("reader",.loc c.r),("depth",.int (d:Nat)),("found",v)]:Rho))/\Adv c.r σ s/\At c s ts) ?step LF 8 _ _ _ ?init (by decide))) ?fin
 case init=>exact ⟨b,ts1,rfl,rfl,x1,a1⟩
 case fin=>
  rintro v ts y s ⟨⟨ρ,rfl,rfl⟩,hx,ha⟩;exact zl0 ⟨rfl,hx,ha⟩
 case step=>
  rintro m p ρ s ⟨v,ts,rfl,hρ,hx,ha⟩;refine el11 (id ha) fun k2 h2 e2=>?_;cases m with
  | zero=>exact .inl rfl
  | succ m=>
   cases q:hop pw ts with
   | none=>
    subst hρ;refine .inr (.inl ⟨v,ts,by simp only [zv1,q],?_⟩)
    ·refine za0 (zk4 (ops:=pw) (.inr (.inr rfl)) h2 e2) ?_
     refine (q).symm▸?_;refine Rn.go 2 (zc0 ?_);exact ⟨rfl,⟨_,rfl,rfl⟩,hx,ha⟩
   | some sg=>
    obtain ⟨r,rfl⟩:=yh5 q;have hsg:sg=.pow:=by cases sg <;> first|rfl|cases q
    refine el33 (zp5 h2 (zh3 e2)) fun l' at' b' h3 h4 h5 h6=>?_;refine .inr (.inr ⟨P r,fun w ts=>zv1 pw P m (wf0 sg v w) ts,by simp only [zv1,q];rfl,?_⟩);subst hρ;subst hsg
    ·refine za0 (zk4 (ops:=pw) (.inr (.inr rfl)) h2 e2) ?_
     refine Rn.go 1 ?_;refine ze0 rfl (by show (!(S Sg.pow.txt == S ""))=true;rw [yg7];rfl) ?_;refine zc0 ⟨rfl,?_⟩;refine zi0 (zz1 h2.rd rfl rfl) ?_;refine zi0 (h3 _) ?_;refine zu0 (hP (p + 4) (l21 0x53811371143817 hm) _ _ (At.next h2 e2)) fun a ts3 b3 s3 hj=>?_;refine zg6 hj fun eq9 x3 a3=>?_;subst eq9;exact zl0 ⟨rfl,m,l10 0x13711371,wf0 .pow v b3,ts3,rfl,rfl,(hx.trans Adv.mv).trans x3,a3⟩
end
section
variable {c:Cx} {σ σ' σ0:zz0} {ts:List Tk} {k m n F d:Nat} {Sm:Nat->List Tk->Rd V}
theorem xb2 {P:List Tk->Rd V} (hF:4<=F) (hP:HF c "read_factor" d P F):HF c "read_product" d (pLv ts2 P 8) (F + 1):=by
 intro m hm σ ts h0;obtain ⟨p,rfl⟩:∃ p,m=p + 5:=⟨m - 5,(iq8 (l22 0x7138118431753 hF hm)).symm⟩;refine Stp.fn ?_;refine ya0 (hP (p + 4) (l21 0x53811371143817 hm) _ _ h0) fun a ts1 b s1 hj=>?_;refine zg6 hj fun eq1 x1 a1=>?_;subst eq1;refine zu0 (J':=fun v ts y s=>(∃ ρ,y=(.next,ρ)/\(ρ=([("reader",.loc c.r),("depth",.int (d:Nat)),("found",v)]:Rho)\/∃ u,ρ=([("reader",.loc c.r),("depth",.int (d:Nat)),("found",v),("sign",u)]:Rho)))/\Adv c.r σ s/\At c s ts) (Sx.while_ (Sx.loop (I:=fun m p ρ s=>∃ v ts,p=zv1 ts2 P m v ts/\(ρ=([("reader",.loc c.r),("depth",.int (d:Nat)),("found",v)]:Rho)\/∃ u,ρ=([("reader",.loc c.r),("depth",.int (d:Nat)),("found",v),("sign",u)]:Rho))/\Adv c.r σ s/\At c s ts) ?step LF 8 _ _ _ ?init (by decide))) ?fin
 case init=>exact ⟨b,ts1,rfl,.inl rfl,x1,a1⟩
 case fin=>
  rintro v ts y s ⟨⟨ρ,rfl,rfl|⟨u,rfl⟩⟩,hx,ha⟩ <;> exact zl0 ⟨rfl,hx,ha⟩
 case step=>
  rintro m p ρ s ⟨v,ts,rfl,hρ,hx,ha⟩;refine el11 (id ha) fun k2 h2 e2=>?_;cases m with
  | zero=>exact .inl rfl
  | succ m=>
   cases q:hop ts2 ts with
   | none=>
    refine .inr (.inl ⟨v,ts,by simp only [zv1,q],?_⟩);rcases hρ with rfl|⟨u,rfl⟩
    ·refine za0 (zk4 (ops:=ts2) (.inr (.inl rfl)) h2 e2) ?_
     refine (q).symm▸?_;refine Rn.go 2 (zc0 ?_);exact ⟨rfl,⟨_,rfl,.inl rfl⟩,hx,ha⟩
    ·refine za0 (zk4 (ops:=ts2) (.inr (.inl rfl)) h2 e2) ?_
     refine (q).symm▸?_;refine Rn.go 2 (zc0 ?_);exact ⟨rfl,⟨_,rfl,.inr ⟨_,rfl⟩⟩,hx,ha⟩
   | some sg=>
    obtain ⟨r,rfl⟩:=yh5 q;refine el33 (zp5 h2 (zh3 e2)) fun l' at' b' h3 h4 h5 h6=>?_;refine .inr (.inr ⟨P r,fun w ts=>zv1 ts2 P m (wf0 sg v w) ts,by simp only [zv1,q];rfl,?_⟩);refine hid fun G kG=>?_;refine kG ?_;rcases hρ with rfl|⟨u,rfl⟩
    ·refine za0 (zk4 (ops:=ts2) (.inr (.inl rfl)) h2 e2) ?_
     refine (q).symm▸?_;refine Rn.go 1 ?_;refine ze0 rfl (by show (!(S sg.txt == S ""))=true;rw [yg7];rfl) ?_;refine zc0 ⟨rfl,?_⟩;refine zi0 (zz1 h2.rd rfl rfl) ?_;refine zi0 (h3 _) ?_;refine zi0 (zz6 h5 rfl rfl rfl) ?_;refine zu0 (hP (p + 4) (l21 0x53811371143817 hm) _ _ (At.next h2 e2)) fun a ts3 b3 s3 hj=>?_;refine Classical.byContradiction fun ng=>?_;refine zg6 hj fun eq3 x3 a3=>?_;subst eq3;exact ng (zl0 ⟨rfl,m,l10 0x13711371,wf0 sg v b3,ts3,rfl,.inr ⟨_,rfl⟩,(hx.trans Adv.mv).trans x3,a3⟩)
    ·refine za0 (zk4 (ops:=ts2) (.inr (.inl rfl)) h2 e2) ?_
     rw [q];refine Rn.go 1 ?_;refine ze0 rfl (by show (!(S sg.txt == S ""))=true;rw [yg7];rfl) ?_;refine zc0 ⟨rfl,?_⟩;refine zi0 (zz1 h2.rd rfl rfl) ?_;refine zi0 (h3 _) ?_;refine zi0 (zz6 h5 rfl rfl rfl) ?_;refine zu0 (hP (p + 4) (l21 0x53811371143817 hm) _ _ (At.next h2 e2)) fun a ts3 b3 s3 hj=>?_;obtain ⟨rfl,x3,a3⟩:=hj;exact zl0 ⟨rfl,m,l10 0x13711371,wf0 sg v b3,ts3,rfl,.inr ⟨_,rfl⟩,(hx.trans Adv.mv).trans x3,a3⟩
theorem read_sum {P:List Tk->Rd V} (hF:4<=F) (hd20:d<=20) (hP:HF c "read_product" d P F):HF c "read_sum" d (pLv pm P 8) (F + 1):=by
 intro m hm σ ts h0;obtain ⟨p,rfl⟩:∃ p,m=p + 5:=⟨m - 5,(iq8 (l22 0x7138118431753 hF hm)).symm⟩;refine Stp.fn ?_;refine Stp.go 1 ?_;refine zm0 rfl (decide_eq_false (iv2.mpr (ix6.mpr hd20))) ?_;refine ya0 (hP (p + 4) (l21 0x53811371143817 hm) _ _ h0) fun a ts1 b s1 hj=>?_;refine zg6 hj fun eq7 x1 a1=>?_;subst eq7;refine zu0 (J':=fun v ts y s=>(∃ ρ,y=(.next,ρ)/\(ρ=([("reader",.loc c.r),("depth",.int (d:Nat)),("found",v)]:Rho)\/∃ u,ρ=([("reader",.loc c.r),("depth",.int (d:Nat)),("found",v),("sign",u)]:Rho)))/\Adv c.r σ s/\At c s ts) (Sx.while_ (Sx.loop (I:=fun m p ρ s=>∃ v ts,p=zv1 pm P m v ts/\(ρ=([("reader",.loc c.r),("depth",.int (d:Nat)),("found",v)]:Rho)\/∃ u,ρ=([("reader",.loc c.r),("depth",.int (d:Nat)),("found",v),("sign",u)]:Rho))/\Adv c.r σ s/\At c s ts) ?step LF 8 _ _ _ ?init (by decide))) ?fin
 case init=>exact ⟨b,ts1,rfl,.inl rfl,x1,a1⟩
 case fin=>
  rintro v ts y s ⟨⟨ρ,rfl,rfl|⟨u,rfl⟩⟩,hx,ha⟩ <;> exact zl0 ⟨rfl,hx,ha⟩
 case step=>
  rintro m p ρ s ⟨v,ts,rfl,hρ,hx,ha⟩;refine el11 (id ha) fun k2 h2 e2=>?_;cases m with
  | zero=>exact .inl rfl
  | succ m=>
   cases q:hop pm ts with
   | none=>
    refine .inr (.inl ⟨v,ts,by simp only [zv1,q],?_⟩);rcases hρ with rfl|⟨u,rfl⟩
    ·refine za0 (zk4 (ops:=pm) (.inl rfl) h2 e2) ?_
     refine (q).symm▸?_;refine Rn.go 2 (zc0 ?_);exact ⟨rfl,⟨_,rfl,.inl rfl⟩,hx,ha⟩
    ·refine za0 (zk4 (ops:=pm) (.inl rfl) h2 e2) ?_
     refine (q).symm▸?_;refine Rn.go 2 (zc0 ?_);exact ⟨rfl,⟨_,rfl,.inr ⟨_,rfl⟩⟩,hx,ha⟩
   | some sg=>
    obtain ⟨r,rfl⟩:=yh5 q;refine el33 (zp5 h2 (zh3 e2)) fun l' at' b' h3 h4 h5 h6=>?_;refine .inr (.inr ⟨P r,fun w ts=>zv1 pm P m (wf0 sg v w) ts,by simp only [zv1,q];rfl,?_⟩);refine hid fun G kG=>?_;refine kG ?_;rcases hρ with rfl|⟨u,rfl⟩
    ·refine za0 (zk4 (ops:=pm) (.inl rfl) h2 e2) ?_
     refine (q).symm▸?_;refine Rn.go 1 ?_;refine ze0 rfl (by show (!(S sg.txt == S ""))=true;rw [yg7];rfl) ?_;refine zc0 ⟨rfl,?_⟩;refine zi0 (zz1 h2.rd rfl rfl) ?_;refine zi0 (h3 _) ?_;refine zi0 (zz6 h5 rfl rfl rfl) ?_;refine zu0 (hP (p + 4) (l21 0x53811371143817 hm) _ _ (At.next h2 e2)) fun a ts3 b3 s3 hj=>?_;refine Classical.byContradiction fun ng=>?_;refine zg6 hj fun eq9 x3 a3=>?_;subst eq9;exact ng (zl0 ⟨rfl,m,l10 0x13711371,wf0 sg v b3,ts3,rfl,.inr ⟨_,rfl⟩,(hx.trans Adv.mv).trans x3,a3⟩)
    ·refine za0 (zk4 (ops:=pm) (.inl rfl) h2 e2) ?_
     rw [q];refine Rn.go 1 ?_;refine ze0 rfl (by show (!(S sg.txt == S ""))=true;rw [yg7];rfl) ?_;refine zc0 ⟨rfl,?_⟩;refine zi0 (zz1 h2.rd rfl rfl) ?_;refine zi0 (h3 _) ?_;refine zi0 (zz6 h5 rfl rfl rfl) ?_;refine zu0 (hP (p + 4) (l21 0x53811371143817 hm) _ _ (At.next h2 e2)) fun a ts3 b3 s3 hj=>?_;obtain ⟨rfl,x3,a3⟩:=hj;exact zl0 ⟨rfl,m,l10 0x13711371,wf0 sg v b3,ts3,rfl,.inr ⟨_,rfl⟩,(hx.trans Adv.mv).trans x3,a3⟩
end
section
variable {c:Cx} {σ σ' σ0:zz0} {ts:List Tk} {k m n F d:Nat} {Sm:Nat->List Tk->Rd V}
theorem hop_pw (h:hd .pow ts=false):hop pw ts=none:=by
 cases ts with
 | nil=>rfl
 | cons t l=>cases t with
  | sg s=>cases s <;> first|rfl|cases h
  | _=>rfl
theorem wb8 {x:Nb} {r:List Tk} (h:hd .pow r=false):vh5 Sm d (.nb x::r)=.ok (uj0 (nbV x)) r:=by
 show zv1 pw (xv4 Sm d) 8 (uj0 (nbV x)) r=_;simp only [zv1,hop_pw h]
theorem not_pow (t:Tk) (h:yq9 .pow t=false):(t.tok.1 == S "sign")=false\/(t.tok.1 == S "sign")=true/\(t.tok.2 == S "**")=false:=by
 cases t with
 | sg s=>cases s <;> first|exact .inr ⟨rfl,rfl⟩|cases h
 | _=>exact .inl rfl
theorem lone_eq {l:List Tk} (h:wp5 l=true):∃ x r,l=.nb x::r/\hd .pow r=false:=by
 cases l with
 | nil=>nomatch h
 | cons t r=>cases t with
  | nb x=>exact ⟨x,r,rfl,(ij9 _).mp h⟩
  | _=>nomatch h
theorem lone_ok (h:c.R σ k) (e:c.tk.drop k=ts):zz4 (n + 3) (.fn "is_lone_number") [.loc c.r] σ=.ok (.bool (wp5 ts)) σ:=by
 refine zo0 ?_;refine za0 (zz1 h.rd rfl rfl) ?_;cases ts with
 | nil=>
  refine za0 (xb9 h (vf0 e)) ?_;refine za0 (zz1 h.rd rfl rfl) ?_;refine za0 (yx4 (a:=1) h (yz3 e 1)) (Rn.go 2 ?_);refine zc0 ?_;exact ⟨rfl,rfl⟩
 | cons t l=>
  refine el32 (yx3 h (zh3 e)) fun l1 at1 b1 h1 h2 h3=>?_;refine za0 (h1 _) ?_;refine za0 (zz1 h.rd rfl rfl) ?_;have nonum:(t.tok.1 == S "number")=false->wp5 (t::l)=false:=fun q=>by
   cases t with
   | nb x=>cases q
   | _=>rfl
  cases q:t.tok.1 == S "number" with
  | false=>
   refine (nonum q).symm▸?_;have hg:∃ w,∀ n,zz4 (n + 2) (.fn "Reader.peek") [.loc c.r,.int (1:Nat)] σ=.ok w σ:=⟨_,fun n=>wk8 h⟩;refine el10 hg fun w hw=>?_;refine za0 (hw _) (Rn.go 2 ?_);refine za0 (zz6 h2 rfl rfl rfl) (Rn.go 1 ?_);refine ze0 rfl (by rw [ij9];exact q) ?_;exact zc0 ⟨rfl,rfl⟩
  | true=>
   cases t with
   | nb x=>
    cases l with
    | nil=>
     refine za0 (yx4 (a:=1) h (yz3 e 1)) (Rn.go 2 ?_);refine za0 (zz6 h2 rfl rfl rfl) (Rn.go 4 ?_);refine zc0 ?_;exact ⟨rfl,rfl⟩
    | cons t2 l2=>
     refine el32 (zv0 (a:=1) h (yz3 e 1)) fun l3 at3 b3 h4 h5 h6=>?_;refine za0 (h4 _) (Rn.go 2 ?_);refine za0 (zz6 h2 rfl rfl rfl) (Rn.go 4 ?_);refine za0 (zz6 h5 rfl rfl rfl) ?_;refine za0 rfl ?_;refine (?_:Rn _ fun a s=>a=V.bool (!yq9 .pow t2)/\s=σ);cases q2:yq9 .pow t2 with
     | true=>
      have ht:t2=.sg .pow:=by
       cases t2 with
       | sg s=>cases s <;> first|rfl|cases q2
       | _=>cases q2
      subst ht;refine Rn.go 1 ?_;refine za0 (zz6 h5 rfl rfl rfl) (Rn.go 1 ?_);refine zc0 ?_;exact ⟨rfl,rfl⟩
     | false=>
      rcases not_pow t2 q2 with q3|⟨q3,q4⟩
      ·refine ze0 rfl (by rw [ij9];exact q3) ?_
       exact zc0 ⟨by show V.bool (!(t2.tok.1 == S "sign"))=_;rw [q3],rfl⟩
      ·refine zd0 rfl (by rw [Bool.not_eq_false'];exact q3) ?_
       refine za0 (zz6 h5 rfl rfl rfl) (Rn.go 1 ?_);refine zc0 ?_;exact ⟨by show V.bool (!(t2.tok.2 == S "**"))=_;rw [q4],rfl⟩
   | _=>cases q
theorem vv2 {x y:Int}:zz4 (n + 1) (.fn "negated") [.tup [.int x,.int y]] σ=.ok (.tup [.int (-x),.int y]) σ:=by
 refine zo0 ?_;refine Rn.go 3 (zc0 ?_);exact ⟨rfl,rfl⟩
set_option tactic.hygienic true in
theorem wk6 (hF:4<=F) (hP:HF c "read_power" d (vh5 Sm d) F):HF c "read_factor" d (xv5 Sm d) (F + 1):=by
 intro m hm σ ts h0;obtain ⟨p,rfl⟩:∃ p,m=p + 5:=⟨m - 5,(iq8 (l22 0x7138118431753 hF hm)).symm⟩;refine el11 (id h0) fun k h e=>?_;refine Stp.fn ?_;refine zi0 (zk4 (ops:=pm) (.inl rfl) h e) ?_;unfold xv5;cases q:hop pm ts with
 | none=>
  refine Stp.go 2 ?_;exact zu0 (hP (p + 4) (l21 0x53811371143817 hm) _ _ h0) fun a ts1 b s1 hj=>zl0 hj
 | some sg=>
  refine Stp.go 1 ?_;refine zm0 rfl (yg7 sg) ?_;refine el10 (yh5 q) fun r eq1=>?_;subst eq1;refine el33 (zp5 h (zh3 e)) fun l' at' b' h3 h4 h5 h6=>?_;refine zi0 (zz1 h.rd rfl rfl) ?_;refine zi0 (h3 _) ?_;refine el11 (id (At.next h e)) fun k2 h2 e2=>?_;have hs:sg=.plus\/sg=.minus:=by cases sg <;> first|exact .inl rfl|exact .inr rfl|cases q
  rcases hs with rfl|rfl
  ·refine Stp.go 2 ?_
   refine ya0 (hP (p + 4) (l21 0x53811371143817 hm) _ _ (At.next h e)) fun a ts1 b s1 hj=>?_;refine Classical.byContradiction fun ng=>?_;refine zg6 hj fun eq2 x1 a1=>?_;subst eq2;refine ng (Stp.go 3 ?_);refine zl0 ?_;exact ⟨rfl,Adv.mv.trans x1,a1⟩
  ·refine Stp.go 2 ?_
   refine zi0 (lone_ok h2 e2) ?_;cases ql:wp5 r with
   | false=>
    refine ya0 (hP (p + 4) (l21 0x53811371143817 hm) _ _ (At.next h e)) fun a ts1 b s1 hj=>?_;refine zg6 hj fun eq3 x1 a1=>?_;subst eq3;refine Stp.go 3 ?_;refine zl0 ?_;refine ⟨?_,Adv.mv.trans x1,a1⟩;refine (?_:_=vp3 .minus (wp5 r) b);refine (ql).symm▸?_;rfl
   | true=>
    refine el21 (lone_eq ql) fun x r2 eq0 qp=>?_;subst eq0;have z:=hP (p + 4) (l21 0x53811371143817 hm) _ _ (At.next h e);rw [wb8 qp] at z;show Stp ((vh5 Sm d (.nb x::r2)).bind _) _ _;rw [wb8 qp];refine hid fun G kG=>?_;refine el23 z fun b s1 ez eq4 x1 a1=>?_;subst eq4;refine kG ?_;refine zi0 ez ?_;refine Stp.go 2 ?_;refine zi0 vv2 ?_;refine zl0 ⟨?_,Adv.mv.trans x1,a1⟩;refine (?_:_=vp3 .minus (!hd .pow r2) (uj0 (nbV x)));refine (qp).symm▸?_;rfl
theorem hs_step (hS:HS c Sm F) (hd:d<=20):HF c "read_sum" d (xp1 Sm d) (F + 16):=
 read_sum (l10 0xf37143) hd (xb2 (l10 0xe37143) (wk6 (l10 0xd37143) (vk2 (l10 0xc37143) (xb3 hS))))
theorem hs_all:∀ n,HS c (pS n) (16 * n):=by
 intro n;induction n with
 | zero=>
  exact fun d m hm σ ts h=>trivial
 | succ n ih0=>
  exact (fun d m hm σ ts h=>by
  show Sx (if d<=20 then xp1 (pS n) d ts else .out) _ _;by_cases hd:d<=20
  ·rw [if_pos hd]
   exact hs_step (ih0) hd m hm σ ts h
  ·rw [if_neg hd]
   trivial)
theorem xb5 (h:At c σ ts) (hm:16 * n<=m):Sx (pS n 0 ts) (zz4 (m + 1) (.fn "read_expression") [.loc c.r] σ) (Jv c σ):=by
 refine Stp.fn ?_;exact zu0 (hs_all n 0 m hm σ ts h) fun a ts1 b s1 hj=>zl0 hj
end
noncomputable def fol (b:Bool) (l:Nat):Tk->Bool
 | .of_=>!b
 | .in_=>!b
 | .sg .lp=>!b
 | .sg .pow=>decide (4 < l)
 | .sg .star=>decide (2 < l)
 | .sg .slash=>decide (2 < l)
 | .sg .plus=>decide (1 < l)
 | .sg .minus=>decide (1 < l)
 | _=>true
noncomputable def xh4 (b:Bool) (l:Nat):List Tk->Bool
 | []=>true
 | t::_=>fol b l t
theorem wz9 {b:Bool} {l:Nat} {ts:List Tk} (h:xh4 b l ts=true):xh4 b (l + 1) ts=true:=by
 cases ts with
 | nil=>rfl
 | cons t r=>
  cases t with
  | sg s=>cases s <;> first|exact h|rfl|exact decide_eq_true (oz6 (of_decide_eq_true h))
  | _=>exact h
theorem fol_1 {b:Bool} {ts:List Tk} (h:xh4 b 1 ts=true):hop pm ts=none:=by
 cases ts with
 | nil=>rfl
 | cons t r=>cases t with
  | sg s=>cases s <;> first|rfl|cases h
  | _=>rfl
theorem fol_2 {b:Bool} {ts:List Tk} (h:xh4 b 2 ts=true):hop ts2 ts=none:=by
 cases ts with
 | nil=>rfl
 | cons t r=>cases t with
  | sg s=>cases s <;> first|rfl|cases h
  | _=>rfl
theorem fol_4 {b:Bool} {ts:List Tk} (h:xh4 b 4 ts=true):hop pw ts=none/\hd .pow ts=false:=by
 cases ts with
 | nil=>exact ⟨rfl,rfl⟩
 | cons t r=>cases t with
  | sg s=>cases s <;> first|exact ⟨rfl,rfl⟩|cases h
  | _=>exact ⟨rfl,rfl⟩
theorem fol_q {l:Nat} {ts:List Tk} (h:xh4 true l ts=true):hd .lp ts=false/\pn ts=false/\(∀ m acc,yy3 (m + 1) acc ts=.ok acc ts):=by
 cases ts with
 | nil=>exact ⟨rfl,rfl,fun U U=>rfl⟩
 | cons t r=>cases t with
  | sg s=>cases s <;> first|exact ⟨rfl,rfl,fun U U=>rfl⟩|cases h
  | of_=>cases h
  | in_=>cases h
  | _=>exact ⟨rfl,rfl,fun U U=>rfl⟩
theorem yh2 {ops:List Sg} {P:List Tk->Rd V} {m:Nat} {v:V} {ts:List Tk} (h:hop ops ts=none):zv1 ops P (m + 1) v ts=.ok v ts:=by simp only [zv1,h]
noncomputable def opAt (l:Nat) (s:Sg):Prop:=l=1/\(s=.plus\/s=.minus)\/l=2/\(s=.star\/s=.slash)\/l=4/\s=.pow
noncomputable def qTok (qs:List (Bool×Nm)):List Tk:=qs.flatMap fun q=>[if q.1 then .of_ else .in_,.nm q.2]
noncomputable def qV (qs:List (Bool×Nm)):List V:=qs.map fun q=>.str (S q.2.txt)
inductive Rp:Nat->Nat->Bool->List Tk->V->Nat->Prop
 | num {n:Nat} (x:Nb):Rp 5 0 false [.nb x] (uj0 (nbV x)) n
 | brk {k n:Nat} {b:Bool} {ts:List Tk} {v:V}:Rp 1 k b ts v n->k<=7->Rp 5 0 false (.sg .lp::(ts++[.sg .rp])) v (n + 1)
 | ref {n:Nat} (x:Nm) (qs:List (Bool×Nm)) {rt pt:List Tk} {rv pv:V}:qs.length<=7->Rp 6 0 false rt rv n->Rp 7 0 false pt pv n->Rp 5 0 true (.nm x::(qTok qs++(rt++pt))) (yk0 (.str (S x.txt)) (qV qs) rv pv) n
 | up1 {k n:Nat} {b:Bool} {ts:List Tk} {v:V}:Rp 2 k b ts v n->k<=7->Rp 1 0 b ts v n
 | up2 {k n:Nat} {b:Bool} {ts:List Tk} {v:V}:Rp 3 k b ts v n->Rp 2 0 b ts v n
 | up3 {k n:Nat} {b:Bool} {ts:List Tk} {v:V}:Rp 4 k b ts v n->k<=7->Rp 3 0 b ts v n
 | up4 {k n:Nat} {b:Bool} {ts:List Tk} {v:V}:Rp 5 k b ts v n->Rp 4 0 b ts v n
 | own {n:Nat} (x:Nb):Rp 3 0 false [.sg .minus,.nb x] (uj0 (neg2 (nbV x))) n
 | neg {k n:Nat} {b:Bool} {ts:List Tk} {v:V}:Rp 4 k b ts v n->k<=7->(∀ rest,wp5 (ts++rest)=false)->Rp 3 0 b (.sg .minus::ts) (negV v) n
 | bin {l k k' n:Nat} {b b':Bool} {ta tb:List Tk} {va vb:V} {s:Sg}:opAt l s->Rp l k b ta va n->Rp (l + 1) k' b' tb vb n->k'<=7->Rp l (k + 1) b' (ta++.sg s::tb) (wf0 s va vb) n
 | row0 {n:Nat}:Rp 6 0 false [] (.tup []) n
 | row1 {k n:Nat} {b:Bool} {ts:List Tk} {v:V}:Rp 1 k b ts v n->k<=7->Rp 6 0 false (.sg .lp::(ts++[.sg .rp])) (.tup [v]) (n + 1)
 | row2 {k k' n:Nat} {b b':Bool} {ts us:List Tk} {v u:V}:Rp 1 k b ts v n->k<=7->(∀ r,xh4 b 1 (us++r)=true)->(∀ r,hd .rp (us++r)=false)->Rp 1 k' b' us u n->k'<=7->Rp 6 0 false (.sg .lp::(ts++(us++[.sg .rp]))) (.tup [v,u]) (n + 1)
 | part0 {n:Nat}:Rp 7 0 false [] .none n
 | part1 {k n:Nat} {b:Bool} {ts:List Tk} {v:V}:Rp 1 k b ts v n->k<=7->Rp 7 0 false (.sg .lp::(ts++[.sg .colon,.sg .rp])) (.tup [v,.none]) (n + 1)
 | part2 {k k' n:Nat} {b b':Bool} {ts us:List Tk} {v u:V}:Rp 1 k b ts v n->k<=7->Rp 1 k' b' us u n->k'<=7->(∀ r,hd .rp (us++r)=false)->Rp 7 0 false (.sg .lp::(ts++.sg .colon::(us++[.sg .rp]))) (.tup [v,u]) (n + 1)
noncomputable def hdOk (l:List Tk):Bool:=hdE l false fun t U=>tkE t (fun U=>true) false false (fun U=>true) fun s=>s.ix == 5
theorem hdOk_pm {ts:List Tk} (h:hdOk ts=true):hop pm ts=none:=by
 cases ts with
 | nil=>rfl
 | cons t r=>cases t with
  | sg s=>have e:s=.lp:=Sg.eq h;subst e;rfl
  | _=>rfl
theorem vq1 {ts r:List Tk} (h:hdOk ts=true):hdOk (ts++r)=true:=by
 cases ts with
 | nil=>nomatch h
 | cons p r=>exact h
theorem Rp.hd {l k n:Nat} {b:Bool} {ts:List Tk} {v:V} (h:Rp l k b ts v n):l=4\/l=5->hdOk ts=true:=by
 induction h with
 | num x=>intro _;rfl
 | brk _ _ _=>intro _;rfl
 | ref _ _ _ _ _ _ _=>intro _;rfl
 | up4 _ ih=>intro _;exact ih (.inr rfl)
 | bin ho _ _ _ ih _=>intro h;exact vq1 (ih h)
 | _=>intro h;rcases h with h|h <;> cases h
theorem zh8 {d:Nat} {t:Tk} {r:List Tk} (h1:yq9 .lp t=false) (h2:yq9 .rp t=false) (h3:yq9 .colon t=false):zp6 (d + 1) (t::r)=zp6 (d + 1) r:=by simp [zp6,h1,h2,h3]
theorem q_bal (d:Nat) (r:List Tk):∀ qs:List (Bool×Nm),zp6 (d + 1) (qTok qs++r)=zp6 (d + 1) r:=by
 intro qs;induction qs with
 | nil=>
  exact rfl
 | cons p0 qs ih0=>
  obtain ⟨b0,x⟩:=p0;cases b0 with
  | true=>
   exact (zh8 (r:=.nm x::(qTok qs++r)) rfl rfl rfl).trans ((zh8 rfl rfl rfl).trans (ih0))
  | false=>
   exact (zh8 (r:=.nm x::(qTok qs++r)) rfl rfl rfl).trans ((zh8 rfl rfl rfl).trans (ih0))
theorem xb7 {d:Nat} {r:List Tk}:zp6 (d + 1) (.sg .lp::r)=zp6 (d + 2) r:=rfl
theorem pn_col {d:Nat} {r:List Tk}:zp6 (d + 2) (.sg .colon::r)=zp6 (d + 2) r:=rfl
theorem Rp.bal {l k n:Nat} {b:Bool} {ts:List Tk} {v:V} (h:Rp l k b ts v n):∀ d r,zp6 (d + 1) (ts++r)=zp6 (d + 1) r:=by
 induction h with
 | num x=>intro d r;exact zh8 rfl rfl rfl
 | brk _ _ ih=>intro d r;rw [ix2,iq0,xb7,ih];rfl
 | ref x qs _ _ _ i1 i2=>intro d r;rw [ix2,iq0,iq0];rw [zh8 rfl rfl rfl,q_bal,i1,i2]
 | up1 _ _ ih=>exact ih
 | up2 _ ih=>exact ih
 | up3 _ _ ih=>exact ih
 | up4 _ ih=>exact ih
 | own x=>intro d r;exact (zh8 rfl rfl rfl).trans (zh8 rfl rfl rfl)
 | neg _ _ _ ih=>intro d r;exact (zh8 rfl rfl rfl).trans (ih d r)
 | @bin l k k' n b b' ta tb va vb s ho _ _ _ i1 i2=>
  intro d r;rw [iq0,i1];rcases ho with ⟨_,rfl|rfl⟩|⟨_,rfl|rfl⟩|⟨_,rfl⟩ <;> exact (zh8 rfl rfl rfl).trans (i2 d r)
 | row0=>intro d r;rfl
 | row1 _ _ ih=>intro d r;rw [ix2,iq0,xb7,ih];rfl
 | row2 _ _ _ _ _ _ i1 i2=>intro d r;rw [ix2,iq0,iq0,xb7,i1,i2];rfl
 | part0=>intro d r;rfl
 | part1 _ _ ih=>intro d r;rw [ix2,iq0,xb7,ih];rfl
 | part2 _ _ _ _ _ i1 i2=>intro d r;rw [ix2,iq0,xb7,i1,ix2,pn_col,iq0,i2];rfl
noncomputable def Cl (l k:Nat) (b:Bool) (ts:List Tk) (v:V) (N d:Nat):Prop:=match l with
 | 1=>∀ m rest,xh4 b 2 rest=true->pLv pm (ux5 (pS N) d) (m + k) (ts++rest)=zv1 pm (ux5 (pS N) d) m v rest
 | 2=>∀ m rest,xh4 b 3 rest=true->pLv ts2 (xv5 (pS N) d) (m + k) (ts++rest)=zv1 ts2 (xv5 (pS N) d) m v rest
 | 3=>∀ rest,xh4 b 4 rest=true->xv5 (pS N) d (ts++rest)=.ok v rest
 | 4=>∀ m rest,xh4 b 5 rest=true->pLv pw (xv4 (pS N) d) (m + k) (ts++rest)=zv1 pw (xv4 (pS N) d) m v rest
 | 5=>∀ rest,xh4 b 5 rest=true->xv4 (pS N) d (ts++rest)=.ok v rest
 | 6=>ts=[]/\v=.tup []\/∃ us,ts=.sg .lp::us/\∀ rest,pn (ts++rest)=false/\ux4 (pS N (d + 1)) (us++rest)=.ok v rest
 | 7=>ts=[]/\v=.none\/∃ us,ts=.sg .lp::us/\∀ rest,pn (ts++rest)=true/\wv1 (pS N (d + 1)) (us++rest)=.ok v rest
 | _=>True
section
variable {l k n N d m:Nat} {b:Bool} {ts rest:List Tk} {v:V}
theorem sum_ok (h:Cl 1 k b ts v N d) (hk:k<=7) (hf:xh4 b 1 rest=true):xp1 (pS N) d (ts++rest)=.ok v rest:=by
 obtain ⟨m,hm⟩:∃ m,k + m=7:=Nat.le.dest hk;have z:=h (m + 1) rest (wz9 hf);rw [yh2 (fol_1 hf)] at z;unfold xp1;refine (show (8:Nat)=m + 1 + k by exact ix9 (l21 0x73781d81371183 hm) (l21 0x73781983813711 hm)).symm▸?_;exact z
theorem e_ok (h:Cl 1 k b ts v N (d + 1)) (hk:k<=7) (hd:d + 1<=20) (hf:xh4 b 1 rest=true):pS (N + 1) (d + 1) (ts++rest)=.ok v rest:=by
 show (if d + 1<=20 then xp1 (pS N) (d + 1) (ts++rest) else .out)=_;rw [if_pos hd];exact sum_ok h hk hf
theorem uq6 (h:Cl 2 k b ts v N d) (hk:k<=7) (hf:xh4 b 2 rest=true):ux5 (pS N) d (ts++rest)=.ok v rest:=by
 obtain ⟨m,hm⟩:∃ m,k + m=7:=Nat.le.dest hk;have z:=h (m + 1) rest (wz9 hf);rw [yh2 (fol_2 hf)] at z;unfold ux5;refine (show (8:Nat)=m + 1 + k by exact ix9 (l21 0x73781d81371183 hm) (l21 0x73781983813711 hm)).symm▸?_;exact z
theorem pow_ok (h:Cl 4 k b ts v N d) (hk:k<=7) (hf:xh4 b 4 rest=true):vh5 (pS N) d (ts++rest)=.ok v rest:=by
 obtain ⟨m,hm⟩:∃ m,k + m=7:=Nat.le.dest hk;have z:=h (m + 1) rest (wz9 hf);rw [yh2 (fol_4 hf).1] at z;unfold vh5;refine (show (8:Nat)=m + 1 + k by exact ix9 (l21 0x73781d81371183 hm) (l21 0x73781983813711 hm)).symm▸?_;exact z
theorem lv_of {ops:List Sg} {P:List Tk->Rd V} (h:P ts=.ok v rest):pLv ops P m ts=zv1 ops P m v rest:=by
 unfold pLv;refine (h).symm▸?_;rfl
theorem uk4 {M:Nat} {ops:List Sg} {P:List Tk->Rd V} {s:Sg} {va vb:V} {ta tb:List Tk} (h1:pLv ops P M ta=zv1 ops P (m + 1) va (.sg s::tb)) (hs:hop ops (.sg s::tb)=some s) (h2:P tb=.ok vb rest) :
 pLv ops P M ta=zv1 ops P m (wf0 s va vb) rest:=by
 rw [h1];simp only [zv1,hs];refine (h2).symm▸?_;rfl
theorem uq5 {acc:List V} (h:∀ m acc,yy3 (m + 1) acc ts=.ok acc ts):∀ (qs:List (Bool×Nm)) (m:Nat) (acc:List V),yy3 (qs.length + m + 1) acc (qTok qs++ts)=.ok (acc++qV qs) ts
 | [],m,acc=>by
  rw [List.length_nil,Nat.zero_add,show qV []=[] from rfl,iq7];exact h m acc
 | (q,x)::qs,m,acc=>by
  have z:=uq5 (acc:=acc) h qs m (acc++[.str (S x.txt)]);rw [iq0] at z;refine (show qs.length + 1 + m + 1=(qs.length + m + 1) + 1 by exact ix9 (l20 0x131387111138137111) (l20 0x138137111131387111)).symm▸?_;cases q <;> exact z
theorem yq2 {r:List Tk}:zp6 0 r=false:=by rw [zp6]
theorem xv1 {r:List Tk}:pn (.sg .lp::r)=zp6 1 r:=rfl
theorem ref_ok {x:Nm} {qs:List (Bool×Nm)} {rt pt:List Tk} {rv pv:V} (hq:qs.length<=7) (h6:Cl 6 0 false rt rv N d) (h7:Cl 7 0 false pt pv N d) (hf:xh4 true 5 rest=true) :
 pRef (pS N (d + 1)) (.nm x::(qTok qs++(rt++(pt++rest))))=.ok (yk0 (.str (S x.txt)) (qV qs) rv pv) rest:=by
 have hr:=fol_q hf;have tail:∀ rows,yy2 (pS N (d + 1)) (.str (S x.txt)) (qV qs) rows (pt++rest)=.ok (yk0 (.str (S x.txt)) (qV qs) rows pv) rest:=by
  intro rows;unfold yy2;rcases h7 with ⟨rfl,rfl⟩|⟨us,rfl,h7⟩
  ·rw [oz8,hr.2.1]
   rfl
  ·rw [(h7 rest).1]
   show (wv1 (pS N (d + 1)) (us++rest)).bind _=_;rw [(h7 rest).2];rfl
 have q0:∀ m acc,yy3 (m + 1) acc (rt++(pt++rest))=.ok acc (rt++(pt++rest)):=by
  intro m acc;rcases h6 with ⟨rfl,rfl⟩|⟨us,rfl,h6⟩
  ·rcases h7 with ⟨rfl,rfl⟩|⟨us,rfl,h7⟩
   ·exact hr.2.2 m acc
   ·rfl
  ·rfl
 obtain ⟨j,hj⟩:∃ j,qs.length + j + 1=8:=⟨7 - qs.length,by omega⟩;show (yy3 8 [] (qTok qs++(rt++(pt++rest)))).bind _=_;rw [<-hj,uq5 (acc:=[]) q0 qs j []];show (if (hd .lp (rt++(pt++rest))&&!pn (rt++(pt++rest)))=true then _ else _)=_;rcases h6 with ⟨rfl,rfl⟩|⟨us,rfl,h6⟩
 ·refine (oz8 _).symm▸?_
  have hc:(hd .lp (pt++rest)&&!pn (pt++rest))=false:=by
   rcases h7 with ⟨rfl,rfl⟩|⟨us,rfl,h7⟩
   ·rw [oz8,hr.1];rfl
   ·rw [(h7 rest).1,Bool.not_true,Bool.and_false]
  rw [if_neg (by rw [hc];decide)];exact tail _
 ·rw [(h6 _).1]
  show (ux4 (pS N (d + 1)) (us++(pt++rest))).bind _=_;rw [(h6 _).2];exact tail _
theorem Rp.cl (h:Rp l k b ts v n):∀ N d,n<=N->d + n<=20->Cl l k b ts v N d:=by
 induction h with
 | num x=>intro N d _ _ rest _;rfl
 | brk h hk ih=>
  intro N d hN hd rest _;obtain ⟨N,rfl⟩:∃ M,N=M + 1:=⟨N - 1,(iq8 (l21 0x713811713 hN)).symm⟩;have z:=e_ok (rest:=.sg .rp::rest) (ih N (d + 1) (l21 0x13811371187 hN) (l21 0x00000144138171100000144813711 hd)) hk (l21 0x000001441381711000001441371 hd) rfl;rw [ix2,iq0];show (pS (N + 1) (d + 1) (_++.sg .rp::rest)).bind _=_;rw [z];rfl
 | ref x qs hq _ _ i6 i7=>
  intro N d hN hd rest hf;rw [ix2,iq0,iq0];exact ref_ok hq (i6 N d hN hd) (i7 N d hN hd) hf
 | up1 h hk ih=>intro N d hN hd m rest hf;exact lv_of (uq6 (ih N d hN hd) hk hf)
 | up2 h ih=>intro N d hN hd m rest hf;exact lv_of (ih N d hN hd rest (wz9 hf))
 | up3 h hk ih=>
  intro N d hN hd rest hf;unfold xv5;refine (hdOk_pm (vq1 (h.hd (.inl rfl)))).symm▸?_;exact pow_ok (ih N d hN hd) hk hf
 | up4 h ih=>intro N d hN hd m rest hf;exact lv_of (ih N d hN hd rest hf)
 | own x=>
  intro N d hN hd rest hf;have hp:=(fol_4 hf).2;show (vh5 (pS N) d (.nb x::rest)).bind _=_;have z:vh5 (pS N) d (.nb x::rest)=.ok (uj0 (nbV x)) rest:=by
   exact yh2 (fol_4 hf).1
  refine (z).symm▸?_;show Rd.ok (vp3 .minus (!Mine.hd .pow rest) (uj0 (nbV x))) rest=_;refine (hp).symm▸?_;rfl
 | @neg k n b ts v h hk hl ih=>
  intro N d hN hd rest hf;show (vh5 (pS N) d (ts++rest)).bind _=_;refine (pow_ok (ih N d hN hd) hk hf).symm▸?_;refine (hl _).symm▸?_;rfl
 | @bin l k k' n b b' ta tb va vb s ho h1 h2 hk i1 i2=>
  intro N d hN hd;rcases ho with ⟨rfl,hs⟩|⟨rfl,hs⟩|⟨rfl,hs⟩
  ·intro m rest hf
   rw [iq0,show m + (k + 1)=m + 1 + k by exact ix9 (l20 0x813711138171) (l20 0x138171813711)];refine uk4 (i1 N d hN hd (m + 1) (.sg s::(tb++rest)) (by rcases hs with rfl|rfl <;> rfl)) (show hop pm (.sg s::(tb++rest))=some s by rcases hs with rfl|rfl <;> rfl) ?_;exact uq6 (i2 N d hN hd) hk hf
  ·intro m rest hf
   rw [iq0,show m + (k + 1)=m + 1 + k by exact ix9 (l20 0x813711138171) (l20 0x138171813711)];refine uk4 (i1 N d hN hd (m + 1) (.sg s::(tb++rest)) (by rcases hs with rfl|rfl <;> rfl)) (show hop ts2 (.sg s::(tb++rest))=some s by rcases hs with rfl|rfl <;> rfl) ?_;exact i2 N d hN hd rest (wz9 hf)
  ·intro m rest hf
   rw [iq0,show m + (k + 1)=m + 1 + k by exact ix9 (l20 0x813711138171) (l20 0x138171813711)];subst hs;refine uk4 (i1 N d hN hd (m + 1) (.sg .pow::(tb++rest)) rfl) (show hop pw (.sg .pow::(tb++rest))=some .pow from rfl) ?_;exact i2 N d hN hd rest hf
 | row0=>intro N d _ _;exact .inl ⟨rfl,rfl⟩
 | @row1 k n b ts v h hk ih=>
  intro N d hN hd;obtain ⟨N,rfl⟩:∃ M,N=M + 1:=⟨N - 1,(iq8 (l21 0x713811713 hN)).symm⟩;refine .inr ⟨_,rfl,fun rest=>⟨?_,?_⟩⟩
  ·rw [ix2,iq0,xv1,h.bal];exact yq2
  ·have z:=e_ok (rest:=.sg .rp::rest) (ih N (d + 1) (l21 0x13811371187 hN) (l21 0x00000144138171100000144813711 hd)) hk (l21 0x000001441381711000001441371 hd) rfl
   rw [iq0];show (pS (N + 1) (d + 1) (ts++.sg .rp::rest)).bind _=_;refine (z).symm▸?_;rfl
 | @row2 k k' n b b' ts us v u h1 hk hf hr h2 hk' i1 i2=>
  intro N d hN hd;obtain ⟨N,rfl⟩:∃ M,N=M + 1:=⟨N - 1,(iq8 (l21 0x713811713 hN)).symm⟩;refine .inr ⟨_,rfl,fun rest=>⟨?_,?_⟩⟩
  ·rw [ix2,iq0,iq0,xv1,h1.bal,h2.bal];exact yq2
  ·have z:=e_ok (rest:=us++.sg .rp::rest) (i1 N (d + 1) (l21 0x13811371187 hN) (l21 0x00000144138171100000144813711 hd)) hk (l21 0x000001441381711000001441371 hd) (hf _)
   have z2:=e_ok (rest:=.sg .rp::rest) (i2 N (d + 1) (l21 0x13811371187 hN) (l21 0x00000144138171100000144813711 hd)) hk' (l21 0x000001441381711000001441371 hd) rfl;rw [iq0,iq0];show (pS (N + 1) (d + 1) (ts++(us++.sg .rp::rest))).bind _=_;rw [z];show (if Mine.hd .rp (us++.sg .rp::rest)=true then _ else (pS (N + 1) (d + 1) (us++.sg .rp::rest)).bind _)=_;rw [hr,z2];rfl
 | part0=>intro N d _ _;exact .inl ⟨rfl,rfl⟩
 | @part1 k n b ts v h hk ih=>
  intro N d hN hd;obtain ⟨N,rfl⟩:∃ M,N=M + 1:=⟨N - 1,(iq8 (l21 0x713811713 hN)).symm⟩;refine .inr ⟨_,rfl,fun rest=>⟨?_,?_⟩⟩
  ·rw [ix2,iq0,xv1,h.bal];rfl
  ·have z:=e_ok (rest:=.sg .colon::.sg .rp::rest) (ih N (d + 1) (l21 0x13811371187 hN) (l21 0x00000144138171100000144813711 hd)) hk (l21 0x000001441381711000001441371 hd) rfl
   rw [iq0];show (pS (N + 1) (d + 1) (ts++.sg .colon::.sg .rp::rest)).bind _=_;rw [z];rfl
 | @part2 k k' n b b' ts us v u h1 hk h2 hk' hr i1 i2=>
  intro N d hN hd;obtain ⟨N,rfl⟩:∃ M,N=M + 1:=⟨N - 1,(iq8 (l21 0x713811713 hN)).symm⟩;refine .inr ⟨_,rfl,fun rest=>⟨?_,?_⟩⟩
  ·rw [ix2,iq0,xv1,h1.bal];rfl
  ·have z:=e_ok (rest:=.sg .colon::(us++.sg .rp::rest)) (i1 N (d + 1) (l21 0x13811371187 hN) (l21 0x00000144138171100000144813711 hd)) hk (l21 0x000001441381711000001441371 hd) rfl
   have z2:=e_ok (rest:=.sg .rp::rest) (i2 N (d + 1) (l21 0x13811371187 hN) (l21 0x00000144138171100000144813711 hd)) hk' (l21 0x000001441381711000001441371 hd) rfl;rw [iq0,ix2,iq0];show (pS (N + 1) (d + 1) (ts++.sg .colon::(us++.sg .rp::rest))).bind _=_;rw [z];show (if Mine.hd .rp (us++.sg .rp::rest)=true then _ else (pS (N + 1) (d + 1) (us++.sg .rp::rest)).bind _)=_;rw [hr,z2];rfl
end
structure Tl {α:Type} (p:List Tk->Rd α):Prop where
 nil:∀ v rest,p []=.ok v rest->rest=[]
 cut:∀ ts v rest,p (ts++[.sg .rp])=.ok v rest->rest=[]/\p ts=.no\/∃ r,rest=r++[.sg .rp]/\p ts=.ok v r
theorem Tl.bind {α β:Type} {p:List Tk->Rd α} {f:α->List Tk->Rd β} (h:Tl p) (hf:∀ v,Tl (f v)):Tl (fun ts=>(p ts).bind f):=by
 refine ⟨fun v rest e=>?_,fun ts v rest e=>?_⟩
 ·cases q:p [] with
  | ok w r=>
   rw [q] at e;have:=h.nil w r q;subst this;exact (hf w).nil v rest e
  | no=>rw [q] at e;cases e
  | out=>rw [q] at e;cases e
 ·cases q:p (ts++[.sg .rp]) with
  | ok w r=>
   rw [q] at e;rcases h.cut ts w r q with ⟨rfl,h2⟩|⟨r2,rfl,h2⟩
   ·exact .inl ⟨(hf w).nil v rest e,by rw [h2];rfl⟩
   ·refine (h2).symm▸?_
    exact (hf w).cut r2 v rest e
  | no=>rw [q] at e;cases e
  | out=>rw [q] at e;cases e
theorem Tl.keep {α:Type} {v:α}:Tl (fun ts=>Rd.ok v ts):=by
 refine ⟨fun w rest e=>?_,fun ts w rest e=>?_⟩
 ·cases e;rfl
 ·cases e;exact .inr ⟨ts,rfl,rfl⟩
theorem Tl.of {α:Type} {p:List Tk->Rd α} (h0:∀ v rest,p []=.ok v rest->rest=[]) (h1:∀ v rest,p [.sg .rp]=.ok v rest->rest=[]/\p []=.no\/∃ r,rest=r++[.sg .rp]/\p []=.ok v r)
 (h2:∀ t r v rest,p (t::(r++[.sg .rp]))=.ok v rest->rest=[]/\p (t::r)=.no\/∃ r',rest=r'++[.sg .rp]/\p (t::r)=.ok v r'):Tl p:=by
 refine ⟨h0,fun ts v rest e=>?_⟩;cases ts with
 | nil=>exact h1 v rest e
 | cons t r=>exact h2 t r v rest e
theorem wy5 {ops:List Sg} {t:Tk} {r s:List Tk}:hop ops (t::r)=hop ops (t::s):=by cases t <;> rfl
theorem Tl.loop {ops:List Sg} (ho:hop ops [.sg .rp]=none) {P:List Tk->Rd V} (h:Tl P):∀ (m:Nat) (v:V),Tl (zv1 ops P m v):=by
 intro m;induction m with
 | zero=>
  intro v;exact ⟨fun w rest e=>(by cases e),fun ts w rest e=>(by cases e)⟩
 | succ m ih0=>
  intro v;refine Tl.of (fun w rest e=>by cases e;rfl) (fun w rest e=>?_) fun t r w rest e=>?_
  ·simp only [zv1,ho] at e
   cases e;exact .inr ⟨[],rfl,rfl⟩
  ·have hc:=wy5 (ops:=ops) (t:=t) (r:=r++[.sg .rp]) (s:=r)
   cases q:hop ops (t::r) with
   | none=>
    simp only [zv1,hc,q] at e ⊢;cases e;exact .inr ⟨t::r,rfl,rfl⟩
   | some s=>
    simp only [zv1,hc,q] at e ⊢;exact (h.bind fun w=>ih0 (wf0 s v w)).cut r w rest e
theorem Tl.lv {ops:List Sg} (ho:hop ops [.sg .rp]=none) {P:List Tk->Rd V} (h:Tl P) (m:Nat):Tl (pLv ops P m):=h.bind fun v=>Tl.loop ho h m v
theorem Tl.need {v:V}:Tl (need .rp v):=by
 refine Tl.of (fun w rest e=>by cases e) (fun w rest e=>?_) fun t r w rest e=>?_
 ·cases e;exact .inl ⟨rfl,rfl⟩
 ·unfold Mine.need at e ⊢
  cases q:Mine.hd .rp (t::r) with
  | true=>
   rw [show Mine.hd .rp (t::(r++[.sg .rp]))=true from q,if_pos rfl] at e;cases e;exact .inr ⟨r,rfl,rfl⟩
  | false=>
   rw [show Mine.hd .rp (t::(r++[.sg .rp]))=false from q,if_neg (by decide)] at e;nomatch e
theorem Tl.name:Tl xb6:=by
 refine Tl.of (fun w rest e=>by cases e) (fun w rest e=>by cases e) fun t r w rest e=>?_;cases t with
 | nm x=>cases e;exact .inr ⟨r,rfl,rfl⟩
 | _=>cases e
theorem Tl.qual:∀ (m:Nat) (acc:List V),Tl (yy3 m acc):=by
 intro m;induction m with
 | zero=>
  intro acc;exact ⟨fun w rest e=>(by cases e),fun ts w rest e=>(by cases e)⟩
 | succ m ih0=>
  intro acc;refine Tl.of (fun w rest e=>by cases e;rfl) (fun w rest e=>by cases e;exact .inr ⟨[],rfl,rfl⟩) fun t r w rest e=>?_;cases q:isQ t with
  | true=>
   simp only [yy3,q] at e ⊢;exact (Tl.name.bind fun w=>ih0 (acc++[w])).cut r w rest e
  | false=>
   simp only [yy3,q] at e ⊢;cases e;exact .inr ⟨t::r,rfl,rfl⟩
theorem wb9:∀ (ts:List Tk) (d:Nat),zp6 d (ts++[.sg .rp])=zp6 d ts
 | [],0=>by rw [yq2,yq2]
 | [],1=>by show zp6 0 []=false;exact yq2
 | [],d + 2=>rfl
 | t::r,0=>by rw [yq2,yq2]
 | t::r,d + 1=>by
  show zp6 (d + 1) (t::(r++[.sg .rp]))=_;simp only [zp6,wb9 r]
theorem pn_cut (ts:List Tk):pn (ts++[.sg .rp])=pn ts:=by
 cases ts with
 | nil=>rfl
 | cons t r=>
  cases t with
  | sg s=>cases s <;> first|rfl|exact wb9 r 1
  | _=>rfl
noncomputable def Dn (E:List Tk->Rd V):Prop:=E []=.no\/∀ ts v r,E ts≠.ok v r
section
variable {E:List Tk->Rd V}
theorem Tl.never {α:Type} {p:List Tk->Rd α} (h:∀ ts v r,p ts≠.ok v r):Tl p:=⟨fun v r e=>absurd e (h _ _ _),fun ts v r e=>absurd e (h _ _ _)⟩
theorem xx0 {α:Type} {f:V->List Tk->Rd α} (h:∀ ts v r,E ts≠.ok v r):∀ ts v r,(E ts).bind f≠.ok v r:=by
 intro ts v r e;cases q:E ts with
 | ok w s=>exact h _ _ _ q
 | no=>rw [q] at e;cases e
 | out=>rw [q] at e;cases e
theorem Tl.subLoop (h:Tl E) (hn:E []=.no):∀ (m:Nat) (acc:List V),Tl (zw1 E m acc):=by
 intro m;induction m with
 | zero=>
  intro acc;refine Tl.of (fun w rest e=>by cases e) (fun w rest e=>?_) fun t r w rest e=>?_
  ·cases e
   exact .inl ⟨rfl,rfl⟩
  ·simp only [zw1] at e ⊢
   cases q:Mine.hd .rp (t::r) with
   | true=>
    rw [show Mine.hd .rp (t::(r++[.sg .rp]))=true from q,if_pos rfl] at e;cases e;exact .inr ⟨r,rfl,rfl⟩
   | false=>
    rw [show Mine.hd .rp (t::(r++[.sg .rp]))=false from q,if_neg (by decide)] at e;nomatch e
 | succ m ih0=>
  intro acc;refine Tl.of (fun w rest e=>?_) (fun w rest e=>?_) fun t r w rest e=>?_
  ·change (E []).bind _=_ at e
   rw [hn] at e;cases e
  ·cases e
   refine .inl ⟨rfl,?_⟩;change (E []).bind _=_;refine (hn).symm▸?_;rfl
  ·simp only [zw1] at e ⊢
   cases q:Mine.hd .rp (t::r) with
   | true=>
    rw [show Mine.hd .rp (t::(r++[.sg .rp]))=true from q,if_pos rfl] at e;cases e;exact .inr ⟨r,rfl,rfl⟩
   | false=>
    rw [show Mine.hd .rp (t::(r++[.sg .rp]))=false from q,if_neg (by decide)] at e;exact (h.bind fun v=>ih0 (acc++[v])).cut (t::r) w rest e
end
section
variable {E:List Tk->Rd V}
theorem Tl.subs (h:Tl E) (hd:Dn E):Tl (ux4 E):=by
 rcases hd with hn|hn
 ·exact h.bind fun v=>Tl.subLoop h hn 6 [v]
 ·exact Tl.never (xx0 hn)
theorem Tl.part (h:Tl E) (hd:Dn E):Tl (wv1 E):=by
 rcases hd with hn|hn
 ·refine h.bind fun b=>?_
  refine Tl.of (fun w rest e=>by cases e) (fun w rest e=>by cases e) fun t r w rest e=>?_;cases q:Mine.hd .colon (t::r) with
  | false=>
   rw [show Mine.hd .colon (t::(r++[.sg .rp]))=false from q,if_neg (by decide)] at e;nomatch e
  | true=>
   rw [show Mine.hd .colon (t::(r++[.sg .rp]))=true from q,if_pos rfl] at e;refine (if_pos rfl).symm▸?_;cases r with
   | nil=>
    cases e;refine .inl ⟨rfl,?_⟩;show (E []).bind _=_;refine (hn).symm▸?_;rfl
   | cons t2 r2=>
    cases q2:Mine.hd .rp (t2::r2) with
    | true=>
     change (if Mine.hd .rp (t2::r2)=true then _ else _)=_ at e;rw [q2] at e;refine (q2).symm▸?_;refine (if_pos rfl).symm▸?_;cases e;exact .inr ⟨r2,rfl,rfl⟩
    | false=>
     change (if Mine.hd .rp (t2::r2)=true then _ else (E (t2::r2++[.sg .rp])).bind _)=_ at e;rw [q2] at e;have z:=(h.bind fun l=>Tl.need (v:=.tup [b,l])).cut (t2::r2) w rest e;refine (q2).symm▸?_;exact z
 ·exact Tl.never (xx0 hn)
theorem Tl.tail {x:V} {qs:List V} {rows:V} (h:Tl E) (hd:Dn E):Tl (yy2 E x qs rows):=by
 refine Tl.of (fun w rest e=>by cases e;rfl) (fun w rest e=>by cases e;exact .inr ⟨[],rfl,rfl⟩) fun t r w rest e=>?_;have hp:=pn_cut (t::r);unfold yy2 at e ⊢;rw [ix2] at hp;rw [hp] at e;cases q:pn (t::r) with
 | true=>
  rw [q] at e;exact ((Tl.part h hd).bind fun p=>Tl.keep).cut r w rest e
 | false=>
  rw [q] at e;cases e;exact .inr ⟨t::r,rfl,rfl⟩
theorem Tl.ref (h:Tl E) (hd:Dn E):Tl (pRef E):=by
 refine Tl.name.bind fun x=>(Tl.qual 8 []).bind fun qs=>?_;refine Tl.of (fun w rest e=>by cases e;rfl) (fun w rest e=>by cases e;exact .inr ⟨[],rfl,rfl⟩) fun t r w rest e=>?_;have hp:=pn_cut (t::r);rw [ix2] at hp;rw [hp,show Mine.hd .lp (t::(r++[.sg .rp]))=Mine.hd .lp (t::r) from rfl] at e;cases q:(Mine.hd .lp (t::r)&&!pn (t::r)) with
 | true=>
  rw [q] at e;exact ((Tl.subs h hd).bind fun rows=>Tl.tail h hd).cut r w rest e
 | false=>
  rw [q] at e;exact (Tl.tail h hd).cut (t::r) w rest e
theorem Tl.oper (h:Tl E) (hd:Dn E):Tl (ux6 E):=by
 refine Tl.of (fun w rest e=>by cases e) (fun w rest e=>by cases e) fun t r w rest e=>?_;cases t with
 | nb x=>cases e;exact .inr ⟨r,rfl,rfl⟩
 | nm x=>exact (Tl.ref h hd).cut (.nm x::r) w rest e
 | of_=>cases e
 | in_=>cases e
 | sg s=>cases e
end
section
variable {Sm:Nat->List Tk->Rd V} {d:Nat}
theorem Tl.prim (h:∀ d,Tl (Sm d)) (hn:∀ d,Dn (Sm d)):Tl (xv4 Sm d):=by
 refine Tl.of (fun w rest e=>by cases e) (fun w rest e=>by cases e) fun t r w rest e=>?_;unfold xv4 at e ⊢;rw [wy5 (s:=r)] at e;cases q:hop pm (t::r) with
 | some s=>rw [q] at e;cases e
 | none=>
  rw [q] at e;dsimp only at e ⊢;rw [show Mine.hd .lp (t::(r++[.sg .rp]))=Mine.hd .lp (t::r) from rfl] at e;cases q2:Mine.hd .lp (t::r) with
  | true=>
   rw [q2] at e;exact ((h (d + 1)).bind fun v=>Tl.need).cut r w rest e
  | false=>
   rw [q2] at e;exact (Tl.oper (h (d + 1)) (hn (d + 1))).cut (t::r) w rest e
theorem Tl.fact (h:Tl (vh5 Sm d)):Tl (xv5 Sm d):=by
 refine Tl.of (fun w rest e=>?_) (fun w rest e=>?_) fun t r w rest e=>?_
 ·exact h.nil w rest e
 ·exact h.cut [] w rest e
 ·unfold xv5 at e ⊢
  rw [wy5 (s:=r)] at e;cases q:hop pm (t::r) with
  | none=>
   rw [q] at e;exact h.cut (t::r) w rest e
  | some s=>
   rw [q] at e;dsimp only at e ⊢;have hl:wp5 (r++[.sg .rp])=wp5 r:=by
    cases r with
    | nil=>rfl
    | cons a l=>
     cases a with
     | nb x=>cases l <;> rfl
     | _=>rfl
   change ((vh5 Sm d (r++[.sg .rp])).bind fun v ts'=>Rd.ok (vp3 s (wp5 (r++[.sg .rp])) v) ts')=_ at e;rw [hl] at e;exact (h.bind fun v=>Tl.keep).cut r w rest e
theorem Tl.sum (h:∀ d,Tl (Sm d)) (hn:∀ d,Dn (Sm d)):Tl (xp1 Sm d):=
 Tl.lv rfl (Tl.lv rfl (Tl.fact (Tl.lv rfl (Tl.prim h hn) 8)) 8) 8
theorem Tl.s_both:∀ n,(∀ d,Tl (pS n d))/\∀ d,Dn (pS n d):=by
 intro n;induction n with
 | zero=>
  exact ⟨fun d=>Tl.never fun ts v r e=>(by cases e),fun d=>.inr fun ts v r e=>(by cases e)⟩
 | succ n ih0=>
  refine zz9 (ih0) fun h1 h2=>?_;refine ⟨fun d=>?_,fun d=>?_⟩
  ·by_cases hd:d<=20
   ·have e:pS (n + 1) d=xp1 (pS n) d:=by funext ts;exact if_pos hd
    refine (e).symm▸?_;exact Tl.sum h1 h2
   ·exact Tl.never fun ts v r e=>by change (if d<=20 then _ else _)=_ at e;rw [if_neg hd] at e;cases e
  ·by_cases hd:d<=20
   ·exact .inl (if_pos hd)
   ·exact .inr fun ts v r e=>by change (if d<=20 then _ else _)=_ at e;rw [if_neg hd] at e;cases e
end
theorem refuse {n:Nat} {ts:List Tk} {v:V} (h:pS n 0 (ts++[.sg .rp])=.ok v []):pS n 0 ts=.no:=by
 rcases ((Tl.s_both n).1 0).cut ts v [] h with ⟨_,h2⟩|⟨r,h2,_⟩
 ·exact h2
 ·cases r <;> cases h2
theorem wb6 {k n:Nat} {b:Bool} {ts:List Tk} {v:V} (h:Rp 1 k b ts v n) (hk:k<=7) (hn:n<=20):pS (n + 1) 0 ts=.ok v []:=by
 have z:=sum_ok (rest:=[]) (h.cl n 0 (iq1 _) (l11 0x0000014471000001447031 hn)) hk rfl;rw [iq7] at z;exact z
set_option genCtorIdx true in
inductive Nu where
 | z0|p5|m5|p25|m75
set_option genCtorIdx true in
inductive Op where
 | add|sub|mul|dv|pow
set_option genCtorIdx true in
inductive Qs where
 | q0|q1|q2
inductive Lf where
 | num (i:Nu)|ref (x:Nm) (q:Qs)
noncomputable def Lf.ctorIdx (x:Lf):Nat:=Lf.casesOn (motive:=fun U=>Nat) x (fun U=>0) (fun U U=>1)
inductive Prt where
 | none|p1 (a:Lf)|p2 (a b:Lf)
noncomputable def Prt.ctorIdx (x:Prt):Nat:=Prt.casesOn (motive:=fun U=>Nat) x 0 (fun U=>1) (fun U U=>2)
inductive Ex where
 | lf (l:Lf)
 | neg (a:Ex)
 | bin (s:Op) (a b:Ex)
 | sub1 (x:Nm) (q:Qs) (a:Ex) (p:Prt)
 | sub2 (x:Nm) (q:Qs) (a b:Ex) (p:Prt)
noncomputable def Ex.ctorIdx (x:Ex):Nat:=Ex.casesOn (motive:=fun U=>Nat) x (fun U=>0) (fun U=>1) (fun U U U=>2) (fun U U U U=>3) (fun U U U U U=>4)
noncomputable def Nu.v:Nu->Int×Int
 | .z0=>(0,0)|.p5=>(5,0)|.m5=>(-5,0)|.p25=>(25,2)|.m75=>(-75,1)
noncomputable def Op.sg:Op->Sg
 | .add=>.plus|.sub=>.minus|.mul=>.star|.dv=>.slash|.pow=>.pow
noncomputable def Op.lv:Op->Nat
 | .add=>1|.sub=>1|.mul=>2|.dv=>2|.pow=>4
noncomputable def Qs.l:Qs->List Nm
 | .q0=>[]|.q1=>[.g]|.q2=>[.g,.h]
noncomputable def Qs.v (q:Qs):List V:=q.l.map fun y=>.str (S y.txt)
noncomputable def Lf.v:Lf->V
 | .num i=>uj0 i.v
 | .ref x q=>yk0 (.str (S x.txt)) q.v (.tup []) .none
noncomputable def Prt.v:Prt->V
 | .none=>.none
 | .p1 a=>.tup [a.v,.none]
 | .p2 a b=>.tup [a.v,b.v]
noncomputable def Ex.v:Ex->V
 | .lf l=>l.v
 | .neg a=>negV a.v
 | .bin s a b=>wf0 s.sg a.v b.v
 | .sub1 x q a p=>yk0 (.str (S x.txt)) q.v (.tup [a.v]) p.v
 | .sub2 x q a b p=>yk0 (.str (S x.txt)) q.v (.tup [a.v,b.v]) p.v
noncomputable def Ex.dp:Ex->Nat
 | .lf _=>0
 | .neg a=>a.dp + 1
 | .bin _ a b=>max a.dp b.dp + 1
 | .sub1 _ _ a _=>a.dp + 1
 | .sub2 _ _ a b _=>max a.dp b.dp + 1
inductive Pc where
 | t (x:Tk)|sp
noncomputable def Pc.ctorIdx (x:Pc):Nat:=Pc.casesOn (motive:=fun U=>Nat) x (fun U=>0) 1
noncomputable abbrev ps (s:Sg):Pc:=.t (.sg s)
noncomputable def toks:List Pc->List Tk
 | []=>[]
 | .t x::r=>x::toks r
 | .sp::r=>toks r
theorem zq3:∀ a b:List Pc,toks (a++b)=toks a++toks b:=by
 intro a;induction a with
 | nil=>
  intro b;exact rfl
 | cons p0 r ih0=>
  cases p0 with
  | t x=>
   intro b;exact congrArg (fun U=>x::U) (ih0 b)
  | sp=>
   intro b;exact ih0 b
noncomputable def Nu.p:Nu->List Pc
 | .z0=>[.t (.nb .n0)]|.p5=>[.t (.nb .n5)]|.m5=>[ps .minus,.t (.nb .n5)]|.p25=>[.t (.nb .n25)]|.m75=>[ps .minus,.t (.nb .n75)]
noncomputable def qTk:Bool->Tk
 | true=>.of_
 | false=>.in_
noncomputable def qualP (of:Bool) (q:Qs):List Pc:=q.l.flatMap fun y=>[.sp,.t (qTk of),.sp,.t (.nm y)]
noncomputable def zb0 (of:Bool) (x:Nm) (q:Qs):List Pc:=.t (.nm x)::qualP of q
noncomputable def Lf.sh:Lf->List Pc
 | .num i=>i.p
 | .ref x q=>zb0 true x q
noncomputable def Prt.sh:Prt->List Pc
 | .none=>[]
 | .p1 a=>[.sp,ps .lp]++a.sh++[.sp,ps .colon,ps .rp]
 | .p2 a b=>[.sp,ps .lp]++a.sh++[.sp,ps .colon,.sp]++b.sh++[ps .rp]
noncomputable def Lf.lv:Lf->Nat
 | .num .m5=>3
 | .num .m75=>3
 | _=>5
noncomputable def Ex.lv:Ex->Nat
 | .lf l=>l.lv
 | .neg _=>3
 | .bin s _ _=>s.lv
 | _=>5
noncomputable def wz3:Ex->Bool
 | .lf (.num _)=>true
 | _=>false
noncomputable def pcE {α:Type} (p:Pc) (f:Tk->α) (z:α):α:=Pc.rec f z p
noncomputable def opn (l:List Pc):Bool:=hdE l false fun p U=>pcE p (sgF fun U=>true) false
noncomputable def par (p:List Pc):List Pc:=ps .lp::(p++[ps .rp])
noncomputable def br (least lv:Nat) (p:List Pc):List Pc:=if lv < least then par p else p
noncomputable def xz1 (a b:List Pc):List Pc:=if opn b=true then par a++.sp::par b else a++.sp::b
noncomputable def Ex.sh:Ex->List Pc
 | .lf l=>l.sh
 | .neg a=>[ps .minus,.sp]++(if wz3 a=true then par a.sh else br 4 a.lv a.sh)
 | .bin s a b=>br s.lv a.lv a.sh++[.sp,ps s.sg,.sp]++br (s.lv + 1) b.lv b.sh
 | .sub1 x q a p=>zb0 true x q++.sp::(par a.sh++p.sh)
 | .sub2 x q a b p=>zb0 true x q++.sp::(par (xz1 a.sh b.sh)++p.sh)
noncomputable def Lf.pl:Lf->List Pc
 | .num i=>par i.p
 | .ref x q=>zb0 false x q
noncomputable def Prt.pl:Prt->List Pc
 | .none=>[]
 | .p1 a=>[.sp,ps .lp]++a.pl++[.sp,ps .colon,ps .rp]
 | .p2 a b=>[.sp,ps .lp]++a.pl++[.sp,ps .colon,.sp]++b.pl++[ps .rp]
noncomputable def Ex.pl:Ex->List Pc
 | .lf l=>l.pl
 | .neg a=>par ([ps .minus,.sp]++par a.pl)
 | .bin s a b=>par (par a.pl++[.sp,ps s.sg,.sp]++par b.pl)
 | .sub1 x q a p=>zb0 false x q++.sp::(par (par a.pl)++p.pl)
 | .sub2 x q a b p=>zb0 false x q++.sp::(par (par a.pl++.sp::par b.pl)++p.pl)
theorem zk1 (p:List Pc):toks (par p)=.sg .lp::(toks p++[.sg .rp]):=by
 show Tk.sg .lp::toks (p++[ps .rp])=_;refine (zq3 _ _).symm▸?_;rfl
theorem zp4 (of:Bool) (x:Nm) (q:Qs):toks (zb0 of x q)=.nm x::qTok (q.l.map fun y=>(of,y)):=by
 cases of <;> cases q <;> rfl
theorem vk4 (of:Bool) (q:Qs):qV (q.l.map fun y=>(of,y))=q.v:=by cases q <;> rfl
theorem vk3 (of:Bool) (q:Qs):(q.l.map fun y=>(of,y)).length<=7:=by cases q <;> simp [Qs.l]
theorem Rp.step {j k n:Nat} {b:Bool} {ts:List Tk} {v:V} (h:Rp (j + 1) k b ts v n) (hk:k<=7) (h1:1<=j) (h4:j<=4):Rp j 0 b ts v n:=by
 cases j with
 | zero=>exact absurd h1 (Nat.not_succ_le_zero 0)
 | succ j=>cases j with
  | zero=>exact .up1 h hk
  | succ j=>cases j with
   | zero=>exact .up2 h
   | succ j=>cases j with
    | zero=>exact .up3 h hk
    | succ j=>cases j with
     | zero=>exact .up4 h
     | succ j=>exact absurd h4 (Nat.not_le_of_gt (ik4 5 j))
theorem Rp.downs {l n:Nat} {b:Bool} {ts:List Tk} {v:V} (h1:1<=l) (d:Nat):∀ {k:Nat},Rp (l + d) k b ts v n->k<=7->l + d<=5->∃ k',k'<=k/\Rp l k' b ts v n:=by
 induction d with
 | zero=>exact fun h U U=>⟨_,iq1 _,h⟩
 | succ d ih=>
  intro k h hk h5;refine el11 (ih (Rp.step h hk (iq2 h1 (ij4 _ _)) (Nat.le_of_succ_le_succ h5)) (iv8 _) (ik9 h5)) fun k' q h'=>?_;exact ⟨k',iq2 q (iv8 _),h'⟩
theorem Rp.down {k n l m:Nat} {b:Bool} {ts:List Tk} {v:V} (h:Rp m k b ts v n) (hk:k<=7) (h1:1<=l) (h2:l<=m) (h3:m<=5):∃ k',k'<=k/\Rp l k' b ts v n:=by
 refine el10 (Nat.exists_eq_add_of_le h2) fun d e=>?_;rw [e] at h h3;exact Rp.downs h1 d h hk h3
theorem yb3 (l:Lf) (n:Nat):∃ b,Rp l.lv 0 b (toks l.sh) l.v n:=by
 cases l with
 | num i=>
  cases i
  ·exact ⟨_,.num .n0⟩
  ·exact ⟨_,.num .n5⟩
  ·exact ⟨_,.own .n5⟩
  ·exact ⟨_,.num .n25⟩
  ·exact ⟨_,.own .n75⟩
 | ref x q=>
  have z:=Rp.ref (n:=n) x (q.l.map fun y=>(true,y)) (vk3 true q) .row0 .part0;rw [vk4,iq7,iq7,<-zp4] at z;exact ⟨_,z⟩
theorem xw1 (l:Lf):3<=l.lv/\l.lv<=5:=by
 cases l with
 | num i=>cases i <;> exact ⟨by decide,by decide⟩
 | ref x q=>exact ⟨by show 3<=5;exact l00,by show 5<=5;exact l00⟩
theorem ux1 (p:Prt) (n:Nat):Rp 7 0 false (toks p.sh) p.v (n + 1):=by
 cases p with
 | none=>exact .part0
 | p1 a=>
  refine el10 (yb3 a n) fun b h=>?_;obtain ⟨k,hk,h⟩:=h.down (l:=1) (l00) ((nl rfl)) (by have:=xw1 a;exact l11 0x7331713 this.1) (xw1 a).2;have z:=Rp.part1 h ((ld ‹_› rfl));have e:toks (Prt.p1 a).sh=.sg .lp::(toks a.sh++[.sg .colon,.sg .rp]):=by
   show toks ([.sp,ps .lp]++a.sh++[.sp,ps .colon,ps .rp])=_;rw [zq3];rfl
  refine (e).symm▸?_;exact z
 | p2 a c=>
  refine el10 (yb3 c n) fun b2 h2=>?_;obtain ⟨k2,hk2,h2⟩:=h2.down (l:=1) (l00) (l00) (by have:=xw1 c;exact l11 0x7331713 this.1) (xw1 c).2;refine el10 (yb3 a n) fun b h=>?_;obtain ⟨k,hk,h⟩:=h.down (l:=1) (l00) ((nl rfl)) (by have:=xw1 a;exact l11 0x7331713 this.1) (xw1 a).2;have z:=Rp.part2 h (l11 0x0371737 hk) h2 (l11 0x0371737 hk2) (fun r=>by
   cases c with
   | num i=>cases i <;> rfl
   | ref x q=>rfl)
  have e:toks (Prt.p2 a c).sh=.sg .lp::(toks a.sh++.sg .colon::(toks c.sh++[.sg .rp])):=by
   show toks ([.sp,ps .lp]++a.sh++[.sp,ps .colon,.sp]++c.sh++[ps .rp])=_;rw [zq3,zq3,zq3];show Tk.sg .lp::(((toks a.sh)++[.sg .colon])++toks c.sh)++[.sg .rp]=_;simp
  refine (e).symm▸?_;exact z
theorem op_pow:∀ s:Op,4<=s.lv->s=.pow:=by intro s;cases s <;> simp [Op.lv]
theorem zp0 (e:Ex):1<=e.lv/\e.lv<=5:=by
 cases e with
 | lf l=>have:=xw1 l;exact ⟨by show 1<=l.lv;exact l11 0x7331713 this.1,this.2⟩
 | bin s a b=>cases s <;> exact ⟨ix4 rfl,ix4 rfl⟩
 | neg a=>exact ⟨by show 1<=3;exact l00,by show 3<=5;exact l00⟩
 | _=>exact ⟨by show 1<=5;exact l00,by show 5<=5;exact l00⟩
theorem Rp.par {k n:Nat} {b:Bool} {p:List Pc} {v:V} (h:Rp 1 k b (toks p) v n) (hk:k<=7):Rp 5 0 false (toks (Mine.par p)) v (n + 1):=by
 rw [zk1];exact .brk h hk
theorem br_rp {e:Ex} {n l:Nat} (hl:1<=l) (h5:l<=5) (hd:e.dp<=7) (h:∀ m,2 * e.dp + 1<=m->∃ k b,k<=e.dp/\Rp e.lv k b (toks e.sh) e.v m) (hn:2 * e.dp + 2<=n):∃ k b,k<=e.dp/\Rp l k b (toks (br l e.lv e.sh)) e.v n:=by
 unfold br;by_cases q:e.lv < l
 ·rw [if_pos q]
  obtain ⟨m,rfl⟩:∃ m,n=m + 1:=⟨n - 1,(iq8 (l21 0x72382211713 hn)).symm⟩;obtain ⟨k,b,hk,h⟩:=h m (l21 0x138123722118137221 hn);obtain ⟨k1,hk1,h⟩:=h.down (l:=1) (l22 0x8717381737 hd hk) (l00) (zp0 e).1 (zp0 e).2;obtain ⟨k2,hk2,h⟩:=(Rp.par h (l33 0x9718917381737 hd hk hk1)).down (l:=l) (l00) hl h5 (l00);exact ⟨k2,_,l21 0x037187 hk2,h⟩
 ·rw [if_neg q]
  obtain ⟨k,b,hk,h⟩:=h n (l21 0x823722118137221 hn);obtain ⟨k1,hk1,h⟩:=h.down (l:=l) (l22 0x8717381737 hd hk) hl (l21 0x87187 (ik2 q)) (zp0 e).2;exact ⟨k1,b,l32 0x97189187 hk hk1,h⟩
theorem wj8 {l lv:Nat} {p:List Pc}:lv < l/\toks (br l lv p)=.sg .lp::(toks p++[.sg .rp])\/¬ lv < l/\toks (br l lv p)=toks p:=by
 unfold br;by_cases q:lv < l
 ·rw [if_pos q];exact .inl ⟨q,zk1 p⟩
 ·rw [if_neg q];exact .inr ⟨q,rfl⟩
theorem uk7:∀ (e:Ex) (r:List Tk),4<=e.lv->wp5 (toks e.sh++.sg .pow::r)=false
 | .lf (.num i),r,h=>by cases i <;> first|rfl|(exact absurd h (by decide))
 | .lf (.ref x q),r,h=>rfl
 | .neg a,r,h=>absurd h (by show ¬ 4<=3;decide)
 | .sub1 x q a p,r,h=>rfl
 | .sub2 x q a b p,r,h=>rfl
 | .bin s a b,r,h=>by
  have hs:s=.pow:=op_pow s h;subst hs;show wp5 (toks (br 4 a.lv a.sh++[.sp,ps .pow,.sp]++br 5 b.lv b.sh)++_)=false;rw [zq3,zq3,iq0,iq0];rcases wj8 (l:=4) (lv:=a.lv) (p:=a.sh) with ⟨_,e⟩|⟨q,e⟩
  ·rw [e];rfl
  ·rw [e];exact uk7 a _ (l11 0x7431743 (ik2 q))
noncomputable def fst (l:List Pc):Bool:=hdE l false fun p U=>pcE p (fun t=>tkE t (fun U=>true) false false (fun U=>true) fun s=>s.ix == 5||s.ix == 1) false
theorem uh4 {a b:List Pc} (h:fst a=true):fst (a++b)=true:=by
 cases a with
 | nil=>nomatch h
 | cons p r=>exact h
theorem yh9:∀ e:Ex,fst e.sh=true
 | .lf (.num i)=>by cases i <;> rfl
 | .lf (.ref x q)=>rfl
 | .neg a=>rfl
 | .sub1 x q a p=>rfl
 | .sub2 x q a b p=>rfl
 | .bin s a b=>by
  show fst (br s.lv a.lv a.sh++[.sp,ps s.sg,.sp]++br (s.lv + 1) b.lv b.sh)=true;refine uh4 (uh4 ?_);unfold br;split
  ·rfl
  ·exact yh9 a
theorem vq5 {p:List Pc} (h:fst p=true) (q:opn p=false) (b:Bool) (r:List Tk):xh4 b 1 (toks p++r)=true/\hd .rp (toks p++r)=false:=by
 cases p with
 | nil=>nomatch h
 | cons x p=>cases x with
  | sp=>nomatch h
  | t y=>cases y with
   | nm z=>exact ⟨rfl,rfl⟩
   | nb z=>exact ⟨rfl,rfl⟩
   | sg s=>nomatch q
   | _=>nomatch h
theorem xz5:∀ (e:Ex) (n:Nat),e.dp<=7->2 * e.dp + 1<=n->∃ k b,k<=e.dp/\Rp e.lv k b (toks e.sh) e.v n
 | .lf l,n,hd,hn=>by
  obtain ⟨b,h⟩:=yb3 l n;exact ⟨0,b,l10 0x703,h⟩
 | .neg a,n,hd,hn=>by
  have hd':a.dp + 1<=7:=hd;have hn':2 * (a.dp + 1) + 1<=n:=hn;have hm:∀ {k b} {p:List Pc},Rp 4 k b (toks p) a.v n->k<=7->(∀ rest,wp5 (toks p++rest)=false)->∃ k b,k<=(Ex.neg a).dp/\Rp 3 k b (toks ([ps .minus,.sp]++p)) (negV a.v) n:=fun h hk hl=>⟨0,_,l10 0x703,Rp.neg h hk hl⟩;show ∃ k b,k<=_/\Rp 3 k b (toks ([ps .minus,.sp]++(if wz3 a=true then par a.sh else br 4 a.lv a.sh))) (negV a.v) n;cases q:wz3 a with
  | true=>
   rw [if_pos rfl];obtain ⟨m,rfl⟩:∃ m,n=m + 1:=⟨n - 1,(iq8 (l21 0x71382211713 hn)).symm⟩;obtain ⟨k,b,hk,h⟩:=xz5 a m (l11 0x7313711737 hd') (l21 0x138113137122118137221 hn');obtain ⟨k1,hk1,h⟩:=h.down (l:=1) (l22 0x8717313811737 hd' hk) (l00) (zp0 a).1 (zp0 a).2;exact hm (.up4 (Rp.par h (l33 0x9718917313811737 hd' hk hk1))) (l00) (fun rest=>by rw [zk1];rfl)
  | false=>
   rw [if_neg (by decide)];obtain ⟨k,b,hk,h⟩:=br_rp (e:=a) (n:=n) (l:=4) (l00) (l00) (l11 0x7313711737 hd') (fun m hm=>xz5 a m (l11 0x7313711737 hd') hm) (l21 0x813137122118237221 hn');refine hm h (l22 0x8717313811737 hd' hk) fun rest=>?_;rcases wj8 (l:=4) (lv:=a.lv) (p:=a.sh) with ⟨_,e⟩|⟨q2,e⟩
   ·rw [e];rfl
   ·rw [e]
    cases a with
    | lf l=>cases l with
     | num i=>cases q
     | ref x q=>rfl
    | neg a=>exact absurd (show 3 < 4 by exact l00) q2
    | sub1 x q a p=>rfl
    | sub2 x q a b p=>rfl
    | bin s a b=>
     have hs:s=.pow:=op_pow s (ik2 q2);subst hs;show wp5 (toks (br 4 a.lv a.sh++[.sp,ps .pow,.sp]++br 5 b.lv b.sh)++_)=false;rw [zq3,zq3,iq0,iq0];rcases wj8 (l:=4) (lv:=a.lv) (p:=a.sh) with ⟨_,e⟩|⟨q,e⟩
     ·rw [e];rfl
     ·rw [e];exact uk7 a _ (l11 0x7431743 (ik2 q))
 | .bin s a b,n,hd,hn=>by
  have hd':max a.dp b.dp + 1<=7:=hd;have hn':2 * (max a.dp b.dp + 1) + 1<=n:=hn;have hl:opAt s.lv s.sg:=by cases s <;> simp [opAt,Op.lv,Op.sg]
  have hl1:1<=s.lv/\s.lv + 1<=5:=by cases s <;> exact ⟨by decide,by decide⟩
  obtain ⟨k,c,hk,h⟩:=br_rp (e:=a) (n:=n) (l:=s.lv) (l11 0x7131713 hl1.1) (l11 0x5313711537 hl1.2) (l22 0x8717313811737 hd' (iz4 _ _)) (fun m hm=>xz5 a m (l22 0x8717313811737 hd' (iz4 _ _)) hm) (l32 0x972813139122118237221 hn' (iz4 _ _));obtain ⟨k2,c2,hk2,h2⟩:=br_rp (e:=b) (n:=n) (l:=s.lv + 1) (l10 0x137113) (l11 0x5313711531371 hl1.2) (l22 0x8717313811737 hd' (iz3 _ _)) (fun m hm=>xz5 b m (l22 0x8717313811737 hd' (iz3 _ _)) hm) (l32 0x972813139122118237221 hn' (iz3 _ _));refine ⟨k + 1,c2,by show k + 1<=max a.dp b.dp + 1;exact l32 0x89197113811371 hk (iz4 _ _),?_⟩;show Rp s.lv (k + 1) c2 (toks (br s.lv a.lv a.sh++[.sp,ps s.sg,.sp]++br (s.lv + 1) b.lv b.sh)) (wf0 s.sg a.v b.v) n;rw [zq3,zq3,iq0];exact .bin hl h h2 (l33 0x8919717313811737 hd' hk2 (iz3 _ _))
 | .sub1 x q a p,n,hd,hn=>by
  have hd':a.dp + 1<=7:=hd;have hn':2 * (a.dp + 1) + 1<=n:=hn;obtain ⟨m,rfl⟩:∃ m,n=m + 1:=⟨n - 1,(iq8 (l21 0x71382211713 hn)).symm⟩;obtain ⟨k,b,hk,h⟩:=xz5 a m (l11 0x7313711737 hd') (l21 0x138113137122118137221 hn');obtain ⟨k1,hk1,h⟩:=h.down (l:=1) (l22 0x8717313811737 hd' hk) (l00) (zp0 a).1 (zp0 a).2;have z:=Rp.ref (n:=m + 1) x (q.l.map fun y=>(true,y)) (vk3 true q) (.row1 h (l33 0x9718917313811737 hd' hk hk1)) (ux1 p m);rw [vk4] at z;refine ⟨0,true,l10 0x703,?_⟩;show Rp 5 0 true (toks (zb0 true x q++.sp::(par a.sh++p.sh))) _ _;rw [zq3,zp4,show toks (.sp::(par a.sh++p.sh))=toks (par a.sh++p.sh) from rfl,zq3,zk1];exact z
 | .sub2 x q a b p,n,hd,hn=>by
  have hd':max a.dp b.dp + 1<=7:=hd;have hn':2 * (max a.dp b.dp + 1) + 1<=n:=hn;obtain ⟨m,rfl⟩:∃ m,n=m + 2:=⟨n - 2,(iq8 (l21 0x71313812211723 hn')).symm⟩;have hr:Rp 6 0 false (.sg .lp::(toks (xz1 a.sh b.sh)++[.sg .rp])) (.tup [a.v,b.v]) (m + 2):=by
   unfold xz1;cases qo:opn b.sh with
   | true=>
    rw [if_pos rfl];obtain ⟨k,c,hk,h⟩:=xz5 a m (l22 0x8717313811737 hd' (iz4 _ _)) (l32 0x972238113139122118137221 hn' (iz4 _ _));obtain ⟨k1,hk1,h⟩:=h.down (l:=1) (l33 0x8919717313811737 hd' hk (iz4 _ _)) (l00) (zp0 a).1 (zp0 a).2;obtain ⟨k3,hk3,h⟩:=(Rp.par h (l44 0x8a1971a917313811737 hd' hk hk1 (iz4 _ _))).down (l:=1) (l00) (l00) (l00) (l00);obtain ⟨k2,c2,hk2,h2⟩:=xz5 b m (l22 0x8717313811737 hd' (iz3 _ _)) (l32 0x972238113139122118137221 hn' (iz3 _ _));obtain ⟨k4,hk4,h2⟩:=h2.down (l:=1) (l33 0x8919717313811737 hd' hk2 (iz3 _ _)) (l00) (zp0 b).1 (zp0 b).2;obtain ⟨k5,hk5,h2⟩:=(Rp.par h2 (l44 0x8a1971a917313811737 hd' hk2 hk4 (iz3 _ _))).down (l:=1) (l00) (l00) (l00) (l00);have z:=Rp.row2 h (l11 0x0371737 hk3) (fun r=>by rw [zk1];rfl) (fun r=>by rw [zk1];rfl) h2 (l11 0x0371737 hk5);rw [zq3,show toks (.sp::par b.sh)=toks (par b.sh) from rfl,iq0];exact z
   | false=>
    rw [if_neg (by decide)];obtain ⟨k,c,hk,h⟩:=xz5 a (m + 1) (l22 0x8717313811737 hd' (iz4 _ _)) (l32 0x972238113139122111381137221 hn' (iz4 _ _));obtain ⟨k1,hk1,h⟩:=h.down (l:=1) (l33 0x8919717313811737 hd' hk (iz4 _ _)) (l00) (zp0 a).1 (zp0 a).2;obtain ⟨k2,c2,hk2,h2⟩:=xz5 b (m + 1) (l22 0x8717313811737 hd' (iz3 _ _)) (l32 0x972238113139122111381137221 hn' (iz3 _ _));have hne:=yh9 b;obtain ⟨k4,hk4,h2⟩:=h2.down (l:=1) (l33 0x8919717313811737 hd' hk2 (iz3 _ _)) (l00) (zp0 b).1 (zp0 b).2;have z:=Rp.row2 h (l44 0x8a1971a917313811737 hd' hk hk1 (iz4 _ _)) (fun r=>(vq5 hne qo c r).1) (fun r=>(vq5 hne qo c r).2) h2 (l44 0x8a1971a917313811737 hd' hk2 hk4 (iz3 _ _));rw [zq3,show toks (.sp::b.sh)=toks b.sh from rfl,iq0];exact z
  have z:=Rp.ref (n:=m + 2) x (q.l.map fun y=>(true,y)) (vk3 true q) hr (ux1 p (m + 1));rw [vk4] at z;refine ⟨0,true,l10 0x703,?_⟩;show Rp 5 0 true (toks (zb0 true x q++.sp::(par (xz1 a.sh b.sh)++p.sh))) _ _;rw [zq3,zp4,show toks (.sp::(par (xz1 a.sh b.sh)++p.sh))=toks (par (xz1 a.sh b.sh)++p.sh) from rfl,zq3,zk1];exact z
theorem Rp.one {k n l:Nat} {b:Bool} {p:List Pc} {v:V} (h:Rp 5 k b (toks p) v n) (hk:k<=0) (h1:1<=l) (h5:l<=5):Rp l 0 b (toks p) v n:=by
 refine el11 (h.down (l:=l) (l11 0x0371737 hk) h1 h5 (l00)) fun k1 hk1 h=>?_;obtain rfl:k1=0:=ix9 (l22 0x8710381037 hk hk1) (l10 0x703);exact h
theorem Rp.par0 {k n:Nat} {b:Bool} {p:List Pc} {v:V} (h:Rp 5 k b (toks p) v n) (hk:k<=0):Rp 5 0 false (toks (Mine.par p)) v (n + 1):=Rp.par (h.one hk (l00) (l00)) (l00)
theorem xw3 (l:Lf) (n:Nat):∃ b,Rp 5 0 b (toks l.pl) l.v (n + 1):=by
 cases l with
 | num i=>
  refine Classical.byContradiction fun ng=>?_;refine el10 (yb3 (.num i) n) fun b h=>?_;obtain ⟨k,hk,h⟩:=h.down (l:=1) (l00) (l00) (by have:=xw1 (.num i);exact l11 0x7331713 this.1) (xw1 _).2;exact ng (⟨_,Rp.par h (l11 0x0371737 hk)⟩)
 | ref x q=>
  have z:=Rp.ref (n:=n + 1) x (q.l.map fun y=>(false,y)) (vk3 false q) .row0 .part0;rw [vk4,iq7,iq7,<-zp4] at z;exact ⟨_,z⟩
theorem ux2 (p:Prt) (n:Nat):Rp 7 0 false (toks p.pl) p.v (n + 2):=by
 cases p with
 | none=>exact .part0
 | p1 a=>
  refine el10 (xw3 a n) fun b h=>?_;have z:=Rp.part1 (h.one (l:=1) (l00) (l00) (l00)) (l00);have e:toks (Prt.p1 a).pl=.sg .lp::(toks a.pl++[.sg .colon,.sg .rp]):=by
   show toks ([.sp,ps .lp]++a.pl++[.sp,ps .colon,ps .rp])=_;rw [zq3];rfl
  refine (e).symm▸?_;exact z
 | p2 a c=>
  refine el10 (xw3 c n) fun b2 h2=>?_;refine el10 (xw3 a n) fun b h=>?_;have z:=Rp.part2 (h.one (l:=1) (l00) (l00) (l00)) (l00) (h2.one (l:=1) (l00) (l00) (l00)) (l00) (fun r=>by
   cases c with
   | num i=>cases i <;> rfl
   | ref x q=>rfl)
  have e:toks (Prt.p2 a c).pl=.sg .lp::(toks a.pl++.sg .colon::(toks c.pl++[.sg .rp])):=by
   show toks ([.sp,ps .lp]++a.pl++[.sp,ps .colon,.sp]++c.pl++[ps .rp])=_;rw [zq3,zq3,zq3];show Tk.sg .lp::(((toks a.pl)++[.sg .colon])++toks c.pl)++[.sg .rp]=_;simp
  refine (e).symm▸?_;exact z
theorem pl_rp:∀ (e:Ex) (n:Nat),2 * e.dp + 2<=n->∃ b,Rp 5 0 b (toks e.pl) e.v n:=by
 intro e;induction e with
 | lf l=>
  intro n hn;obtain ⟨m,rfl⟩:∃ m,n=m + 1:=⟨n - 1,(iq8 (l21 0x72382211713 hn)).symm⟩;exact xw3 l m
 | neg a ih0a=>
  intro n hn;have hn':2 * (a.dp + 1) + 2<=n:=hn;obtain ⟨m,rfl⟩:∃ m,n=m + 2:=⟨n - 2,(iq8 (l21 0x72382211723 hn)).symm⟩;obtain ⟨b,h⟩:=ih0a m (l21 0x238123137122118237221 hn');have z:=Rp.neg (.up4 (h.par0 ((nl rfl)))) (l00) (fun rest=>by rw [zk1];rfl);exact ⟨_,Rp.par (p:=[ps .minus,.sp]++par a.pl) (.up1 (.up2 z) (l00)) (l00)⟩
 | bin s a c ih0a ih0c=>
  intro n hn;have hn':2 * (max a.dp c.dp + 1) + 2<=n:=hn;obtain ⟨m,rfl⟩:∃ m,n=m + 2:=⟨n - 2,(iq8 (l21 0x72382211723 hn)).symm⟩;obtain ⟨b,h⟩:=ih0a m (l32 0x972238123139122118237221 hn' (iz4 _ _));obtain ⟨b2,h2⟩:=ih0c m (l32 0x972238123139122118237221 hn' (iz3 _ _));have hl:opAt s.lv s.sg:=by cases s <;> simp [opAt,Op.lv,Op.sg]
  have hl1:1<=s.lv/\s.lv + 1<=5:=by cases s <;> exact ⟨by decide,by decide⟩
  have z:=Rp.bin hl ((h.par0 ((nl rfl))).one (l:=s.lv) ((nl rfl)) (l11 0x7131713 hl1.1) (l11 0x5313711537 hl1.2)) ((h2.par0 ((nl rfl))).one (l:=s.lv + 1) ((nl rfl)) (l10 0x137113) (l11 0x5313711531371 hl1.2)) (l00);refine el11 (z.down (l:=1) (l00) (l00) (l11 0x7131713 hl1.1) (l11 0x5313711537 hl1.2)) fun k hk z=>?_;have e:toks (par a.pl++[.sp,ps s.sg,.sp]++par c.pl)=toks (par a.pl)++Tk.sg s.sg::toks (par c.pl):=by
   rw [zq3,zq3,iq0];rfl
  rw [<-e] at z;exact ⟨_,Rp.par z (l11 0x1303171737 hk)⟩
 | sub1 x q a p ih0a=>
  intro n hn;have hn':2 * (a.dp + 1) + 2<=n:=hn;obtain ⟨m,rfl⟩:∃ m,n=m + 2:=⟨n - 2,(iq8 (l21 0x72382211723 hn)).symm⟩;refine hid fun G kG=>?_;obtain ⟨b,h⟩:=ih0a m (l21 0x238123137122118237221 hn');have z:=Rp.ref (n:=m + 2) x (q.l.map fun y=>(false,y)) (vk3 false q) (.row1 ((h.par0 ((nl rfl))).one (l:=1) (l00) (l00) (l00)) (l00)) (ux2 p m);refine kG ?_;rw [vk4] at z;refine ⟨true,?_⟩;show Rp 5 0 true (toks (zb0 false x q++.sp::(par (par a.pl)++p.pl))) _ _;rw [zq3,zp4,show toks (.sp::(par (par a.pl)++p.pl))=toks (par (par a.pl)++p.pl) from rfl,zq3,zk1];exact z
 | sub2 x q a c p ih0a ih0c=>
  intro n hn;have hn':2 * (max a.dp c.dp + 1) + 2<=n:=hn;obtain ⟨m,rfl⟩:∃ m,n=m + 2:=⟨n - 2,(iq8 (l21 0x72382211723 hn)).symm⟩;obtain ⟨b,h⟩:=ih0a m (l32 0x972238123139122118237221 hn' (iz4 _ _));obtain ⟨b2,h2⟩:=ih0c m (l32 0x972238123139122118237221 hn' (iz3 _ _));have hr:=Rp.row2 ((h.par0 (l00)).one (l:=1) (l00) (l00) (l00)) (l00) (fun r=>by rw [zk1];rfl) (fun r=>by rw [zk1];rfl) ((h2.par0 (l00)).one (l:=1) (l00) (l00) (l00)) (l00);have z:=Rp.ref (n:=m + 2) x (q.l.map fun y=>(false,y)) (vk3 false q) hr (ux2 p m);rw [vk4] at z;refine ⟨true,?_⟩;have e:toks (par a.pl++.sp::par c.pl)=toks (par a.pl)++toks (par c.pl):=by rw [zq3];rfl
  show Rp 5 0 true (toks (zb0 false x q++.sp::(par (par a.pl++.sp::par c.pl)++p.pl))) _ _;rw [zq3,zp4,show toks (.sp::(par (par a.pl++.sp::par c.pl)++p.pl))=toks (par (par a.pl++.sp::par c.pl)++p.pl) from rfl,zq3,zk1,e,iq0];exact z
theorem xf1 (e:Ex) (h:e.dp<=2):pS 6 0 (toks e.sh)=.ok e.v []:=by
 refine Classical.byContradiction fun ng=>?_;refine el21 (xz5 e 5 ((ld ‹_› rfl)) (l11 0x237253137221 h)) fun k b hk z=>?_;refine el11 (z.down (l:=1) (l22 0x8712381737 h hk) (l00) (zp0 e).1 (zp0 e).2) fun k1 hk1 z=>?_;exact ng (wb6 z (l33 0x9718912381737 h hk hk1) (l00))
theorem vk7 (e:Ex) (h:e.dp<=2):pS 7 0 (toks e.pl)=.ok e.v []:=by
 refine el10 (pl_rp e 6 (l11 0x237263237221 h)) fun b z=>?_;exact wb6 (z.one (l:=1) (l00) (l00) (l00)) (l00) (l00)
section
variable {n a:Nat} {T w rest sg:List Nat} {σ:zz0}
theorem zv9 {c:Nat} (h:c < 97):zz4 (n + 1) (.fn "capital_of") [.str [c]] σ=.ok (.str [c]) σ:=by
 refine zo0 ?_;refine za0 (v:=.bool false) (σ:=σ) (by show Out.ok (V.bool (decide (97<=c))) σ=_;rw [decide_eq_false (Nat.not_le.mpr h)]) (Rn.go 1 ?_);refine zc0 ?_;exact ⟨rfl,rfl⟩
theorem wx8 (hT:T.drop a=w) (i:Nat):T[a + i]?=w[i]?:=by rw [<-hT,List.getElem?_drop]
theorem yq3 (hT:T.drop a=w) (ha:a<=T.length):T.length=a + w.length:=by rw [<-hT,iw1];exact (Nat.add_sub_cancel' ha).symm
theorem zy5 (ha:a<=T.length) (hT:T.drop a=w++rest) (hl:T.length<=100000) (hw:∀ c∈w,c < 97/\subIn sg [c]=true) (hr:∀ c,rest.head?=some c->c < 97/\subIn sg [c]=false) :
 zz4 (n + 2) (.fn "run_end") [.str T,.int a,.str sg] σ=.ok (.int (a + w.length:Nat)) σ:=by
 have hlen:=yq3 hT ha;rw [iq6] at hlen;have hS:T.length<=SL:=by have h1:SL=16777216:=rfl;exact l11 0x00186a0471100000047 hl
 refine zo0 ?_;refine zr0 (ym0 (yl0 (Q:=fun y s=>s=σ/\y=(.next,([("text",.str T),("at",.int (a + w.length:Nat)),("signs",.str sg)]:Rho))) (I:=fun m ρ s=>s=σ/\∃ i,i + m=w.length/\ρ=([("text",.str T),("at",.int (a + i:Nat)),("signs",.str sg)]:Rho)) ?step LF w.length _ _ ?init (by show _ < 1048576;exact l42 0xa71918d00186a0481010000041371 hl hlen)) |>.mono ?fin)
 case init=>exact ⟨rfl,0,ix9 (l10 0x77031) (l10 0x70317),rfl⟩
 case fin=>
  rintro y s ⟨rfl,rfl⟩;exact zc0 ⟨rfl,rfl⟩
 case step=>
  rintro m ρ s ⟨rfl,i,hi,rfl⟩;have hx:=wx8 hT i;refine za0 (len_str hS) ?_;cases q:(w++rest)[i]? with
  | none=>
   have:=List.getElem?_eq_none_iff.mp q;rw [iq6] at this;refine zd0 rfl (decide_eq_false (iv2.mpr (ix6.mpr (hlen▸ij0 this a)))) ?_;have:i=w.length:=ix9 (l31 0x8971987 hi) (l31 0x8971187 this);subst this;exact zc0 ⟨rfl,rfl⟩
  | some c=>
   have hlt:=(iz7.mp q).1;rw [iq6] at hlt;refine ze0 rfl (decide_eq_true (ik6.mpr (hlen▸Nat.add_lt_add_left hlt a))) ?_;refine za0 (zx7 (k:=a + i) (hx.trans q) hS) ?_;by_cases hi2:i < w.length
   ·rw [iz8 hi2] at q
    obtain ⟨h1,h2⟩:=hw c (iv0 q);refine za0 (zv9 h1) ?_;refine za0 (zw7 h2) (Rn.go 1 ?_);refine zc0 ?_;refine Rn.go 1 (zc0 ?_);exact ⟨m - 1,(turn hi hi2).1,rfl,i + 1,(turn hi hi2).2,rfl⟩
   ·have hiw:i=w.length:=ix9 (l31 0x8971987 hi) (l21 0x87187 (ik2 hi2))
    subst hiw;rw [ix5 (by exact l10 0x77),iv4] at q;obtain ⟨h1,h2⟩:=hr c (by rw [List.head?_eq_getElem?];exact q);refine za0 (zv9 h1) ?_;refine za0 (zw7 h2) (Rn.go 1 ?_);refine zc0 ?_;exact ⟨rfl,rfl⟩
theorem wh7 {k n:Nat}:zb2 (k:Int) n=min k n:=by
 rfl
theorem zw4 {k:Nat} (hl:T.length<=SL) (hT:T.drop a=w):zy6 (.str T) (some (a:Int)) (some ((a + k:Nat):Int)) σ=.ok (.str (w.take k)) σ:=by
 show (if T.length<=SL then _ else _)=_;rw [if_pos hl];refine congrArg (fun x=>Out.ok (V.str x) σ) ?_;show (T.take (zb2 _ _)).drop (zb2 _ _)=_;rw [wh7,wh7,<-hT];by_cases h:a<=T.length
 ·rw [Nat.min_eq_left h]
  by_cases h2:a + k<=T.length
  ·rw [Nat.min_eq_left h2,List.take_drop]
  ·rw [Nat.min_eq_right (by exact l31 0x981137119817 (oq0 h2)),oq1 (iq1 _),oq1 (by rw [iw1];exact Nat.sub_le_of_le_add (oz9 (Nat.add_comm a k▸oq0 h2)))]
 ·rw [Nat.min_eq_right (by exact l21 0x81371187 (oq0 h)),Nat.min_eq_right (by exact l31 0x8137119817 (oq0 h)),oq1 (iq1 _),List.drop_of_length_le (iq1 _),List.drop_of_length_le (by exact l21 0x81371187 (oq0 h))]
  simp
end
theorem zt0 {C:zz5} {k:Nat} {sc:Scope} {ρ:Rho} {e:Expr} {σ σ':zz0} {b:Bool} (h:Rn (rT C k sc ρ e σ) fun a s=>a=b/\s=σ'):Mine.evT C k sc ρ e σ=.ok b σ':=by
 refine el22 h.evT fun v s e eq1 eq2=>?_;subst eq1;subst eq2;exact e
theorem zs0 {C:zz5} {k:Nat} {sc:Scope} {ρ:Rho} {e:Expr} {σ σ':zz0} {b:V} (h:Rn (rE C k sc ρ e σ) fun a s=>a=b/\s=σ'):Mine.evE C k sc ρ e σ=.ok b σ':=by
 refine el22 h.evE fun v s e eq3 eq4=>?_;subst eq3;subst eq4;exact e
theorem comp_k {F:V->zz0->Out (Option V)} {σ:zz0} {l:List V} {g:V->Option V} (h:∀ v∈l,F v σ=.ok (g v) σ):∀ r,r<=l.length->wg0 F (.seq l) r σ=.ok ((l.drop (l.length - r)).filterMap g) σ:=by
 intro r;induction r with
 | zero=>
  intro U;rw [Nat.sub_zero,List.drop_of_length_le (iq1 _)];rfl
 | succ r ih0=>
  intro hr;have hlt:l.length - (r + 1) < l.length:=Nat.sub_lt_self (iv7 r) hr;have hd:l.drop (l.length - (r + 1))=l[l.length - (r + 1)]::l.drop (l.length - r):=by
   rw [List.drop_eq_getElem_cons hlt];congr 2;exact tsub hr
  have hi:yb9 (.seq l) (zq5 (.seq l) - (r + 1)) σ=some l[l.length - (r + 1)]:=by
   show l[l.length - (r + 1)]?=_;rw [ij6 hlt]
  refine (oel hi (ob' (h _ (List.getElem_mem hlt)) (ob (ih0 (l21 0x81371187 hr)) rfl))).trans ?_;rw [hd,oq8];cases g l[l.length - (r + 1)] <;> rfl
theorem xy2 {F:V->zz0->Out (Option V)} {σ:zz0} {l:List V} (g:V->Option V) (h:∀ v∈l,F v σ=.ok (g v) σ):yz5 F (.seq l) σ=.ok (l.filterMap g) σ:=by
 have z:=comp_k h l.length (iq1 _);rw [iv4] at z;exact z
theorem xy4 {ft:Expr->zz0->V->Out Bool} {fe:Expr->zz0->V->Out V} {elt:Expr} {v u:V} {σ:zz0} (h:fe elt σ v=.ok u σ):compF ft fe [] elt v σ=.ok (some u) σ:=by
 show (fe elt σ v).bnd _=_;refine (h).symm▸?_;rfl
theorem uf5 {ft:Expr->zz0->V->Out Bool} {fe:Expr->zz0->V->Out V} {e elt:Expr} {v u:V} {σ:zz0} {b:Bool} (hb:ft e σ v=.ok b σ) (h:fe elt σ v=.ok u σ):compF ft fe [e] elt v σ=.ok (if b then some u else none) σ:=by
 refine ob (ob hb (by cases b <;> rfl:_=Out.ok b σ)) ?_;cases b
 ·rfl
 ·show (fe elt σ v).bnd _=_
  refine (h).symm▸?_;rfl
noncomputable def sgl (w:List Nat):List V:=w.map fun c=>V.str [c]
theorem vf1:∀ w:List Nat,textsOf (sgl w)=some (w.map fun c=>[c]):=by
 intro w;induction w with
 | nil=>
  exact rfl
 | cons c w ih0=>
  show (textsOf (sgl w)).map _=_;refine (ih0).symm▸?_;rfl
theorem yb6:∀ xs:List (List Nat),yj2 [] xs=xs.flatten
 | []=>rfl
 | [x]=>(iq7 x).symm
 | x::y::r=>(congrArg (fun U=>x++[]++U) (yb6 (y::r))).trans (congrArg (fun U=>U++_) (iq7 x))
theorem flat_one (w:List Nat):(w.map fun c=>[c]).flatten=w:=by induction w <;> simp_all
theorem yb7 {i:Nat} {l:List V} {xs:List (List Nat)} {sep:List Nat} {σ:zz0} (h:σ[i]?=some (.lst l)) (hx:textsOf l=some xs) (hs:(xs.map List.length).sum + xs.length * sep.length<=SL):zq7 "str.join" (.str sep) [.loc i] σ=.ok (.str (yj2 sep xs)) σ:=by
 exact (zj7 (F:=fun l=>vv7 sep l σ) h).trans ((congrArg (fun o=>Option.elim o Out.bad fun xs:List (List Nat)=>if (xs.map List.length).sum + xs.length * sep.length<=SL then Out.ok (V.str (yj2 sep xs)) σ else .bad) hx).trans (if_pos hs))
section
variable {n a L P:Nat} {T w rest sg:List Nat} {σ:zz0}
theorem wg4 (h:∀ c∈w,c < 97) (hl:w.length<=1000):zz4 (n + 2) (.fn "capitals") [.str w] σ=.ok (.str w) (σ++[.lst (sgl w)]):=by
 have hg:zq5 (.seq (w.map fun c=>V.str [c])) < SL:=by show (w.map _).length < SL;rw [iq9];exact l11 0x00003e8471100000041371 hl
 refine zo0 ?_;refine Rn.go 2 ?_;refine za0 ((if_pos hg).trans (xy2 (fun v=>some v) ?_)) ?_
 ·rintro v hv
  refine el11 (ik5.mp hv) fun c hc eq5=>?_;subst eq5;refine xy4 (zs0 ?_);refine za0 (zv9 (h c hc)) ?_;exact zc0 ⟨rfl,rfl⟩
 refine (List.filterMap_some).symm▸?_;refine za0 (yb7 zq4 (vf1 w) ?_) ?_
 ·have h1:SL=16777216:=rfl
  have:∀ w:List Nat,((w.map fun c=>[c]).map List.length).sum=w.length:=by intro w;induction w <;> simp_all [Nat.add_comm]
  refine (this _).symm▸?_;refine (?_:w.length + w.length * 0<=SL);exact l11 0x00003e84711000000470571 hl
 exact zc0 ⟨congrArg V.str ((yb6 _).trans (flat_one w)),rfl⟩
theorem list_eq {i j:Nat} {l m:List V} {r:Bool} (hi:σ[i]?=some (.lst l)) (hj:σ[j]?=some (.lst m)) (h:zy2 l m=some r):zy8 .Eq (.loc i) (.loc j) σ=.ok (.bool r) σ:=by
 show liftO (((zj3 σ i).elim Option.none fun l=>(zj3 σ j).elim Option.none fun m=>zy2 l m).map V.bool) σ=_;rw [xx2 hi,xx2 hj];exact congrArg (fun o=>liftO (Option.map V.bool o) σ) h
theorem yb8 {l:Nat} (h:w[w.length - 1]?=some l) (hS:w.length<=SL):zv7 (.str w) (.int (-1)) σ=.ok (.str [l]) σ:=by
 have hlt:=(iz7.mp h).1;have hp:=xq5 (Nat.zero_lt_of_lt hlt) hS;exact (congrArg (fun o=>liftO (Option.map (fun c=>V.str [c]) (Option.bind o fun j=>w[j]?)) σ) hp).trans (congrArg (fun o=>liftO (Option.map (fun c=>V.str [c]) o) σ) h)
theorem sgl_lay {l:List Nat} (h:∀ c∈l,c < 97):(sgl l).all (zv4 60)=true:=by
 rw [iz0];rintro v hv;refine el11 (ik5.mp hv) fun c hc eq6=>?_;subst eq6;refine lay_s ?_ 60;have:=h c hc;simp;exact l11 0x0000061413711011000041371 this
structure Wrd (w:List Nat):Prop where
 up:∀ c∈w,c < 97/\subIn (Str.ofString "ABCDEFGHIJKLMNOPQRSTUVWXYZ0123456789-").cps.toList [c]=true
 let1:(w.filter fun c=>subIn (Str.ofString "ABCDEFGHIJKLMNOPQRSTUVWXYZ").cps.toList [c]).isEmpty=false
 last:∃ l,w[w.length - 1]?=some l/\(l == 45)=false
 len:w.length<=30
noncomputable def keepL:V->Option V
 | .str x=>if subIn (Str.ofString "ABCDEFGHIJKLMNOPQRSTUVWXYZ").cps.toList x then some (.str x) else none
 | _=>none
theorem keepL_of (c:Nat):keepL (.str [c])=if subIn (Str.ofString "ABCDEFGHIJKLMNOPQRSTUVWXYZ").cps.toList [c]=true then some (.str [c]) else none:=rfl
theorem filt (w:List Nat):(sgl w).filterMap keepL=sgl (w.filter fun c=>subIn (Str.ofString "ABCDEFGHIJKLMNOPQRSTUVWXYZ").cps.toList [c]):=by
 induction w with
 | nil=>rfl
 | cons c w ih=>
  rw [show sgl (c::w)=V.str [c]::sgl w from rfl,oq8,List.filter_cons,keepL_of];cases q:subIn (Str.ofString "ABCDEFGHIJKLMNOPQRSTUVWXYZ").cps.toList [c]
  ·exact ih
  ·exact congrArg (fun U=>V.str [c]::U) ih
theorem word_ok (h:Wrd w) (hL:σ[L]?=some (.inst "Line" [("text",.str T),("places",.loc P)])) (hS:T.length<=SL) (hT:T.drop a=w++rest):zz4 (n + 3) (.fn "checked_word") [.loc L,.int (a:Nat),.int (a + w.length:Nat)] σ=.ok (.str w) (σ++[.lst (sgl w)]++[.lst (sgl (w.filter fun c=>subIn (Str.ofString "ABCDEFGHIJKLMNOPQRSTUVWXYZ").cps.toList [c]))]++[.lst []]):=by
 refine zo0 ?_;refine za0 (zz6 hL rfl rfl rfl) ?_;refine za0 (zw4 hS hT) ?_;refine (List.take_left).symm▸?_;refine za0 (wg4 (fun c hc=>(h.up c hc).1) (by have:=h.len;exact l11 0x000001e47100003e847 this)) (Rn.go 1 ?_);have hg:zq5 (.seq (w.map fun c=>V.str [c])) < SL:=by
  refine Classical.byContradiction fun ng=>?_;have:=h.len;refine ng ((?_:(w.map _).length < SL));refine (iq9 _).symm▸?_;exact l11 0x000001e471100000041371 this
 refine za0 ((if_pos hg).trans (xy2 keepL ?_)) ?_
 ·rintro v hv
  refine el11 (ik5.mp hv) fun c hc eq7=>?_;subst eq7;refine uf5 (b:=subIn (Str.ofString "ABCDEFGHIJKLMNOPQRSTUVWXYZ").cps.toList [c]) (zt0 ?_) (zs0 (zc0 ⟨rfl,rfl⟩));refine za0 (zw7 rfl) (Rn.go 1 ?_);refine zc0 ?_;exact ⟨rfl,rfl⟩
 rw [show (w.map fun c=>V.str [c])=sgl w from rfl,filt];refine za0 (v:=.bool false) (σ:=σ++[.lst (sgl w)]++[.lst (sgl (w.filter fun c=>subIn (Str.ofString "ABCDEFGHIJKLMNOPQRSTUVWXYZ").cps.toList [c]))]++[.lst []]) ?_ ?_
 ·refine list_eq (l:=sgl (w.filter fun c=>subIn (Str.ofString "ABCDEFGHIJKLMNOPQRSTUVWXYZ").cps.toList [c])) (m:=[]) ?_ zq4 ?_
  ·exact (iz8 (by simp)).trans zq4
  ·unfold zy2
   have z:=h.let1;refine (sgl_lay fun c hc=>(h.up c (List.mem_filter.mp hc).1).1).symm▸?_;cases q:(w.filter fun c=>subIn (Str.ofString "ABCDEFGHIJKLMNOPQRSTUVWXYZ").cps.toList [c]) with
   | nil=>rw [q] at z;cases z
   | cons a l=>rfl
 refine Rn.go 1 ?_;refine hid fun G kG=>?_;refine el11 h.last fun l h1 h2=>?_;have hw:=h.len;refine kG ?_;refine Rn.go 1 ?_;refine za0 (yb8 h1 (l11 0x000001e471100000047 hw)) (Rn.go 1 ?_);refine zd0 rfl (by show (l == 45&&true)=false;rw [h2];rfl) ?_;refine za0 (len_str (l11 0x000001e471100000047 hw)) (Rn.go 1 ?_);refine zd0 rfl (decide_eq_false (iv2.mpr (ix6.mpr hw))) ?_;exact zc0 ⟨rfl,rfl⟩
end
noncomputable def wf4 (r:List Nat):Prop:=r=[]\/(∃ s,r=32::s)\/∃ s,r=41::s
theorem wf4.head {r:List Nat} {sg:List Nat} (h:wf4 r) (h1:subIn sg [32]=false) (h2:subIn sg [41]=false):∀ c,r.head?=some c->c < 97/\subIn sg [c]=false:=by
 rintro c hc;rcases h with rfl|⟨s,rfl⟩|⟨s,rfl⟩
 ·cases hc
 ·cases hc;exact ⟨by decide,h1⟩
 ·cases hc;exact ⟨by decide,h2⟩
section
variable {n a L P:Nat} {T w rest f:List Nat} {σ:zz0}
theorem yx5 (ha:a<=T.length) (hT:T.drop a=w++rest) (hl:T.length<=100000) (hw:∀ c∈w,c < 97/\subIn (Str.ofString "0123456789").cps.toList [c]=true) (hr:∀ c,rest.head?=some c->c < 97/\subIn (Str.ofString "0123456789").cps.toList [c]=false) (hp:∀ c,rest.head?=some c->(c == 46)=false) :
 zz4 (n + 3) (.fn "number_end") [.str T,.int a] σ=.ok (.int (a + w.length:Nat)) σ:=by
 have hS:T.length<=SL:=by have h1:SL=16777216:=rfl;exact l11 0x00186a0471100000047 hl
 have hd:T.drop (a + w.length)=rest:=by rw [<-oq5,hT,List.drop_left]
 refine zo0 ?_;refine za0 (zy5 ha hT hl hw hr) (Rn.go 1 ?_);refine za0 (zw4 (k:=1) hS hd) ?_;cases rest with
 | nil=>
  refine Rn.go 2 (zc0 ?_);exact ⟨rfl,rfl⟩
 | cons c r=>
  refine Rn.go 1 ?_;refine zd0 rfl (by show (c == 46&&true)=false;rw [hp c rfl];rfl) ?_;exact zc0 ⟨rfl,rfl⟩
theorem xv6 (ha:a<=T.length) {d:Nat} (hT:T.drop a=w++46::d::(f++rest)) (hl:T.length<=100000) (hw:∀ c∈w,c < 97/\subIn (Str.ofString "0123456789").cps.toList [c]=true) (hd:d < 97/\subIn (Str.ofString "0123456789").cps.toList [d]=true) (hf:∀ c∈f,c < 97/\subIn (Str.ofString "0123456789").cps.toList [c]=true) (hr:∀ c,rest.head?=some c->c < 97/\subIn (Str.ofString "0123456789").cps.toList [c]=false) :
 zz4 (n + 3) (.fn "number_end") [.str T,.int a] σ=.ok (.int (a + (w.length + 1 + (f.length + 1)):Nat)) σ:=by
 have hS:T.length<=SL:=by have h1:SL=16777216:=rfl;exact l11 0x00186a0471100000047 hl
 have hd1:T.drop (a + w.length)=46::d::(f++rest):=by rw [<-oq5,hT,List.drop_left]
 have hd2:T.drop (a + w.length + 1)=d::(f++rest):=by rw [<-oq5,hd1];rfl
 have hlen:=yq3 hT ha;rw [iq6,ik8,ik8] at hlen;refine zo0 ?_;refine za0 (zy5 (rest:=46::d::(f++rest)) ha hT hl hw (by rintro c hc;cases hc;exact ⟨by decide,by decide +kernel⟩)) (Rn.go 1 ?_);refine za0 (zw4 (k:=1) hS hd1) (Rn.go 4 ?_);refine za0 (zw4 (a:=a + w.length + 1) (k:=1) hS hd2) (Rn.go 3 ?_);refine za0 (zx7 (k:=a + w.length + 1) (wx8 hd2 0) hS) ?_;refine za0 (zw7 hd.2) (Rn.go 2 ?_);refine za0 (zy5 (a:=a + w.length + 1) (w:=d::f) (rest:=rest) (l41 0x1313a1181719d9138711 hlen) hd2 hl (by
  rintro c hc;rcases ix7.mp hc with rfl|hc
  ·exact hd
  ·exact hf c hc) hr) ?_
 refine zc0 ⟨?_,rfl⟩;congr 2;simp only [ik8];exact congrArg (fun z:Nat=>V.int z) (ix9 (l30 0x1391138117113911387111) (l30 0x1391138711113911381171))
theorem yv8 {c:Nat} {b:Bool} (h:c < 97) (hb:subIn (Str.ofString "ABCDEFGHIJKLMNOPQRSTUVWXYZ0123456789-").cps.toList [c]=b):zz4 (n + 2) (.fn "is_word_sign") [.str [c]] σ=.ok (.bool b) σ:=by
 refine zo0 ?_;refine za0 (zv9 h) ?_;refine za0 (zw7 hb) ?_;exact zc0 ⟨rfl,rfl⟩
theorem vx9 (hL:σ[L]?=some (.inst "Line" [("text",.str T),("places",.loc P)])) (hS:T.length<=SL) (hT:T.drop a=rest) (hs:wf4 rest):zz4 (n + 3) (.fn "need_apart") [.loc L,.int (a:Nat)] σ=.ok .none σ:=by
 refine zo0 ?_;refine za0 (zz6 hL rfl rfl rfl) (Rn.go 1 ?_);refine za0 (zw4 (k:=2) hS hT) ?_;rcases hs with rfl|⟨s,rfl⟩|⟨s,rfl⟩
 ·refine Rn.go 2 ?_
  refine zc0 ?_;exact ⟨rfl,rfl⟩
 ·have hz:(s.take 1).length + 1<=SL:=by have h1:SL=16777216:=rfl;have:=List.length_take_le 1 s;exact l11 0x1371100000041371 this
  refine Rn.go 2 ?_;refine za0 (zx7 (k:=0) rfl hz) ?_;refine za0 (yv8 (by decide) (by decide +kernel:subIn (Str.ofString "ABCDEFGHIJKLMNOPQRSTUVWXYZ0123456789-").cps.toList [32]=false)) (Rn.go 1 ?_);refine za0 (zx7 (k:=0) rfl hz) (Rn.go 2 ?_);refine za0 (zx7 (k:=0) rfl hz) (Rn.go 2 ?_);refine zc0 ?_;exact ⟨rfl,rfl⟩
 ·have hz:(s.take 1).length + 1<=SL:=by have h1:SL=16777216:=rfl;have:=List.length_take_le 1 s;exact l11 0x1371100000041371 this
  refine Rn.go 2 ?_;refine za0 (zx7 (k:=0) rfl hz) ?_;refine za0 (yv8 (by decide) (by decide +kernel:subIn (Str.ofString "ABCDEFGHIJKLMNOPQRSTUVWXYZ0123456789-").cps.toList [41]=false)) (Rn.go 1 ?_);refine za0 (zx7 (k:=0) rfl hz) (Rn.go 2 ?_);refine za0 (zx7 (k:=0) rfl hz) (Rn.go 2 ?_);refine zc0 ?_;exact ⟨rfl,rfl⟩
noncomputable def NumT (w:List Nat):Prop:=∃ w',(∀ σ,xf8 (.str w) "." "" σ=.ok (.str w') σ)/\w'.length<=18
theorem xk8 {w w':List Nat} (h:(Txt.replace ⟨w.toArray⟩ "." "").cps.toList=w') (hw:w.length<=100) (hl:w'.length<=18):NumT w:=by
 refine ⟨w',fun σ=>?_,hl⟩;show (if _ then _ else _)=_;rw [if_pos ⟨rfl,by show w.length + (w.length + 1) * 0<=SL;exact l11 0x00000644711000000413710571 hw⟩,h]
theorem num_t:∀ x:Nb,NumT (S x.txt):=by
 intro x;cases x
 ·exact xk8 (w':=S "0") (by decide +kernel) (by decide) (by decide)
 ·exact xk8 (w':=S "5") (by decide +kernel) (by decide) (by decide)
 ·exact xk8 (w':=S "025") (by decide +kernel) (by decide) (by decide)
 ·exact xk8 (w':=S "75") (by decide +kernel) (by decide) (by decide)
theorem wg3 (hw:NumT w) (hL:σ[L]?=some (.inst "Line" [("text",.str T),("places",.loc P)])) (hS:T.length<=SL) (hT:T.drop a=w++rest):zz4 (n + 3) (.fn "checked_number") [.loc L,.int (a:Nat),.int (a + w.length:Nat)] σ=.ok (.str w) σ:=by
 refine hid fun G kG=>?_;refine el11 hw fun w' h1 h2=>?_;refine kG ?_;refine zo0 ?_;refine za0 (zz6 hL rfl rfl rfl) ?_;refine za0 (zw4 hS hT) ?_;refine (List.take_left).symm▸?_;refine za0 (h1 _) ?_;refine za0 (len_str (l11 0x0000012471100000047 h2)) (Rn.go 1 ?_);refine zd0 rfl (decide_eq_false (iv2.mpr (ix6.mpr h2))) ?_;exact zc0 ⟨rfl,rfl⟩
end
theorem xg7:zy4 (S "** <= >=") [.str (S "**"),.str (S "<="),.str (S ">=")]:=xg6 (l:=[Str.ofString "**",Str.ofString "<=",Str.ofString ">="]) (by decide +kernel) (by decide +kernel) (by decide)
section
variable {n a L P:Nat} {T w rest f:List Nat} {σ:zz0}
theorem uy5 {i:Nat} {l:List V} {y:List Nat} {b:Bool} (h:σ[i]?=some (.lst l)) (hy:y.all (fun U=>U < 1114112)=true) (hl:l.all (zv4 1)=true) (hb:yx1 l y=some b):zy8 .In (.str y) (.loc i) σ=.ok (.bool b) σ:=by
 show liftO (((zj3 σ i).elim Option.none fun l=>inL y l).map V.bool) σ=_;rw [xx2 h];show liftO ((if (y.all (fun U=>U < 1114112)&&l.all (zv4 1))=true then yx1 l y else Option.none).map V.bool) σ=_;rw [hy,hl,hb];rfl
noncomputable def okRest (t:Tk) (r:List Nat):Prop:=tkE t (fun U=>wf4 r) (wf4 r) (wf4 r) (fun U=>wf4 r) fun s=>(s.ix == 2)=true->∃ s,r=32::s
theorem all_lt {y:List Nat} (h:∀ c∈y,c < 97):y.all (fun U=>U < 1114112)=true:=by
 rw [iz0];intro c hc;have:=h c hc;exact decide_eq_true (l11 0x0000061413711011000041371 this)
theorem mark_pow (hL:σ[L]?=some (.inst "Line" [("text",.str T),("places",.loc P)])) (hS:T.length<=SL) (hT:T.drop a=42::42::rest):zz4 (n + 3) (.fn "mark_at") [.loc L,.int (a:Nat)] σ=.ok (.tup [.str (S "sign"),.str (S "**")]) (σ++[.lst [.str (S "**"),.str (S "<="),.str (S ">=")]]):=by
 refine zo0 ?_;refine za0 (zz6 hL rfl rfl rfl) (Rn.go 1 ?_);refine za0 (zw4 (k:=2) hS hT) (Rn.go 3 ?_);refine za0 (xg7 _) ?_;refine za0 (uy5 (b:=true) zq4 rfl rfl rfl) (Rn.go 1 ?_);refine zc0 ?_;exact ⟨rfl,rfl⟩
theorem mark_one {c:Nat} (hc:subIn (Str.ofString "():+-*/=<>").cps.toList [c]=true) (h1:(c == 61)=false) (h2:yx1 [.str (S "**"),.str (S "<="),.str (S ">=")] (c::rest.take 1)=some false) (hr:∀ d∈rest,d < 97) (h97:c < 97) (hL:σ[L]?=some (.inst "Line" [("text",.str T),("places",.loc P)])) (hS:T.length<=SL) (hT:T.drop a=c::rest) :
 zz4 (n + 3) (.fn "mark_at") [.loc L,.int (a:Nat)] σ=.ok (.tup [.str (S "sign"),.str [c]]) (σ++[.lst [.str (S "**"),.str (S "<="),.str (S ">=")]]):=by
 have hL2:(σ++[.lst [.str (S "**"),.str (S "<="),.str (S ">=")]])[L]?=some (.inst "Line" [("text",.str T),("places",.loc P)]):=(iz8 (zq0 hL)).trans hL;refine zo0 ?_;refine za0 (zz6 hL rfl rfl rfl) (Rn.go 1 ?_);refine za0 (zw4 (k:=2) hS hT) (Rn.go 1 ?_);refine zd0 rfl (by show (c == 61&&_)=false;rw [h1];rfl) (Rn.go 1 ?_);refine za0 (xg7 _) ?_;refine za0 (uy5 zq4 (all_lt fun d hd=>by
  rcases ix7.mp hd with rfl|hd
  ·exact h97
  ·exact hr d (List.mem_of_mem_take hd)) rfl h2) ?_
 refine Rn.go 1 ?_;refine za0 (zz6 hL2 rfl rfl rfl) ?_;refine za0 (zx7 (k:=a) (wx8 hT 0) hS) ?_;refine za0 (zw7 hc) (Rn.go 1 ?_);refine zc0 ?_;exact ⟨rfl,rfl⟩
structure Sgn (c:Nat):Prop where
 up:c < 97
 l:subIn (Str.ofString "ABCDEFGHIJKLMNOPQRSTUVWXYZ").cps.toList [c]=false
 f:subIn (Str.ofString "0123456789").cps.toList [c]=false
 p:(c == 46)=false
 q:subIn (Str.ofString "\"'").cps.toList [c]=false
theorem xq0 {c:Nat} {m:List Nat} {σ':zz0} (h:Sgn c) (hL:σ[L]?=some (.inst "Line" [("text",.str T),("places",.loc P)])) (hS:T.length<=SL) (hT:T.drop a=c::rest) (hm:zz4 (n + 4) (.fn "mark_at") [.loc L,.int (a:Nat)] σ=.ok (.tup [.str (S "sign"),.str m]) σ') (hl:m.length<=10) :
 zz4 (n + 5) (.fn "worth_at") [.loc L,.int (a:Nat)] σ=.ok (.tup [.str (S "sign"),.str m,.int (a + m.length:Nat)]) σ':=by
 refine zo0 ?_;refine za0 (zz6 hL rfl rfl rfl) ?_;refine za0 (zx7 (k:=a) (wx8 hT 0) hS) ?_;refine za0 (zv9 h.up) ?_;refine za0 (zw7 h.l) (Rn.go 1 ?_);refine za0 (zw7 h.f) (Rn.go 2 ?_);refine zd0 rfl (by show (c == 46&&true)=false;rw [h.p];rfl) ?_;refine za0 (zw7 h.q) (Rn.go 1 ?_);refine za0 hm ?_;refine za0 (len_str (by have h1:SL=16777216:=rfl;exact l11 0xa371100000047 hl)) (Rn.go 1 ?_);refine zc0 ?_;exact ⟨rfl,rfl⟩
theorem vj1 {c:Nat} {r:List Nat} (h:Wrd (c::r)) (hl:subIn (Str.ofString "ABCDEFGHIJKLMNOPQRSTUVWXYZ").cps.toList [c]=true) (hf:subIn (Str.ofString "0123456789").cps.toList [c]=false) (hp:(c == 46)=false) (hL:σ[L]?=some (.inst "Line" [("text",.str T),("places",.loc P)])) (ha:a<=T.length) (hl5:T.length<=100000) (hT:T.drop a=c::r++rest) (hs:wf4 rest) :
 ∃ ext,zz4 (n + 5) (.fn "worth_at") [.loc L,.int (a:Nat)] σ=.ok (.tup [.str (S "word"),.str (c::r),.int (a + (c::r).length:Nat)]) (σ++ext):=by
 have hS:T.length<=SL:=by have h1:SL=16777216:=rfl;exact l11 0x00186a0471100000047 hl5
 have hup:=(h.up c (iz6 ..)).1;have hd:T.drop (a + (c::r).length)=rest:=by rw [<-oq5,hT,List.drop_left]
 suffices hz:Rn (cFn (zz4 (n + 4)) "worth_at" [.loc L,.int (a:Nat)] σ) fun v s=>v=.tup [.str (S "word"),.str (c::r),.int (a + (c::r).length:Nat)]/\∃ ext,s=σ++ext by
  refine hid fun G kG=>?_;obtain ⟨v,s,e,rfl,ext,rfl⟩:=hz.fn;refine kG ?_;exact ⟨ext,e⟩
 refine za0 (zz6 hL rfl rfl rfl) ?_;refine za0 (zx7 (k:=a) (wx8 hT 0) hS) ?_;refine za0 (zv9 hup) ?_;refine za0 (zw7 hl) (Rn.go 1 ?_);refine za0 (zz6 hL rfl rfl rfl) ?_;refine za0 (zy5 ha hT hl5 h.up (hs.head (by decide +kernel) (by decide +kernel))) ?_;refine za0 (zz6 hL rfl rfl rfl) ?_;refine za0 (yx5 (w:=[]) (rest:=c::r++rest) ha hT hl5 (fun x hx=>by cases hx) (fun x hx=>by cases hx;exact ⟨hup,hf⟩) (fun x hx=>by cases hx;exact hp)) ?_;refine za0 (zw7 hf) (Rn.go 1 ?_);refine za0 (vx9 hL hS hd hs) ?_;refine za0 (word_ok h hL hS hT) ?_;exact zc0 ⟨rfl,_,by rw [iq0,iq0]⟩
theorem xh6 {c:Nat} {r:List Nat} {e:Nat} (hn:NumT (c::r)) (hup:c < 97) (hl:subIn (Str.ofString "ABCDEFGHIJKLMNOPQRSTUVWXYZ").cps.toList [c]=false) (hf:subIn (Str.ofString "0123456789").cps.toList [c]=true) (h1:zz4 (n + 4) (.fn "run_end") [.str T,.int (a:Nat),.str (Str.ofString "ABCDEFGHIJKLMNOPQRSTUVWXYZ0123456789-").cps.toList] σ=.ok (.int (a + e:Nat)) σ) (h2:zz4 (n + 4) (.fn "number_end") [.str T,.int (a:Nat)] σ=.ok (.int (a + (c::r).length:Nat)) σ) (he:e<=(c::r).length)
 (hL:σ[L]?=some (.inst "Line" [("text",.str T),("places",.loc P)])) (hS:T.length<=SL) (hT:T.drop a=c::r++rest) (hs:wf4 rest) :
 zz4 (n + 5) (.fn "worth_at") [.loc L,.int (a:Nat)] σ=.ok (.tup [.str (S "number"),.str (c::r),.int (a + (c::r).length:Nat)]) σ:=by
 have hd:T.drop (a + (c::r).length)=rest:=by rw [<-oq5,hT,List.drop_left]
 refine zo0 ?_;refine za0 (zz6 hL rfl rfl rfl) ?_;refine za0 (zx7 (k:=a) (wx8 hT 0) hS) ?_;refine za0 (zv9 hup) ?_;refine za0 (zw7 hl) (Rn.go 1 ?_);refine za0 (zw7 hf) (Rn.go 1 ?_);refine za0 (zz6 hL rfl rfl rfl) ?_;refine za0 h1 ?_;refine za0 (zz6 hL rfl rfl rfl) ?_;refine za0 h2 ?_;refine za0 (zw7 hf) (Rn.go 2 ?_);refine ze0 rfl (decide_eq_true (ix6.mpr (ij0 he a))) ?_;refine za0 (vx9 hL hS hd hs) ?_;refine za0 (wg3 hn hL hS hT) ?_;exact zc0 ⟨rfl,rfl⟩
end
noncomputable abbrev yp8 (σ:zz0) (L:Nat) (T:List Nat) (P:Nat):Prop:=σ[L]?=some (.inst "Line" [("text",.str T),("places",.loc P)])
section
variable {n a L P:Nat} {T w rest f:List Nat} {σ:zz0}
theorem wf4.pt (h:wf4 rest):∀ c,rest.head?=some c->(c == 46)=false:=by
 rintro c hc;rcases h with rfl|⟨s,rfl⟩|⟨s,rfl⟩ <;> cases hc <;> rfl
noncomputable abbrev yv7 (n a L:Nat) (σ:zz0) (t:Tk):Prop:=∃ ext,zz4 (n + 5) (.fn "worth_at") [.loc L,.int (a:Nat)] σ=.ok (.tup [.str t.tok.1,.str t.tok.2,.int (a + t.tok.2.length:Nat)]) (σ++ext)
theorem zy0 {t:Tk} {c:Nat} {r:List Nat} (ht:t.tok=(S "word",c::r)) (h:Wrd (c::r)) (hl:subIn (Str.ofString "ABCDEFGHIJKLMNOPQRSTUVWXYZ").cps.toList [c]=true) (hf:subIn (Str.ofString "0123456789").cps.toList [c]=false) (hp:(c == 46)=false)
 (hL:yp8 σ L T P) (ha:a<=T.length) (hl5:T.length<=100000) (hT:T.drop a=t.tok.2++rest) (hs:wf4 rest):yv7 n a L σ t:=by
 rw [ht] at hT;refine el10 (vj1 (n:=n) h hl hf hp hL ha hl5 hT hs) fun ext e=>?_;refine ⟨ext,?_⟩;refine (ht).symm▸?_;exact e
theorem xh8 {t:Tk} {c:Nat} (ht:t.tok=(S "number",[c])) (hn:NumT [c]) (hup:c < 97) (hl:subIn (Str.ofString "ABCDEFGHIJKLMNOPQRSTUVWXYZ").cps.toList [c]=false) (hf:subIn (Str.ofString "0123456789").cps.toList [c]=true) (hw:subIn (Str.ofString "ABCDEFGHIJKLMNOPQRSTUVWXYZ0123456789-").cps.toList [c]=true)
 (hL:yp8 σ L T P) (ha:a<=T.length) (hl5:T.length<=100000) (hT:T.drop a=t.tok.2++rest) (hs:wf4 rest):yv7 n a L σ t:=by
 rw [ht] at hT;have hS:T.length<=SL:=by have h1:SL=16777216:=rfl;exact l11 0x00186a0471100000047 hl5
 have one:∀ {sg:List Nat},subIn sg [c]=true->∀ x∈[c],x < 97/\subIn sg [x]=true:=fun h x hx=>by
  rcases iq4.mp hx with rfl;exact ⟨hup,h⟩
 refine ⟨[],?_⟩;rw [ht,iq7];exact xh6 (e:=1) hn hup hl hf (zy5 (w:=[c]) ha hT hl5 (one hw) (hs.head (by decide +kernel) (by decide +kernel))) (yx5 (w:=[c]) ha hT hl5 (one hf) (hs.head (by decide +kernel) (by decide +kernel)) hs.pt) (by simp) hL hS hT hs
theorem xh7 {t:Tk} {c d:Nat} (ht:t.tok=(S "number",c::46::d::f)) (hn:NumT (c::46::d::f)) (hup:c < 97) (hl:subIn (Str.ofString "ABCDEFGHIJKLMNOPQRSTUVWXYZ").cps.toList [c]=false) (hf:subIn (Str.ofString "0123456789").cps.toList [c]=true) (hw:subIn (Str.ofString "ABCDEFGHIJKLMNOPQRSTUVWXYZ0123456789-").cps.toList [c]=true)
 (hd:d < 97/\subIn (Str.ofString "0123456789").cps.toList [d]=true) (hff:∀ x∈f,x < 97/\subIn (Str.ofString "0123456789").cps.toList [x]=true)
 (hL:yp8 σ L T P) (ha:a<=T.length) (hl5:T.length<=100000) (hT:T.drop a=t.tok.2++rest) (hs:wf4 rest):yv7 n a L σ t:=by
 rw [ht] at hT;have hS:T.length<=SL:=by have h1:SL=16777216:=rfl;exact l11 0x00186a0471100000047 hl5
 have one:∀ {sg:List Nat},subIn sg [c]=true->∀ x∈[c],x < 97/\subIn sg [x]=true:=fun h x hx=>by
  rcases iq4.mp hx with rfl;exact ⟨hup,h⟩
 refine ⟨[],?_⟩;rw [ht,iq7];have h2:=xv6 (n:=n + 1) (w:=[c]) (d:=d) (f:=f) (rest:=rest) (σ:=σ) ha hT hl5 (one hf) hd hff (hs.head (by decide +kernel) (by decide +kernel));rw [show ([c].length + 1 + (f.length + 1))=(c::46::d::f).length by simp;exact ix9 (l10 0x13131371111371231) (l10 0x13712311313137111)] at h2;exact xh6 (e:=1) hn hup hl hf (zy5 (w:=[c]) (rest:=46::d::(f++rest)) ha hT hl5 (one hw) (by rintro x hx;cases hx;exact ⟨by decide,by decide +kernel⟩)) h2 (by simp) hL hS hT hs
theorem zg7 {t:Tk} {c:Nat} (ht:t.tok=(S "sign",[c])) (h:Sgn c) (hc:subIn (Str.ofString "():+-*/=<>").cps.toList [c]=true) (h1:(c == 61)=false) (h2:yx1 [.str (S "**"),.str (S "<="),.str (S ">=")] (c::rest.take 1)=some false) (hr:∀ d∈rest,d < 97)
 (hL:yp8 σ L T P) (hS:T.length<=SL) (hT:T.drop a=t.tok.2++rest):yv7 n a L σ t:=by
 rw [ht] at hT;have z:=xq0 (n:=n) h hL hS hT (mark_one hc h1 h2 hr h.up hL hS hT) (by simp);unfold yv7;refine (ht).symm▸?_;exact ⟨_,z⟩
theorem wrd_0:Wrd [65]:=⟨by decide +kernel,by decide +kernel,⟨_,rfl,rfl⟩,by decide⟩
theorem wrd_1:Wrd [66,45,49]:=⟨by decide +kernel,by decide +kernel,⟨_,rfl,rfl⟩,by decide⟩
theorem wrd_2:Wrd [67]:=⟨by decide +kernel,by decide +kernel,⟨_,rfl,rfl⟩,by decide⟩
theorem wrd_3:Wrd [71]:=⟨by decide +kernel,by decide +kernel,⟨_,rfl,rfl⟩,by decide⟩
theorem wrd_4:Wrd [72]:=⟨by decide +kernel,by decide +kernel,⟨_,rfl,rfl⟩,by decide⟩
theorem wrd_5:Wrd [84]:=⟨by decide +kernel,by decide +kernel,⟨_,rfl,rfl⟩,by decide⟩
theorem wrd_6:Wrd [66]:=⟨by decide +kernel,by decide +kernel,⟨_,rfl,rfl⟩,by decide⟩
theorem wrd_7:Wrd [79,70]:=⟨by decide +kernel,by decide +kernel,⟨_,rfl,rfl⟩,by decide⟩
theorem wrd_8:Wrd [73,78]:=⟨by decide +kernel,by decide +kernel,⟨_,rfl,rfl⟩,by decide⟩
theorem vh7 (t:Tk) (hr:okRest t rest) (h97:∀ d∈rest,d < 97) (hL:yp8 σ L T P) (ha:a<=T.length) (hl5:T.length<=100000) (hT:T.drop a=t.tok.2++rest):yv7 n a L σ t:=by
 have hS:T.length<=SL:=by have h1:SL=16777216:=rfl;exact l11 0x00186a0471100000047 hl5
 cases t with
 | nm x=>
  cases x
  ·exact zy0 (c:=65) (r:=[]) rfl wrd_0 (by decide +kernel) (by decide +kernel) rfl hL ha hl5 hT hr
  ·exact zy0 (c:=66) (r:=[45,49]) rfl wrd_1 (by decide +kernel) (by decide +kernel) rfl hL ha hl5 hT hr
  ·exact zy0 (c:=67) (r:=[]) rfl wrd_2 (by decide +kernel) (by decide +kernel) rfl hL ha hl5 hT hr
  ·exact zy0 (c:=71) (r:=[]) rfl wrd_3 (by decide +kernel) (by decide +kernel) rfl hL ha hl5 hT hr
  ·exact zy0 (c:=72) (r:=[]) rfl wrd_4 (by decide +kernel) (by decide +kernel) rfl hL ha hl5 hT hr
  ·exact zy0 (c:=84) (r:=[]) rfl wrd_5 (by decide +kernel) (by decide +kernel) rfl hL ha hl5 hT hr
  ·exact zy0 (c:=66) (r:=[]) rfl wrd_6 (by decide +kernel) (by decide +kernel) rfl hL ha hl5 hT hr
 | of_=>exact zy0 (c:=79) (r:=[70]) rfl wrd_7 (by decide +kernel) (by decide +kernel) rfl hL ha hl5 hT hr
 | in_=>exact zy0 (c:=73) (r:=[78]) rfl wrd_8 (by decide +kernel) (by decide +kernel) rfl hL ha hl5 hT hr
 | nb x=>
  cases x
  ·exact xh8 (c:=48) rfl (num_t .n0) (by decide) (by decide +kernel) (by decide +kernel) (by decide +kernel) hL ha hl5 hT hr
  ·exact xh8 (c:=53) rfl (num_t .n5) (by decide) (by decide +kernel) (by decide +kernel) (by decide +kernel) hL ha hl5 hT hr
  ·exact xh7 (c:=48) (d:=50) (f:=[53]) rfl (num_t .n25) (by decide) (by decide +kernel) (by decide +kernel) (by decide +kernel) (by decide +kernel) (by decide +kernel) hL ha hl5 hT hr
  ·exact xh7 (c:=55) (d:=53) (f:=[]) rfl (num_t .n75) (by decide) (by decide +kernel) (by decide +kernel) (by decide +kernel) (by decide +kernel) (by decide +kernel) hL ha hl5 hT hr
 | sg s=>
  cases s
  ·exact zg7 (c:=43) rfl ⟨by decide,by decide +kernel,by decide +kernel,rfl,by decide +kernel⟩ (by decide +kernel) rfl rfl h97 hL hS hT
  ·exact zg7 (c:=45) rfl ⟨by decide,by decide +kernel,by decide +kernel,rfl,by decide +kernel⟩ (by decide +kernel) rfl rfl h97 hL hS hT
  ·obtain ⟨s,rfl⟩:=hr rfl
   exact zg7 (c:=42) rfl ⟨by decide,by decide +kernel,by decide +kernel,rfl,by decide +kernel⟩ (by decide +kernel) rfl rfl h97 hL hS hT
  ·exact zg7 (c:=47) rfl ⟨by decide,by decide +kernel,by decide +kernel,rfl,by decide +kernel⟩ (by decide +kernel) rfl rfl h97 hL hS hT
  ·exact ⟨_,xq0 (c:=42) ⟨by decide,by decide +kernel,by decide +kernel,rfl,by decide +kernel⟩ hL hS hT (mark_pow hL hS hT) (by decide)⟩
  ·exact zg7 (c:=40) rfl ⟨by decide,by decide +kernel,by decide +kernel,rfl,by decide +kernel⟩ (by decide +kernel) rfl rfl h97 hL hS hT
  ·exact zg7 (c:=41) rfl ⟨by decide,by decide +kernel,by decide +kernel,rfl,by decide +kernel⟩ (by decide +kernel) rfl rfl h97 hL hS hT
  ·exact zg7 (c:=58) rfl ⟨by decide,by decide +kernel,by decide +kernel,rfl,by decide +kernel⟩ (by decide +kernel) rfl rfl h97 hL hS hT
end
theorem uf8 {n:Nat} {c q:Str} {args:List V} {σ σ':zz0} (hi:wz6 c=some q) (hc:(c = "GrammarFault")=False) (h:zz4 (n + 1) (.fn q) (.loc σ.length::args) (σ++[.inst c []])=.ok .none σ'):zz4 (n + 1) (.cls c) args σ=.ok (.loc σ.length) σ':=by
 have h2:xk4 (zz4 n) q (.loc σ.length::args) (σ++[.inst c []])=.ok .none σ':=h;refine (if_neg (of_eq_false hc)).trans ((congrArg (fun o=>Option.elim o _ _) hi).trans ?_);exact congrArg (made σ) h2
theorem set_attr {i:Nat} {c nm:Str} {f:List (Str×V)} {v:V} {σ:zz0} (h:σ[i]?=some (.inst c f)) (hf:zb1.contains (c,nm)=true) (hl:f.length<=900):zg2 (.loc i) nm v σ=.ok () (σ.set i (.inst c (upd f nm v))):=by
 exact (uy4 (F:=fun p=>if zb1.contains (p.1,nm)=true/\p.2.length<=900 then Out.ok () (σ.set i (.inst p.1 (upd p.2 nm v))) else .bad) h).trans (if_pos ⟨hf,hl⟩)
theorem set_end {σ:zz0} {o o':O}:(σ++[o]).set σ.length o'=σ++[o']:=by
 rw [List.set_append_right _ _ (iq1 _),iv4];rfl
theorem zg8 {c nm:Str} {f:List (Str×V)} {v:V} {σ:zz0} (hf:zb1.contains (c,nm)=true) (hl:f.length<=900):zg2 (.loc σ.length) nm v (σ++[.inst c f])=.ok () (σ++[.inst c (upd f nm v)]):=by
 rw [set_attr (f:=f) (by simp) hf hl,set_end]
theorem vg9 {n:Nat} {kd w:List Nat} {p a:V} {σ:zz0}:zz4 (n + 1) (.cls "Token") [.str kd,.str w,p,a] σ=.ok (.loc σ.length) (σ++[.inst "Token" [("kind",.str kd),("worth",.str w),("at",p),("is_in_a",a)]]):=by
 refine uf8 rfl (eq_false (by decide)) (zo0 ?_);refine za0 (zg8 rfl (by decide)) ?_;refine za0 (zg8 rfl (ix4 rfl)) ?_;refine za0 (zg8 rfl (ix4 rfl)) ?_;refine za0 (zg8 rfl (ix4 rfl)) ?_;exact zc0 ⟨rfl,rfl⟩
theorem line_new {n:Nat} {T:List Nat} {P:Nat} {σ:zz0}:zz4 (n + 1) (.cls "Line") [.str T,.loc P] σ=.ok (.loc σ.length) (σ++[.inst "Line" [("text",.str T),("places",.loc P)]]):=by
 refine uf8 rfl (eq_false (by decide)) (zo0 ?_);refine za0 (zg8 rfl (by decide)) ?_;refine za0 (zg8 rfl (ix4 rfl)) ?_;exact zc0 ⟨rfl,rfl⟩
theorem vk1 {n:Nat} {tl:Nat} {σ:zz0}:zz4 (n + 1) (.cls "Reader") [.loc tl] σ=.ok (.loc σ.length) (σ++[.inst "Reader" [("tokens",.loc tl),("at",.int 0),("named",.map [] [])]]):=by
 refine uf8 rfl (eq_false (by decide)) (zo0 ?_);refine za0 (zg8 rfl (by decide)) ?_;refine za0 (zg8 rfl (ix4 rfl)) ?_;refine za0 (zg8 rfl (ix4 rfl)) ?_;exact zc0 ⟨rfl,rfl⟩
noncomputable def zz2:List Pc->List Nat
 | []=>[]
 | .t x::r=>x.tok.2++zz2 r
 | .sp::r=>32::zz2 r
noncomputable def stpP (n:Option Pc):Bool:=Option.rec true (fun p=>pcE p (yq9 .rp) true) n
noncomputable def isSp (n:Option Pc):Bool:=Option.rec false (fun p=>pcE p (fun U=>false) true) n
noncomputable def okp (p:Pc) (n:Option Pc):Bool:=pcE p (fun t=>tkE t (fun U=>stpP n) (stpP n) (stpP n) (fun U=>stpP n) fun s=>bif s.ix == 2 then isSp n else true) true
noncomputable def Adj:List Pc->Bool
 | []=>true
 | p::r=>okp p r.head?&&Adj r
theorem okp_rest {t:Tk} {r:List Pc} (h:okp (.t t) r.head?=true):okRest t (zz2 r):=by
 have stop:stpP r.head?=true->wf4 (zz2 r):=fun h=>by
  cases r with
  | nil=>exact .inl rfl
  | cons p r=>cases p with
   | sp=>exact .inr (.inl ⟨_,rfl⟩)
   | t x=>exact el11 (vp6 h) fun u e q=>.inr (.inr ⟨zz2 r,congrArg (fun x:Tk=>x.tok.2++zz2 r) (e.trans (congrArg Tk.sg (Sg.eq q)))⟩)
 cases t with
 | sg s=>
  intro q;have h:(bif s.ix == 2 then isSp r.head? else true)=true:=h;rw [q] at h;cases r with
  | nil=>nomatch h
  | cons p r=>cases p with
   | sp=>exact ⟨_,rfl⟩
   | t x=>nomatch h
 | _=>exact stop h
theorem tok_97:∀ t:Tk,∀ c∈t.tok.2,c < 97:=by
 intro t;cases t with
 | nm x=>cases x <;> decide +kernel
 | of_=>decide +kernel
 | in_=>decide +kernel
 | nb x=>cases x <;> decide +kernel
 | sg s=>cases s <;> decide +kernel
theorem vx3:∀ p:List Pc,∀ c∈zz2 p,c < 97:=by
 intro p;induction p with
 | nil=>
  intro c h;cases h
 | cons p0 r ih0=>
  cases p0 with
  | sp=>
   intro c h;rcases ix7.mp h with rfl|h
   ·decide
   ·exact ih0 c h
  | t x=>
   intro c h;rcases iz5.mp h with h|h
   ·exact tok_97 x c h
   ·exact ih0 c h
theorem wf7:∀ t:Tk,∃ c r,t.tok.2=c::r/\(c == 32)=false/\subIn (Str.ofString ",;").cps.toList [c]=false:=by
 intro t;cases t with
 | nm x=>cases x <;> exact ⟨_,_,rfl,rfl,by decide +kernel⟩
 | of_=>exact ⟨_,_,rfl,rfl,by decide +kernel⟩
 | in_=>exact ⟨_,_,rfl,rfl,by decide +kernel⟩
 | nb x=>cases x <;> exact ⟨_,_,rfl,rfl,by decide +kernel⟩
 | sg s=>cases s <;> exact ⟨_,_,rfl,rfl,by decide +kernel⟩
section
variable {n a L P:Nat} {T w rest f:List Nat} {σ:zz0}
theorem qz1 (hS:T.length<=SL) (h:T[a]?=some 32):zz4 (n + 3) (.fn "is_blank_at") [.str T,.int (a:Nat)] σ=.ok (.bool true) σ:=by
 refine zo0 ?_;refine za0 (zx7 (k:=a) h hS) (Rn.go 2 ?_);refine zc0 ?_;exact ⟨rfl,rfl⟩
theorem blank_no {c:Nat} (hS:T.length<=SL) (h:T[a]?=some c) (h1:(c == 32)=false) (h2:subIn (Str.ofString ",;").cps.toList [c]=false):zz4 (n + 3) (.fn "is_blank_at") [.str T,.int (a:Nat)] σ=.ok (.bool false) σ:=by
 refine zo0 ?_;refine za0 (zx7 (k:=a) h hS) (Rn.go 1 ?_);refine zd0 rfl (by show (c == 32&&true)=false;rw [h1];rfl) ?_;refine za0 (zx7 (k:=a) h hS) ?_;refine za0 (zw7 h2) (Rn.go 1 ?_);refine zc0 ?_;exact ⟨rfl,rfl⟩
structure Lst (σ:zz0) (tl:Nat) (tk:List Tk) (locs:List Nat):Prop where
 ls:σ[tl]?=some (.lst (locs.map V.loc))
 tok:∀ (i:Nat) (kd w:List Nat),(tk.map Tk.tok)[i]?=some (kd,w)->∃ (l:Nat) (at' a:V),locs[i]?=some l/\σ[l]?=some (.inst "Token" [("kind",.str kd),("worth",.str w),("at",at'),("is_in_a",a)])/\(∃ z,at'=V.tup z)
 len:locs.length=tk.length
 ne:tl∉locs
theorem pic_tok (t:Tk) (σ:zz0):zy8 .In (.str t.tok.2) (.tup [.str (S "PIC"),.str (S "PICTURE")]) σ=.ok (.bool false) σ:=by
 cases t with
 | nm x=>cases x <;> rfl
 | of_=>rfl
 | in_=>rfl
 | nb x=>cases x <;> rfl
 | sg s=>cases s <;> rfl
theorem vz9 {i:Nat} {l:List V} {v:V} {σ:zz0} (hi:σ[i]?=some (.lst l)) (h:l[l.length - 1]?=some v) (hl:l.length<=SL):zv7 (.loc i) (.int (-1)) σ=.ok v σ:=by
 have hlt:=(iz7.mp h).1;have hp:=xq5 (Nat.zero_lt_of_lt hlt) hl;exact (zj7 (F:=fun l=>atP l (-1) σ) hi).trans ((congrArg (fun o=>liftO (Option.bind o fun j=>l[j]?) σ) hp).trans (congrArg (fun o=>liftO o σ) h))
theorem xq6 {tl:Nat} {tk:List Tk} {locs:List Nat} (h:Lst σ tl tk locs) (hn:tk.length<=100000):zz4 (n + 2) (.fn "is_picture_next") [.loc tl] σ=.ok (.bool false) σ:=by
 have hlen:(locs.map V.loc).length<=SL:=by rw [iq9,h.len];exact l11 0x00186a0471100000047 hn
 refine zo0 ?_;refine za0 (zb8 h.ls hlen) ?_;cases q:tk.getLast? with
 | none=>
  refine hid fun G kG=>?_;have:tk=[]:=List.getLast?_eq_none_iff.mp q;subst this;refine kG ?_;refine zd0 rfl (decide_eq_false (by rw [iq9,h.len];simp)) ?_;refine zc0 ⟨?_,rfl⟩;show V.bool (decide _)=_;rw [decide_eq_false (by rw [iq9,h.len];simp)]
 | some t=>
  rw [List.getLast?_eq_getElem?] at q;refine hid fun G kG=>?_;have hlt:=(iz7.mp q).1;obtain ⟨l,at',b,h1,h2,h3⟩:=h.tok (tk.length - 1) t.tok.1 t.tok.2 (by rw [iw2,q];rfl);have hi:(locs.map V.loc)[(locs.map V.loc).length - 1]?=some (.loc l):=by rw [iq9,h.len,iw2,h1];rfl
  refine kG ?_;refine ze0 rfl (decide_eq_true (by rw [iq9,h.len];exact ik6.mpr (Nat.zero_lt_of_lt hlt))) (Rn.go 1 ?_);refine za0 (vz9 h.ls hi hlen) ?_;refine za0 (zz6 h2 rfl rfl rfl) ?_;cases q2:t.tok.1 == S "word" with
  | false=>
   refine zd0 rfl q2 ?_;exact zc0 ⟨congrArg V.bool q2,rfl⟩
  | true=>
   refine ze0 rfl q2 (Rn.go 1 ?_);refine za0 (vz9 h.ls hi hlen) ?_;refine za0 (zz6 h2 rfl rfl rfl) ?_;refine za0 (pic_tok t σ) ?_;exact zc0 ⟨rfl,rfl⟩
end
noncomputable def yz8 (n:Nat):List V:=(List.range n).map fun i:Nat=>V.tup [.int 1,.int (8 + (i:Int))]
theorem spots_at {n i:Nat} (h:i < n):(yz8 n)[i]?=some (.tup [.int 1,.int (8 + (i:Int))]):=by
 unfold yz8;rw [iw2,List.getElem?_range h];rfl
theorem vb3 (n:Nat):(yz8 n).length=n:=by unfold yz8;rw [iq9,List.length_range]
noncomputable abbrev Keep (tl:Nat) (σ σ':zz0):Prop:=Adv tl σ σ'
theorem Adv.at_ {r:Nat} {σ0 σ:zz0} {o:O} (x:Adv r σ0 σ):Adv r σ0 (σ.set r o):=
 ⟨by rw [ox6];exact x.len,fun y hy hr=>by rw [iz9 (Ne.symm hr)];exact x.same y hy hr⟩
theorem Lst.push {σ:zz0} {tl:Nat} {tk:List Tk} {locs:List Nat} (h:Lst σ tl tk locs) {t:Tk} {ext:zz0} {z:List V} {b:V} :
 Lst ((σ++ext++[O.inst "Token" [("kind",.str t.tok.1),("worth",.str t.tok.2),("at",.tup z),("is_in_a",b)]]).set tl (.lst (locs.map V.loc++[V.loc (σ++ext).length]))) tl (tk++[t]) (locs++[(σ++ext).length]):=by
 have ht:=zq0 h.ls;refine ⟨?_,fun i kd w e=>?_,?_,?_⟩
 ·rw [ik7 (by rw [iq6,iq6];exact l31 0x8137111303198111371 ht),iv6]
  rfl
 ·rw [iv6] at e
  by_cases hi:i < tk.length
  ·rw [iz8 (by rw [iq9];exact hi)] at e
   obtain ⟨l,at',a,h1,h2,h3⟩:=h.tok i kd w e;have hl:l≠tl:=fun q=>h.ne (q▸iv0 h1);have hlt:=zq0 h2;refine ⟨l,at',a,?_,?_,h3⟩
   ·rw [iz8 (by rw [h.len];exact hi)]
    exact h1
   ·rw [iz9 (Ne.symm hl),iq0,iz8 hlt]
    exact h2
  ·rw [ix5 (by rw [iq9];exact l21 0x87187 (ik2 hi)),iq9] at e
   have hi0:i=tk.length:=by
    have:=(iz7.mp e).1;exact ix9 (Nat.le_of_sub_eq_zero (Nat.lt_one_iff.mp this)) (ik2 hi)
   subst hi0;rw [iv4] at e;have e2:t.tok=(kd,w):=Option.some.inj e;rw [e2];refine ⟨(σ++ext).length,.tup z,b,?_,?_,z,rfl⟩
   ·rw [<-h.len,ix5 (iq1 _),iv4]
    rfl
   ·rw [iz9 (by rw [iq6];exact ij5 (iq3 ht (ij4 _ _))),ix5 (iq1 _),iv4]
    rfl
 ·simp [h.len]
 ·intro q
  rcases iz5.mp q with q|q
  ·exact h.ne q
  ·have:=iq4.mp q
   rw [iq6] at this;exact Nat.not_succ_le_zero _ (l32 0x9817d8137110313031 ht this)
section
variable {n L P tl:Nat} {T:List Nat} {σ:zz0} {tk:List Tk} {locs:List Nat} {pr:List Pc}
noncomputable def FrX (r:Rho):Prop:=r=[]\/∃ a b c d,r=([("place",a),("kind",b),("worth",c),("end",d)]:Rho)
noncomputable def FrY (r:Rho):Prop:=r=[]\/∃ b c d,r=([("kind",b),("worth",c),("end",d)]:Rho)
theorem vg0 {a b c d v:V} {r:Rho} (h:FrX r):∃ r',FrY r'/\upd (("tokens",a)::("line",b)::("at",c)::("was_is",d)::r) "place" v=(("tokens",a)::("line",b)::("at",c)::("was_is",d)::("place",v)::r':Rho):=by
 rcases h with rfl|⟨_,x,y,z,rfl⟩
 ·exact ⟨[],.inl rfl,rfl⟩
 ·exact ⟨_,.inr ⟨x,y,z,rfl⟩,rfl⟩
theorem upd_kwe {a b c d p x y z:V} {r:Rho} (h:FrY r):updAll (("tokens",a)::("line",b)::("at",c)::("was_is",d)::("place",p)::r) [("kind",x),("worth",y),("end",z)]=([("tokens",a),("line",b),("at",c),("was_is",d),("place",p),("kind",x),("worth",y),("end",z)]:Rho):=by
 rcases h with rfl|⟨_,_,_,rfl⟩ <;> rfl
theorem xh2 (hl:T.length<=100000) (hL:yp8 σ L T P) (hP:σ[P]?=some (.lst (yz8 T.length))) (h0:Lst σ tl [] []) (hpr:T=zz2 pr) (ha:Adj pr=true) (hne:L≠tl/\P≠tl) (hn:pr.length<=10000) :
 ∃ σ',zz4 (n + 7) (.fn "add_tokens") [.loc tl,.loc L] σ=.ok .none σ'/\Adv tl σ σ'/\∃ locs,Lst σ' tl (toks pr) locs:=by
 have hS:T.length<=SL:=l11 0x00186a0471100000047 hl
 suffices hz:Rn (cFn (zz4 (n + 6)) "add_tokens" [.loc tl,.loc L] σ) fun v s=>v=.none/\Adv tl σ s/\∃ locs,Lst s tl (toks pr) locs by
  obtain ⟨v,s,e,rfl,h1,h2⟩:=hz.fn;exact ⟨s,e,h1,h2⟩
 refine zr0 (ym0 (yl0 (Q:=fun y s=>(∃ ρ,y=(.next,ρ))/\Adv tl σ s/\∃ locs,Lst s tl (toks pr) locs)
  (I:=fun m ρ s=>∃ (i:Nat) (r:List Pc) (tk:List Tk) (locs:List Nat),T.drop i=zz2 r/\i<=T.length/\m=r.length/\Adj r=true/\tk++toks r=toks pr/\tk.length + r.length<=10000/\Adv tl σ s/\Lst s tl tk locs/\
   ∃ r0,FrX r0/\ρ=(("tokens",.loc tl)::("line",.loc L)::("at",.int (i:Nat))::("was_is",.bool false)::r0:Rho)) ?step LF pr.length _ _ ?init (by show _ < 1048576;exact l11 0x0002710471010000041371 hn)) |>.mono ?fin)
 case init=>exact ⟨0,pr,[],[],hpr,iv8 _,rfl,ha,rfl,by simpa using hn,Adv.refl,h0,[],.inl rfl,rfl⟩
 case fin=>
  rintro y s ⟨⟨ρ,rfl⟩,h1,h2⟩;exact zc0 ⟨rfl,h1,h2⟩
 case step=>
  rintro m ρ s ⟨i,r,tk,locs,hd,hi,rfl,ha,htk,hnn,hx,hl2,hρ⟩;have hL2:=hx.keep hL hne.1;have hP2:=hx.keep hP hne.2;have hlen:=yq3 hd hi;have hz:∀ c s,zz2 r=c::s->i < T.length:=fun c s q=>by rw [q] at hlen;simp at hlen;exact l31 0x1391718d81371 hlen
  obtain ⟨r0,hr0,rfl⟩:=hρ
  ·skip
   refine za0 (zz6 hL2 rfl rfl rfl) ?_;refine za0 (len_str hS) ?_;refine za0 rfl ?_;cases r with
   | nil=>
    refine zd0 rfl (decide_eq_false (iv2.mpr (ix6.mpr (ij3 hlen)))) ?_;refine zc0 ⟨⟨_,rfl⟩,hx,locs,?_⟩;rw [<-htk];simpa [toks] using hl2
   | cons p r=>
    cases p with
    | sp=>
     have hlt:=hz _ _ rfl;refine ze0 rfl (decide_eq_true (ik6.mpr hlt)) (zc0 ?_);refine za0 (zz6 hL2 rfl rfl rfl) ?_;refine za0 (qz1 hS (wx8 hd 0)) (Rn.go 2 ?_);have ha2:Adj r=true:=by
      change (okp _ _&&Adj r)=true at ha;exact (iq5 _ _▸ha).2
     refine zc0 ⟨r.length,by simp,i + 1,r,tk,locs,by rw [<-oq5,hd];rfl,hlt,rfl,ha2,htk,by simp at hnn;exact l21 0x00027104138171100027104871 hnn,hx,hl2,?_⟩;exact ⟨r0,hr0,rfl⟩
    | t t=>
     obtain ⟨c,w,hw,h1,h2⟩:=wf7 t;have hd2:T.drop i=t.tok.2++zz2 r:=hd;have hc:T.drop i=c::(w++zz2 r):=by rw [hd2,hw];rfl
     have hlt:i < T.length:=hz c (w++zz2 r) (by rw [<-hc,hd]);have ha2:okp (.t t) r.head?=true/\Adj r=true:=by
      change (okp _ _&&Adj r)=true at ha;exact iq5 _ _▸ha
     refine ze0 rfl (decide_eq_true (ik6.mpr hlt)) (zc0 ?_);refine za0 (zz6 hL2 rfl rfl rfl) ?_;refine za0 (blank_no hS (wx8 hc 0) h1 h2) (Rn.go 1 ?_);refine za0 (zz6 hL2 rfl rfl rfl) ?_;refine za0 (zw2 hP2 (spots_at hlt) (by rw [vb3];exact hS)) ?_;obtain ⟨r1,hr1,hu1⟩:=vg0 (a:=.loc tl) (b:=.loc L) (c:=.int (i:Nat)) (d:=.bool false) (v:=.tup [.int 1,.int (8 + (i:Int))]) hr0;refine Rn.upd hu1 ?_;refine za0 (xq6 hl2 (l21 0x00027104138171100186a047 hnn)) (Rn.go 1 ?_);refine za0 (xq6 hl2 (l21 0x00027104138171100186a047 hnn)) (Rn.go 1 ?_);obtain ⟨ext,hwt⟩:=vh7 (n:=n + 1) t (okp_rest ha2.1) (vx3 r) hL2 hi hl hd2;refine za0 hwt ?_;refine Rn.updAll (upd_kwe hr1) ?_;have htl:tl≠L + P + tl + 1:=ij5 (oq6 (ik4 _ _));have hls:=(Adv.grow (r:=L + P + tl + 1) (ext:=ext)).keep hl2.ls htl;refine za0 (zj1 hls) (Rn.go 2 ?_);refine ze0 rfl (decide_eq_true (ix6.mpr (ij4 8 i))) (Rn.go 1 ?_);refine za0 vg9 ?_;have hls2:=(Adv.grow (r:=L + P + tl + 1) (ext:=[O.inst "Token" [("kind",.str t.tok.1),("worth",.str t.tok.2),("at",.tup [.int 1,.int (8 + (i:Int))]),("is_in_a",.bool (decide (8 + (i:Int)<=11)))]])).keep hls htl;refine za0 (yp5 hls2 (by rw [iq9,hl2.len];exact l21 0x000271041381711000271047 hnn)) ?_;refine zc0 ⟨r.length,by simp,i + t.tok.2.length,r,tk++[t],locs++[(s++ext).length],by rw [<-oq5,hd2,List.drop_left],?_,rfl,ha2.2,by rw [iq0];exact htk,by simp at hnn ⊢;exact l21 0x00027104138171100027104813711 hnn,?_,hl2.push,_,.inr ⟨_,_,_,_,rfl⟩,rfl⟩
     ·have h5:=congrArg List.length hd2
      rw [iw1,iq6] at h5;exact iq2 (ij0 (iq2 (ij4 _ _) (ij3 h5.symm)) i) (ij3 (Nat.add_sub_cancel' hi))
     ·exact ((hx.trans Adv.grow).trans Adv.grow).at_
end
structure zx0 (σ σ':zz0):Prop where
 len:σ.length<=σ'.length
 same:∀ x,x < σ.length->σ'[x]?=σ[x]?
theorem zx0.refl {σ:zz0}:zx0 σ σ:=⟨iq1 _,fun U U=>rfl⟩
theorem zx0.trans {a b c:zz0} (x:zx0 a b) (y:zx0 b c):zx0 a c:=⟨iq2 x.len y.len,fun i hi=>(y.same i (iq3 hi x.len)).trans (x.same i hi)⟩
theorem zx0.app {σ ext:zz0}:zx0 σ (σ++ext):=⟨by simp,fun i hi=>iz8 hi⟩
theorem zx0.keep {σ σ':zz0} (x:zx0 σ σ') {i:Nat} {o:O} (h:σ[i]?=some o):σ'[i]?=some o:=(x.same i (zq0 h)).trans h
theorem zx0.adv {a b c:zz0} {r:Nat} (x:zx0 a b) (y:Adv r b c) (hr:a.length<=r):zx0 a c:=
 ⟨iq2 x.len y.len,fun i hi=>(y.same i (iq3 hi x.len) (ij5 (iq3 hi hr))).trans (x.same i hi)⟩
theorem yp1:∀ (n:Nat) (a:Nat),zj6 (a:Int) n=(List.range' a n).map fun i:Nat=>V.int (i:Int):=by
 intro n;induction n with
 | zero=>
  intro a;exact rfl
 | succ n ih0=>
  intro a;rw [List.range'_succ,ij2,<-ih0 (a + 1)];rfl
theorem range_1 {b:Int} (h:vw2 b=true):yk3 [.int b]=some (zj6 0 b.toNat):=if_pos h
theorem range_ok {n:Nat} {σ:zz0} (h:n<=100000):liftO ((yk3 [.int (n:Nat)]).map It.seq) σ=.ok (.seq (zj6 0 n)) σ:=by
 have h1:vw2 (n:Int)=true:=by
  unfold vw2;rw [decide_eq_true (ox5 (by decide) (iw4 n)),decide_eq_true (iv9 (ix6.mpr h) (by decide))];rfl
 rw [range_1 h1];rfl
noncomputable def spotOf:V->Option V
 | .int i=>some (.tup [.int 1,.int (8 + i)])
 | _=>none
theorem spots_of (n:Nat):(zj6 0 n).filterMap spotOf=yz8 n:=by
 have z:=yp1 n 0;rw [show ((0:Nat):Int)=0 from rfl] at z;rw [z,List.filterMap_map];refine (List.range_eq_range').symm▸?_;refine (List.filterMap_eq_map)▸?_;rfl
theorem RnO.try_ {C:zz5} {k:Nat} {sc:Scope} {ρ:Rho} {e:Expr} {pos p2:Pos} {σ:zz0} {Q:Fl×Rho->zz0->Prop} {g:Str} {pg pa pb pc:Pos} (hg:g = "GrammarFault"/\zw6 sc "GrammarFault" = true)
 (h:Rn (rE C k sc ρ e σ) fun v s=>Q (.ret v,ρ) s):RnO (evS C (k + 1) sc (.Try [.Return (some e) pa] [.ExceptHandler (some (.Name g pg)) Option.none [.Return (some (.Constant .none 0 pb)) pc] p2] [] [] pos) ρ σ) Q:=by
 refine hid fun G kG=>?_;refine el21 h.evE fun v s e1 h1=>?_;refine kG ?_;refine ⟨_,_,?_,h1⟩;exact (if_pos hg).trans (congrArg (tryO ρ) e1)
theorem RnO.try_no {C:zz5} {k:Nat} {sc:Scope} {ρ:Rho} {e:Expr} {pos p2:Pos} {σ:zz0} {Q:Fl×Rho->zz0->Prop} {g:Str} {pg pa pb pc:Pos} (hg:g = "GrammarFault"/\zw6 sc "GrammarFault" = true)
 (h:Stp (Rd.no:Rd V) (rE C k sc ρ e σ) fun U U U U=>True) (hq:∀ s,Q (.ret .none,ρ) s):RnO (evS C (k + 1) sc (.Try [.Return (some e) pa] [.ExceptHandler (some (.Name g pg)) Option.none [.Return (some (.Constant .none 0 pb)) pc] p2] [] [] pos) ρ σ) Q:=by
 refine el10 (Stp.evE h) fun s e1=>?_;refine ⟨_,_,?_,hq s⟩;exact (if_pos hg).trans (congrArg (tryO ρ) e1)
section
variable {n m a L P tl:Nat} {T:List Nat} {σ:zz0} {pr:List Pc}
theorem xg0 {q:Nat} (hl:T.length<=100000) (hL:yp8 σ L T P) (hP:σ[P]?=some (.lst (yz8 T.length))) (hq:σ[q]?=some (.lst [.loc L])) (hpr:T=zz2 pr) (ha:Adj pr=true) (hn:pr.length<=10000) :
 ∃ σ' tl,zz4 (n + 8) (.fn "tokens_of") [.loc q] σ=.ok (.loc tl) σ'/\σ.length<=tl/\zx0 σ σ'/\∃ locs,Lst σ' tl (toks pr) locs:=by
 suffices hz:Rn (cFn (zz4 (n + 7)) "tokens_of" [.loc q] σ) fun v s=>v=.loc σ.length/\zx0 σ s/\∃ locs,Lst s σ.length (toks pr) locs by
  refine hid fun G kG=>?_;refine Classical.byContradiction fun ng=>?_;refine el23 hz.fn fun v s e eq1 h1 h2=>?_;subst eq1;refine ng (kG ?_);exact ⟨s,_,e,iq1 _,h1,h2⟩
 refine hid fun G kG=>?_;have g1:zx0 σ (σ++[.lst []]):=zx0.app;obtain ⟨s2,e2,x2,locs,hl2⟩:=xh2 (n:=n) (tl:=σ.length) hl (g1.keep hL) (g1.keep hP) ⟨zq4,fun i kd w e=>(by cases i <;> cases e),rfl,(by simp)⟩ hpr ha ⟨ij5 (zq0 hL),ij5 (zq0 hP)⟩ hn;have g2:zx0 σ s2:=g1.adv x2 (iq1 _);refine kG ?_;refine zr0 (yd0 rfl ?_);refine za0 (zf3 (g1.keep hq)) ?_;refine zc0 (ye0 (zf0 (g1.keep hq) rfl rfl) ?_);refine za0 e2 ?_;refine zc0 (yi0 (yh1 (g2.keep hq) rfl) ?_);exact zc0 ⟨rfl,g2,locs,hl2⟩
theorem rds_of {tk:List Tk} {locs:List Nat} (h:Lst σ tl tk locs) (hn:tk.length<=10000):RdS (σ++[.inst "Reader" [("tokens",.loc tl),("at",.int 0),("named",.map [] [])]]) σ.length tl (tk.map Tk.tok) locs 0:=by
 refine ⟨by simp,zx0.app.keep h.ls,fun i kd w e=>?_,by rw [h.len,iq9],by rw [iq9];exact l11 0x000271047100f424047 hn,⟨ix0 (zq0 h.ls),fun q=>?_⟩,iv8 _⟩
 ·refine hid fun G kG=>?_
  refine el32 (h.tok i kd w e) fun l at' b h1 h2 h3=>?_;refine kG ?_;exact ⟨l,at',b,h1,zx0.app.keep h2,h3⟩
 ·obtain ⟨i,hi,e⟩:=List.mem_iff_getElem.mp q
  have hi2:i < tk.length:=by rw [<-h.len];exact hi
  obtain ⟨l,at',b,h1,h2,h3⟩:=h.tok i (tk[i]).tok.1 (tk[i]).tok.2 (by rw [iw2,ij6 hi2];rfl);rw [ij6 hi,e] at h1;cases h1;have:=zq0 h2;exact Nat.not_succ_le_zero _ (l11 0x7137110313031 this)
theorem yw4 (hl:T.length<=100000) (hpr:T=zz2 pr) (ha:Adj pr=true) (hn:pr.length<=10000) (hm:16 * n<=m) (hp:pS n 0 (toks pr)≠.out) :
 ∃ v' σ',zz4 (m + 12) (.fn "_law_read") [.str T] σ=.ok v' σ'/\match pS n 0 (toks pr) with|.ok v rest=>v'=.tup [v,.int rest.length]/\zx0 σ σ'|_=>v'=.none:=by
 have hS:T.length<=SL:=l11 0x00186a0471100000047 hl
 suffices hz:Rn (cFn (zz4 (m + 11)) "_law_read" [.str T] σ) fun v' s=>match pS n 0 (toks pr) with|.ok v rest=>v'=.tup [v,.int rest.length]/\zx0 σ s|_=>v'=.none by
  refine el21 hz.fn fun v s e h1=>?_;exact ⟨v,s,e,h1⟩
 refine za0 (len_str hS) ?_;refine za0 (range_ok hl) ?_;have hg:zq5 (.seq (zj6 0 T.length)) < SL:=by
  have z:=yp1 T.length 0;rw [show ((0:Nat):Int)=0 from rfl] at z;refine (?_:(zj6 0 T.length).length < SL);rw [z,iq9,List.length_range'];exact l11 0x00186a0471100000041371 hl
 refine za0 ((if_pos hg).trans (xy2 spotOf ?_)) ?_
 ·rintro u hu
  have z:=yp1 T.length 0;rw [show ((0:Nat):Int)=0 from rfl] at z;rw [z] at hu;refine el11 (ik5.mp hu) fun i hi eq2=>?_;subst eq2;refine xy4 (zs0 ?_);refine Rn.go 1 (zc0 ?_);exact ⟨rfl,rfl⟩
 refine (spots_of _).symm▸?_;refine za0 line_new ?_;refine hid fun G kG=>?_;have g1:zx0 σ (σ++[O.lst (yz8 T.length)]):=zx0.app;have g2:zx0 (σ++[O.lst (yz8 T.length)]) (σ++[O.lst (yz8 T.length)]++[O.inst "Line" [("text",.str T),("places",.loc σ.length)]]):=zx0.app;have g3:zx0 (σ++[O.lst (yz8 T.length)]++[O.inst "Line" [("text",.str T),("places",.loc σ.length)]]) (σ++[O.lst (yz8 T.length)]++[O.inst "Line" [("text",.str T),("places",.loc σ.length)]]++[O.lst [.loc (σ++[O.lst (yz8 T.length)]).length]]):=zx0.app;obtain ⟨s4,tl,e4,htl,g4,locs,hl4⟩:=xg0 (n:=m + 3) hl (g3.keep (by simp:(σ++[O.lst (yz8 T.length)]++[O.inst "Line" [("text",.str T),("places",.loc σ.length)]])[(σ++[O.lst (yz8 T.length)]).length]?=some (.inst "Line" [("text",.str T),("places",.loc σ.length)]))) ((g2.trans g3).keep zq4) zq4 hpr ha hn;refine kG ?_;refine za0 e4 ?_;refine za0 vk1 ?_;have hn2:(toks pr).length<=10000:=by
  have:∀ p:List Pc,(toks p).length<=p.length:=by
   intro p;induction p with
   | nil=>exact iq1 _
   | cons x r ih=>cases x with
    | t y=>simp [toks];exact ih
    | sp=>simp [toks];exact l21 0x87113817 ih
  have:=this pr;exact l22 0x8710002710481000271047 hn this
 have hR:=rds_of hl4 hn2;have hA:At ⟨s4.length,tl,toks pr,locs⟩ (s4++[.inst "Reader" [("tokens",.loc tl),("at",.int 0),("named",.map [] [])]]) (toks pr):=⟨0,hR,rfl⟩;have hz:=xb5 (m:=m + 10) (n:=n) hA (iq2 hm (ij4 m 10));cases hq:pS n 0 (toks pr) with
 | out=>exact absurd hq hp
 | no=>
  rw [hq] at hz;refine hid fun G kG=>?_;obtain ⟨s5,e5⟩:=hz;refine kG ?_;refine zr0 (RnO.try_no ⟨rfl,rfl⟩ ?_ fun s=>zc0 rfl);exact yc0 e5
 | ok v rest=>
  rw [hq] at hz;refine hid fun G kG=>?_;obtain ⟨b,s5,e5,rfl,x5,k5,h5,e6⟩:=hz;refine kG ?_;refine zr0 (RnO.try_ ⟨rfl,rfl⟩ ?_);refine za0 e5 ?_;refine za0 (zz6 h5.rd rfl rfl rfl) ?_;refine za0 (zb8 h5.ls h5.szl) ?_;refine za0 (zz6 h5.rd rfl rfl rfl) (Rn.go 1 ?_);refine zc0 ?_;refine zc0 ?_;refine ⟨?_,?_⟩
  ·have h6:=congrArg List.length e6
   have h8:=h5.len;rw [iw1] at h6;have h7:=h5.le;rw [iq9] at h7 h8;refine congrArg (fun i=>V.tup [b,V.int i]) ?_;refine (iq9 _).symm▸?_;refine (h6)▸?_;exact (congrArg (fun (U:Nat)=>(U:Int) - (k5:Int)) h8).trans (Int.ofNat_sub h7).symm
  ·have g5:zx0 σ s4:=(g1.trans (g2.trans g3)).trans g4
   exact (g5.trans zx0.app).adv x5 g5.len
theorem yb4 {v:V} {rest:List Tk} (hl:T.length<=100000) (hpr:T=zz2 pr) (ha:Adj pr=true) (hn:pr.length<=10000) (hm:16 * n<=m) (hp:pS n 0 (toks pr)=.ok v rest) :
 ∃ σ',zz4 (m + 12) (.fn "_law_read") [.str T] σ=.ok (.tup [v,.int rest.length]) σ'/\zx0 σ σ':=by
 refine hid fun G kG=>?_;obtain ⟨v',s,e,h⟩:=yw4 (σ:=σ) hl hpr ha hn hm (by rw [hp];intro q;cases q);refine kG ?_;rw [hp] at h;exact ⟨s,h.1▸e,h.2⟩
theorem ww7 (hl:T.length<=100000) (hpr:T=zz2 pr) (ha:Adj pr=true) (hn:pr.length<=10000) (hm:16 * n<=m) (hp:pS n 0 (toks pr)=.no) :
 ∃ σ',zz4 (m + 12) (.fn "_law_read") [.str T] σ=.ok .none σ':=by
 obtain ⟨v',s,e,h⟩:=yw4 (σ:=σ) hl hpr ha hn hm (by rw [hp];intro q;cases q);rw [hp] at h;exact ⟨s,h▸e⟩
end
structure Dr (t cs N:Nat) (σ:zz0) (b:Nat) (l:List V):Prop where
 tape:∃ c:Nat,σ[t]?=some (.lst [.loc cs,.int (c:Nat)])/\c + b<=1000
 cells:∃ xs:List Int,σ[cs]?=some (.lst (xs.map V.int))/\0 < xs.length/\xs.length<=1000
 notes:σ[N]?=some (.lst l)
 room:l.length + b<=1000
 ne:t≠cs/\t≠N/\cs≠N
theorem Dr.dr {t cs N a b:Nat} {σ:zz0} {l:List V} (h:Dr t cs N σ (a + b) l):Dr t cs N σ a l:=by
 refine el11 h.tape fun c h1 h2=>?_;exact ⟨⟨c,h1,al (iq2 (ij3 (Nat.add_assoc c a b)) h2)⟩,h.cells,h.notes,al (iq2 (ij3 (Nat.add_assoc _ a b)) h.room),h.ne⟩
theorem uj9 {a b:Int} {σ:zz0} (h:0 < b) (h2:b < 1073741824):yv6 .Mod (.int a) (.int b) σ=.ok (.int (a.fmod b)) σ:=by
 show (if decide (0 < b)&&decide (b < 1073741824) then _ else _)=_;rw [decide_eq_true h,decide_eq_true h2];rfl
theorem div_ok {a b:Int} {σ:zz0} (h:0 < b) (h2:b < 1073741824):yv6 .FloorDiv (.int a) (.int b) σ=.ok (.int (a.fdiv b)) σ:=by
 show (if decide (0 < b)&&decide (b < 1073741824) then _ else _)=_;rw [decide_eq_true h,decide_eq_true h2];rfl
theorem mul_ok {a b:Int} {σ:zz0} (h:zh0 a=true) (h2:zh0 b=true):yv6 .Mult (.int a) (.int b) σ=.ok (.int (a * b)) σ:=by
 show (if zh0 a&&zh0 b then _ else _)=_;rw [h,h2];rfl
theorem wf9 {a:Int} (h:-1000000 < a) (h2:a < 1000000):zh0 a=true:=by
 unfold zh0;rw [decide_eq_true (iw8 (by decide) (oz1 h)),decide_eq_true (Int.lt_trans h2 (by decide))];rfl
theorem xg8 {n:Nat} (h:n<=1000):zh0 (n:Int)=true:=wf9 (ox5 (by decide) (iw4 n)) (iv9 (ix6.mpr h) (by decide))
theorem vb6 {a:Int} (h:a.natAbs<=1000):zh0 a=true:=by
 cases a with
 | ofNat m=>exact xg8 h
 | negSucc m=>exact wf9 (show (-1000000:Int) < -((m + 1:Nat):Int) from Int.neg_lt_neg (iv9 (ix6.mpr h) (by decide))) (Int.lt_trans (Int.negSucc_lt_zero m) (by decide))
theorem xk2 {i k:Nat} {l:List V} {v:V} {σ:zz0} (h:σ[i]?=some (.lst l)) (hk:k < l.length) (hl:l.length<=10000):zb4 (.loc i) (.int (k:Nat)) v σ=.ok () (σ.set i (.lst (l.set k v))):=by
 exact (zj7 (F:=fun l=>if 0<=(k:Int)/\(k:Int).toNat < l.length/\l.length<=SL then Out.ok () (σ.set i (.lst (l.set (k:Int).toNat v))) else .bad) h).trans (if_pos ⟨iw4 k,hk,l11 0x0002710471100000047 hl⟩)
theorem vq3 (a b:Nat) (h:0 < b):(a:Int).fmod (b:Int)=((a % b:Nat):Int):=by
 rw [Int.fmod_eq_emod_of_nonneg _ (iw4 b)];rfl
section
variable {t cs N n c k:Nat} {σ:zz0} {l:List V}
theorem zf5 (h:Dr t cs N σ (c + 1) l) (hk:0 < k) (hk8:Nat.ble k 8=true):∃ σ' r,zz4 (n + 2) (.fn "_law_draw") [.loc t,.int (k:Nat)] σ=.ok (.int (r:Nat)) σ'/\r < k/\Dr t cs N σ' c l:=by
 have hk8:=nl hk8;refine el11 h.tape fun b hb0 hb1=>?_;refine el12 h.cells fun xs hx h0 h9=>?_;have ht:=zq0 hb0;have hcs:=zq0 hx;have hsp:b % xs.length < xs.length:=Nat.mod_lt _ h0;refine el10 (⟨_,ij6 hsp⟩:∃ cell,xs[b % xs.length]?=some cell) fun cell hcell=>?_;have hlx:(xs.map V.int).length=xs.length:=iq9 _;have hlm:(xs.map V.int).length<=SL:=hlx▸ld h9 rfl;have h2:(σ.set t (.lst ([V.loc cs,.int (b:Nat)].set 1 (.int ((b + 1:Nat):Int)))))[cs]?=some (.lst (xs.map V.int)):=by rw [iz9 h.ne.1];exact hx
 have h3:(σ.set t (.lst ([V.loc cs,.int (b:Nat)].set 1 (.int ((b + 1:Nat):Int)))))[t]?=some (.lst [V.loc cs,.int ((b + 1:Nat):Int)]):=by rw [ik7 ht];rfl
 have hkz:(0:Int) < k:=ik6.mpr hk;have hr:∃ r:Nat,cell.fmod (k:Int)=(r:Int)/\r < k:=by
  have a1:=Int.fmod_nonneg_of_pos cell hkz;have a2:=Int.fmod_lt_of_pos cell hkz;exact ⟨(cell.fmod k).toNat,(Int.toNat_of_nonneg a1).symm,(Int.toNat_lt a1).mpr a2⟩
 refine el11 hr fun r hr1 hr2=>?_;have hb2:b + 1<=1000:=al (iq2 (ij3 (by exact ix9 (l20 0x138171813711) (l20 0x813711138171):b + 1 + c=b + (c + 1))) hb1);have fin:∀ v:Int,Dr t cs N ((σ.set t (.lst ([V.loc cs,.int (b:Nat)].set 1 (.int ((b + 1:Nat):Int))))).set cs (.lst ((xs.map V.int).set (b % xs.length) (.int v)))) c l:=by
  intro v;refine ⟨⟨b + 1,?_,iq2 (ij3 (ix9 (l20 0x138171813711) (l20 0x813711138171))) hb1⟩,⟨xs.set (b % xs.length) v,?_,by rw [ox6];exact h0,by rw [ox6];exact h9⟩,?_,ik9 h.room,h.ne⟩
  ·rw [iz9 (Ne.symm h.ne.1)];exact h3
  ·rw [ik7 (by rw [ox6];exact hcs),List.map_set]
  ·rw [iz9 h.ne.2.2,iz9 h.ne.2.1];exact h.notes
 suffices hz:Rn (cFn (zz4 (n + 1)) "_law_draw" [.loc t,.int (k:Nat)] σ) fun v s=>v=.int (r:Nat)/\Dr t cs N s c l by
  exact el21 hz.fn fun v s e h5=>⟨s,r,h5.1▸e,hr2,h5.2⟩
 have hk9:(k:Int) < 1073741824:=iv9 (ix6.mpr hk8) (by decide);have hi:(0:Int) < ((xs.map V.int).length:Nat)/\((xs.map V.int).length:Int) < 1073741824:=by rw [hlx];exact ⟨ik6.mpr h0,iv9 (ix6.mpr h9) (by decide)⟩
 have hci:zv7 (.loc cs) (.int ((b:Int).fmod ((xs.map V.int).length:Nat))) (σ.set t (.lst ([V.loc cs,.int (b:Nat)].set 1 (.int ((b + 1:Nat):Int)))))=.ok (.int cell) (σ.set t (.lst ([V.loc cs,.int (b:Nat)].set 1 (.int ((b + 1:Nat):Int))))):=by
  rw [hlx,vq3 b xs.length h0];exact zw2 h2 (by rw [iw2,hcell];rfl) hlm
 have hset:∀ v:Int,zb4 (.loc cs) (.int ((b:Int).fmod ((xs.map V.int).length:Nat))) (.int v) (σ.set t (.lst ([V.loc cs,.int (b:Nat)].set 1 (.int ((b + 1:Nat):Int)))))=.ok () ((σ.set t (.lst ([V.loc cs,.int (b:Nat)].set 1 (.int ((b + 1:Nat):Int))))).set cs (.lst ((xs.map V.int).set (b % xs.length) (.int v)))):=by
  intro v;rw [hlx,vq3 b xs.length h0];exact xk2 h2 (hlx.symm▸hsp) (hlx.symm▸ld h9 rfl)
 have hs1:zh0 ((b + 1:Nat):Int)=true:=xg8 hb2;refine za0 (zw2 (k:=0) hb0 rfl (nl rfl)) ?_;refine za0 (zw2 (k:=1) hb0 rfl (nl rfl)) ?_;refine za0 (zb8 hx hlm) ?_;refine za0 (uj9 hi.1 hi.2) ?_;refine za0 (zw2 (k:=1) hb0 rfl (nl rfl)) (Rn.go 1 ?_);refine za0 (xk2 (k:=1) (v:=.int ((b + 1:Nat):Int)) hb0 (nl rfl) (nl rfl)) ?_;refine za0 hci ?_;refine za0 (v:=.int (cell.natAbs:Nat)) (σ:=(σ.set t (.lst ([V.loc cs,.int (b:Nat)].set 1 (.int ((b + 1:Nat):Int)))))) rfl (Rn.go 1 ?_);by_cases q:(cell.natAbs:Int) > (k:Int)
 ·refine ze0 rfl (decide_eq_true q) ?_
  refine za0 (div_ok hkz hk9) ?_;refine za0 (hset _) ?_;refine za0 (uj9 hkz hk9) ?_;exact zc0 ⟨congrArg V.int hr1,fin _⟩
 ·refine zd0 rfl (decide_eq_false q) ?_
  refine za0 (mul_ok (vb6 (ld (ik2 fun z=>q (ik6.mpr z)) (Nat.ble_eq_true_of_le (iq2 hk8 (nl rfl))))) rfl) ?_;refine za0 (zw2 (k:=1) h3 rfl (nl rfl)) ?_;refine za0 (mul_ok rfl hs1) (Rn.go 1 ?_);refine za0 (hset _) ?_;refine za0 (uj9 hkz hk9) ?_;exact zc0 ⟨congrArg V.int hr1,fin _⟩
end
noncomputable def Lf.nts:Lf->List V
 | .num _=>[]
 | .ref x q=>[(Lf.ref x q).v]
noncomputable def Prt.nts:Prt->List V
 | .none=>[]
 | .p1 a=>a.nts
 | .p2 a b=>a.nts++b.nts
noncomputable def Ex.nts:Ex->List V
 | .lf l=>l.nts
 | .neg a=>a.nts
 | .bin _ a b=>a.nts++b.nts
 | .sub1 x q a p=>(Ex.sub1 x q a p).v::(a.nts++p.nts)
 | .sub2 x q a b p=>(Ex.sub2 x q a b p).v::(a.nts++(b.nts++p.nts))
theorem who_ok {r:Nat} (h:r < 3):∃ x:Nm,∀ σ,zv7 (.tup [.str (S "A"),.str (S "B-1"),.str (S "C")]) (.int (r:Nat)) σ=.ok (.str (S x.txt)) σ:=by
 match r,h with
 | 0,_=>exact ⟨.a,fun σ=>rfl⟩
 | 1,_=>exact ⟨.b1,fun σ=>rfl⟩
 | 2,_=>exact ⟨.c,fun σ=>rfl⟩
theorem qz8 {r:Nat} (h:r < 3):∃ q:Qs,∀ σ,zy6 (.tup [.str (S "G"),.str (S "H")]) Option.none (some (r:Nat)) σ=.ok (.tup q.v) σ:=by
 match r,h with
 | 0,_=>exact ⟨.q0,fun σ=>rfl⟩
 | 1,_=>exact ⟨.q1,fun σ=>rfl⟩
 | 2,_=>exact ⟨.q2,fun σ=>rfl⟩
theorem op_ok {r:Nat} (h:r < 5):∃ s:Op,∀ σ,zv7 (.tup [.str (S "+"),.str (S "-"),.str (S "*"),.str (S "/"),.str (S "**")]) (.int (r:Nat)) σ=.ok (.str (S s.sg.txt)) σ:=by
 match r,h with
 | 0,_=>exact ⟨.add,fun σ=>rfl⟩
 | 1,_=>exact ⟨.sub,fun σ=>rfl⟩
 | 2,_=>exact ⟨.mul,fun σ=>rfl⟩
 | 3,_=>exact ⟨.dv,fun σ=>rfl⟩
 | 4,_=>exact ⟨.pow,fun σ=>rfl⟩
theorem nu_ok {r:Nat} (h:r < 5):∃ i:Nu,∀ σ,zv7 (.tup [.tup [.int 0,.int 0],.tup [.int 5,.int 0],.tup [.int (-5),.int 0],.tup [.int 25,.int 2],.tup [.int (-75),.int 1]]) (.int (r:Nat)) σ=.ok (.tup [.int i.v.1,.int i.v.2]) σ:=by
 match r,h with
 | 0,_=>exact ⟨.z0,fun σ=>rfl⟩
 | 1,_=>exact ⟨.p5,fun σ=>rfl⟩
 | 2,_=>exact ⟨.m5,fun σ=>rfl⟩
 | 3,_=>exact ⟨.p25,fun σ=>rfl⟩
 | 4,_=>exact ⟨.m75,fun σ=>rfl⟩
theorem yo0 {C:zz5} {k:Nat} {sc:Scope} {ρ:Rho} {e:Expr} {σ:zz0} {Q:V->zz0->Prop} (h:Rn (rE C k sc ρ e σ) Q):RnO (Mine.evE C k sc ρ e σ) Q:=h.evE
theorem yn0 {ft:Expr->zz0->V->Out Bool} {fe:Expr->zz0->V->Out V} {elt:Expr} {v:V} {σ:zz0} {Q:Option V->zz0->Prop} (h:RnO (fe elt σ v) fun u s=>Q (some u) s):RnO (Mine.compF ft fe [] elt v σ) Q:=by
 refine hid fun G kG=>?_;refine el21 h fun u s e hq=>?_;refine kG ?_;refine ⟨_,s,?_,hq⟩;show (fe elt σ v).bnd _=_;refine (e).symm▸?_;rfl
theorem RnO.comp1 {F:V->zz0->Out (Option V)} {v:V} {σ:zz0} {Q:List V->zz0->Prop} (h:RnO (F v σ) fun o s=>Q (o.toList) s):RnO (yz5 F (.seq [v]) σ) Q:=by
 refine hid fun G kG=>?_;refine el21 h fun o s e hq=>?_;refine kG ?_;refine ⟨o.toList,s,?_,hq⟩;show (F v σ).bnd' _=_;rw [e];show Out.ok (o.toList++[]) s=_;rw [iq7]
theorem RnO.comp2 {F:V->zz0->Out (Option V)} {v w:V} {σ:zz0} {Q:List V->zz0->Prop} (h:RnO (F v σ) fun o s=>RnO (F w s) fun p s=>Q (o.toList++p.toList) s):RnO (yz5 F (.seq [v,w]) σ) Q:=by
 refine hid fun G kG=>?_;obtain ⟨o,s,e,p,s2,e2,hq⟩:=h;refine kG ?_;refine ⟨o.toList++p.toList,s2,?_,hq⟩;show (F v σ).bnd' _=_;rw [e];show ((F w s).bnd' _).bnd _=_;rw [e2];show Out.ok (o.toList++(p.toList++[])) s2=_;rw [iq7]
theorem RnO.ifp {α:Type} {c:Prop} [Decidable c] {r b:Out α} {Q:α->zz0->Prop} (hc:c) (h:RnO r Q):RnO (if c then r else b) Q:=by rw [if_pos hc];exact h
section
variable {t cs N n c k:Nat} {σ:zz0} {l:List V}
theorem Dr.grow (h:Dr t cs N σ c l) {ext:zz0}:Dr t cs N (σ++ext) c l:=
 el11 h.tape fun b h1 h2=>el12 h.cells fun xs hx h0 h9=>⟨⟨b,zx0.app.keep h1,h2⟩,⟨xs,zx0.app.keep hx,h0,h9⟩,zx0.app.keep h.notes,h.room,h.ne⟩
theorem Dr.note (h:Dr t cs N σ c l) {l':List V} {b:Nat} (hb:b<=c) (hl:l'.length + b<=1000):Dr t cs N (σ.set N (.lst l')) b l':=by
 refine el11 h.tape fun b h1 h2=>el12 h.cells fun xs hx h0 h9=>?_;exact ⟨⟨b,by rw [iz9 (Ne.symm h.ne.2.1)];exact h1,iq2 (ij0 hb _) h2⟩,⟨xs,by rw [iz9 (Ne.symm h.ne.2.2)];exact hx,h0,h9⟩,by rw [ik7 (zq0 h.notes)],hl,h.ne⟩
theorem Dr.cast {l':List V} (h:Dr t cs N σ c l) (e:l=l'):Dr t cs N σ c l':=e▸h
theorem Dr.le (h:Dr t cs N σ c l) {m:Nat} (k:Nat.ble 1000 m=true):l.length<=m:=iq2 (al h.room) (nl k)
noncomputable def Bd:Nat->Nat
 | 0=>5
 | d + 1=>Bd d + Bd d + 18
noncomputable def yy0 (t cs N d F:Nat):Prop:=∀ n σ b l,F<=n->Dr t cs N σ (b + Bd d) l->
 ∃ σ' e,zz4 n (.fn "_law_expr") [.loc t,.int (d:Nat),.loc N] σ=.ok e.v σ'/\Ex.dp e<=d/\Dr t cs N σ' b (l++e.nts)
noncomputable def Fin (t cs N d b:Nat) (l:List V) (v:V) (s:zz0):Prop:=∃ e:Ex,v=e.v/\e.dp<=d/\Dr t cs N s b (l++e.nts)
theorem set_mid {l r:List V} {u v:V}:(l++[u]++r).set l.length v=l++(v::r):=by
 rw [iq0,List.set_append_right _ _ (iq1 _),iv4];rfl
theorem get_mid {l r:List V} {v:V}:(l++(v::r))[l.length]?=some v:=by
 rw [ix5 (iq1 _),iv4];rfl
theorem mid_len {l r:List V} {u v:V}:(l++(v::r)).length=(l++[u]++r).length:=by
 rw [iq0,iq6,iq6];rfl
theorem yj4 {n d D:Nat} {R P X Y w:V} {r:Rho} {M:List V} {e:Ex} (he:e.v=.tup [.str (S "ref"),X,Y,R,P]) (hn:e.nts=e.v::M) (hd:e.dp<=d) (h:Dr t cs N σ c (l++[.none]++M)) :
 Rn (cAt (zz4 (n + 1)) "_law_expr" 10 (("tape",.loc t)::("depth",.int (D:Nat))::("notes",.loc N)::("way",w)::("who",X)::("around",Y)::("spot",.int (l.length:Nat))::("rows",R)::("part",P)::r) σ) (Fin t cs N d c l):=by
 have hs:=set_mid (l:=l) (r:=M) (u:=.none) (v:=e.v);have hl:(l++(e.v::M)).length + c<=1000:=(mid_len (u:=.none))▸h.room;have hk:l.length < (l++[V.none]++M).length:=by
  rw [iq0,iq6];exact Nat.lt_add_of_pos_right (iv7 _)
 refine za0 (xk2 (k:=l.length) (v:=.tup [.str (S "ref"),X,Y,R,P]) h.notes hk (h.le rfl)) ?_;rw [<-he,hs];refine za0 (zw2 (k:=l.length) (h.note (iq1 _) hl).notes get_mid (ld (al hl) rfl)) ?_;exact zc0 ⟨e,rfl,hd,(h.note (iq1 _) hl).cast (congrArg (fun U=>l++U) hn.symm)⟩
end
theorem uw1 {e:Ex} (h:e.dp<=0):∃ f,e=.lf f:=by
 cases e with
 | lf f=>exact ⟨f,rfl⟩
 | _=>cases h
section
variable {t cs N n b c k d F:Nat} {σ:zz0} {l:List V}
theorem vy1 {σ:zz0}:yv6 .Sub (.int ((d + 1:Nat):Int)) (.int 1) σ=.ok (.int (d:Nat)) σ:=
 congrArg (fun i=>Out.ok (V.int i) σ) (Int.add_sub_cancel (d:Int) 1)
theorem zv3:(decide (((d + 1:Nat):Int) > 0))=true:=decide_eq_true (ik6.mpr (iv7 d))
theorem Bd_up:b + Bd (d + 1)=b + Bd 0 + 1 + Bd 0 + Bd d + Bd d + 7:=by
 refine (?_:b + (Bd d + Bd d + 18)=b + 5 + 1 + 5 + Bd d + Bd d + 7);exact ix9 (l20 0x7388531353711111100000124881171) (l20 0x0000012488117173885313537111111)
theorem ine {w k:Nat} (h:w≠k):(((w:Nat):Int) == ((k:Nat):Int))=false:=beq_eq_false_iff_ne.mpr fun e=>h (Int.ofNat.inj e)
theorem ilt {w k:Nat} (h:w < k):decide (((w:Nat):Int) < ((k:Nat):Int))=true:=decide_eq_true (ik6.mpr h)
theorem ige {w k:Nat} (h:k<=w):decide (((w:Nat):Int) < ((k:Nat):Int))=false:=decide_eq_false (iv2.mpr (ix6.mpr h))
theorem vq7 {D:Nat} {w:V} {Q:V->zz0->Prop} (h:Dr t cs N σ (c + 3) l)
 (k:∀ s x q,Dr t cs N s c (l++[.none])->Rn (cAt (zz4 (n + 2)) "_law_expr" 8 [("tape",.loc t),("depth",.int (D:Nat)),("notes",.loc N),("way",w),("who",.str (S (Nm.txt x))),("around",.tup (Qs.v q)),("spot",.int (l.length:Nat)),("rows",.tup []),("part",.none)] s) Q) :
 Rn (cAt (zz4 (n + 2)) "_law_expr" 4 [("tape",.loc t),("depth",.int (D:Nat)),("notes",.loc N),("way",w)] σ) Q:=by
 refine el22 (zf5 (n:=n) (k:=3) h (nl rfl) rfl) fun s2 r e2 hr D2=>?_;refine el10 (who_ok hr) fun x hx=>?_;refine el22 (zf5 (n:=n) (k:=3) D2 (nl rfl) rfl) fun s3 r3 e3 hr3 D3=>?_;refine el10 (qz8 hr3) fun q hq=>?_;have D4:=D3.note (l':=l++[.none]) (oz5 c) (iq2 (ij3 (by rw [iq6];exact Nat.add_right_comm _ 1 c)) D3.room);refine za0 e2 ?_;refine za0 (hx _) ?_;refine za0 e3 ?_;refine za0 (hq _) ?_;refine za0 (zb8 D3.notes (D3.le rfl)) ?_;refine za0 (zj1 D3.notes) ?_;refine za0 (yp5 D3.notes (D3.le rfl)) ?_;refine Rn.at "_law_expr" 8 ?_;exact k _ x q D4
theorem ug2:yy0 t cs N 0 5:=by
 intro m σ b l hm hD;refine el10 (upk0 hm) fun n e0=>?_;subst e0
 suffices hz:Rn (cFn (zz4 (n + 4)) "_law_expr" [.loc t,.int (0:Nat),.loc N] σ) (Fin t cs N 0 b l) by
  exact el21 hz.fn fun v s e h=>el12 h fun ex h1 h2 h3=>⟨s,ex,h1▸e,h2,h3⟩
 refine el22 (zf5 (n:=n + 2) (k:=8) (hD:Dr t cs N σ (b + 4 + 1) l) (nl rfl) rfl) fun s1 w e1 hw D1=>?_;by_cases q6:w=6
 ·subst q6
  refine el22 (zf5 (n:=n + 2) (k:=5) (D1:Dr t cs N s1 (b + 3 + 1) l) (nl rfl) rfl) fun s2 r e2 hr D2=>?_;refine el10 (nu_ok hr) fun i hi=>?_;refine za0 e1 (Rn.go 6 ?_);refine za0 e2 ?_;refine za0 (hi _) ?_;exact zc0 ⟨.lf (.num i),rfl,iq1 _,(D2.dr).cast (iq7 l).symm⟩
 ·refine za0 e1 ?_
  refine Rn.go 5 ?_;refine zd0 rfl (ine q6) ?_;refine Rn.at "_law_expr" 4 ?_;refine vq7 (n:=n + 2) (D:=0) (D1:Dr t cs N s1 (b + 1 + 3) l) fun s x q D2=>?_;refine Rn.go 4 ?_;refine Rn.at "_law_expr" 10 ?_;exact yj4 (n:=n + 3) (D:=0) (M:=[]) (e:=.lf (.ref x q)) rfl rfl (iq1 _) ((D2.dr).cast (iq7 _).symm)
theorem wq4 {X Y R:V} {w:Nat} {M:List V} {mk:Prt->Ex} (h0:yy0 t cs N 0 5) (hm:∀ p,(mk p).v=.tup [.str (S "ref"),X,Y,R,p.v]/\(mk p).nts=(mk p).v::(M++p.nts)/\(mk p).dp<=d + 1) (hD:Dr t cs N σ (b + 5 + 1 + 5) (l++[.none]++M)) :
 Rn (cAt (zz4 (n + 5)) "_law_expr" 9 [("tape",.loc t),("depth",.int ((d + 1:Nat):Int)),("notes",.loc N),("way",.int (w:Nat)),("who",X),("around",Y),("spot",.int (l.length:Nat)),("rows",R),("part",.none)] σ) (Fin t cs N (d + 1) b l):=by
 by_cases q:w=5
 ·subst q
  refine el22 (h0 (n + 5) σ (b + 5 + 1) _ (ik4 5 n) hD) fun s1 a e1 a1 D1=>?_;refine el10 (uw1 a1) fun f e0=>?_;subst e0;refine el22 (zf5 (n:=n + 3) (k:=2) D1 (nl rfl) rfl) fun s2 r e2 hr D2=>?_;rw [iq0] at D2
  match r,hr with
  | 0,_=>
   refine Rn.go 1 ?_;refine ze0 rfl zv3 (Rn.go 2 ?_);refine za0 e1 ?_;refine za0 e2 (Rn.go 2 ?_);refine Rn.at "_law_expr" 10 ?_;exact yj4 (n:=n + 4) (D:=d + 1) (e:=mk (.p1 f)) (hm (.p1 f)).1 (hm (.p1 f)).2.1 (hm (.p1 f)).2.2 D2.dr
  | 1,_=>
   refine el22 (h0 (n + 5) s2 b _ (ik4 5 n) D2) fun s3 a e3 a3 D3=>?_;refine el10 (uw1 a3) fun g e0=>?_;subst e0;rw [iq0,iq0 M] at D3;refine Rn.go 1 ?_;refine ze0 rfl zv3 (Rn.go 2 ?_);refine za0 e1 ?_;refine za0 e2 (Rn.go 2 ?_);refine za0 e3 ?_;refine Rn.at "_law_expr" 10 ?_;exact yj4 (n:=n + 4) (D:=d + 1) (e:=mk (.p2 f g)) (hm (.p2 f g)).1 (hm (.p2 f g)).2.1 (hm (.p2 f g)).2.2 D3
 ·refine Rn.go 1 ?_
  refine ze0 rfl zv3 (Rn.go 1 ?_);refine zd0 rfl (ine q) ?_;refine Rn.at "_law_expr" 10 ?_;exact yj4 (n:=n + 4) (D:=d + 1) (e:=mk .none) (hm .none).1 ((hm .none).2.1.trans (congrArg (List.cons _) (iq7 M))) (hm .none).2.2 hD.dr.dr.dr
theorem ug1 {x:Nm} {q:Qs} {w:Nat} (h0:yy0 t cs N 0 5) (hd:yy0 t cs N d F) (hF:F<=n + 5) (hw:w < 6) (hD:Dr t cs N σ (b + 5 + 1 + 5 + Bd d + Bd d + 1) (l++[.none])) :
 Rn (cAt (zz4 (n + 5)) "_law_expr" 8 [("tape",.loc t),("depth",.int ((d + 1:Nat):Int)),("notes",.loc N),("way",.int (w:Nat)),("who",.str (S x.txt)),("around",.tup q.v),("spot",.int (l.length:Nat)),("rows",.tup []),("part",.none)] σ) (Fin t cs N (d + 1) b l):=by
 refine el22 (zf5 (n:=n + 3) (k:=2) hD (nl rfl) rfl) fun s2 r e2 hr D2=>?_;refine el22 (hd (n + 5) s2 _ _ hF D2) fun s3 a e3 a3 D3=>?_
 match r,hr with
 | 0,_=>
  refine Rn.go 1 ?_;refine ze0 rfl zv3 (Rn.go 1 ?_);refine ze0 rfl (ilt hw) ?_;refine za0 e2 (Rn.go 2 ?_);refine zr0 ?_;refine RnO.ifp (nl rfl) (RnO.comp1 ?_);refine yn0 (yo0 ?_);refine za0 vy1 ?_;refine za0 e3 (zc0 ?_);refine za0 (yv9 zq4 (nl rfl)) ?_;refine Rn.at "_law_expr" 9 ?_;exact wq4 (mk:=fun p=>.sub1 x q a p) h0 (fun p=>⟨rfl,rfl,iv1 a3⟩) (D3.dr.grow)
 | 1,_=>
  refine el22 (hd (n + 5) s3 _ _ hF D3) fun s4 c e4 a4 D4=>?_;rw [iq0] at D4;refine Rn.go 1 ?_;refine ze0 rfl zv3 (Rn.go 1 ?_);refine ze0 rfl (ilt hw) ?_;refine za0 e2 (Rn.go 2 ?_);refine zr0 ?_;refine RnO.ifp (nl rfl) (RnO.comp2 ?_);refine yn0 (yo0 ?_);refine za0 vy1 ?_;refine za0 e3 ?_;refine zc0 (yn0 (yo0 ?_));refine za0 vy1 ?_;refine za0 e4 (zc0 ?_);refine za0 (yv9 zq4 (nl rfl)) ?_;refine Rn.at "_law_expr" 9 ?_;exact wq4 (mk:=fun p=>.sub2 x q a c p) h0 (fun p=>⟨rfl,congrArg (List.cons _) (iq0 _ _ _).symm,iv1 (Nat.max_le.mpr ⟨a3,a4⟩)⟩) (D4.grow)
theorem wq3 (hF:5<=F) (h0:yy0 t cs N 0 5) (hd:yy0 t cs N d F):yy0 t cs N (d + 1) (F + 1):=by
 intro m σ b l hm hD;refine el10 (upk0 (k:=6) (iq2 (iv1 hF) hm)) fun n e0=>?_;subst e0;have hF:=Nat.le_of_succ_le_succ hm;rw [Bd_up] at hD
 suffices hz:Rn (cFn (zz4 (n + 5)) "_law_expr" [.loc t,.int ((d + 1:Nat):Int),.loc N] σ) (Fin t cs N (d + 1) b l) by
  exact el21 hz.fn fun v s e h=>el12 h fun ex h1 h2 h3=>⟨s,ex,h1▸e,h2,h3⟩
 refine el22 (zf5 (n:=n + 3) (k:=8) hD (nl rfl) rfl) fun s1 w e1 hw D1=>?_;have go4:¬w < 3->w≠3->w≠6->Rn (cAt (zz4 (n + 5)) "_law_expr" 4 [("tape",.loc t),("depth",.int ((d + 1:Nat):Int)),("notes",.loc N),("way",.int (w:Nat))] s1) (Fin t cs N (d + 1) b l):=by
  intro q1 q2 q3;refine vq7 (n:=n + 3) (D:=d + 1) (D1:Dr t cs N s1 (b + 5 + 1 + 5 + Bd d + Bd d + 3 + 3) l) fun s x q D2=>?_;by_cases q4:w < 6
  ·have D3:Dr t cs N s (b + 5 + 1 + 5 + Bd d + Bd d + 1 + 2) (l++[.none]):=D2
   exact ug1 h0 hd hF q4 D3.dr
  ·refine Rn.go 1 ?_
   refine ze0 rfl zv3 (Rn.go 1 ?_);refine zd0 rfl (ige (ik2 q4)) ?_;refine Rn.at "_law_expr" 9 ?_;refine Rn.go 1 ?_;refine ze0 rfl zv3 (Rn.go 1 ?_);refine zd0 rfl (ine fun e=>q4 (e.symm▸nl rfl)) ?_;refine Rn.at "_law_expr" 10 ?_;exact yj4 (n:=n + 4) (D:=d + 1) (M:=[]) (e:=.lf (.ref x q)) rfl rfl (iv8 _) (D2.dr.dr.dr.dr.dr.dr.cast (iq7 _).symm)
 by_cases q1:w < 3
 ·refine el22 (zf5 (n:=n + 3) (k:=5) (D1:Dr t cs N s1 (b + 5 + 1 + 5 + Bd d + Bd d + 5 + 1) l) (nl rfl) rfl) fun s2 r e2 hr D2=>?_
  refine el10 (op_ok hr) fun s hs=>?_;refine el22 (hd (n + 5) s2 _ l hF D2.dr) fun s3 a e3 a3 D3=>?_;refine el22 (hd (n + 5) s3 _ _ hF D3) fun s4 c e4 a4 D4=>?_;refine za0 e1 (Rn.go 1 ?_);refine ze0 rfl zv3 (Rn.go 1 ?_);refine ze0 rfl (ilt q1) ?_;refine za0 e2 ?_;refine za0 (hs _) ?_;refine za0 vy1 ?_;refine za0 e3 ?_;refine za0 vy1 ?_;refine za0 e4 ?_;exact zc0 ⟨.bin s a c,rfl,iv1 (Nat.max_le.mpr ⟨a3,a4⟩),D4.dr.dr.dr.cast (iq0 _ _ _)⟩
 by_cases q2:w=3
 ·subst q2
  refine el22 (hd (n + 5) s1 _ l hF (D1:Dr t cs N s1 (b + 5 + 1 + 5 + Bd d + Bd d + 6) l).dr) fun s3 a e3 a3 D3=>?_;refine za0 e1 (Rn.go 1 ?_);refine ze0 rfl zv3 (Rn.go 2 ?_);refine ze0 rfl zv3 (Rn.go 2 ?_);refine za0 vy1 ?_;refine za0 e3 ?_;exact zc0 ⟨.neg a,rfl,iv1 a3,D3.dr.dr.dr.dr⟩
 by_cases q3:w=6
 ·subst q3
  refine el22 (zf5 (n:=n + 3) (k:=5) (D1:Dr t cs N s1 (b + 5 + 1 + 5 + Bd d + Bd d + 5 + 1) l) (nl rfl) rfl) fun s2 r e2 hr D2=>?_;refine el10 (nu_ok hr) fun i hi=>?_;refine za0 e1 (Rn.go 1 ?_);refine ze0 rfl zv3 (Rn.go 2 ?_);refine ze0 rfl zv3 (Rn.go 4 ?_);refine za0 e2 ?_;refine za0 (hi _) ?_;exact zc0 ⟨.lf (.num i),rfl,iv8 _,D2.dr.dr.dr.dr.dr.dr.cast (iq7 _).symm⟩
 refine za0 e1 (Rn.go 1 ?_);refine ze0 rfl zv3 (Rn.go 1 ?_);refine zd0 rfl (ige (ik2 q1)) (Rn.go 1 ?_);refine ze0 rfl zv3 (Rn.go 1 ?_);refine zd0 rfl (ine q2) (Rn.go 1 ?_);refine zd0 rfl (ine q3) ?_;refine Rn.at "_law_expr" 4 ?_;exact go4 q1 q2 q3
end
theorem zz8:∀ a b:List Pc,zz2 (a++b)=zz2 a++zz2 b:=by
 intro a;induction a with
 | nil=>
  intro b;exact rfl
 | cons p0 r ih0=>
  cases p0 with
  | t x=>
   intro b;refine (?_:x.tok.2++zz2 (r++b)=(x.tok.2++zz2 r)++zz2 b);rw [ih0 b,iq0]
  | sp=>
   intro b;show 32::zz2 (r++b)=_;rw [ih0 b];rfl
theorem zq6 (p:List Pc):zz2 (par p)=40::(zz2 p++[41]):=by
 show 40::zz2 (p++[ps .rp])=_;refine (zz8 _ _).symm▸?_;rfl
noncomputable def zy9 (e:Ex) (F:Nat):Prop:=∀ m,F<=m->∀ σ,∃ σ',zz4 m (.fn "show_expression") [e.v] σ=.ok (.str (zz2 e.sh)) σ'/\zx0 σ σ'
section
variable {n m k:Nat} {σ:zz0} {F:Nat}
theorem xg2 {i:Int} {w:List Nat} (h:wh0 i=w) (h1:-1000000 < i) (h2:i < 1000000):zz4 (n + 1) (.typ "str") [.int i] σ=.ok (.str w) σ:=by
 show (if decide (-1000000 < i)&&decide (i < 1000000) then Out.ok (V.str (wh0 i)) σ else .bad)=_;rw [decide_eq_true h1,decide_eq_true h2,h];rfl
theorem write_ok (i:Nu):zz4 (n + 2) (.fn "write_decimal") [.tup [.int i.v.1,.int i.v.2]] σ=.ok (.str (zz2 i.p)) σ:=by
 cases i
 ·refine zo0 ?_
  refine Rn.go 2 ?_;refine za0 (xg2 (w:=S "0") (i:=0) (by decide +kernel) (by decide) (by decide)) ?_;iterate 6 refine za0 rfl ?_
  exact zc0 ⟨rfl,rfl⟩
 ·refine zo0 ?_
  refine Rn.go 2 ?_;refine za0 (xg2 (w:=S "5") (i:=5) (by decide +kernel) (by decide) (by decide)) ?_;iterate 6 refine za0 rfl ?_
  exact zc0 ⟨rfl,rfl⟩
 ·refine zo0 ?_
  refine Rn.go 2 ?_;refine za0 (xg2 (w:=S "5") (i:=5) (by decide +kernel) (by decide) (by decide)) ?_;iterate 7 refine za0 rfl ?_
  exact zc0 ⟨rfl,rfl⟩
 ·refine zo0 ?_
  refine Rn.go 2 ?_;refine za0 (xg2 (w:=S "25") (i:=25) (by decide +kernel) (by decide) (by decide)) ?_;iterate 5 refine za0 rfl ?_
  refine za0 (len_str (by decide)) ?_;iterate 3 refine za0 rfl ?_
  refine za0 (len_str (by decide)) ?_;iterate 4 refine za0 rfl ?_
  refine za0 (len_str (by decide)) ?_;iterate 7 refine za0 rfl ?_
  exact zc0 ⟨rfl,rfl⟩
 ·refine zo0 ?_
  refine Rn.go 2 ?_;refine za0 (xg2 (w:=S "75") (i:=75) (by decide +kernel) (by decide) (by decide)) ?_;iterate 5 refine za0 rfl ?_
  refine za0 (len_str (by decide)) ?_;iterate 3 refine za0 rfl ?_
  refine za0 (len_str (by decide)) ?_;iterate 4 refine za0 rfl ?_
  refine za0 (len_str (by decide)) ?_;iterate 8 refine za0 rfl ?_
  exact zc0 ⟨rfl,rfl⟩
end
theorem tok_len:∀ t:Tk,t.tok.2.length<=4:=by
 intro t;cases t with
 | nm x=>cases x <;> decide
 | of_=>decide
 | in_=>decide
 | nb x=>cases x <;> decide
 | sg s=>cases s <;> decide
theorem zp2:∀ p:List Pc,(zz2 p).length<=4 * p.length:=by
 intro p;induction p with
 | nil=>
  exact iq1 _
 | cons p0 r ih0=>
  cases p0 with
  | sp=>
   have:=ih0;refine (?_:(32::zz2 r).length<=4 * (r.length + 1));simp;exact l21 0x842711381421371 this
  | t x=>
   have:=ih0;have h:=tok_len x;refine (?_:(x.tok.2++zz2 r).length<=4 * (r.length + 1));rw [iq6];exact l32 0x437194281139142871 this h
noncomputable def Pb:Nat->Nat
 | 0=>60
 | d + 1=>3 * Pb d
theorem xh3:∀ d,60<=Pb d:=by
 intro d;induction d with
 | zero=>
  exact iq1 _
 | succ d ih0=>
  have:=ih0;show 60<=3 * Pb d;exact l11 0x7000003c41732000003c4 this
theorem yp6:∀ {a b:Nat},a<=b->Pb a<=Pb b:=by
 intro a b h;induction h with
 | refl=>exact iq1 _
 | step _ ih=>have:=xh3 (a);show Pb a<=3 * Pb _;exact l21 0x8718327 ih
theorem yq1 (o:Bool) (x:Nm) (q:Qs):(zb0 o x q).length<=9:=by cases q <;> simp [zb0,qualP,Qs.l]
theorem nu_len (i:Nu):i.p.length<=2:=by cases i <;> decide
theorem zf2 (f:Lf):f.sh.length<=9/\f.pl.length<=9:=by
 cases f with
 | num i=>have:=nu_len i;exact ⟨by show i.p.length<=9;exact l11 0x2371937 this,by show (par i.p).length<=9;simp [par];exact l11 0x2371737 this⟩
 | ref x q=>exact ⟨yq1 _ _ _,yq1 _ _ _⟩
theorem yy7 (p:Prt):p.sh.length<=30/\p.pl.length<=30:=by
 cases p with
 | none=>exact ⟨by decide,by decide⟩
 | p1 a=>
  have:=zf2 a;constructor
  ·show ([.sp,ps .lp]++a.sh++[.sp,ps .colon,ps .rp]).length<=30;simp;exact l11 0x9371000001947 this.1
  ·show ([.sp,ps .lp]++a.pl++[.sp,ps .colon,ps .rp]).length<=30;simp;exact l11 0x9371000001947 this.2
 | p2 a b=>
  have ha:=zf2 a;have:=zf2 b;constructor
  ·show ([.sp,ps .lp]++a.sh++[.sp,ps .colon,.sp]++b.sh++[ps .rp]).length<=30;simp;exact iq2 (ij8 ha.1 (iw7 this.1 4)) (nl rfl)
  ·show ([.sp,ps .lp]++a.pl++[.sp,ps .colon,.sp]++b.pl++[ps .rp]).length<=30;simp;exact iq2 (ij8 ha.2 (iw7 this.2 4)) (nl rfl)
theorem up7 (l lv:Nat) (p:List Pc):(br l lv p).length<=p.length + 2:=by
 unfold br;split
 ·simp [par]
 ·exact l10 0x23717
theorem sh_len:∀ e:Ex,e.sh.length<=Pb e.dp:=by
 intro e;induction e with
 | lf f=>
  have:=zf2 f;show f.sh.length<=60;exact l11 0x9371000003c47 this.1
 | neg a ih0a=>
  have:=ih0a;have h:=xh3 a.dp;have hb:=up7 4 a.lv a.sh;refine (?_:([ps .minus,.sp]++(if wz3 a=true then par a.sh else br 4 a.lv a.sh)).length<=3 * Pb a.dp);split
  ·simp [par];exact l22 0x8000003c418718321313131371111 this h
  ·simp;exact l33 0x2391718000003c418918321313711 this h hb
 | bin s a b ih0a ih0b=>
  have ha:=iq2 (ih0a) (yp6 (iz4 a.dp b.dp));have hb:=iq2 (ih0b) (yp6 (iz3 a.dp b.dp));have h:=xh3 (max a.dp b.dp);have h1:=up7 s.lv a.lv a.sh;have h2:=up7 (s.lv + 1) b.lv b.sh;refine (?_:(br s.lv a.lv a.sh++[.sp,ps s.sg,.sp]++br (s.lv + 1) b.lv b.sh).length<=3 * Pb (max a.dp b.dp));simp;exact l55 0x23b18123a1719000003c419b19a1932131313811171 ha hb h h1 h2
 | sub1 x q a p ih0a=>
  have ha:=ih0a;have h:=xh3 a.dp;have h1:=yq1 true x q;have h2:=(yy7 p).1;refine (?_:(zb0 true x q++.sp::(par a.sh++p.sh)).length<=3 * Pb a.dp);simp [par];exact l44 0x000001e4919371a000003c41a81a3213131391811171 ha h h1 h2
 | sub2 x q a b p ih0a ih0b=>
  have ha:=iq2 (ih0a) (yp6 (iz4 a.dp b.dp));have hb:=iq2 (ih0b) (yp6 (iz3 a.dp b.dp));have h:=xh3 (max a.dp b.dp);have h1:=yq1 true x q;have h2:=(yy7 p).1;refine (?_:(zb0 true x q++.sp::(par (xz1 a.sh b.sh)++p.sh)).length<=3 * Pb (max a.dp b.dp));unfold xz1;split
  ·simp [par];exact l55 0x000001e4a19371b000003c41b91b81b321313131313131313a11911118111171 ha hb h h1 h2
  ·simp [par];exact l55 0x000001e4a19371b000003c41b91b81b3213131313a1911811171 ha hb h h1 h2
theorem yw0:∀ e:Ex,e.pl.length<=Pb e.dp
 | .lf f=>by have:=zf2 f;show f.pl.length<=60;exact l11 0x9371000003c47 this.2
 | .neg a=>by
  have h:=xh3 a.dp;refine Classical.byContradiction fun ng=>?_;have:=yw0 a;refine ng ((?_:(par ([ps .minus,.sp]++par a.pl)).length<=3 * Pb a.dp));simp [par];exact l22 0x8718000003c418321313131323711111 h this
 | .bin s a b=>by
  have ha:=iq2 (yw0 a) (yp6 (iz4 a.dp b.dp));have hb:=iq2 (yw0 b) (yp6 (iz3 a.dp b.dp));have h:=xh3 (max a.dp b.dp);refine (?_:(par (par a.pl++[.sp,ps s.sg,.sp]++par b.pl)).length<=3 * Pb (max a.dp b.dp));simp [par];exact l33 0x9000003c41981971932131313131313132381111117111 ha hb h
 | .sub1 x q a p=>by
  have h:=xh3 a.dp;refine Classical.byContradiction fun ng=>?_;have ha:=yw0 a;have h1:=yq1 false x q;have h2:=(yy7 p).2;refine ng ((?_:(zb0 false x q++.sp::(par (par a.pl)++p.pl)).length<=3 * Pb a.dp));simp [par];exact l44 0x000001e4919371a81a000003c41a3213131313139118111171 h ha h1 h2
 | .sub2 x q a b p=>by
  have ha:=iq2 (yw0 a) (yp6 (iz4 a.dp b.dp));have hb:=iq2 (yw0 b) (yp6 (iz3 a.dp b.dp));have h:=xh3 (max a.dp b.dp);have h1:=yq1 false x q;have h2:=(yy7 p).2;refine (?_:(zb0 false x q++.sp::(par (par a.pl++.sp::par b.pl)++p.pl)).length<=3 * Pb (max a.dp b.dp));simp [par];exact l55 0x000001e4a19371b000003c41b91b81b321313131313131313a11911118111171 ha hb h h1 h2
noncomputable def wh5 (l:List Pc):Bool:=stpP l.head?
noncomputable def Apt (p:List Pc):Prop:=∀ rest,wh5 rest=true->Adj rest=true->Adj (p++rest)=true
theorem okp_sg {s:Sg} {n:Option Pc} (hs:s≠.star):okp (ps s) n=true:=by
 refine (?_:(bif s.ix == 2 then isSp n else true)=true);cases q:s.ix == 2 with
 | true=>exact absurd (Sg.eq q) hs
 | false=>rfl
theorem zb6 {t:Tk} {rest:List Pc} (h:wh5 rest=true) (ht:∀ s,t=.sg s->s≠.star):okp (.t t) rest.head?=true:=by
 cases t with
 | sg s=>exact okp_sg (ht s rfl)
 | _=>exact h
theorem Adj.cons {p:Pc} {r:List Pc} (h1:okp p r.head?=true) (h2:Adj r=true):Adj (p::r)=true:=by
 refine (?_:(okp p r.head?&&Adj r)=true);rw [h1,h2];rfl
theorem Adj.sp {r:List Pc} (h:Adj r=true):Adj (.sp::r)=true:=Adj.cons rfl h
theorem Adj.sg {s:Sg} {r:List Pc} (hs:s≠.star) (h:Adj r=true):Adj (ps s::r)=true:=Adj.cons (okp_sg hs) h
theorem Adj.op {s:Sg} {r:List Pc} (h:Adj r=true):Adj (ps s::.sp::r)=true:=Adj.cons (wb0 (f:=fun s=>okp (ps s) (some .sp)) rfl s) (Adj.sp h)
theorem Apt.par {p:List Pc} (h:Apt p):Apt (Mine.par p):=fun rest he ha=>by
 refine (?_:Adj (ps .lp::((p++[ps .rp])++rest))=true);refine (iq0 _ _ _).symm▸?_;exact Adj.sg (by simp) (h _ rfl (Adj.sg (by simp) ha))
theorem Apt.br {p:List Pc} (l lv:Nat) (h:Apt p):Apt (Mine.br l lv p):=by
 unfold Mine.br;split
 ·exact h.par
 ·exact h
theorem wf3 (o:Bool) (x:Nm) (q:Qs):Apt (zb0 o x q):=fun rest he ha=>by
 cases q
 ·exact Adj.cons (zb6 he (by intro s h;cases h)) ha
 ·refine Adj.cons rfl (Adj.sp (Adj.cons (by cases o <;> rfl) (Adj.sp ?_)))
  exact Adj.cons (zb6 he (by intro s h;cases h)) ha
 ·refine Adj.cons rfl (Adj.sp (Adj.cons (by cases o <;> rfl) (Adj.sp (Adj.cons rfl (Adj.sp (Adj.cons (by cases o <;> rfl) (Adj.sp ?_)))))))
  exact Adj.cons (zb6 he (by intro s h;cases h)) ha
theorem apt_nu (i:Nu):Apt i.p:=fun rest he ha=>by
 cases i
 ·exact Adj.cons (zb6 he (by intro s h;cases h)) ha
 ·exact Adj.cons (zb6 he (by intro s h;cases h)) ha
 ·exact Adj.sg (by simp) (Adj.cons (zb6 he (by intro s h;cases h)) ha)
 ·exact Adj.cons (zb6 he (by intro s h;cases h)) ha
 ·exact Adj.sg (by simp) (Adj.cons (zb6 he (by intro s h;cases h)) ha)
theorem zh7 (f:Lf):Apt f.sh/\Apt f.pl:=by
 cases f with
 | num i=>exact ⟨apt_nu i,(apt_nu i).par⟩
 | ref x q=>exact ⟨wf3 _ _ _,wf3 _ _ _⟩
theorem apt_p1 {p:List Pc} (h:Apt p):Apt ([.sp,ps .lp]++p++[.sp,ps .colon,ps .rp]):=fun rest he ha=>by
 refine (iq0 _ _ _).symm▸?_;exact Adj.sp (Adj.sg (by simp) (h _ rfl (Adj.sp (Adj.sg (by simp) (Adj.sg (by simp) ha)))))
theorem apt_p2 {p q:List Pc} (h:Apt p) (h2:Apt q):Apt ([.sp,ps .lp]++p++[.sp,ps .colon,.sp]++q++[ps .rp]):=fun rest he ha=>by
 rw [iq0,iq0,iq0];exact Adj.sp (Adj.sg (by simp) (h _ rfl (Adj.sp (Adj.sg (by simp) (Adj.sp (h2 _ rfl (Adj.sg (by simp) ha)))))))
theorem yg5 (p:Prt):Apt p.sh/\Apt p.pl:=by
 cases p with
 | none=>exact ⟨fun rest he ha=>ha,fun rest he ha=>ha⟩
 | p1 a=>exact ⟨apt_p1 (zh7 a).1,apt_p1 (zh7 a).2⟩
 | p2 a b=>exact ⟨apt_p2 (zh7 a).1 (zh7 b).1,apt_p2 (zh7 a).2 (zh7 b).2⟩
theorem yg0 (p:Prt) (rest:List Pc) (h:wh5 rest=true):wh5 (p.sh++rest)=true/\wh5 (p.pl++rest)=true:=by
 cases p with
 | none=>exact ⟨h,h⟩
 | p1 a=>exact ⟨rfl,rfl⟩
 | p2 a b=>exact ⟨rfl,rfl⟩
theorem yg4 {p:List Pc} {o:Bool} {x:Nm} {q:Qs} {t:List Pc} (h:Apt p) (ht:Apt t) (he:∀ rest,wh5 rest=true->wh5 (t++rest)=true):Apt (zb0 o x q++.sp::(par p++t)):=fun rest hr ha=>by
 rw [iq0];refine wf3 o x q _ rfl ?_;rw [ix2,iq0];exact Adj.sp (h.par _ (he _ hr) (ht _ hr ha))
theorem qq1 {p q:List Pc} {s:Sg} (h:Apt p) (h2:Apt q):Apt (p++[.sp,ps s,.sp]++q):=fun rest hr ha=>by
 rw [iq0,iq0];exact h _ rfl (Adj.sp (Adj.op (h2 _ hr ha)))
theorem wf2 {p q:List Pc} (h:Apt p) (h2:Apt q):Apt (p++.sp::q):=fun rest hr ha=>by
 refine (iq0 _ _ _).symm▸?_;exact h _ rfl (Adj.sp (h2 _ hr ha))
theorem qq0 {p:List Pc} (h:Apt p):Apt ([ps .minus,.sp]++p):=fun rest hr ha=>by
 exact Adj.op (h _ hr ha)
theorem apt_sh:∀ e:Ex,Apt e.sh:=by
 intro e;induction e with
 | lf f=>
  exact (zh7 f).1
 | neg a ih0a=>
  refine qq0 ?_;split
  ·exact (ih0a).par
  ·exact (ih0a).br _ _
 | bin s a b ih0a ih0b=>
  exact qq1 ((ih0a).br _ _) ((ih0b).br _ _)
 | sub1 x q a p ih0a=>
  exact yg4 (ih0a) (yg5 p).1 fun rest h=>(yg0 p rest h).1
 | sub2 x q a b p ih0a ih0b=>
  refine yg4 ?_ (yg5 p).1 fun rest h=>(yg0 p rest h).1;unfold xz1;split
  ·exact wf2 (ih0a).par (ih0b).par
  ·exact wf2 (ih0a) (ih0b)
theorem apt_pl:∀ e:Ex,Apt e.pl:=by
 intro e;induction e with
 | lf f=>
  exact (zh7 f).2
 | neg a ih0a=>
  exact (qq0 (ih0a).par).par
 | bin s a b ih0a ih0b=>
  exact (qq1 (ih0a).par (ih0b).par).par
 | sub1 x q a p ih0a=>
  exact yg4 (ih0a).par (yg5 p).2 fun rest h=>(yg0 p rest h).2
 | sub2 x q a b p ih0a ih0b=>
  exact yg4 (wf2 (ih0a).par (ih0b).par) (yg5 p).2 fun rest h=>(yg0 p rest h).2
theorem Apt.adj {p:List Pc} (h:Apt p):Adj p=true:=by
 have z:=h [] rfl rfl;rw [iq7] at z;exact z
theorem qq4:∀ p:List Pc,Adj (p++[ps .rp])=true->Adj p=true
 | [],_=>rfl
 | [x],h=>by
  have h1:(okp x (some (ps .rp))&&_)=true:=h;rw [iq5] at h1;refine Adj.cons ?_ rfl;cases x with
  | sp=>rfl
  | t y=>cases y with
   | sg s=>cases s <;> first|rfl|cases h1.1
   | _=>rfl
 | x::y::r,h=>by
  have h1:(okp x (some y)&&Adj (y::r++[ps .rp]))=true:=h;rw [iq5] at h1;exact Adj.cons h1.1 (qq4 (y::r) h1.2)
theorem uw6 {A w:List Nat} (hw:0 < w.length):(A++w)[(A++w).length - 1]?=w[w.length - 1]?:=by
 rw [iq6,ix5 (Nat.le_sub_of_add_le (ij0 hw A.length)),Nat.add_sub_assoc hw,Nat.add_sub_cancel_left]
theorem tk_last (y:Tk):(!(y.tok.2[y.tok.2.length - 1]? == some 41)||yq9 .rp y)=true:=by
 cases y with
 | nm z=>cases z <;> rfl
 | nb z=>cases z <;> rfl
 | sg s=>exact wb0 (f:=fun s=>!((Tk.sg s).tok.2[(Tk.sg s).tok.2.length - 1]? == some 41)||yq9 .rp (.sg s)) rfl s
 | _=>rfl
theorem last_rp (p:List Pc) (h:(zz2 p)[(zz2 p).length - 1]?=some 41):∃ p0,p=p0++[ps .rp]:=by
 rcases List.eq_nil_or_concat p with rfl|⟨p0,x,rfl⟩
 ·cases h
 ·rw [List.concat_eq_append,zz8] at h
  refine (List.concat_eq_append).symm▸?_;cases x with
  | sp=>rw [uw6 (by decide)] at h;cases h
  | t y=>
   have h1:(zz2 p0++y.tok.2)[(zz2 p0++y.tok.2).length - 1]?=some 41:=by
    have e:zz2 [.t y]=y.tok.2:=iq7 _;rw [e] at h;exact h
   obtain ⟨c,w,hw,_⟩:=wf7 y;rw [uw6 (hw▸iv7 _)] at h1;have z:=tk_last y;rw [h1] at z;exact el11 (vp6 z) fun u e q=>⟨p0,congrArg (fun x:Tk=>p0++[Pc.t x]) (e.trans (congrArg Tk.sg (Sg.eq q)))⟩
section
variable {n m k l:Nat} {σ:zz0} {F:Nat} {e a b:Ex}
theorem vz0 (e:Ex):zz4 (n + 1) (.fn "level_of") [e.v] σ=.ok (.int (e.lv:Nat)) σ:=by
 cases e with
 | lf f=>
  cases f with
  | num i=>
   cases i <;> (refine zo0 ?_;repeat refine za0 rfl ?_) <;> exact zc0 ⟨rfl,rfl⟩
  | ref x q=>
   refine zo0 ?_;repeat refine za0 rfl ?_
   exact zc0 ⟨rfl,rfl⟩
 | neg a=>
  refine zo0 ?_;repeat refine za0 rfl ?_
  exact zc0 ⟨rfl,rfl⟩
 | bin s a b=>
  cases s <;> (refine zo0 ?_;repeat refine za0 rfl ?_) <;> exact zc0 ⟨rfl,rfl⟩
 | sub1 x q a p=>
  refine zo0 ?_;repeat refine za0 rfl ?_
  exact zc0 ⟨rfl,rfl⟩
 | sub2 x q a b p=>
  refine zo0 ?_;repeat refine za0 rfl ?_
  exact zc0 ⟨rfl,rfl⟩
theorem zp3 {a b:List Nat} (ha:a.length<=1000000) (hb:b.length<=1000000):yv6 .Add (.str a) (.str b) σ=.ok (.str (a++b)) σ:=add_str (by have e1:SL=16777216:=rfl;exact l22 0x00f424048100f424047110000004871 ha hb)
theorem zq8 {a b:List Nat} {i j:Nat} (ha:a.length<=i) (hb:b.length<=j) (h:Nat.ble (i + j) 16000000=true):yv6 .Add (.str a) (.str b) σ=.ok (.str (a++b)) σ:=add_str (iq2 (ij8 ha hb) (iq2 (nl h) (nl rfl)))
theorem ap {a b:List Nat} {i j:Nat} (ha:a.length<=i) (hb:b.length<=j):(a++b).length<=i + j:=by rw [iq6];exact ij8 ha hb
theorem yj5 (l lv:Nat) (p:List Pc):zz2 (br l lv p)=if lv < l then 40::(zz2 p++[41]) else zz2 p:=by
 unfold br;split
 ·exact zq6 p
 ·rfl
noncomputable abbrev Ln (p:List Pc):Prop:=(zz2 p).length<=100000
theorem xj4 (h:zy9 e F) (hl:Ln e.sh) (hm:F + 2<=m):∃ σ',zz4 m (.fn "bracketed") [e.v,.int (l:Nat)] σ=.ok (.str (zz2 (br l e.lv e.sh))) σ'/\zx0 σ σ':=by
 refine Classical.byContradiction fun ng=>?_;obtain ⟨p,rfl⟩:∃ p,m=p + 2:=⟨m - 2,(iq8 (l21 0x723811723 hm)).symm⟩;refine el11 (h (p + 1) (l21 0x23812371113817 hm) σ) fun s1 h1 g1=>?_;refine ng (⟨s1,zo0 ?_,g1⟩);refine za0 h1 ?_;refine za0 (vz0 e) ?_;rw [yj5];by_cases q:e.lv < l
 ·refine ze0 rfl (decide_eq_true (ik6.mpr q)) ?_
  refine za0 (add_str (a:=[40]) (by simp;exact l11 0x00186a0471100000047131 hl)) ?_;refine za0 (add_str (b:=[41]) (by simp;exact l11 0x00186a0471100000041313711 hl)) ?_;rw [if_pos q];exact zc0 ⟨rfl,rfl⟩
 ·refine zd0 rfl (decide_eq_false fun z=>q (ik6.mp z)) ?_
  rw [if_neg q];exact zc0 ⟨rfl,rfl⟩
theorem wb1 {s:Op} {av:V} (h:zy9 b F) (hl:Ln b.sh) (hm:F + 3<=m):∃ σ',zz4 m (.fn "right_part") [wf0 s.sg av b.v] σ=.ok (.str (zz2 ([.sp,ps s.sg,.sp]++br (s.lv + 1) b.lv b.sh))) σ'/\zx0 σ σ':=by
 obtain ⟨p,rfl⟩:∃ p,m=p + 3:=⟨m - 3,(iq8 (l21 0x733811733 hm)).symm⟩;have hb:(zz2 (br (s.lv + 1) b.lv b.sh)).length<=100002:=by
  rw [yj5];split
  ·simp;exact l11 0x00186a047100186a047 hl
  ·exact l11 0x00186a047100186a247 hl
 refine el11 (xj4 (l:=s.lv + 1) (σ:=σ) h hl (show F + 2<=p + 2 by exact l21 0x33813371123812371 hm)) fun s1 h1 g1=>?_;refine ⟨s1,zo0 ?_,g1⟩;cases s;all_goals
  refine Rn.go 7 ?_;refine za0 h1 ?_;refine za0 (zp3 (by decide) (l11 0x00186a247100f424047 hb)) ?_;exact zc0 ⟨rfl,rfl⟩
end
theorem uw3 (i:Int):∀ k,zv4 k (.int i)=true:=by
 intro k;induction k with
 | zero=>
  exact rfl
 | succ k ih0=>
  exact rfl
theorem zb9 (w:String) (h:(S w).all (fun U=>U < 1114112)=true):∀ k,zv4 k (.str (S w))=true:=lay_s h
theorem lay_num (i:Nu) (k:Nat) (h:2<=k):zv4 k (uj0 i.v)=true:=by
 obtain ⟨j,rfl⟩:∃ j,k=j + 2:=⟨k - 2,(iq8 (l11 0x7231723 h)).symm⟩;show ([V.str (S "number"),.tup [.int i.v.1,.int i.v.2]].all (zv4 (j + 1)))=true;simp only [ij1,iw0,zb9 "number" rfl,iw5,iw6];show ([V.int i.v.1,.int i.v.2].all (zv4 j))=true;simp only [ij1,iw0,uw3,iw5]
theorem lay_nm (x:Nm) (k:Nat):zv4 k (.str (S x.txt))=true:=zb9 _ (by cases x <;> rfl) k
theorem lay_q (q:Qs):∀ k,zv4 (k + 1) (.tup q.v)=true:=by
 intro k;cases q
 ·rfl
 ·show ([V.str (S "G")].all (zv4 k))=true
  simp [zb9 "G" rfl k]
 ·show ([V.str (S "G"),V.str (S "H")].all (zv4 k))=true
  simp [zb9 "G" rfl k,zb9 "H" rfl k]
theorem ww6 {x:Nm} {q:Qs} {rv:List V} {pv:V} {k:Nat} (h1:rv.all (zv4 k)=true) (h2:zv4 (k + 1) pv=true):zv4 (k + 2) (yk0 (.str (S x.txt)) q.v (.tup rv) pv)=true:=by
 show ([V.str (S "ref"),.str (S x.txt),.tup q.v,.tup rv,pv].all (zv4 (k + 1)))=true;simp only [ij1,iw0,zb9 "ref" rfl,lay_nm,lay_q,h2,iw6,iw5];exact h1
theorem yh4 (f:Lf) (k:Nat) (h:2<=k):zv4 k f.v=true:=by
 obtain ⟨j,rfl⟩:∃ j,k=j + 2:=⟨k - 2,(iq8 (l11 0x7231723 h)).symm⟩;cases f with
 | num i=>exact lay_num i _ (l10 0x237123)
 | ref x q=>exact ww6 rfl rfl
theorem vz3 (p:Prt) (k:Nat) (h:3<=k):zv4 k p.v=true:=by
 obtain ⟨j,rfl⟩:∃ j,k=j + 1:=⟨k - 1,(iq8 (l11 0x7331713 h)).symm⟩;cases p with
 | none=>rfl
 | p1 a=>
  show ([a.v,V.none].all (zv4 j))=true;simp only [ij1,iw0,yh4 a j (l11 0x1371331723 h),iw5,iw6];cases j <;> rfl
 | p2 a b=>
  show ([a.v,b.v].all (zv4 j))=true;simp only [ij1,iw0,yh4 a j (l11 0x1371331723 h),yh4 b j (l11 0x1371331723 h),iw5]
theorem yb1:∀ (e:Ex) (k:Nat),2 * e.dp + 4<=k->zv4 k e.v=true:=by
 intro e;induction e with
 | lf f=>
  intro k h;exact yh4 f k (l21 0x74382211723 h)
 | neg a ih0a=>
  intro k h;have h':2 * (a.dp + 1) + 4<=k:=h;obtain ⟨j,rfl⟩:∃ j,k=j + 1:=⟨k - 1,(iq8 (l21 0x74382211713 h)).symm⟩;show ([V.str (S "neg"),a.v].all (zv4 j))=true;simp only [ij1,iw0,zb9 "neg" rfl,ih0a j (l21 0x138143137122118437221 h'),iw5]
 | bin s a b ih0a ih0b=>
  intro k h;have h':2 * (max a.dp b.dp + 1) + 4<=k:=h;obtain ⟨j,rfl⟩:∃ j,k=j + 1:=⟨k - 1,(iq8 (l21 0x74382211713 h)).symm⟩;show ([V.str (S s.sg.txt),a.v,b.v].all (zv4 j))=true;simp only [ij1,iw0,zb9 s.sg.txt (by cases s <;> rfl),ih0a j (l32 0x972138143139122118437221 h' (iz4 _ _)),ih0b j (l32 0x972138143139122118437221 h' (iz3 _ _)),iw5]
 | sub1 x q a p ih0a=>
  intro k h;have h':2 * (a.dp + 1) + 4<=k:=h;obtain ⟨j,rfl⟩:∃ j,k=j + 2:=⟨k - 2,(iq8 (l21 0x74382211723 h)).symm⟩;refine ww6 ?_ (vz3 p _ (l21 0x23714382211137133 h));simp only [ij1,iw0,ih0a j (l21 0x238143137122118437221 h'),iw5]
 | sub2 x q a b p ih0a ih0b=>
  intro k h;have h':2 * (max a.dp b.dp + 1) + 4<=k:=h;obtain ⟨j,rfl⟩:∃ j,k=j + 2:=⟨k - 2,(iq8 (l21 0x74382211723 h)).symm⟩;refine ww6 ?_ (vz3 p _ (l21 0x23714382211137133 h));simp only [ij1,iw0,ih0a j (l32 0x972238143139122118437221 h' (iz4 _ _)),ih0b j (l32 0x972238143139122118437221 h' (iz3 _ _)),iw5]
theorem xp4 {a:List V} {σ:zz0} {r:Bool} (h:a.all (zv4 60)=true) (hr:a.isEmpty=r):zy8 .NotEq (.tup a) (.tup []) σ=.ok (.bool (!r)) σ:=by
 have hp:zy2 a []=some r:=by
  unfold zy2;rw [h];cases a <;> cases hr <;> rfl
 show liftO ((zy2 a []).map fun x=>V.bool !x) σ=_;rw [hp];rfl
theorem wp9 {n:Nat} {l:List V} {σ:zz0} (h:l.length<=1000):zz4 (n + 1) (.typ "list") [.tup l] σ=.ok (.loc σ.length) (σ++[.lst l]):=by
 show (if l.length<=SL then _ else _)=_;rw [if_pos (by exact l11 0x00003e8471100000047 h)]
theorem qq5 {i j:Nat} {a b:List V} {σ:zz0} (hi:σ[i]?=some (.lst a)) (hj:σ[j]?=some (.lst b)) (h:a.length + b.length<=1000):yv6 .Add (.loc i) (.loc j) σ=.ok (.loc σ.length) (σ++[.lst (a++b)]):=by
 exact (zj7 (F:=fun a=>(zj3 σ j).elim Out.bad fun b=>if a.length + b.length<=1000 then Out.ok (V.loc σ.length) (σ++[.lst (a++b)]) else .bad) hi).trans ((zj7 (F:=fun b=>if a.length + b.length<=1000 then Out.ok (V.loc σ.length) (σ++[.lst (a++b)]) else .bad) hj).trans (if_pos h))
theorem of_join (x:Nm) (q:Qs):∃ xs,textsOf ([V.str (S x.txt)]++q.v)=some xs/\yj2 (S " OF ") xs=zz2 (zb0 true x q)/\(xs.map List.length).sum + xs.length * (S " OF ").length<=1000:=by
 cases q
 ·exact ⟨[S x.txt],rfl,by cases x <;> rfl,by cases x <;> decide⟩
 ·exact ⟨[S x.txt,S "G"],rfl,by cases x <;> rfl,by cases x <;> decide⟩
 ·exact ⟨[S x.txt,S "G",S "H"],rfl,by cases x <;> rfl,by cases x <;> decide⟩
section
variable {n m k l:Nat} {σ:zz0} {F:Nat} {x:Nm} {q:Qs} {rv:List V} {rt:List Pc}
theorem yw2 (f:Lf):(zz2 f.sh).length<=100:=by
 exact iq2 (zp2 f.sh) (iq2 (iv5 4 (zf2 f).1) (nl rfl))
theorem p1_sh (a:Lf):zz2 (Prt.p1 a).sh=[32,40]++zz2 a.sh++[32,58,41]:=by
 refine (?_:zz2 ([.sp,ps .lp]++a.sh++[.sp,ps .colon,ps .rp])=_);rw [zz8,zz8];rfl
theorem p2_sh (a b:Lf):zz2 (Prt.p2 a b).sh=[32,40]++zz2 a.sh++[32,58,32]++zz2 b.sh++[41]:=by
 refine (?_:zz2 ([.sp,ps .lp]++a.sh++[.sp,ps .colon,.sp]++b.sh++[ps .rp])=_);rw [zz8,zz8,zz8,zz8];rfl
theorem xf2 {X W:V} {q:List V} {T:List Nat} {s:zz0} (p:Prt) (hp:p=.none\/∀ f,zy9 (.lf f) F) (hn:F<=n + 2) (hT:T.length<=1000000) :
 Rn (cAt (zz4 (n + 2)) "show_ref" 2 [("ref",yk0 X q W p.v),("show_expr",.fn "show_expression"),("found",.str T)] s) fun v s'=>v=.str (T++zz2 p.sh)/\zx0 s s':=by
 have l2:∀ x y,([x,y]:List Nat).length<=2:=fun U U=>iq1 _;cases p with
 | none=>
  refine Rn.go 3 (zc0 ?_);exact ⟨congrArg V.str (iq7 T).symm,zx0.refl⟩
 | p1 a=>
  refine el11 ((hp.resolve_left nofun) a (n + 2) hn s) fun sa (ea:zz4 (n + 2) (.fn "show_expression") [a.v] s=.ok (.str (zz2 a.sh)) sa) ga=>?_;have h1:=ap (ap (ap hT (l2 32 40)) (yw2 a)) (l2 32 58);refine Rn.go 7 ?_;refine za0 (zq8 hT (l2 32 40) rfl) (Rn.go 2 ?_);refine za0 ea ?_;refine za0 (zq8 (ap hT (l2 32 40)) (yw2 a) rfl) ?_;refine za0 (zq8 (ap (ap hT (l2 32 40)) (yw2 a)) (l2 32 58) rfl) ?_;refine za0 (zq8 (b:=[]) h1 (iq1 0) rfl) ?_;refine za0 (zq8 (b:=[41]) (ap h1 (iq1 0)) (iq1 1) rfl) (zc0 ?_);refine ⟨congrArg V.str ?_,ga⟩;rw [p1_sh,iq7];simp only [iq0];rfl
 | p2 a b=>
  have hp:=hp.resolve_left nofun
  refine el11 (hp b (n + 2) hn s) fun sb (eb:zz4 (n + 2) (.fn "show_expression") [b.v] s=.ok (.str (zz2 b.sh)) sb) gb=>?_;refine el11 (hp a (n + 2) hn sb) fun sa (ea:zz4 (n + 2) (.fn "show_expression") [a.v] sb=.ok (.str (zz2 a.sh)) sa) ga=>?_;have h1:=ap (ap (ap hT (l2 32 40)) (yw2 a)) (l2 32 58);have h2:=ap (a:=[32]) (iq1 1) (yw2 b);refine Rn.go 5 ?_;refine za0 (show zy8 .Is b.v .none _=.ok (.bool false) _ from by cases b <;> rfl) (Rn.go 3 ?_);refine za0 eb ?_;refine za0 (zq8 (a:=[32]) (iq1 1) (yw2 b) rfl) ?_;refine za0 (zq8 hT (l2 32 40) rfl) (Rn.go 2 ?_);refine za0 ea ?_;refine za0 (zq8 (ap hT (l2 32 40)) (yw2 a) rfl) ?_;refine za0 (zq8 (ap (ap hT (l2 32 40)) (yw2 a)) (l2 32 58) rfl) ?_;refine za0 (zq8 h1 h2 rfl) ?_;refine za0 (zq8 (b:=[41]) (ap h1 h2) (iq1 1) rfl) (zc0 ?_);refine ⟨congrArg V.str ?_,gb.trans ga⟩;rw [p2_sh];simp only [iq0];rfl
theorem yz9 (p:Prt) (hr:rv=[]/\rt=[]\/rv.isEmpty=false/\rv.all (zv4 60)=true/\∀ σ,∃ σ',zz4 (n + 2) (.fn "shown_subscripts") [.tup rv,.fn "show_expression"] σ=.ok (.str (zz2 rt)) σ'/\zx0 σ σ')
 (hp:p=.none\/∀ f,zy9 (.lf f) F) (hn:F<=n + 2) (hl:(zz2 (zb0 true x q++(rt++p.sh))).length<=100000) :
 ∃ σ',zz4 (n + 3) (.fn "show_ref") [yk0 (.str (S x.txt)) q.v (.tup rv) p.v,.fn "show_expression"] σ=.ok (.str (zz2 (zb0 true x q++(rt++p.sh)))) σ'/\zx0 σ σ':=by
 have hj:zq7 "str.join" (.str (S " OF ")) [.loc (σ++[O.lst [V.str (S x.txt)]]++[O.lst q.v]).length] (σ++[O.lst [V.str (S x.txt)]]++[O.lst q.v]++[.lst ([V.str (S x.txt)]++q.v)])=.ok (.str (zz2 (zb0 true x q))) (σ++[O.lst [V.str (S x.txt)]]++[O.lst q.v]++[.lst ([V.str (S x.txt)]++q.v)]):=by
  refine el12 (of_join x q) fun xs j1 j2 j3=>?_;rw [yb7 zq4 j1 (ld j3 rfl),j2]
 rw [zz8,zz8] at hl ⊢;rw [iq6,iq6] at hl;have h0:(zz2 (zb0 true x q)).length<=100000:=al hl;have h1:(zz2 rt).length<=100000:=al (ar hl)
 suffices hz:Rn (cFn (zz4 (n + 2)) "show_ref" [yk0 (.str (S x.txt)) q.v (.tup rv) p.v,.fn "show_expression"] σ) fun v s=>v=.str (zz2 (zb0 true x q)++(zz2 rt++zz2 p.sh))/\zx0 σ s by
  exact el21 hz.fn fun v s e h=>⟨s,h.1▸e,h.2⟩
 have g3:zx0 σ (σ++[O.lst [V.str (S x.txt)]]++[O.lst q.v]++[.lst ([V.str (S x.txt)]++q.v)]):=(zx0.app.trans zx0.app).trans zx0.app;rcases hr with ⟨rfl,rfl⟩|⟨h2,h3,hsub⟩
 ·refine Rn.go 3 ?_
  refine za0 (wp9 (by cases q <;> exact nl rfl)) ?_;refine za0 (qq5 (zx0.app.keep zq4) zq4 (by cases q <;> exact nl rfl)) ?_;refine za0 hj (Rn.go 1 ?_);refine za0 (xp4 rfl rfl) (Rn.go 1 ?_);refine Rn.at "show_ref" 2 ?_;exact Rn.mono (xf2 p hp hn (ld h0 rfl)) fun v s h=>⟨h.1,g3.trans h.2⟩
 ·refine el11 (hsub (σ++[O.lst [V.str (S x.txt)]]++[O.lst q.v]++[.lst ([V.str (S x.txt)]++q.v)])) fun s4 e4 g4=>?_
  refine Rn.go 3 ?_;refine za0 (wp9 (by cases q <;> exact nl rfl)) ?_;refine za0 (qq5 (zx0.app.keep zq4) zq4 (by cases q <;> exact nl rfl)) ?_;refine za0 hj (Rn.go 1 ?_);refine za0 (xp4 h3 h2) (Rn.go 2 ?_);refine za0 e4 ?_;refine za0 (zq8 h0 h1 rfl) ?_;refine Rn.at "show_ref" 2 ?_;exact Rn.mono (xf2 p hp hn (ld (ap h0 h1) rfl)) fun v s h=>⟨h.1.trans (congrArg V.str (iq0 _ _ _)),(g3.trans g4).trans h.2⟩
end
theorem RnO.asgc {C:zz5} {k:Nat} {sc:Scope} {ρ:Rho} {e:Expr} {x:Str} {p pos:Pos} {σ:zz0} {Q:Fl×Rho->zz0->Prop} (h1:xz8 sc (.Name x p) e=true) (h2:yz4 e=true)
 (h:Rn (rE C k sc ρ e σ) fun v s=>Q (.next,upd ρ x v) s):RnO (evS C (k + 1) sc (.Assign [.Name x p] e pos) ρ σ) Q:=by
 refine hid fun G kG=>?_;refine el21 h.evE fun v s e1 hq=>?_;refine kG ?_;refine ⟨_,s,?_,hq⟩;exact (if_pos h1).trans ((if_pos h2).trans (ob' e1 rfl))
theorem comp_kl {F:V->zz0->Out (Option V)} {σ:zz0} {i:Nat} {l:List V} {g:V->Option V} (hi:σ[i]?=some (.lst l)) (h:∀ v∈l,F v σ=.ok (g v) σ):∀ r,r<=l.length->wg0 F (.lst i l.length) r σ=.ok ((l.drop (l.length - r)).filterMap g) σ:=by
 intro r;induction r with
 | zero=>
  intro U;rw [Nat.sub_zero,List.drop_of_length_le (iq1 _)];exact if_pos (yh1 hi rfl)
 | succ r ih0=>
  intro hr;have hlt:l.length - (r + 1) < l.length:=Nat.sub_lt_self (iv7 r) hr;have hd:l.drop (l.length - (r + 1))=l[l.length - (r + 1)]::l.drop (l.length - r):=by
   rw [List.drop_eq_getElem_cons hlt];congr 2;exact tsub hr
  have hx:yb9 (.lst i l.length) (zq5 (.lst i l.length) - (r + 1)) σ=some l[l.length - (r + 1)]:=zf0 hi rfl (ij6 hlt);refine (oel hx (ob' (h _ (List.getElem_mem hlt)) (ob (ih0 (l21 0x81371187 hr)) rfl))).trans ?_;rw [hd,oq8];cases g l[l.length - (r + 1)] <;> rfl
theorem xy3 {F:V->zz0->Out (Option V)} {σ:zz0} {i:Nat} {l:List V} (g:V->Option V) (hi:σ[i]?=some (.lst l)) (h:∀ v∈l,F v σ=.ok (g v) σ):yz5 F (.lst i l.length) σ=.ok (l.filterMap g) σ:=by
 have z:=comp_kl hi h l.length (iq1 _);rw [iv4] at z;exact z
theorem vb7 {i:Nat} {v:V} {r:List V} {σ:zz0} (h:σ[i]?=some (.lst (v::r))) (hl:r.length<=100):zy6 (.loc i) (some 1) Option.none σ=.ok (.loc σ.length) (σ++[.lst r]):=by
 refine (zj7 (F:=fun l=>if l.length<=SL then Out.ok (V.loc σ.length) (σ++[.lst (zj4 l (some 1) Option.none)]) else .bad) h).trans ((if_pos (by simp;exact l11 0x0000064471100000041371 hl)).trans ?_);refine congrArg (fun x=>Out.ok (V.loc σ.length) (σ++[.lst x])) ?_;refine (?_:((v::r).take (v::r).length).drop (zb2 1 (v::r).length)=r);refine (List.take_length).symm▸?_;rfl
theorem xv8 {i j:Nat} {l m:List V} {r:Bool} {σ:zz0} (hi:σ[i]?=some (.lst l)) (hj:σ[j]?=some (.lst m)) (h:zy2 l m=some r):zy8 .NotEq (.loc i) (.loc j) σ=.ok (.bool (!r)) σ:=by
 show liftO (((zj3 σ i).elim Option.none fun l=>(zj3 σ j).elim Option.none fun m=>zy2 l m).map fun x=>V.bool !x) σ=_;rw [xx2 hi,xx2 hj];exact congrArg (fun o=>liftO (Option.map (fun x=>V.bool !x) o) σ) h
theorem vq6 {p:List Pc} (h:fst p=true):∃ c r,zz2 p=c::r/\subIn (Str.ofString "(+-").cps.toList [c]=opn p:=by
 cases p with
 | nil=>nomatch h
 | cons x p=>cases x with
  | sp=>nomatch h
  | t y=>cases y with
   | nm z=>cases z <;> exact ⟨_,_,rfl,rfl⟩
   | nb z=>cases z <;> exact ⟨_,_,rfl,rfl⟩
   | sg s=>cases s <;> first|exact ⟨_,_,rfl,rfl⟩|nomatch h
   | _=>nomatch h
noncomputable def keepO (b:Bool) (v:V):Option V:=if b then some v else none
section
variable {n m k l:Nat} {σ:zz0} {F:Nat} {a b:Ex}
theorem subs1_ok (ha:zy9 a F) (hn:F<=n + 1) (hl:Ln a.sh):∃ σ',zz4 (n + 2) (.fn "shown_subscripts") [.tup [a.v],.fn "show_expression"] σ=.ok (.str (zz2 (.sp::par a.sh))) σ'/\zx0 σ σ':=by
 refine el11 (ha (n + 1) hn σ) fun s1 ea ga=>?_
 suffices hz:Rn (cFn (zz4 (n + 1)) "shown_subscripts" [.tup [a.v],.fn "show_expression"] σ) fun v s=>v=.str (zz2 (.sp::par a.sh))/\zx0 σ s by
  refine hid fun G kG=>?_;refine el22 hz.fn fun v s e eq1 h=>?_;subst eq1;refine kG ?_;exact ⟨s,e,h⟩
 refine zr0 (RnO.asgc rfl rfl ?_);refine Rn.go 1 ?_;refine zr0 (RnO.ifp (by show 1 < 16777216;exact l00) (RnO.comp1 (yn0 (yo0 ?_))));refine za0 ea (zc0 ?_);refine zc0 ?_;refine za0 (vb7 zq4 (by simp)) ?_;refine za0 (zf3 zq4) ?_;refine za0 ((if_pos (by show 0 < 16777216;exact l00)).trans (xy3 (l:=[]) (fun v=>none) zq4 (fun v hv=>by cases hv))) ?_;refine za0 (xv8 (l:=[]) (m:=[]) (zx0.app.keep zq4) zq4 rfl) (Rn.go 2 ?_);refine za0 (yb7 (sep:=[32]) (xs:=[zz2 a.sh]) ((((zx0.app.trans zx0.app).trans zx0.app).keep zq4)) rfl (by simp;exact l11 0x00186a0471100000041371 hl)) ?_;refine za0 (zp3 (a:=[32,40]) (b:=zz2 a.sh) (by decide) ((ld ‹_› rfl))) ?_;refine za0 (zp3 (b:=[41]) (by simp;exact l11 0x00186a047100f423e47 hl) (by decide)) ?_;refine zc0 ⟨congrArg V.str ?_,(((ga.trans zx0.app).trans zx0.app).trans zx0.app).trans zx0.app⟩;refine (?_:_=32::zz2 (par a.sh));rw [zq6];rfl
theorem lay_txt (p:List Pc) (k:Nat):zv4 k (.str (zz2 p))=true:=by
 have h:(zz2 p).all (fun U=>U < 1114112)=true:=all_lt (vx3 p);exact lay_s h k
theorem subs2_ok (ha:zy9 a F) (hb:zy9 b F) (hn:F<=n + 1) (hl:(zz2 a.sh).length + (zz2 b.sh).length<=100000):∃ σ',zz4 (n + 2) (.fn "shown_subscripts") [.tup [a.v,b.v],.fn "show_expression"] σ=.ok (.str (zz2 (.sp::par (xz1 a.sh b.sh)))) σ'/\zx0 σ σ':=by
 refine hid fun G kG=>?_;refine el11 (ha (n + 1) hn σ) fun s1 ea ga=>?_;refine el11 (hb (n + 1) hn s1) fun s2 eb gb=>?_;refine el21 (vq6 (yh9 b)) fun c r hc ho=>?_;refine kG ?_
 suffices hz:Rn (cFn (zz4 (n + 1)) "shown_subscripts" [.tup [a.v,b.v],.fn "show_expression"] σ) fun v s=>v=.str (zz2 (.sp::par (xz1 a.sh b.sh)))/\zx0 σ s by
  refine hid fun G kG=>?_;refine el22 hz.fn fun v s e eq2 h=>?_;subst eq2;refine kG ?_;exact ⟨s,e,h⟩
 refine zr0 (RnO.asgc rfl rfl ?_);refine Rn.go 1 ?_;refine zr0 (RnO.ifp (by show 2 < 16777216;exact l00) (RnO.comp2 (yn0 (yo0 ?_))));refine za0 ea ?_;refine zc0 (yn0 (yo0 ?_));refine za0 eb (zc0 ?_);refine zc0 ?_;refine za0 (vb7 zq4 (by simp)) ?_;refine za0 (zf3 zq4) ?_;refine za0 ((if_pos (by show 1 < 16777216;exact l00)).trans (xy3 (l:=[.str (zz2 b.sh)]) (keepO (opn b.sh)) zq4 ?_)) ?_
 ·intro v hv
  rcases iq4.mp hv with rfl;refine uf5 (b:=opn b.sh) (zt0 ?_) (zs0 (zc0 ⟨rfl,rfl⟩));refine za0 (zx7 (k:=0) (by rw [hc];rfl) (l21 0x00186a047811100000047 hl)) ?_;refine za0 (zw7 ho) (Rn.go 1 ?_);refine zc0 ?_;exact ⟨rfl,rfl⟩
 have hne:zy2 ([V.str (zz2 b.sh)].filterMap (keepO (opn b.sh))) []=some (!opn b.sh):=by
  cases q:opn b.sh with
  | false=>rfl
  | true=>
   refine (?_:zy2 [V.str (zz2 b.sh)] []=some false);unfold zy2;simp only [ij1,lay_txt,iw6,if_true];rfl
 have g3:zx0 σ (s2++[O.lst [V.str (zz2 a.sh),.str (zz2 b.sh)]]++[.lst [.str (zz2 b.sh)]]++[.lst ([V.str (zz2 b.sh)].filterMap (keepO (opn b.sh)))]++[.lst []]):=((((ga.trans gb).trans zx0.app).trans zx0.app).trans zx0.app).trans zx0.app;have ht:(s2++[O.lst [V.str (zz2 a.sh),.str (zz2 b.sh)]]++[.lst [.str (zz2 b.sh)]]++[.lst ([V.str (zz2 b.sh)].filterMap (keepO (opn b.sh)))]++[.lst []])[s2.length]?=some (.lst [V.str (zz2 a.sh),.str (zz2 b.sh)]):=((zx0.app.trans zx0.app).trans zx0.app).keep zq4;refine za0 (xv8 (zx0.app.keep zq4) zq4 hne) ?_;have fin:zz2 (.sp::par (xz1 a.sh b.sh))=[32,40]++zz2 (xz1 a.sh b.sh)++[41]:=by
  show 32::zz2 (par (xz1 a.sh b.sh))=_;rw [zq6];rfl
 refine (fin).symm▸?_;unfold xz1;cases q:opn b.sh with
 | false=>
  rw [q] at g3 ht;refine Rn.go 2 ?_;refine za0 (yb7 (sep:=[32]) (xs:=[zz2 a.sh,zz2 b.sh]) ht rfl (by simp;exact l21 0x00186a04871110000004238711 hl)) ?_;refine za0 (zp3 (a:=[32,40]) (b:=zz2 a.sh++[32]++zz2 b.sh) (by simp) (by simp;exact l21 0x00186a04871100f42404138171 hl)) ?_;refine za0 (zp3 (b:=[41]) (by simp;exact l21 0x00186a04871100f423e4138171 hl) (by simp)) ?_;refine zc0 ⟨congrArg V.str ?_,g3⟩;rw [if_neg (by decide),zz8];simp [zz2]
 | true=>
  rw [q] at g3 ht;refine Rn.go 1 ?_;refine zr0 (RnO.asgc rfl rfl ?_);refine za0 (zf3 ht) ?_;refine za0 ((if_pos (by show 2 < 16777216;exact l00)).trans (xy3 (fun v=>match v with|.str w=>some (.str (40::(w++[41])))|_=>none) ht ?_)) ?_
  ·intro v hv
   have:∃ w,v=.str w/\w.length<=100000:=by
    rcases ix7.mp hv with rfl|hv
    ·exact ⟨_,rfl,l21 0x00186a04871100186a047 hl⟩
    ·rcases iq4.mp hv with rfl
     exact ⟨_,rfl,l21 0x00186a04781100186a047 hl⟩
   obtain ⟨w,rfl,hw⟩:=this;refine xy4 (zs0 ?_);refine za0 (zp3 (a:=[40]) (by simp) (l11 0x00186a047100f424047 hw)) ?_;refine za0 (zp3 (b:=[41]) (by simp;exact l11 0x00186a047100f423f47 hw) (by simp)) ?_;exact zc0 ⟨rfl,rfl⟩
  refine zc0 ?_;refine Rn.go 1 ?_;refine za0 (yb7 (sep:=[32]) (xs:=[40::(zz2 a.sh++[41]),40::(zz2 b.sh++[41])]) zq4 rfl (by simp;exact l21 0x00186a04871110000004231313811131371111 hl)) ?_;refine za0 (zp3 (a:=[32,40]) (b:=40::(zz2 a.sh++[41])++[32]++40::(zz2 b.sh++[41])) (by simp) (by simp;exact l21 0x00186a04871100f423f4131313138111171 hl)) ?_;refine za0 (zp3 (b:=[41]) (by simp;exact l21 0x00186a04871100f423d4131313138111171 hl) (by simp)) ?_;refine zc0 ⟨congrArg V.str ?_,g3.trans zx0.app⟩;rw [if_pos rfl,zz8,zq6,show zz2 (.sp::par b.sh)=32::zz2 (par b.sh) from rfl,zq6];simp
end
noncomputable def isOper:Ex->Bool
 | .neg _=>false
 | .bin _ _ _=>false
 | _=>true
noncomputable def isRef:Ex->Bool
 | .lf (.ref _ _)=>true
 | .sub1 _ _ _ _=>true
 | .sub2 _ _ _ _ _=>true
 | _=>false
noncomputable def isBin:Ex->Bool
 | .bin _ _ _=>true
 | _=>false
section
variable {n m k l:Nat} {σ:zz0} {F:Nat} {e a b:Ex}
theorem zb5 (hr:isRef e=true) (h7:e.dp<=7) (H:∀ a:Ex,a.dp < e.dp->zy9 a F) (hn:F<=n + 1) (hl:Ln e.sh):∃ σ',zz4 (n + 3) (.fn "show_ref") [e.v,.fn "show_expression"] σ=.ok (.str (zz2 e.sh)) σ'/\zx0 σ σ':=by
 cases e with
 | neg a=>cases hr
 | bin s a b=>cases hr
 | lf f=>
  cases f with
  | num i=>cases hr
  | ref x q=>
   have hl':(zz2 (zb0 true x q++([]++Prt.none.sh))).length<=100000:=by
    rw [show ([]:List Pc)++Prt.none.sh=[] from rfl,iq7];exact hl
   obtain ⟨s1,e1,g1⟩:=yz9 (n:=n) (σ:=σ) (x:=x) (q:=q) (rv:=[]) (rt:=[]) (F:=0) Prt.none (.inl ⟨rfl,rfl⟩) (.inl rfl) (l10 0x237103) hl';rw [show ([]:List Pc)++Prt.none.sh=[] from rfl,iq7] at e1;exact ⟨s1,e1,g1⟩
 | sub1 x q a p=>
  have hl1:(zz2 (zb0 true x q++((.sp::par a.sh)++p.sh))).length<=100000:=hl;have hla:Ln a.sh:=by
   rw [zz8,zz8,show zz2 (.sp::par a.sh)=32::zz2 (par a.sh) from rfl,zq6] at hl1;simp at hl1;show (zz2 a.sh).length<=100000;exact l31 0x00186a0413131391711181100186a047 hl1
  obtain ⟨s1,e1,g1⟩:=yz9 (n:=n) (σ:=σ) (x:=x) (q:=q) (rv:=[a.v]) (rt:=.sp::par a.sh) (F:=F) p
   (.inr ⟨rfl,by simp only [ij1,iw0,yb1 a 60 (by have:a.dp + 1<=7:=h7;exact l11 0x73137123c6437221 this),iw6],fun σ=>subs1_ok (H a (by show a.dp < a.dp + 1;exact l10 0x13711371)) (l21 0x13817113817 hn) hla⟩)
   (.inr fun f=>H (.lf f) (iv7 _)) (l21 0x13817123817 hn) hl1
  exact ⟨s1,e1,g1⟩
 | sub2 x q a b p=>
  have hl1:(zz2 (zb0 true x q++((.sp::par (xz1 a.sh b.sh))++p.sh))).length<=100000:=hl;have hlr:(zz2 a.sh).length + (zz2 b.sh).length<=(zz2 (xz1 a.sh b.sh)).length:=by
   unfold xz1;split
   ·rw [zz8,zq6,show zz2 (.sp::par b.sh)=32::zz2 (par b.sh) from rfl,zq6]
    simp;exact l20 0x131313131381111711871
   ·rw [zz8,show zz2 (.sp::b.sh)=32::zz2 b.sh from rfl]
    simp
  have hla:(zz2 a.sh).length + (zz2 b.sh).length<=100000:=by
   rw [zz8,zz8,show zz2 (.sp::par (xz1 a.sh b.sh))=32::zz2 (par (xz1 a.sh b.sh)) from rfl,zq6] at hl1;simp at hl1;exact l52 0x00186a04131313b19111a119871100186a04871 hlr hl1
  obtain ⟨s1,e1,g1⟩:=yz9 (n:=n) (σ:=σ) (x:=x) (q:=q) (rv:=[a.v,b.v]) (rt:=.sp::par (xz1 a.sh b.sh)) (F:=F) p
   (.inr ⟨rfl,by simp only [ij1,iw0,yb1 a 60 (by have:max a.dp b.dp + 1<=7:=h7;exact l22 0x87273138123c6437221 this (iz4 _ _)),yb1 b 60 (by have:max a.dp b.dp + 1<=7:=h7;exact l22 0x87273138123c6437221 this (iz3 _ _)),iw6],fun σ=>subs2_ok (H a (by show a.dp < max a.dp b.dp + 1;exact l21 0x87113811371 (iz4 _ _))) (H b (by show b.dp < max a.dp b.dp + 1;exact l21 0x87113811371 (iz3 _ _))) (l21 0x13817113817 hn) hla⟩)
   (.inr fun f=>H (.lf f) (iv7 _)) (l21 0x13817123817 hn) hl1
  exact ⟨s1,e1,g1⟩
theorem xq9 (h7:e.dp<=7) (he:isOper e=true) (H:∀ a:Ex,a.dp < e.dp->zy9 a F) (hn:F<=n + 1) (hl:Ln e.sh):∃ σ',zz4 (n + 4) (.fn "show_operand") [e.v,.fn "show_expression"] σ=.ok (.str (zz2 e.sh)) σ'/\zx0 σ σ':=by
 cases e with
 | neg a=>cases he
 | bin s a b=>cases he
 | lf f=>
  cases f with
  | num i=>
   refine ⟨σ,zo0 ?_,zx0.refl⟩;refine Rn.go 7 ?_;refine za0 (write_ok i) ?_;exact zc0 ⟨rfl,rfl⟩
  | ref x q=>
   obtain ⟨s1,e1,g1⟩:=zb5 (n:=n) (σ:=σ) (e:=.lf (.ref x q)) rfl h7 H hn hl;refine ⟨s1,zo0 ?_,g1⟩;refine Rn.go 3 ?_;refine za0 e1 ?_;exact zc0 ⟨rfl,rfl⟩
 | sub1 x q a p=>
  obtain ⟨s1,e1,g1⟩:=zb5 (n:=n) (σ:=σ) (e:=.sub1 x q a p) rfl h7 H hn hl;refine ⟨s1,zo0 ?_,g1⟩;refine Rn.go 3 ?_;refine za0 e1 ?_;exact zc0 ⟨rfl,rfl⟩
 | sub2 x q a b p=>
  obtain ⟨s1,e1,g1⟩:=zb5 (n:=n) (σ:=σ) (e:=.sub2 x q a b p) rfl h7 H hn hl;refine ⟨s1,zo0 ?_,g1⟩;refine Rn.go 3 ?_;refine za0 e1 ?_;exact zc0 ⟨rfl,rfl⟩
theorem wk2 (H:∀ b:Ex,b.dp < a.dp + 1->zy9 b F) (hn:F<=n + 1) (hl:Ln a.sh):∃ σ',zz4 (n + 5) (.fn "show_signed") [a.v] σ=.ok (.str (zz2 (if wz3 a=true then par a.sh else br 4 a.lv a.sh))) σ'/\zx0 σ σ':=by
 have num:∀ i,∃ σ',zz4 (n + 5) (.fn "show_signed") [(Ex.lf (.num i)).v] σ=.ok (.str (zz2 (par (Ex.lf (.num i)).sh))) σ'/\zx0 σ σ':=by
  intro i;obtain ⟨s1,e1,g1⟩:=xq9 (n:=n) (F:=0) (σ:=σ) (e:=.lf (.num i)) (iv8 _) rfl (fun a h=>absurd h (Nat.not_lt_zero _)) (by exact l10 0x137103) (by show (zz2 i.p).length<=100000;cases i <;> decide);refine ⟨s1,zo0 ?_,g1⟩;refine Rn.go 3 ?_;refine za0 e1 ?_;have hl0:(zz2 (Ex.lf (.num i)).sh).length<=10:=by show (zz2 i.p).length<=10;cases i <;> decide
  refine za0 (zp3 (a:=[40]) (by simp) (by exact l11 0xa37100f424047 hl0)) ?_;refine za0 (zp3 (b:=[41]) (by simp;exact l11 0xa37100f423f47 hl0) (by simp)) ?_;exact zc0 ⟨by rw [zq6];rfl,rfl⟩
 have oth:(∀ σ':zz0,(∃ h:V,zv7 a.v (.int 0) σ=.ok h σ/\zy8 .Eq h (.str (S "number")) σ=.ok (.bool false) σ))->wz3 a=false->∃ σ',zz4 (n + 5) (.fn "show_signed") [a.v] σ=.ok (.str (zz2 (br 4 a.lv a.sh))) σ'/\zx0 σ σ':=by
  intro h1 h2;obtain ⟨h,h3,h4⟩:=h1 σ;obtain ⟨s1,e1,g1⟩:=xj4 (l:=4) (σ:=σ) (H a (by exact l10 0x13711371)) hl (show F + 2<=n + 4 by exact l21 0x13817143812371 hn);refine ⟨s1,zo0 ?_,g1⟩;refine za0 h3 ?_;refine za0 h4 (Rn.go 1 ?_);refine za0 e1 ?_;exact zc0 ⟨rfl,rfl⟩
 cases a with
 | lf f=>
  cases f with
  | num i=>exact num i
  | ref x q=>exact oth (fun U=>⟨_,rfl,rfl⟩) rfl
 | neg a=>exact oth (fun U=>⟨_,rfl,rfl⟩) rfl
 | bin s a b=>exact oth (fun U=>⟨_,rfl,by cases s <;> rfl⟩) rfl
 | sub1 x q a p=>exact oth (fun U=>⟨_,rfl,rfl⟩) rfl
 | sub2 x q a b p=>exact oth (fun U=>⟨_,rfl,rfl⟩) rfl
theorem rev_join {i:Nat} {suf:List (List Nat)} (h:σ[i]?=some (.lst (suf.map V.str))) (hl:(suf.map List.length).sum<=1000000) (hn:suf.length<=1000):xk6 [] (.loc i) σ=.ok (.str suf.reverse.flatten) σ:=by
 have ht:∀ xs:List (List Nat),textsOf (xs.map V.str)=some xs:=by
  intro xs;induction xs with
  | nil=>rfl
  | cons x r ih=>show (textsOf (r.map V.str)).map _=_;rw [ih];rfl
 refine (zj7 (F:=fun l=>if l.length<=SL then vv7 [] l.reverse σ else .bad) h).trans ?_;rw [if_pos (by rw [iq9];exact l11 0x00003e8471100000047 hn),<-List.map_reverse];refine (congrArg (fun o=>Option.elim o Out.bad fun xs:List (List Nat)=>if (xs.map List.length).sum + xs.length * ([]:List Nat).length<=SL then Out.ok (V.str (yj2 [] xs)) σ else .bad) (ht _)).trans ?_;refine (if_pos (by rw [List.map_reverse,List.sum_reverse];simp;exact l11 0x00f4240471100000047 hl)).trans ?_;rw [yb6]
end
section
variable {n m k l:Nat} {σ:zz0} {F:Nat} {e a b:Ex} {suf:List (List Nat)} {s:zz0}
theorem xx3 (e:Ex):∃ h,(∀ σ:zz0,zv7 e.v (.int 0) σ=.ok h σ)/\∀ ks vs,uh1 "LEVELS" = some (.map ks vs)->∀ σ:zz0,zy8 .In h (.map ks vs) σ=.ok (.bool (isBin e)) σ:=by
 cases e with
 | lf f=>cases f <;> exact ⟨_,fun U=>rfl,fun ks vs hg σ=>by cases hg;rfl⟩
 | bin s a b=>cases s <;> exact ⟨_,fun U=>rfl,fun ks vs hg σ=>by cases hg;rfl⟩
 | _=>exact ⟨_,fun U=>rfl,fun ks vs hg σ=>by cases hg;rfl⟩
theorem br_le {l lv:Nat} {p:List Pc}:(zz2 p).length<=(zz2 (br l lv p)).length:=by
 rw [yj5];by_cases q:lv < l
 ·rw [if_pos q,ik8,iq6]
  exact Nat.le_succ_of_le (ij4 _ _)
 ·rw [if_neg q];exact iq1 _
theorem qz3 {so:Op} {x y:Ex}:zz2 (Ex.bin so x y).sh=zz2 (br so.lv x.lv x.sh)++zz2 ([.sp,ps so.sg,.sp]++br (so.lv + 1) y.lv y.sh):=by
 refine (?_:zz2 (br so.lv x.lv x.sh++[.sp,ps so.sg,.sp]++br (so.lv + 1) y.lv y.sh)=_);rw [iq0,zz8]
theorem qz4 {so:Op} {x y:Ex} {N:Nat} (h:(zz2 (Ex.bin so x y).sh).length<=N):(zz2 x.sh).length<=N/\(zz2 y.sh).length<=N/\(zz2 ([.sp,ps so.sg,.sp]++br (so.lv + 1) y.lv y.sh)).length<=N:=by
 rw [qz3,iq6] at h;have h2:=ar h;have h3:=h2;rw [zz8,iq6] at h3;exact ⟨iq2 br_le (al h),iq2 br_le (ar h3),h2⟩
structure Pcs (e:Ex) (σ:zz0) (a:Ex) (suf:List (List Nat)) (s:zz0):Prop where
 ls:s[σ.length]?=some (.lst (suf.map V.str))
 dp:suf.length + a.dp<=e.dp
 sh:zz2 e.sh=zz2 a.sh++suf.reverse.flatten
 gr:zx0 σ s
theorem Pcs.len (P:Pcs e σ a suf s) {N:Nat} (h:(zz2 e.sh).length<=N):(zz2 a.sh).length<=N:=by
 rw [P.sh,iq6] at h;exact al h
theorem flat_sum (l:List (List Nat)):(l.map List.length).sum=l.reverse.flatten.length:=by
 rw [List.length_flatten,List.map_reverse,List.sum_reverse]
theorem xk1 {suf:List (List Nat)} {s:zz0} {w:List Nat} {C:zz5} {E H:V} (P:Pcs e σ a suf s) (h7:e.dp<=7) (hl:(zz2 e.sh).length<=100000) (hw:w=zz2 a.sh) :
 zq7 "list.append" (.loc σ.length) [.str w] s=.ok .none (s.set σ.length (.lst ((suf++[w]).map V.str)))/\
 Rn (cAt C "show_expression" 4 [("expr",E),("pieces",.loc σ.length),("here",H)] (s.set σ.length (.lst ((suf++[w]).map V.str)))) fun v s'=>v=.str (zz2 e.sh)/\zx0 σ s':=by
 subst hw;have hn:suf.length<=7:=iq2 (al P.dp) h7;have hz:(suf++[zz2 a.sh]).reverse.flatten=zz2 e.sh:=by rw [P.sh,List.reverse_append];rfl
 refine ⟨by rw [yp5 P.ls (by rw [iq9];exact ld hn rfl),iv6];rfl,?_⟩;have z:=rev_join (suf:=suf++[zz2 a.sh]) (i:=σ.length) (σ:=s.set σ.length (.lst ((suf++[zz2 a.sh]).map V.str))) (by rw [ik7 (zq0 P.ls)]) (by rw [flat_sum,hz];exact ld hl rfl) (by rw [iq6];exact ld (iw7 hn 1) rfl);refine za0 z ?_;exact zc0 ⟨congrArg V.str hz,P.gr.adv Adv.refl.at_ (iq1 _)⟩
theorem Pcs.grow {suf:List (List Nat)} {s s':zz0} (P:Pcs e σ a suf s) (g:zx0 s s'):Pcs e σ a suf s':=⟨g.keep P.ls,P.dp,P.sh,P.gr.trans g⟩
theorem Pcs.push {so:Op} {x y:Ex} {suf:List (List Nat)} {s:zz0} (P:Pcs e σ (.bin so x y) suf s) (hl:so.lv<=x.lv) :
 Pcs e σ x (suf++[zz2 ([.sp,ps so.sg,.sp]++br (so.lv + 1) y.lv y.sh)]) (s.set σ.length (.lst ((suf++[zz2 ([.sp,ps so.sg,.sp]++br (so.lv + 1) y.lv y.sh)]).map V.str))):=by
 refine ⟨by rw [ik7 (zq0 P.ls)],?_,?_,P.gr.adv Adv.refl.at_ (iq1 _)⟩
 ·have h:suf.length + (max x.dp y.dp + 1)<=e.dp:=P.dp
  have h2:x.dp<=max x.dp y.dp:=iz4 _ _;rw [iq6];refine iq2 (?_:suf.length + 1 + x.dp<=_) h;rw [Nat.add_assoc,Nat.add_comm 1];exact ij0 (iv1 h2) _
 ·rw [P.sh,qz3,yj5,if_neg (Nat.not_lt.mpr hl),List.reverse_append,iq0]
  rfl
theorem show_fin {p:Nat} {suf:List (List Nat)} {s:zz0} (P:Pcs e σ a suf s) (h7:e.dp<=7) (H:∀ a:Ex,a.dp < e.dp->zy9 a F) (hl:(zz2 e.sh).length<=100000) (hF:F<=p) (hb:∀ so x y,a=.bin so x y->x.lv < so.lv) :
 Rn (cAt (zz4 (p + 7)) "show_expression" 3 [("expr",e.v),("pieces",.loc σ.length),("here",a.v)] s) fun v s'=>v=.str (zz2 e.sh)/\zx0 σ s':=by
 have ha:a.dp<=e.dp:=ar P.dp;have hla:=P.len hl;refine el11 (xx3 a) fun h h1 h2=>?_;by_cases q:isBin a=true
 ·cases a with
  | bin so x y=>
   have hx:x.dp < e.dp:=iq3 (oq6 (iz4 _ _)) ha;have hy:y.dp < e.dp:=iq3 (oq6 (iz3 _ _)) ha;refine zg6 (qz4 hla) fun lx ly lr=>?_;refine el11 (H x hx (p + 7) (Nat.le_add_right_of_le hF) s) fun s2 ex gx=>?_;refine el11 (wb1 (s:=so) (av:=x.v) (σ:=s2) (H y hy) ly (show F + 3<=p + 7 from ij8 hF (nl rfl))) fun s3 er gr=>?_;have hsh:[40]++zz2 x.sh++[41]++zz2 ([.sp,ps so.sg,.sp]++br (so.lv + 1) y.lv y.sh)=zz2 (Ex.bin so x y).sh:=by
    rw [qz3,yj5,if_pos (hb so x y rfl)];rfl
   refine zz9 (xk1 (C:=zz4 (p + 7)) (E:=e.v) (H:=(Ex.bin so x y).v) (P.grow (gx.trans gr)) h7 hl hsh) fun l1 l2=>?_;refine za0 (h1 _) ?_;refine za0 (h2 _ _ rfl _) (Rn.go 1 ?_);refine za0 (zj1 P.ls) (Rn.go 1 ?_);refine za0 ex ?_;refine za0 (zq8 (a:=[40]) (iq1 1) lx rfl) ?_;refine za0 (zq8 (b:=[41]) (ap (a:=[40]) (iq1 1) lx) (iq1 1) rfl) ?_;refine za0 er ?_;refine za0 (zq8 (ap (b:=[41]) (ap (a:=[40]) (iq1 1) lx) (iq1 1)) lr rfl) ?_;refine za0 l1 ?_;refine Rn.at "show_expression" 4 ?_;exact l2
  | _=>cases q
 ·have q:=Bool.eq_false_iff.mpr q
  rw [q] at h2;by_cases qn:∃ b,a=.neg b
  ·obtain ⟨b,rfl⟩:=qn
   have hh:h=.str (S "neg"):=by
    have:=h1 s;cases this;rfl
   subst hh;have hsh:[45,32]++zz2 (if wz3 b=true then par b.sh else br 4 b.lv b.sh)=zz2 (Ex.neg b).sh:=(zz8 [ps .minus,.sp] _).symm;have hlb:=hla;rw [<-hsh,iq6] at hlb;have hlb:=ar hlb;have hlc:(zz2 b.sh).length<=100000:=by
    refine iq2 ?_ hlb;by_cases z:wz3 b=true
    ·rw [if_pos z,zq6,ik8,iq6]
     exact Nat.le_succ_of_le (ij4 _ _)
    ·rw [if_neg z];exact br_le
   refine el11 (wk2 (a:=b) (n:=p + 2) (σ:=s) (F:=F) (fun c hc=>H c (iq3 hc ha)) (iq2 hF (ij4 p 3)) hlc) fun s2 es gs=>?_;refine zz9 (xk1 (C:=zz4 (p + 7)) (E:=e.v) (H:=(Ex.neg b).v) (P.grow gs) h7 hl hsh) fun l1 l2=>?_;refine za0 (h1 _) ?_;refine za0 (h2 _ _ rfl _) (Rn.go 1 ?_);refine za0 (h1 _) (Rn.go 2 ?_);refine za0 (zj1 P.ls) (Rn.go 1 ?_);refine za0 es ?_;refine za0 (zq8 (a:=[45,32]) (iq1 2) hlb rfl) ?_;refine za0 l1 ?_;refine Rn.at "show_expression" 4 ?_;exact l2
  ·have ho:isOper a=true:=by
    cases a with
    | neg b=>exact absurd ⟨b,rfl⟩ qn
    | bin s x y=>cases q
    | _=>rfl
   have hne:zy8 .Eq h (.str (S "neg")) s=.ok (.bool false) s:=by
    have h3:=h1 s;cases a with
    | neg b=>exact absurd ⟨b,rfl⟩ qn
    | bin s x y=>cases q
    | lf f=>cases f <;> cases h3 <;> rfl
    | _=>cases h3;rfl
   refine el11 (xq9 (n:=p + 3) (σ:=s) (F:=F) (iq2 ha h7) ho (fun c hc=>H c (iq3 hc ha)) (iq2 hF (ij4 p 4)) hla) fun s2 eo go=>?_;refine zz9 (xk1 (C:=zz4 (p + 7)) (E:=e.v) (H:=a.v) (P.grow go) h7 hl rfl) fun l1 l2=>?_;refine za0 (h1 _) ?_;refine za0 (h2 _ _ rfl _) (Rn.go 1 ?_);refine za0 (h1 _) ?_;refine za0 hne (Rn.go 1 ?_);refine za0 (zj1 P.ls) ?_;refine za0 eo ?_;refine za0 l1 ?_;refine Rn.at "show_expression" 4 ?_;exact l2
theorem vp4 (h7:e.dp<=7) (H:∀ a:Ex,a.dp < e.dp->zy9 a F) (hl:Ln e.sh):zy9 e (F + 8):=by
 intro m hm σ;refine el11 (upk2 hm) fun p e0 hF=>?_;subst e0
 suffices hz:Rn (cFn (zz4 (p + 7)) "show_expression" [e.v] σ) fun v s=>v=.str (zz2 e.sh)/\zx0 σ s by
  exact el21 hz.fn fun v s e h=>⟨s,h.1▸e,h.2⟩
 refine zr0 (RnO.mono (ym0 (yl0 (Q:=fun y s=>∃ (a:Ex) (suf:List (List Nat)),y=(Fl.next,([("expr",e.v),("pieces",.loc σ.length),("here",a.v)]:Rho))/\Pcs e σ a suf s/\∀ so x y,a=.bin so x y->x.lv < so.lv)
  (I:=fun m ρ s=>∃ (a:Ex) (suf:List (List Nat)),ρ=([("expr",e.v),("pieces",.loc σ.length),("here",a.v)]:Rho)/\Pcs e σ a suf s/\m=a.dp) ?step LF e.dp _ _ ?init (ox4 h7 (nl rfl)))) ?fin)
 case init=>exact ⟨e,[],rfl,⟨zq4,ij3 (Nat.zero_add _),(iq7 _).symm,zx0.app⟩,rfl⟩
 case step=>
  intro m ρ s h;refine el22 h fun a suf e1 P e2=>?_;subst e1 e2;refine el11 (xx3 a) fun h h1 h2=>?_;by_cases q:isBin a=true
  ·cases a with
   | bin so x y=>
    have hdx:max x.dp y.dp + 1<=e.dp:=ar P.dp;have hly:=(qz4 (P.len hl)).2.1;refine el11 (wb1 (s:=so) (av:=x.v) (σ:=s) (H y (iq3 (oq6 (iz3 _ _)) hdx)) hly (show F + 3<=p + 7 from ij8 hF (nl rfl))) fun s2 er gr=>?_;have P2:=P.grow gr;refine za0 (h1 _) ?_;refine za0 (h2 _ _ rfl _) (Rn.go 2 ?_);refine za0 (vz0 x) (Rn.go 1 ?_);refine za0 (v:=.int (so.lv:Nat)) (σ:=s) (by cases so <;> rfl) (Rn.go 1 ?_);by_cases ql:so.lv<=x.lv
    ·refine ze0 rfl (decide_eq_true (ix6.mpr ql)) ?_
     refine zc0 ?_;refine za0 (zj1 P.ls) ?_;refine za0 er ?_;refine za0 (yp5 P2.ls (by rw [iq9];exact ld (iq2 (al P.dp) h7) rfl)) (Rn.go 1 ?_);refine zc0 ?_;refine ⟨x.dp,oq6 (iz4 _ _),x,suf++[zz2 ([.sp,ps so.sg,.sp]++br (so.lv + 1) y.lv y.sh)],rfl,?_,rfl⟩;have z:=P2.push ql;rw [iv6] at z;exact z
    ·refine zd0 rfl (decide_eq_false fun z=>ql (ix6.mp z)) ?_
     exact zc0 ⟨.bin so x y,suf,rfl,P,fun so' x' y' hh=>by cases hh;exact oq0 ql⟩
   | _=>cases q
  ·have q:=Bool.eq_false_iff.mpr q
   rw [q] at h2;refine za0 (h1 _) ?_;refine za0 (h2 _ _ rfl _) (Rn.go 1 ?_);refine zc0 ?_;exact ⟨a,suf,rfl,P,fun so x y e0=>by subst e0;cases q⟩
 case fin=>
  intro y s h;refine el22 h fun a suf e1 P hb=>?_;subst e1;refine Rn.at "show_expression" 3 ?_;exact show_fin P h7 H hl hF hb
theorem show_all (hl:∀ a:Ex,a.dp<=2->Ln a.sh):∀ d (e:Ex),e.dp<=d->d<=2->zy9 e (8 * (d + 1)):=by
 intro d;induction d with
 | zero=>exact fun e h h7=>vp4 (F:=0) (iq2 h (nl rfl)) (fun a ha=>absurd (iq3 ha h) (Nat.not_lt_zero _)) (hl e (iq2 h h7))
 | succ d ih=>exact fun e h h7=>vp4 (F:=8 * (d + 1)) (ld (iq2 h h7) rfl) (fun a ha=>ih a (Nat.le_of_lt_succ (iq3 ha h)) (ik9 h7)) (hl e (iq2 h h7))
end
noncomputable def zk0 (e:Ex) (F:Nat):Prop:=∀ m,F<=m->∀ σ,∃ σ',zz4 m (.fn "_law_plain") [e.v] σ=.ok (.str (zz2 e.pl)) σ'/\zx0 σ σ'
section
variable {n m k l:Nat} {σ:zz0} {F:Nat} {e a b:Ex}
theorem uq8 (i:Nu):zk0 (.lf (.num i)) 2:=by
 intro m hm σ;refine el11 (up1 hm) fun p e0 U=>?_;subst e0;refine ⟨σ,zo0 ?_,zx0.refl⟩;cases i;all_goals
  refine Rn.go 9 ?_;exact zc0 ⟨rfl,rfl⟩
theorem uq9 (h:zk0 a F) (hl:Ln a.pl):zk0 (.neg a) (F + 1):=by
 intro m hm σ;refine el11 (up1 hm) fun p e0 hp=>?_;subst e0;refine el11 (h p hp σ) fun s1 e1 g1=>?_;refine ⟨s1,zo0 ?_,g1⟩;refine Rn.go 7 ?_;refine za0 e1 ?_;refine za0 (zq8 (a:=[40,45,32,40]) (iq1 4) hl rfl) ?_;refine za0 (zq8 (b:=[41,41]) (ap (a:=[40,45,32,40]) (iq1 4) hl) (iq1 2) rfl) ?_;refine zc0 ⟨congrArg V.str ?_,rfl⟩;refine (?_:_=zz2 (par ([ps .minus,.sp]++par a.pl)));rw [zq6,zz8,zq6,iq0];exact congrArg (fun x=>40::45::32::40::x) (iq0 (zz2 a.pl) [41] [41]).symm
theorem ux0 {s:Op} (h:zk0 a F) (h2:zk0 b F) (hl:Ln a.pl) (hl2:Ln b.pl):zk0 (.bin s a b) (F + 1):=by
 intro m hm σ;refine el11 (up1 hm) fun p e0 hp=>?_;subst e0;have l2:∀ x y,([x,y]:List Nat).length<=2:=fun U U=>iq1 _;refine el11 (h p hp σ) fun s1 e1 g1=>?_;refine el11 (h2 p hp s1) fun s2 e2 g2=>?_;have hs:(S s.sg.txt).length<=10:=by cases s <;> exact nl rfl
 have h3:=ap (ap (ap (ap (l2 40 40) hl) (l2 41 32)) hs) (l2 32 40);refine ⟨s2,zo0 ?_,g1.trans g2⟩;refine Rn.go 2 ?_;refine zd0 rfl (by cases s <;> rfl) (Rn.go 2 ?_);refine zd0 rfl (by cases s <;> rfl) (Rn.go 2 ?_);refine ze0 rfl (by cases s <;> rfl) (Rn.go 1 ?_);refine za0 e1 ?_;refine za0 (zq8 (l2 40 40) hl rfl) ?_;refine za0 (zq8 (ap (l2 40 40) hl) (l2 41 32) rfl) (Rn.go 1 ?_);refine za0 (zq8 (ap (ap (l2 40 40) hl) (l2 41 32)) hs rfl) ?_;refine za0 (zq8 (ap (ap (ap (l2 40 40) hl) (l2 41 32)) hs) (l2 32 40) rfl) (Rn.go 1 ?_);refine za0 e2 ?_;refine za0 (zq8 h3 hl2 rfl) ?_;refine za0 (zq8 (b:=[41,41]) (ap h3 hl2) (iq1 2) rfl) ?_;refine zc0 ⟨congrArg V.str ?_,rfl⟩;refine (?_:_=zz2 (par (par a.pl++[.sp,ps s.sg,.sp]++par b.pl)));rw [zq6,zz8,zz8,zq6,zq6];simp only [iq0,ix2,oz8];refine congrArg (fun x=>40::40::(zz2 a.pl++x)) ?_;refine (?_:_=41::32::(S s.sg.txt++[32]++(40::(zz2 b.pl++[41,41]))));rw [iq0];rfl
theorem yj0 (f:Lf):(zz2 f.pl).length<=100:=by
 exact iq2 (zp2 f.pl) (iq2 (iv5 4 (zf2 f).2) (nl rfl))
theorem p1_pl (a:Lf):zz2 (Prt.p1 a).pl=[32,40]++zz2 a.pl++[32,58,41]:=by
 refine (?_:zz2 ([.sp,ps .lp]++a.pl++[.sp,ps .colon,ps .rp])=_);rw [zz8,zz8];rfl
theorem p2_pl (a b:Lf):zz2 (Prt.p2 a b).pl=[32,40]++zz2 a.pl++[32,58,32]++zz2 b.pl++[41]:=by
 refine (?_:zz2 ([.sp,ps .lp]++a.pl++[.sp,ps .colon,.sp]++b.pl++[ps .rp])=_);rw [zz8,zz8,zz8,zz8];rfl
theorem yk4 {X W:V} {q:List V} {T:List Nat} {r:Rho} {s:zz0} (p:Prt) (hp:p=.none\/∀ f,zk0 (.lf f) F) (hn:F<=n) (hT:T.length<=1000000) :
 Rn (cAt (zz4 n) "_law_plain" 6 (("expr",yk0 X q W p.v)::("text",.str T)::r) s) fun v s'=>v=.str (T++zz2 p.pl)/\zx0 s s':=by
 have l2:∀ x y,([x,y]:List Nat).length<=2:=fun U U=>iq1 _;cases p with
 | none=>
  refine Rn.go 3 (zc0 ?_);exact ⟨congrArg V.str (iq7 T).symm,zx0.refl⟩
 | p1 a=>
  refine el11 ((hp.resolve_left nofun) a n hn s) fun sa (ea:zz4 n (.fn "_law_plain") [a.v] s=.ok (.str (zz2 a.pl)) sa) ga=>?_;have h1:=ap (ap (ap hT (l2 32 40)) (yj0 a)) (l2 32 58);refine Rn.go 3 ?_;refine za0 (zq8 hT (l2 32 40) rfl) (Rn.go 2 ?_);refine za0 ea ?_;refine za0 (zq8 (ap hT (l2 32 40)) (yj0 a) rfl) ?_;refine za0 (zq8 (ap (ap hT (l2 32 40)) (yj0 a)) (l2 32 58) rfl) (Rn.go 4 ?_);refine za0 (zq8 (b:=[]) h1 (iq1 0) rfl) ?_;refine za0 (zq8 (b:=[41]) (ap h1 (iq1 0)) (iq1 1) rfl) (zc0 ?_);refine ⟨congrArg V.str ?_,ga⟩;rw [p1_pl,iq7];simp only [iq0];rfl
 | p2 a b=>
  have hp:=hp.resolve_left nofun
  refine el11 (hp a n hn s) fun sa (ea:zz4 n (.fn "_law_plain") [a.v] s=.ok (.str (zz2 a.pl)) sa) ga=>?_;refine el11 (hp b n hn sa) fun sb (eb:zz4 n (.fn "_law_plain") [b.v] sa=.ok (.str (zz2 b.pl)) sb) gb=>?_;have h1:=ap (ap (ap hT (l2 32 40)) (yj0 a)) (l2 32 58);refine Rn.go 3 ?_;refine za0 (zq8 hT (l2 32 40) rfl) (Rn.go 2 ?_);refine za0 ea ?_;refine za0 (zq8 (ap hT (l2 32 40)) (yj0 a) rfl) ?_;refine za0 (zq8 (ap (ap hT (l2 32 40)) (yj0 a)) (l2 32 58) rfl) (Rn.go 2 ?_);refine za0 (show zy8 .Is b.v .none _=.ok (.bool false) _ from by cases b <;> rfl) (Rn.go 3 ?_);refine za0 eb ?_;refine za0 (zq8 (a:=[32]) (iq1 1) (yj0 b) rfl) ?_;refine za0 (zq8 h1 (ap (a:=[32]) (iq1 1) (yj0 b)) rfl) ?_;refine za0 (zq8 (b:=[41]) (ap h1 (ap (a:=[32]) (iq1 1) (yj0 b))) (iq1 1) rfl) (zc0 ?_);refine ⟨congrArg V.str ?_,ga.trans gb⟩;rw [p2_pl];simp only [iq0];rfl
noncomputable def RowP (n F:Nat) (rv:List V) (rt:List Pc):Prop:=rv=[]/\rt=[]\/(∃ a:Ex,rv=[a.v]/\rt=.sp::par (par a.pl)/\zk0 a F/\Ln a.pl/\a.dp<=7)\/∃ a b:Ex,rv=[a.v,b.v]/\rt=.sp::par (par a.pl++.sp::par b.pl)/\zk0 a F/\zk0 b F/\Ln a.pl/\Ln b.pl/\a.dp<=7/\b.dp<=7
theorem lay60 {e:Ex} (h:e.dp<=7):zv4 60 e.v=true:=yb1 e 60 (iq2 (iw7 (iv5 2 h) 4) (nl rfl))
theorem Rn.ifn {α:Type} {c:Bool} {t u:Tr α} {Q:α->zz0->Prop} (hc:c=true) (h:Rn u Q):Rn (if c=false then t else u) Q:=by subst hc;exact h
theorem vk6 {X:V} {q:List V} {T:List Nat} {r:Rho} {s:zz0} {rv:List V} {rt:List Pc} (p:Prt) (hr:RowP n F rv rt) (hp:p=.none\/∀ f,zk0 (.lf f) F) (hn:F<=n) (hT:T.length<=100) (h0:r=[]\/∃ u,r=([("one",u)]:Rho)) :
 Rn (cAt (zz4 n) "_law_plain" 5 (("expr",yk0 X q (.tup rv) p.v)::("text",.str T)::r) s) fun v s'=>v=.str (T++(zz2 rt++zz2 p.pl))/\zx0 s s':=by
 have l2:∀ x y,([x,y]:List Nat).length<=2:=fun U U=>iq1 _;rcases hr with ⟨rfl,rfl⟩|⟨a,rfl,rfl,ha,hla,hda⟩|⟨a,b,rfl,rfl,ha,hb,hla,hlb,hda,hdb⟩
 ·refine Rn.go 1 ?_
  refine za0 (xp4 rfl rfl) (Rn.go 1 ?_);exact yk4 p hp hn (ld hT rfl)
 ·refine el11 (ha n hn s) fun sa ea ga=>?_
  have hz:zz2 (.sp::par (par a.pl))=[32,40]++(40::(zz2 a.pl++[41]))++[41]:=by
   refine (?_:32::zz2 (par (par a.pl))=_);rw [zq6,zq6];rfl
  have h1:(40::(zz2 a.pl++[41])).length<=100002:=iv1 (ap (b:=[41]) hla (iq1 1));refine Rn.go 1 ?_;refine za0 (xp4 (by rw [ij1,lay60 hda];rfl) rfl) (Rn.go 1 ?_);refine za0 (zq8 hT (l2 32 40) rfl) (Rn.go 1 ?_);refine Rn.ifn (by rcases h0 with rfl|⟨u,rfl⟩ <;> rfl) ?_;refine Rn.go 2 ?_;refine zr0 ?_;refine RnO.ifp (nl rfl) (RnO.comp1 ?_);refine yn0 (yo0 ?_);refine za0 ea ?_;refine za0 (zq8 (a:=[40]) (iq1 1) hla rfl) ?_;refine za0 (zq8 (b:=[41]) (ap (a:=[40]) (iq1 1) hla) (iq1 1) rfl) (zc0 ?_);refine za0 (yb7 (sep:=[32]) (xs:=[40::(zz2 a.pl++[41])]) zq4 rfl (iq2 (iw7 h1 1) (nl rfl))) ?_;refine za0 (zq8 (ap hT (l2 32 40)) h1 rfl) ?_;refine za0 (zq8 (b:=[41]) (ap (ap hT (l2 32 40)) h1) (iq1 1) rfl) ?_;refine Rn.mono (yk4 p hp hn (ld (ap (b:=[41]) (ap (ap hT (l2 32 40)) h1) (iq1 1)) rfl)) fun v s' h=>⟨h.1.trans (congrArg V.str ?_),(ga.trans zx0.app).trans h.2⟩;rw [hz,iq0,iq0,iq0,iq0];rfl
 ·refine el11 (ha n hn s) fun sa ea ga=>?_
  refine el11 (hb n hn sa) fun sb eb gb=>?_;have hz:zz2 (.sp::par (par a.pl++.sp::par b.pl))=[32,40]++((40::(zz2 a.pl++[41]))++[32]++(40::(zz2 b.pl++[41])))++[41]:=by
   refine (?_:32::zz2 (par (par a.pl++.sp::par b.pl))=_);rw [zq6,zz8,zq6];refine (?_:32::40::(40::(zz2 a.pl++[41])++(32::zz2 (par b.pl))++[41])=_);rw [zq6];simp only [iq0];rfl
  have h1:(40::(zz2 a.pl++[41])).length<=100002:=iv1 (ap (b:=[41]) hla (iq1 1));have h2:(40::(zz2 b.pl++[41])).length<=100002:=iv1 (ap (b:=[41]) hlb (iq1 1));have h3:((40::(zz2 a.pl++[41]))++[32]++(40::(zz2 b.pl++[41]))).length<=200005:=ap (ap (b:=[32]) h1 (iq1 1)) h2;refine Rn.go 1 ?_;refine za0 (xp4 (by rw [ij1,ij1,lay60 hda,lay60 hdb];rfl) rfl) (Rn.go 1 ?_);refine za0 (zq8 hT (l2 32 40) rfl) (Rn.go 1 ?_);refine Rn.ifn (by rcases h0 with rfl|⟨u,rfl⟩ <;> rfl) ?_;refine Rn.go 2 ?_;refine zr0 ?_;refine RnO.ifp (nl rfl) (RnO.comp2 ?_);refine yn0 (yo0 ?_);refine za0 ea ?_;refine za0 (zq8 (a:=[40]) (iq1 1) hla rfl) ?_;refine za0 (zq8 (b:=[41]) (ap (a:=[40]) (iq1 1) hla) (iq1 1) rfl) ?_;refine zc0 (yn0 (yo0 ?_));refine za0 eb ?_;refine za0 (zq8 (a:=[40]) (iq1 1) hlb rfl) ?_;refine za0 (zq8 (b:=[41]) (ap (a:=[40]) (iq1 1) hlb) (iq1 1) rfl) (zc0 ?_);refine za0 (yb7 (sep:=[32]) (xs:=[40::(zz2 a.pl++[41]),40::(zz2 b.pl++[41])]) zq4 rfl (iq2 (iw7 (ij8 h1 h2) 2) (nl rfl))) ?_;refine za0 (zq8 (ap hT (l2 32 40)) h3 rfl) ?_;refine za0 (zq8 (b:=[41]) (ap (ap hT (l2 32 40)) h3) (iq1 1) rfl) ?_;refine Rn.mono (yk4 p hp hn (ld (ap (b:=[41]) (ap (ap hT (l2 32 40)) h3) (iq1 1)) rfl)) fun v s' h=>⟨h.1.trans (congrArg V.str ?_),((ga.trans gb).trans zx0.app).trans h.2⟩;rw [hz];simp only [yj2,iq0];rfl
theorem yf6 {x:Nm} {q:Qs} {rv:List V} {rt:List Pc} (p:Prt) (hr:RowP n F rv rt) (hp:p=.none\/∀ f,zk0 (.lf f) F) (hn:F<=n) :
 ∃ σ',zz4 (n + 1) (.fn "_law_plain") [yk0 (.str (S x.txt)) q.v (.tup rv) p.v] σ=.ok (.str (zz2 (zb0 false x q++(rt++p.pl)))) σ'/\zx0 σ σ':=by
 have hl0:(zz2 (zb0 false x q)).length<=100:=by
  exact iq2 (zp2 (zb0 false x q)) (iq2 (iv5 4 (yq1 false x q)) (nl rfl))
 rw [zz8,zz8];have go:∀ r:Rho,(r=[]\/∃ u,r=([("one",u)]:Rho))->Rn (cAt (zz4 n) "_law_plain" 5 (("expr",yk0 (.str (S x.txt)) q.v (.tup rv) p.v)::("text",.str (zz2 (zb0 false x q)))::r) σ) fun v s=>v=.str (zz2 (zb0 false x q)++(zz2 rt++zz2 p.pl))/\zx0 σ s:=fun r h0=>vk6 p hr hp hn hl0 h0
 suffices hz:Rn (cFn (zz4 n) "_law_plain" [yk0 (.str (S x.txt)) q.v (.tup rv) p.v] σ) fun v s=>v=.str (zz2 (zb0 false x q)++(zz2 rt++zz2 p.pl))/\zx0 σ s by
  exact el21 hz.fn fun v s e h=>⟨s,h.1▸e,h.2⟩
 refine Rn.go 10 ?_;refine zr0 (RnO.mono (Q:=fun y s=>s=σ/\∃ r:Rho,(r=[]\/∃ u,r=([("one",u)]:Rho))/\y=(Fl.next,((("expr",yk0 (.str (S x.txt)) q.v (.tup rv) p.v)::("text",.str (zz2 (zb0 false x q)))::r:Rho)))) (yd0 rfl ?_) ?f)
 ·have hx:(S x.txt).length<=10:=by cases x <;> exact nl rfl
  refine Rn.go 1 ?_;refine za0 rfl ?_;cases q
  ·refine zc0 (yi0 rfl ⟨rfl,[],.inl rfl,?_⟩)
   rw [show zz2 (zb0 false x .q0)=S x.txt by cases x <;> rfl]
  ·refine zc0 (ye0 rfl ?_)
   refine za0 (zq8 (b:=[32,73,78,32]) hx (iq1 4) rfl) ?_;refine za0 (zq8 (b:=S "G") (ap (b:=[32,73,78,32]) hx (iq1 4)) (iq1 1) rfl) ?_;refine zc0 (yi0 rfl ⟨rfl,_,.inr ⟨.str (S "G"),rfl⟩,?_⟩);rw [show zz2 (zb0 false x .q1)=S x.txt++[32,73,78,32]++S "G" by cases x <;> rfl];rfl
  ·refine zc0 (ye0 rfl ?_)
   refine za0 (zq8 (b:=[32,73,78,32]) hx (iq1 4) rfl) ?_;refine za0 (zq8 (b:=S "G") (ap (b:=[32,73,78,32]) hx (iq1 4)) (iq1 1) rfl) ?_;refine zc0 (ye0 rfl ?_);refine za0 (zq8 (b:=[32,73,78,32]) (ap (b:=S "G") (ap (b:=[32,73,78,32]) hx (iq1 4)) (iq1 1)) (iq1 4) rfl) ?_;refine za0 (zq8 (b:=S "H") (ap (b:=[32,73,78,32]) (ap (b:=S "G") (ap (b:=[32,73,78,32]) hx (iq1 4)) (iq1 1)) (iq1 4)) (iq1 1) rfl) ?_;refine zc0 (yi0 rfl ⟨rfl,_,.inr ⟨.str (S "H"),rfl⟩,?_⟩);rw [show zz2 (zb0 false x .q2)=S x.txt++[32,73,78,32]++S "G"++[32,73,78,32]++S "H" by cases x <;> rfl];rfl
 case f=>
  intro y s h;refine zz9 h fun e1 h2=>?_;subst e1;refine el11 h2 fun r h3 e2=>?_;subst e2;refine Rn.at "_law_plain" 5 ?_;exact go r h3
theorem yk5 (f:Lf):zk0 (.lf f) 2:=by
 cases f with
 | num i=>exact uq8 i
 | ref x q=>
  intro m hm σ;refine el11 (up1 hm) fun p e0 U=>?_;subst e0;refine el11 (yf6 (n:=p) (σ:=σ) (x:=x) (q:=q) (rv:=[]) (rt:=[]) (F:=0) Prt.none (.inl ⟨rfl,rfl⟩) (.inl rfl) (iv8 _)) fun s1 e1 g1=>?_;rw [show ([]:List Pc)++Prt.none.pl=[] from rfl,iq7] at e1;exact ⟨s1,e1,g1⟩
theorem zk0.le {G:Nat} (h:zk0 e F) (hg:F<=G):zk0 e G:=fun m hm σ=>h m (iq2 hg hm) σ
theorem plain_ok (hl:∀ a:Ex,a.dp<=2->Ln a.pl) (e:Ex):e.dp<=2->zk0 e (2 + e.dp):=by
 induction e with
 | lf f=>exact fun U=>yk5 f
 | neg a ih=>exact fun h=>uq9 (ih (ik9 h)) (hl a (ik9 h))
 | bin s a b iha ihb=>
  intro h;have ha:=mxl (ik9 h);have hb:=mxr (ik9 h);exact ux0 ((iha ha).le (ij0 (iz4 _ _) 2)) ((ihb hb).le (ij0 (iz3 _ _) 2)) (hl a ha) (hl b hb)
 | sub1 x q a p iha=>
  intro h m hm σ;refine el11 (up1 hm) fun n e0 hn=>?_;subst e0;have ha:=ik9 h;exact yf6 p (.inr (.inl ⟨a,rfl,rfl,iha ha,hl a ha,ld ha rfl⟩)) (.inr fun f=>(yk5 f).le (ij4 2 _)) hn
 | sub2 x q a b p iha ihb=>
  intro h m hm σ;refine el11 (up1 hm) fun n e0 hn=>?_;subst e0;have ha:=mxl (ik9 h);have hb:=mxr (ik9 h);exact yf6 p (.inr (.inr ⟨a,b,rfl,rfl,(iha ha).le (ij0 (iz4 _ _) 2),(ihb hb).le (ij0 (iz3 _ _) 2),hl a ha,hl b hb,ld ha rfl,ld hb rfl⟩)) (.inr fun f=>(yk5 f).le (ij4 2 _)) hn
end
noncomputable def uy2:V->Bool
 | .none=>true
 | .int _=>true
 | .str _=>true
 | _=>false
inductive RL:List V->List V->Nat->Prop
 | nil:RL [] [] 0
 | atom {v:V} {vs l:List V} {k:Nat}:uy2 v=true->RL vs l k->RL (v::vs) l (k + 1)
 | tup {us vs l:List V} {k:Nat}:us.length<=4->RL (us++vs) l k->RL (.tup us::vs) l (k + 1)
 | ref {x r p:V} {q vs l:List V} {k:Nat}:RL ([.str (S "ref"),x,.tup q,r,p]++vs) l k->RL (yk0 x q r p::vs) (yk0 x q r p::l) (k + 1)
theorem RL.len {vs l:List V} {k:Nat} (h:RL vs l k):vs.length<=k/\l.length<=k:=by
 induction h with
 | nil=>exact ⟨iq1 _,iq1 _⟩
 | atom _ _ ih=>exact ⟨by rw [ik8];exact l21 0x87113811371 ih.1,l21 0x87113817 ih.2⟩
 | tup _ _ ih=>rw [iq6] at ih;exact ⟨by rw [ik8];exact l31 0x8791113811371 ih.1,l21 0x87113817 ih.2⟩
 | ref _ ih=>rw [iq6] at ih;exact ⟨by rw [ik8];exact l21 0x87131313131303111111113811371 ih.1,by rw [ik8];exact l21 0x87113811371 ih.2⟩
theorem xk5 (f:Lf) {vs l:List V} {k:Nat} (h:RL vs l k):∃ k',k'<=k + 20/\RL (f.v::vs) (f.nts++l) k':=by
 cases f with
 | num i=>exact ⟨_,l10 0x146711313131313711111,RL.tup (by simp) (RL.atom rfl (RL.tup (by simp) (RL.atom rfl (RL.atom rfl h))))⟩
 | ref x q=>
  have hq:∃ k',k'<=k + 5/\RL (.tup q.v::.tup []::.none::vs) l k':=by
   cases q
   ·exact ⟨_,l10 0x53711313137111,RL.tup (by simp [Qs.v,Qs.l]) (RL.tup (by simp) (RL.atom rfl h))⟩
   ·exact ⟨_,l10 0x53711313131371111,RL.tup (by simp [Qs.v,Qs.l]) (RL.atom rfl (RL.tup (by simp) (RL.atom rfl h)))⟩
   ·exact ⟨_,l10 0x53711313131313711111,RL.tup (by simp [Qs.v,Qs.l]) (RL.atom rfl (RL.atom rfl (RL.tup (by simp) (RL.atom rfl h))))⟩
  refine el11 hq fun k' h1 h2=>?_;exact ⟨k' + 3,l21 0x538171146813371 h1,RL.ref (RL.atom rfl (RL.atom rfl h2))⟩
theorem rl_q (q:Qs) {vs l:List V} {k:Nat} (h:RL vs l k):∃ k',k'<=k + 3/\RL (.tup q.v::vs) l k':=by
 cases q
 ·exact ⟨_,l10 0x33711371,RL.tup (by simp [Qs.v,Qs.l]) h⟩
 ·exact ⟨_,(oz5 _),RL.tup (by simp [Qs.v,Qs.l]) (RL.atom rfl h)⟩
 ·exact ⟨_,l10 0x33711313137111,RL.tup (by simp [Qs.v,Qs.l]) (RL.atom rfl (RL.atom rfl h))⟩
theorem uz1 (p:Prt) {vs l:List V} {k:Nat} (h:RL vs l k):∃ k',k'<=k + 50/\RL (p.v::vs) (p.nts++l) k':=by
 cases p with
 | none=>exact ⟨_,l10 0x326711371,RL.atom rfl h⟩
 | p1 a=>
  refine el11 (xk5 a (RL.atom (v:=.none) rfl h)) fun k1 h1 h2=>?_;exact ⟨_,l21 0x1461381171326811371 h1,RL.tup (by simp) h2⟩
 | p2 a b=>
  refine el11 (xk5 b h) fun k1 h1 h2=>?_;refine el11 (xk5 a h2) fun k2 h3 h4=>?_;refine ⟨_,?_,RL.tup (by simp) (by rw [show (Prt.p2 a b).nts=a.nts++b.nts from rfl,iq0];exact h4)⟩;exact l32 0x14691711468191326811371 h1 h3
noncomputable def Kb:Nat->Nat
 | 0=>20
 | d + 1=>10 * Kb d
theorem qq7:∀ d,20<=Kb d:=by
 intro d;induction d with
 | zero=>
  exact iq1 _
 | succ d ih0=>
  have:=ih0;show 20<=10 * Kb d;exact l11 0x714617a2146 this
theorem qq6:∀ {a b:Nat},a<=b->Kb a<=Kb b:=by
 intro a b h;induction h with
 | refl=>exact iq1 _
 | step _ ih=>have:=qq7 (a);show Kb a<=10 * Kb _;exact l21 0x8718a27 ih
theorem rl_ex:∀ (e:Ex) {vs l:List V} {k:Nat},RL vs l k->∃ k',k'<=k + Kb e.dp/\RL (e.v::vs) (e.nts++l) k':=by
 intro e;induction e with
 | lf f=>
  intro vs l k h;exact xk5 f h
 | neg a ih0a=>
  intro vs l k h;refine el11 (ih0a h) fun k1 h1 h2=>?_;have:=qq7 a.dp;exact ⟨k1 + 2,by show k1 + 2<=k + 10 * Kb a.dp;exact l32 0x91461981719a2812371 h1 this,RL.tup (by simp) (RL.atom rfl h2)⟩
 | bin s a b ih0a ih0b=>
  intro vs l k h;refine el11 (ih0b h) fun k1 h1 h2=>?_;refine el11 (ih0a h2) fun k2 h3 h4=>?_;have ha:=qq6 (iz4 a.dp b.dp);have hb:=qq6 (iz3 a.dp b.dp);have:=qq7 (max a.dp b.dp);refine ⟨k2 + 2,by show k2 + 2<=k + 10 * Kb (max a.dp b.dp);exact l65 0x914619b19c1ca171b81a19a2812371 h1 h3 ha hb this,?_⟩;rw [show (Ex.bin s a b).nts=a.nts++b.nts from rfl,iq0];exact RL.tup (by simp) (RL.atom rfl h4)
 | sub1 x q a p ih0a=>
  intro vs l k h;refine el11 (uz1 p h) fun k1 h1 h2=>?_;refine el11 (ih0a h2) fun k2 h3 h4=>?_;refine el11 (rl_q q (RL.tup (us:=[a.v]) (by simp) h4)) fun k3 h5 h6=>?_;have:=qq7 a.dp;refine ⟨k3 + 3,by show k3 + 3<=k + 10 * Kb a.dp;exact l54 0x914633313b11719a1b132681a19a2813371 h1 h3 h5 this,?_⟩;rw [show (Ex.sub1 x q a p).nts=(Ex.sub1 x q a p).v::(a.nts++p.nts) from rfl,ix2,iq0];exact RL.ref (RL.atom rfl (RL.atom rfl h6))
 | sub2 x q a b p ih0a ih0b=>
  intro vs l k h;refine el11 (uz1 p h) fun k1 h1 h2=>?_;refine el11 (ih0b h2) fun k2 h3 h4=>?_;refine el11 (ih0a h4) fun k4 h7 h8=>?_;refine el11 (rl_q q (RL.tup (us:=[a.v,b.v]) (by simp) h8)) fun k3 h5 h6=>?_;have ha:=qq6 (iz4 a.dp b.dp);have hb:=qq6 (iz3 a.dp b.dp);have:=qq7 (max a.dp b.dp);refine ⟨k3 + 3,by show k3 + 3<=k + 10 * Kb (max a.dp b.dp);omega,?_⟩;rw [show (Ex.sub2 x q a b p).nts=(Ex.sub2 x q a b p).v::(a.nts++(b.nts++p.nts)) from rfl,ix2,iq0,iq0];exact RL.ref (RL.atom rfl (RL.atom rfl h6))
theorem lay_up (k:Nat):∀ v:V,zv4 k v=true->zv4 (k + 1) v=true:=by
 induction k with
 | zero=>
  intro v;show (lf v).isSome=true->(zj2 v).elim (lf v).isSome (fun l=>l.all (zv4 0))=true;cases e:zj2 v with
  | none=>exact id
  | some l=>rw [zf7 e];exact fun h=>nomatch h
 | succ k ih=>
  intro v;show (zj2 v).elim (lf v).isSome (fun l=>l.all (zv4 k))=true->(zj2 v).elim (lf v).isSome (fun l=>l.all (zv4 (k + 1)))=true;cases zj2 v with
  | none=>exact id
  | some l=>exact fun h=>iz0.mpr fun u hu=>ih u (iz0.mp h u hu)
theorem lay_in {us:List V} (h:zv4 60 (.tup us)=true):us.all (zv4 60)=true:=by
 have h':us.all (zv4 59)=true:=h;rw [iz0] at h' ⊢;exact fun u hu=>lay_up 59 u (h' u hu)
section
variable {n m k:Nat} {σ:zz0} {e:Ex}
theorem qz0 {c:V} (e:Ex):zz4 (n + 1) (.fn "exchanged_bodies") [e.v,c] σ=.ok e.v σ:=by
 cases e with
 | lf f=>cases f <;> (refine zo0 ?_;repeat refine za0 rfl ?_) <;> exact zc0 ⟨rfl,rfl⟩
 | bin s a b=>cases s <;> (refine zo0 ?_;repeat refine za0 rfl ?_) <;> exact zc0 ⟨rfl,rfl⟩
 | neg a=>(refine zo0 ?_;repeat refine za0 rfl ?_);exact zc0 ⟨rfl,rfl⟩
 | sub1 x q a p=>(refine zo0 ?_;repeat refine za0 rfl ?_);exact zc0 ⟨rfl,rfl⟩
 | sub2 x q a b p=>(refine zo0 ?_;repeat refine za0 rfl ?_);exact zc0 ⟨rfl,rfl⟩
theorem ww9 {v:V} (h:uy2 v=true):zz4 (n + 2) (.fn "is_ref") [v] σ=.ok (.bool false) σ:=by
 cases v <;> first|(refine zo0 ?_;refine za0 rfl ?_;refine zd0 rfl rfl ?_;exact zc0 ⟨rfl,rfl⟩)|cases h
theorem vv8 {us:List V} (h:us.length<=4):zz4 (n + 2) (.fn "is_ref") [.tup us] σ=.ok (.bool false) σ:=by
 have hb:(((us.length:Nat):Int) == 5)=false:=beq_eq_false_iff_ne.mpr fun e=>ij5 (oq6 h) (Int.ofNat.inj (show Int.ofNat us.length=Int.ofNat 5 from e));refine zo0 ?_;refine Rn.go 2 ?_;refine za0 (uv9 (by have e1:SL=16777216:=rfl;exact l11 0x4371100000047 h)) (Rn.go 1 ?_);refine zd0 rfl hb ?_;exact zc0 ⟨congrArg V.bool hb,rfl⟩
theorem vv9 {x r p:V} {q:List V}:zz4 (n + 2) (.fn "is_ref") [yk0 x q r p] σ=.ok (.bool true) σ:=by
 refine zo0 ?_;refine Rn.go 2 ?_;refine za0 (uv9 (by show 5<=16777216;exact l00)) (Rn.go 2 ?_);refine zc0 ?_;exact ⟨rfl,rfl⟩
end
theorem xv9 {i:Nat} {l:List V} {σ:zz0} (h:σ[i]?=some (.lst l)):liftO (zk3 (.loc i) "pop" σ) σ=.ok (.bm "list.pop") σ:=by
 rw [uk0 h];exact congrArg (fun o=>liftO (Option.map MK.bm o) σ) ((zj7 h).trans rfl:zx3 (.loc i) "pop" σ=some "list.pop")
theorem yb0 {i:Nat} {l:List V} {σ:zz0} (h:σ[i]?=some (.lst l)):liftO (zk3 (.loc i) "extend" σ) σ=.ok (.bm "list.extend") σ:=by
 rw [uk0 h];exact congrArg (fun o=>liftO (Option.map MK.bm o) σ) ((zj7 h).trans rfl:zx3 (.loc i) "extend" σ=some "list.extend")
theorem uq7 {i:Nat} {l:List V} {v:V} {σ:zz0} (h:σ[i]?=some (.lst (l++[v]))) (hl:l.length<=100000):zq7 "list.pop" (.loc i) [] σ=.ok v (σ.set i (.lst l)):=by
 refine (zj7 (F:=fun l=>mPop l i σ []) h).trans ((if_pos ⟨rfl,by simp;exact l11 0x00186a0471100000041371 hl⟩).trans ?_);rw [List.getLast?_concat,List.dropLast_concat];rfl
theorem exn_ok {i:Nat} {l us:List V} {σ:zz0} (h:σ[i]?=some (.lst l)) (hl:l.length + us.length<=100000):zq7 "list.extend" (.loc i) [.tup us] σ=.ok .none (σ.set i (.lst (l++us))):=by
 exact (zj7 (F:=fun l=>ww0 l i σ [.tup us]) h).trans (if_pos (l21 0x00186a04871110000004871 hl))
theorem xf5 {C:zz5} {k:Nat} {sc:Scope} {ρ:Rho} {o e:Expr} {σ:zz0} {us:List V} (ho:Rn (rE C k sc ρ o σ) fun a s=>a=.tup us/\s=σ) (he:Rn (rE C k sc ρ e σ) fun a s=>a=.int (-1)/\s=σ) (hl:us.length<=SL) :
 evSl (fun e σ=>evE C k sc ρ e σ) o (Option.none,Option.none,some e) σ=.ok (.tup us.reverse) σ:=by
 exact ob (zs0 ho) (ob (zs0 he) (if_pos ⟨rfl,hl⟩))
theorem py_nil {l:List V} (h:l.all (zv4 60)=true):zy2 l []=some l.isEmpty:=by
 unfold zy2;rw [h];cases l <;> rfl
theorem wj5 {a b c v:V} {r:Rho} (h:r=[]\/∃ u,r=([("one",u)]:Rho)):upd (("thing",a)::("found",b)::("line",c)::r) "one" v=([("thing",a),("found",b),("line",c),("one",v)]:Rho):=by
 rcases h with rfl|⟨u,rfl⟩ <;> rfl
section
variable {n m k:Nat} {σ:zz0} {e:Ex}
theorem RL.inv {P:Prop} {vs l:List V} {m:Nat} (h:RL vs l m) (h0:vs=[]->l=[]->P) (h1:∀ v vs' k,vs=v::vs'->m=k + 1->uy2 v=true->RL vs' l k->P) (h2:∀ us vs' k,vs=.tup us::vs'->m=k + 1->us.length<=4->RL (us++vs') l k->P)
 (h3:∀ x r p q vs' l' k,vs=yk0 x q r p::vs'->l=yk0 x q r p::l'->m=k + 1->RL ([.str (S "ref"),x,.tup q,r,p]++vs') l' k->P):P:=by
 cases h with
 | nil=>exact h0 rfl rfl
 | atom a b=>exact h1 _ _ _ rfl rfl a b
 | tup a b=>exact h2 _ _ _ rfl rfl a b
 | ref a=>exact h3 _ _ _ _ _ _ _ rfl rfl rfl a
structure RefI (σ:zz0) (nts:List V) (i2:Nat) (vs l fd:List V) (m:Nat) (s:zz0):Prop where
 rl:RL vs l m
 hm:m<=2000
 hl:s[i2]?=some (.lst vs.reverse)
 hf:s[σ.length]?=some (.lst fd)
 hfd:fd++l=nts
 hlay:vs.all (zv4 60)=true
 hg:zx0 σ s
structure RefP (σ:zz0) (i2:Nat) (vs fd:List V) (v:V) (m:Nat) (s s1:zz0):Prop where
 h0:(s++[O.lst []])[i2]?=some (.lst (vs.reverse++[v]))
 hn:vs.reverse.length<=2000
 h1:s1[i2]?=some (.lst vs.reverse)
 h2:s1[σ.length]?=some (.lst fd)
 hg:zx0 σ s1
 hv:zv4 60 v=true
 hlay:vs.all (zv4 60)=true
 b:m<=2000
theorem RefI.pop {σ s:zz0} {nts vs vs' l fd:List V} {v:V} {i2 m k:Nat} (R:RefI σ nts i2 vs l fd m s) (hlt:σ.length < i2) (e:vs=v::vs') (em:m=k + 1):RefP σ i2 vs' fd v k s ((s++[O.lst []]).set i2 (.lst vs'.reverse)):=by
 have g1:zx0 s (s++[O.lst []]):=zx0.app;have hl:(s++[O.lst []])[i2]?=some (.lst (vs'.reverse++[v])):=by rw [<-List.reverse_cons,<-e];exact g1.keep R.hl
 have hy:=R.hlay;rw [e,ij1,iq5] at hy;have hn:=R.rl.len.1;rw [e,ik8] at hn;refine ⟨hl,?_,?_,?_,(R.hg.trans g1).adv Adv.refl.at_ (l21 0x81371187 hlt),hy.1,hy.2,?_⟩
 ·rw [ox2];exact ik9 (iq2 hn R.hm)
 ·rw [ik7 (zq0 hl)]
 ·rw [iz9 (ix0 hlt)];exact g1.keep R.hf
 ·exact ik9 ((em▸R.hm:k + 1<=2000))
theorem refs_ok (h7:e.dp<=2):∃ σ' i,zz4 (n + 3) (.fn "refs_within") [e.v] σ=.ok (.loc i) σ'/\σ'[i]?=some (.lst e.nts)/\zx0 σ σ':=by
 refine el11 (rl_ex e RL.nil) fun K hK hR=>?_;rw [iq7] at hR;have hKb:K<=2000:=by
  have:=qq6 h7;have h2:Kb 2=2000:=rfl;exact l33 0x00007d049998180317100007d047 hK this h2
 have hnl:=hR.len.2
 suffices hz:Rn (cFn (zz4 (n + 2)) "refs_within" [e.v] σ) fun v s=>v=.loc σ.length/\s[σ.length]?=some (.lst e.nts)/\zx0 σ s by
  refine el23 hz.fn fun v s e eq1 h1 h2=>?_;subst eq1;exact ⟨s,_,e,h1,h2⟩
 have hlt:σ.length < (σ++[O.lst []]).length:=by rw [iq6];simp
 refine Rn.go 1 ?_;refine za0 (qz0 e) ?_;refine zr0 (ym0 (RnO.loopH (Q:=fun y s=>(∃ ρ0:Rho,y=(Fl.next,(("thing",e.v)::("found",.loc σ.length)::("line",.loc (σ++[O.lst []]).length)::ρ0:Rho)))/\s[σ.length]?=some (.lst e.nts)/\zx0 σ s)
  (I:=fun m ρ s=>∃ vs l fd,∃ r:Rho,RefI σ e.nts (σ++[O.lst []]).length vs l fd m s/\(r=[]\/∃ u,r=([("one",u)]:Rho))/\ρ=(("thing",e.v)::("found",.loc σ.length)::("line",.loc (σ++[O.lst []]).length)::r:Rho)) ?step LF K _ _ ?init (by show _ < 1048576;exact l11 0x00007d0471010000041371 hKb)) |>.mono ?fin)
 case init=>
  refine ⟨[e.v],e.nts,[],[],⟨hR,hKb,zq4,zx0.app.keep zq4,rfl,?_,zx0.app.trans zx0.app⟩,.inl rfl,rfl⟩;simp only [ij1,iw0,yb1 e 60 (l11 0x23723c6437221 h7),iw6]
 case fin=>
  intro y s q;refine el10 q.1 fun ρ0 e0=>?_;subst e0;exact zc0 ⟨rfl,q.2⟩
 case step=>
  intro m ρ s hi Kx L hK hL;refine hid fun G kG=>?_;refine el42 hi fun vs l fd r R h0 eρ=>?_;subst eρ;have g1:zx0 s (s++[.lst []]):=zx0.app;refine kG ?_;refine za0 (xv8 (g1.keep R.hl) zq4 (py_nil (by rw [List.all_reverse];exact R.hlay))) ?_;refine R.rl.inv (fun e1 e2=>?_) (fun v vs' k e1 e2 ha hr=>?_) (fun us vs' k e1 e2 hu hr=>?_) fun x r' p q vs' l' k e1 e3 e2 hr=>?_
  ·refine zd0 rfl (by rw [e1];rfl) ?_
   refine zc0 (hL _ _ ⟨⟨r,rfl⟩,?_,R.hg.trans g1⟩);rw [<-R.hfd,e2,iq7];exact g1.keep R.hf
  ·have W:=R.pop hlt e1 e2
   refine ze0 rfl (by rw [e1];simp) (zc0 ?_);refine za0 (xv9 W.h0) ?_;refine za0 (uq7 W.h0 (iq2 W.hn (nl rfl))) ?_;refine Rn.upd (wj5 h0) ?_;refine za0 (ww9 ha) (Rn.go 1 ?_);have hi:∀ s,zz4 (n + 2) (.blt "isinstance") [v,.typ "tuple"] s=.ok (.bool false) s:=fun s=>by cases v <;> first|rfl|cases ha
   refine za0 (hi _) (Rn.go 1 ?_);refine zc0 ?_;exact hK k _ _ (oz4 (ij7 k) e2.symm) ⟨vs',l,fd,_,⟨hr,W.b,W.h1,W.h2,R.hfd,W.hlay,W.hg⟩,.inr ⟨_,rfl⟩,rfl⟩
  ·have W:=R.pop hlt e1 e2
   have hl2:=hr.len.1;rw [iq6] at hl2;refine ze0 rfl (by rw [e1];simp) (zc0 ?_);refine za0 (xv9 W.h0) ?_;refine za0 (uq7 W.h0 (iq2 W.hn (nl rfl))) ?_;refine Rn.upd (wj5 h0) ?_;refine za0 (vv8 hu) (Rn.go 3 ?_);refine za0 (yb0 W.h1) ?_;refine za0 (xf5 (us:=us) (zc0 ⟨rfl,rfl⟩) (za0 rfl (zc0 ⟨rfl,rfl⟩)) (l11 0x4371100000047 hu)) ?_;refine za0 (exn_ok W.h1 (iq2 (ij8 W.hn (by rw [ox2];exact hu:us.reverse.length<=4)) (ix4 rfl:2000 + 4<=100000))) ?_;refine zc0 (hK k _ _ (oz4 (ij7 k) e2.symm) ⟨us++vs',l,fd,_,⟨hr,W.b,?_,?_,R.hfd,?_,?_⟩,.inr ⟨_,rfl⟩,rfl⟩)
   ·rw [ik7 (zq0 W.h1),List.reverse_append]
   ·rw [iz9 (ix0 hlt)];exact W.h2
   ·rw [List.all_append,lay_in W.hv,W.hlay];rfl
   ·exact W.hg.adv Adv.refl.at_ (l21 0x81371187 hlt)
  ·have W:=R.pop hlt e1 e2
   have hfl:fd.length<=2000:=by have:=congrArg List.length R.hfd;rw [iq6] at this;exact l43 0x9a71989100007d048100007d047 hKb hnl this
   refine ze0 rfl (by rw [e1];simp) (zc0 ?_);refine za0 (xv9 W.h0) ?_;refine za0 (uq7 W.h0 (iq2 W.hn (nl rfl))) ?_;refine Rn.upd (wj5 h0) ?_;refine za0 vv9 (Rn.go 1 ?_);refine za0 (zj1 W.h2) ?_;refine za0 (yp5 W.h2 (l11 0x00007d0471000271047 hfl)) ?_;have hs4:(((s++[O.lst []]).set (σ++[O.lst []]).length (.lst vs'.reverse)).set σ.length (.lst (fd++[yk0 x q r' p])))[(σ++[O.lst []]).length]?=some (.lst vs'.reverse):=by rw [iz9 (ij5 hlt)];exact W.h1
   refine Rn.go 2 ?_;refine za0 (yb0 hs4) ?_;refine za0 (xf5 (us:=[.str (S "ref"),x,.tup q,r',p]) (zc0 ⟨rfl,rfl⟩) (za0 rfl (zc0 ⟨rfl,rfl⟩)) (by show 5<=SL;exact l00)) ?_;refine za0 (exn_ok hs4 (iq2 (iw7 W.hn 5:_<=2000 + 5) (ix4 rfl:2000 + 5<=100000))) ?_;refine zc0 (hK k _ _ (oz4 (ij7 k) e2.symm) ⟨[.str (S "ref"),x,.tup q,r',p]++vs',l',fd++[yk0 x q r' p],_,⟨hr,W.b,?_,?_,?_,?_,?_⟩,.inr ⟨_,rfl⟩,rfl⟩)
   ·rw [ik7 (zq0 hs4),List.reverse_append]
   ·rw [iz9 (ix0 hlt),ik7 (zq0 W.h2)]
   ·rw [iq0,<-R.hfd,e3];rfl
   ·rw [List.all_append,lay_in W.hv,W.hlay];rfl
   ·exact (W.hg.adv Adv.refl.at_ (l10 0x77)).adv Adv.refl.at_ (l21 0x81371187 hlt)
end
theorem yh3 (f:Lf):∀ v∈f.nts,∃ e:Ex,v=e.v/\e.dp<=0:=by
 cases f with
 | num i=>intro v hv;cases hv
 | ref x q=>intro v hv;rcases iq4.mp hv with rfl;exact ⟨.lf (.ref x q),rfl,iq1 _⟩
theorem wp1 (p:Prt):∀ v∈p.nts,∃ e:Ex,v=e.v/\e.dp<=0:=by
 cases p with
 | none=>intro v hv;cases hv
 | p1 a=>exact yh3 a
 | p2 a b=>intro v hv;rcases iz5.mp hv with hv|hv;exact yh3 a v hv;exact yh3 b v hv
theorem nts_mem:∀ (e:Ex),∀ v∈e.nts,∃ e':Ex,v=e'.v/\e'.dp<=e.dp:=by
 intro e;induction e with
 | lf f=>
  intro v hv;exact yh3 f v hv
 | neg a ih0a=>
  intro v hv;refine el11 (ih0a v hv) fun e' h1 h2=>?_;exact ⟨e',h1,by show e'.dp<=a.dp + 1;exact l21 0x87113817 h2⟩
 | bin s a b ih0a ih0b=>
  intro v hv;refine hid fun G kG=>?_;have hm:(Ex.bin s a b).dp=max a.dp b.dp + 1:=rfl;refine kG ?_;rcases iz5.mp hv with hv|hv
  ·obtain ⟨e',h1,h2⟩:=ih0a v hv;exact ⟨e',h1,l43 0x9a1a7113918d87 hm h2 (iz4 _ _)⟩
  ·obtain ⟨e',h1,h2⟩:=ih0b v hv;exact ⟨e',h1,l43 0x9a1a7113918d87 hm h2 (iz3 _ _)⟩
 | sub1 x q a p ih0a=>
  intro v hv;have hm:(Ex.sub1 x q a p).dp=a.dp + 1:=rfl;rcases ix7.mp hv with rfl|hv
  ·exact ⟨_,rfl,iq1 _⟩
  ·rcases iz5.mp hv with hv|hv
   ·obtain ⟨e',h1,h2⟩:=ih0a v hv;exact ⟨e',h1,l32 0x97113918d87 hm h2⟩
   ·obtain ⟨e',h1,h2⟩:=wp1 p v hv;exact ⟨e',h1,(ld ‹_› rfl)⟩
 | sub2 x q a b p ih0a ih0b=>
  intro v hv;have hm:(Ex.sub2 x q a b p).dp=max a.dp b.dp + 1:=rfl;rcases ix7.mp hv with rfl|hv
  ·exact ⟨_,rfl,iq1 _⟩
  ·rcases iz5.mp hv with hv|hv
   ·obtain ⟨e',h1,h2⟩:=ih0a v hv;exact ⟨e',h1,l43 0x9a1a7113918d87 hm h2 (iz4 _ _)⟩
   ·rcases iz5.mp hv with hv|hv
    ·obtain ⟨e',h1,h2⟩:=ih0b v hv;exact ⟨e',h1,l43 0x9a1a7113918d87 hm h2 (iz3 _ _)⟩
    ·obtain ⟨e',h1,h2⟩:=wp1 p v hv;exact ⟨e',h1,l21 0x037187 h2⟩
theorem ug7 {l:List V} (h1:l.all (zv4 60)=true):zy2 l l=some true:=by
 unfold zy2;rw [h1,SeqAt.eqvAll_refl _ (yf5 l h1).1];rfl
theorem eq_nts (e:Ex) (h:e.dp<=2):zy2 e.nts e.nts=some true:=by
 refine ug7 (iz0.mpr fun v hv=>?_);obtain ⟨e',rfl,h2⟩:=nts_mem e v hv;exact yb1 e' 60 (l22 0x87223823c6437221 h h2)
theorem uj5 (e:Ex) (h:e.dp<=2) (i:Int) (σ:zz0):zy8 .NotEq (.tup [e.v,.int i]) (.tup [e.v,.int i]) σ=.ok (.bool false) σ:=by
 have hp:zy2 [e.v,.int i] [e.v,.int i]=some true:=ug7 (by simp only [ij1,iw0,yb1 e 60 (l11 0x23723c6437221 h),uw3,iw6]);show liftO ((zy2 [e.v,.int i] [e.v,.int i]).map fun x=>V.bool !x) σ=_;refine (hp).symm▸?_;rfl
theorem uv2 (a:Ex) (h:a.dp<=2):Ln a.sh:=by
 have h1:=zp2 a.sh;have h2:=sh_len a;have h3:=yp6 h;exact iq2 h1 (iq2 (iv5 4 (iq2 h2 h3)) (nl rfl))
theorem ln_pl (a:Ex) (h:a.dp<=2):Ln a.pl:=by
 have h1:=zp2 a.pl;have h2:=yw0 a;have h3:=yp6 h;exact iq2 h1 (iq2 (iv5 4 (iq2 h2 h3)) (nl rfl))
theorem vp5 (a:Ex) (h:a.dp<=2):zy9 a 24:=show_all (fun b hb=>uv2 b hb) 2 a h (iq1 2)
noncomputable def pairX:Ex:=.sub2 .t .q0 (.lf (.ref .a .q0)) (.neg (.lf (.ref .b .q0))) .none
theorem expr_2 {t cs N:Nat}:yy0 t cs N 2 7:=wq3 (nl rfl) ug2 (wq3 (nl rfl) ug2 ug2)
theorem head_ref (e:Ex):∃ h,(∀ σ:zz0,zv7 e.v (.int 0) σ=.ok h σ)/\∀ σ:zz0,zy8 .NotEq h (.str (S "ref")) σ=.ok (.bool (!isRef e)) σ:=by
 cases e with
 | lf f=>cases f <;> exact ⟨_,fun U=>rfl,fun σ=>rfl⟩
 | bin s a b=>cases s <;> exact ⟨_,fun U=>rfl,fun σ=>rfl⟩
 | _=>exact ⟨_,fun U=>rfl,fun σ=>rfl⟩
theorem cut_last {T:List Nat} {c:Nat} {σ:zz0} (hS:(T++[c]).length<=SL):zy6 (.str (T++[c])) Option.none (some (-1)) σ=.ok (.str T) σ:=by
 show (if (T++[c]).length<=SL then _ else _)=_;rw [if_pos hS];refine congrArg (fun x=>Out.ok (V.str x) σ) ?_;refine (?_:((T++[c]).take (zb2 (-1) (T++[c]).length)).drop 0=T);have:zb2 (-1) (T++[c]).length=T.length:=by
  unfold zb2;rw [if_pos (show (-1:Int) < 0 from by decide),iq6,Int.add_comm];exact congrArg Int.toNat (Int.add_neg_cancel_right T.length 1)
 rw [this,List.drop_zero,List.take_left]
theorem law_tail {σ:zz0} {t cs N:Nat} (n:Nat) (h:Dr t cs N σ (0 + Bd 2) []):∃ (e:Ex) (σ':zz0),zz4 (n + 7) (.fn "_law_expr") [.loc t,.int (2:Nat),.loc N] σ=.ok e.v σ'/\e.dp<=2/\σ'[N]?=some (.lst e.nts):=
 el22 (expr_2 (n + 7) σ 0 [] (ik4 _ _) h) fun s1 e ee hd D1=>⟨e,s1,ee,hd,D1.notes⟩
theorem xq8:(zz2 pairX.sh == S "T ((A) (- B))")=true:=by decide +kernel
theorem last_ex (e:Ex):∃ c,(zz2 e.sh)[(zz2 e.sh).length - 1]?=some c:=by
 obtain ⟨c,r,hc,_⟩:=vq6 (yh9 e);have:(zz2 e.sh).length - 1 < (zz2 e.sh).length:=by rw [hc];simp
 exact ⟨_,ij6 this⟩
theorem eq_str {a b:List Nat} {r:Bool} {σ:zz0} (h:(a == b)=r):zy8 .Eq (.str a) (.str b) σ=.ok (.bool r) σ:=by
 show liftO ((some (a == b)).map V.bool) σ=_;rw [h];rfl
theorem vf3 (ns:List Int) {σ:zz0} (h:ns.length<=63):zy6 (.fz (ns.map V.int)) Option.none (some 60) σ=.ok (.loc σ.length) (σ++[.lst ((ns.take 60).map V.int)]):=by
 show (if (ns.map V.int).length<=SL then _ else _)=_;rw [if_pos (by rw [iq9];exact l11 0x3f671100000047 h)];refine congrArg (fun x=>Out.ok (V.loc σ.length) (σ++[.lst x])) ?_;show ((ns.map V.int).take (zb2 60 (ns.map V.int).length)).drop 0=_;rw [show zb2 (60:Int) (ns.map V.int).length=min 60 (ns.map V.int).length from wh7 (k:=60),List.drop_zero,<-List.map_take];congr 1;rw [iq9];by_cases q:60<=ns.length
 ·rw [Nat.min_eq_left q]
 ·rw [Nat.min_eq_right (by exact l11 0x3c6137113c67 (oq0 q)),oq1 (iq1 _),oq1 (by exact l11 0x3c6137113c67 (oq0 q))]
theorem list_loc {n i:Nat} {l:List V} {σ:zz0} (h:σ[i]?=some (.lst l)) (hl:l.length<=1000):zz4 (n + 1) (.typ "list") [.loc i] σ=.ok (.loc σ.length) (σ++[.lst l]):=by
 exact (zj7 (F:=fun l=>if l.length<=SL then Out.ok (V.loc σ.length) (σ++[.lst l]) else .bad) h).trans (if_pos (l11 0x00003e8471100000047 hl))
theorem vg5 {i:Nat} {l:List V} {σ:zz0} (h:σ[i]?=some (.lst l)) (hl:l.length<=1000):liftO (zv5 (.loc i) σ) σ=.ok (!l.isEmpty) σ:=by
 rw [show zv5 (.loc i) σ=_ from zj7 (F:=fun l=>if (l.length:Int) < big then some (!l.isEmpty) else Option.none) h,if_pos (iv9 (ix6.mpr hl) (by decide))];rfl
section
variable {n:Nat} {σ:zz0} {e:Ex} {X T W:V}
theorem uw5 (hd:e.dp<=2):Rn (cAt (zz4 (n + 200)) "law" 6 [("script",X),("tape",T),("notes",W),("expr",e.v),("text",.str (zz2 e.sh))] σ) fun v s=>v=.bool true:=by
 have hf:24<=n + 198:=iq2 (nl rfl) (ik4 198 n);refine el11 (zb5 (n:=n + 197) (σ:=σ) (e:=pairX) (F:=24) rfl (nl rfl) (fun a ha=>vp5 a (oz9 ha)) hf (uv2 pairX (iq1 _))) fun s8 e8 g8=>?_;refine el11 (head_ref e) fun h0 hh1 hh2=>?_;cases qr:isRef e with
 | false=>
  refine za0 e8 ?_;refine za0 (eq_str xq8) (Rn.go 1 ?_);refine za0 (hh1 _) ?_;refine za0 (qr▸hh2 _) (Rn.go 1 ?_);exact zc0 rfl
 | true=>
  refine el11 (zb5 (n:=n + 197) (σ:=s8) (e:=e) (F:=24) qr (ld hd rfl) (fun a ha=>vp5 a (iq2 (oz9 ha) hd)) hf (uv2 e hd)) fun s9 e9 g9=>?_;refine za0 e8 ?_;refine za0 (eq_str xq8) (Rn.go 1 ?_);refine za0 (hh1 _) ?_;refine za0 (qr▸hh2 _) (Rn.go 1 ?_);refine za0 e9 ?_;refine za0 (eq_str (beq_self_eq_true (zz2 e.sh))) ?_;exact zc0 rfl
theorem len10 (hd:e.dp<=2):e.sh.length<=10000/\e.pl.length<=10000:=by
 have h3:=yp6 hd;have h4:Pb 2<=10000:=nl rfl;exact ⟨iq2 (sh_len e) (iq2 h3 h4),iq2 (yw0 e) (iq2 h3 h4)⟩
theorem law_mid (hd:e.dp<=2):Rn (cAt (zz4 (n + 200)) "law" 5 [("script",X),("tape",T),("notes",W),("expr",e.v),("text",.str (zz2 e.sh))] σ) fun v s=>v=.bool true:=by
 have hl1:=uv2 e hd;refine el10 (last_ex e) fun cl hcl=>?_;by_cases qc:cl=41
 ·subst qc
  refine el10 (last_rp e.sh hcl) fun p0 hp0=>?_;have hch:zz2 e.sh=zz2 p0++[41]:=by rw [hp0,zz8];rfl
  have hno:pS 6 0 (toks p0)=.no:=refuse (v:=e.v) (by have h5:=xf1 e hd;rw [hp0,zq3] at h5;exact h5);have hsl:zy6 (.str (zz2 e.sh)) Option.none (some (-1)) σ=.ok (.str (zz2 p0)) σ:=by rw [hch];exact cut_last (by rw [<-hch];exact ld hl1 rfl)
  have hl0:(zz2 p0).length<=100000:=by
   have hl1:(zz2 e.sh).length<=100000:=hl1;rw [hch,iq6] at hl1;exact al hl1
  have hpl0:p0.length<=10000:=by
   have hp1:=(len10 hd).1;rw [hp0,iq6] at hp1;exact al hp1
  refine el10 (ww7 (n:=6) (m:=n + 188) (σ:=σ) hl0 rfl (qq4 p0 (hp0▸(apt_sh e).adj)) hpl0 (iq2 (nl rfl) (ik4 188 n)) hno) fun s7 e7=>?_;refine Rn.go 1 ?_;refine za0 (yb8 hcl (ld hl1 rfl)) (Rn.go 3 ?_);refine za0 hsl ?_;refine za0 e7 (Rn.go 1 ?_);refine zd0 rfl rfl ?_;refine Rn.no2 ?_;refine Rn.at "law" 6 ?_;exact uw5 hd
 ·refine Rn.go 1 ?_
  refine za0 (yb8 hcl (ld hl1 rfl)) (Rn.go 1 ?_);refine zd0 rfl (by show (cl == 41&&true)=false;rw [iw6,beq_eq_false_iff_ne];exact qc) ?_;refine Rn.no2 ?_;refine Rn.at "law" 6 ?_;exact uw5 hd
theorem vz4 {t cs N:Nat} (D:Dr t cs N σ (0 + Bd 2) []):Rn (cAt (zz4 (n + 200)) "law" 2 [("script",X),("tape",.loc t),("notes",.loc N)] σ) fun v s=>v=.bool true:=by
 refine el22 (law_tail (n + 193) D) fun e s1 ee hd hN=>?_;have hl1:=uv2 e hd;have hf:24<=n + 200:=iq2 (nl rfl) (ik4 200 n);have hf2:2 + e.dp<=n + 200:=iq2 (ij0 hd 2) (iq2 (nl rfl) (ik4 200 n));refine el11 (vp5 e hd (n + 200) hf s1) fun s2 es gs=>?_;refine el11 (yb4 (n:=6) (m:=n + 188) (σ:=s2) hl1 rfl (apt_sh e).adj (len10 hd).1 (iq2 (nl rfl) (ik4 188 n)) (xf1 e hd)) fun s3 er gr=>?_;refine el11 (plain_ok (fun a ha=>ln_pl a ha) e hd (n + 200) hf2 s3) fun s4 ep gp=>?_;refine el11 (yb4 (n:=7) (m:=n + 188) (σ:=s4) (ln_pl e hd) rfl (apt_pl e).adj (len10 hd).2 (iq2 (nl rfl) (ik4 188 n)) (vk7 e hd)) fun s5 eq gq=>?_;refine el22 (refs_ok (n:=n + 197) (σ:=s5) hd) fun s6 i6 ei hi gi=>?_;have hN6:=((((gs.trans gr).trans gp).trans gq).trans gi).keep hN;refine za0 ee ?_;refine za0 es ?_;refine za0 er ?_;refine za0 (uj5 e hd 0 _) (Rn.go 1 ?_);refine za0 ep ?_;refine za0 eq ?_;refine za0 (uj5 e hd 0 _) (Rn.go 1 ?_);refine za0 ei ?_;refine za0 (xv8 hi hN6 (eq_nts e hd)) ?_;refine zd0 rfl rfl ?_;refine Rn.no3 ?_;refine Rn.at "law" 5 ?_;exact law_mid hd
end
theorem wz0 {t cs N:Nat} {σ:zz0} {ys:List Int} (h1:σ[t]?=some (.lst [.loc cs,.int (0:Nat)])) (h2:σ[cs]?=some (.lst (ys.map V.int))) (h3:0 < ys.length) (h4:ys.length<=1000) (h5:σ[N]?=some (.lst [])) (h6:t≠cs/\t≠N/\cs≠N):Dr t cs N σ (0 + Bd 2) []:=
 ⟨⟨0,h1,nl rfl⟩,⟨ys,h2,h3,h4⟩,h5,nl rfl,h6⟩
theorem plain_law (n:Nat) (ns:List Int) (hns:ns.length<=63):∃ σ',zz4 (n + 201) (.fn "law") [.fz (ns.map V.int)] []=.ok (.bool true) σ':=by
 suffices hz:Rn (cFn (zz4 (n + 200)) "law" [.fz (ns.map V.int)] []) fun v s=>v=.bool true by
  exact el20 hz.fn fun v s h=>⟨s,h.2▸h.1⟩
 have hxs:((ns.take 60).map V.int).length<=60:=by rw [iq9,List.length_take];exact Nat.min_le_left _ _
 refine za0 (vf3 ns hns) ?_;refine za0 (list_loc zq4 (ld hxs rfl)) ?_;refine za0 (vg5 zq4 (ld hxs rfl)) ?_;generalize ns.take 60=xs at hxs ⊢;cases xs with
 | nil=>
  refine Rn.at "law" 2 ?_;exact vz4 (wz0 (t:=3) (cs:=2) (N:=4) (ys:=[0]) rfl rfl (nl rfl) (nl rfl) rfl ⟨nofun,nofun,nofun⟩)
 | cons x r=>
  exact vz4 (wz0 (t:=2) (cs:=1) (N:=3) (ys:=x::r) rfl rfl (iv7 _) (by rw [iq9] at hxs;exact ld hxs rfl) rfl ⟨nofun,nofun,nofun⟩)
end
end Mine
theorem PySem.Challenge.cw_pb0285_01_holds : PySem.Challenge.rw_pb0285_01.Holds := by
 exact Mine.holds_of fun ns h=>Mine.plain_law 100 ns h
