import PyProof.Rows.All
import Wide.All
import OpenK.AllK
import Wide.FinOn
import KE.KLam
import KE.KBoundM
import PyProof.StationsW
import PyProof.WalksMore
import PyProof.SliceMore
import PyProof.DictDisplay
import PyProof.P3Eq
import PyProof.NeKinds
import PyProof.DictStraight
import PyProof.ListMulAny
import PyProof.ListMulRoad
import PyProof.AutoIntOps
import KE.KBytesWalk
import KE.BytesMake
import PyProof.ListStr
import PyProof.CollectStr
import PyProof.DictWalks
import PyProof.IsiHeapPairs
import PyProof.IsiNone
import PyProof.RangeFor
import PyProof.WalkInts
import PyProof.Raises
import OpenK.ZHead
import Lean
import PySem.Challenge.RW_xm0204_01
set_option linter.all false
set_option genSizeOfSpec false
section
namespace Mine
theorem nb {G:Prop} (h:false=true):G:=Bool.noConfusion h
theorem nf {G:Prop} (h:true=false):G:=Bool.noConfusion h
theorem si {α:Type _} {a b:α} (h:some a=some b):a=b:=Option.some.inj h
theorem no {α:Type _} {a:α} {G:Prop} (h:none=some a):G:=by cases h
theorem on {α:Type _} {a:α} {G:Prop} (h:some a=none):G:=by cases h
theorem ci {α β:Type _} {a c:α} {b d:β} {l m:List (α×β)} (h:(a,b)::l=(c,d)::m):a=c/\b=d/\l=m:=⟨(Prod.mk.inj (List.cons.inj h).1).1,(Prod.mk.inj (List.cons.inj h).1).2,(List.cons.inj h).2⟩
theorem E0_2 {P0 P1:Prop} {G:Prop} (h:P0/\P1) (k:P0->P1->G):G:=k (h.1) (h.2)
theorem E1_1 {α0:Sort _} {P0:α0->Prop} {G:Prop} (h:∃x0:α0,P0 x0) (k:∀x0:α0,P0 x0->G):G:=Exists.elim h λx0 g0=>k x0 (g0)
theorem E0_3 {P0 P1 P2:Prop} {G:Prop} (h:P0/\P1/\P2) (k:P0->P1->P2->G):G:=k (h.1) (h.2.1) (h.2.2)
theorem E1_2 {α0:Sort _} {P0 P1:α0->Prop} {G:Prop} (h:∃x0:α0,P0 x0/\P1 x0) (k:∀x0:α0,P0 x0->P1 x0->G):G:=Exists.elim h λx0 g0=>k x0 (g0.1) (g0.2)
theorem E2_1 {α0:Sort _} {α1:Sort _} {P0:α0->α1->Prop} {G:Prop} (h:∃x0:α0,∃x1:α1,P0 x0 x1) (k:∀x0:α0,∀x1:α1,P0 x0 x1->G):G:=Exists.elim h λx0 g0=>Exists.elim g0 λx1 g1=>k x0 x1 (g1)
theorem E0_4 {P0 P1 P2 P3:Prop} {G:Prop} (h:P0/\P1/\P2/\P3) (k:P0->P1->P2->P3->G):G:=k (h.1) (h.2.1) (h.2.2.1) (h.2.2.2)
theorem E1_3 {α0:Sort _} {P0 P1 P2:α0->Prop} {G:Prop} (h:∃x0:α0,P0 x0/\P1 x0/\P2 x0) (k:∀x0:α0,P0 x0->P1 x0->P2 x0->G):G:=Exists.elim h λx0 g0=>k x0 (g0.1) (g0.2.1) (g0.2.2)
theorem E2_2 {α0:Sort _} {α1:Sort _} {P0 P1:α0->α1->Prop} {G:Prop} (h:∃x0:α0,∃x1:α1,P0 x0 x1/\P1 x0 x1) (k:∀x0:α0,∀x1:α1,P0 x0 x1->P1 x0 x1->G):G:=Exists.elim h λx0 g0=>Exists.elim g0 λx1 g1=>k x0 x1 (g1.1) (g1.2)
theorem E3_1 {α0:Sort _} {α1:Sort _} {α2:Sort _} {P0:α0->α1->α2->Prop} {G:Prop} (h:∃x0:α0,∃x1:α1,∃x2:α2,P0 x0 x1 x2) (k:∀x0:α0,∀x1:α1,∀x2:α2,P0 x0 x1 x2->G):G:=Exists.elim h λx0 g0=>Exists.elim g0 λx1 g1=>Exists.elim g1 λx2 g2=>k x0 x1 x2 (g2)
theorem E0_5 {P0 P1 P2 P3 P4:Prop} {G:Prop} (h:P0/\P1/\P2/\P3/\P4) (k:P0->P1->P2->P3->P4->G):G:=k (h.1) (h.2.1) (h.2.2.1) (h.2.2.2.1) (h.2.2.2.2)
theorem E1_4 {α0:Sort _} {P0 P1 P2 P3:α0->Prop} {G:Prop} (h:∃x0:α0,P0 x0/\P1 x0/\P2 x0/\P3 x0) (k:∀x0:α0,P0 x0->P1 x0->P2 x0->P3 x0->G):G:=Exists.elim h λx0 g0=>k x0 (g0.1) (g0.2.1) (g0.2.2.1) (g0.2.2.2)
theorem E2_3 {α0:Sort _} {α1:Sort _} {P0 P1 P2:α0->α1->Prop} {G:Prop} (h:∃x0:α0,∃x1:α1,P0 x0 x1/\P1 x0 x1/\P2 x0 x1) (k:∀x0:α0,∀x1:α1,P0 x0 x1->P1 x0 x1->P2 x0 x1->G):G:=Exists.elim h λx0 g0=>Exists.elim g0 λx1 g1=>k x0 x1 (g1.1) (g1.2.1) (g1.2.2)
theorem E3_2 {α0:Sort _} {α1:Sort _} {α2:Sort _} {P0 P1:α0->α1->α2->Prop} {G:Prop} (h:∃x0:α0,∃x1:α1,∃x2:α2,P0 x0 x1 x2/\P1 x0 x1 x2) (k:∀x0:α0,∀x1:α1,∀x2:α2,P0 x0 x1 x2->P1 x0 x1 x2->G):G:=Exists.elim h λx0 g0=>Exists.elim g0 λx1 g1=>Exists.elim g1 λx2 g2=>k x0 x1 x2 (g2.1) (g2.2)
theorem E2_4 {α0:Sort _} {α1:Sort _} {P0 P1 P2 P3:α0->α1->Prop} {G:Prop} (h:∃x0:α0,∃x1:α1,P0 x0 x1/\P1 x0 x1/\P2 x0 x1/\P3 x0 x1) (k:∀x0:α0,∀x1:α1,P0 x0 x1->P1 x0 x1->P2 x0 x1->P3 x0 x1->G):G:=Exists.elim h λx0 g0=>Exists.elim g0 λx1 g1=>k x0 x1 (g1.1) (g1.2.1) (g1.2.2.1) (g1.2.2.2)
theorem E3_3 {α0:Sort _} {α1:Sort _} {α2:Sort _} {P0 P1 P2:α0->α1->α2->Prop} {G:Prop} (h:∃x0:α0,∃x1:α1,∃x2:α2,P0 x0 x1 x2/\P1 x0 x1 x2/\P2 x0 x1 x2) (k:∀x0:α0,∀x1:α1,∀x2:α2,P0 x0 x1 x2->P1 x0 x1 x2->P2 x0 x1 x2->G):G:=Exists.elim h λx0 g0=>Exists.elim g0 λx1 g1=>Exists.elim g1 λx2 g2=>k x0 x1 x2 (g2.1) (g2.2.1) (g2.2.2)
theorem E2_5 {α0:Sort _} {α1:Sort _} {P0 P1 P2 P3 P4:α0->α1->Prop} {G:Prop} (h:∃x0:α0,∃x1:α1,P0 x0 x1/\P1 x0 x1/\P2 x0 x1/\P3 x0 x1/\P4 x0 x1) (k:∀x0:α0,∀x1:α1,P0 x0 x1->P1 x0 x1->P2 x0 x1->P3 x0 x1->P4 x0 x1->G):G:=Exists.elim h λx0 g0=>Exists.elim g0 λx1 g1=>k x0 x1 (g1.1) (g1.2.1) (g1.2.2.1) (g1.2.2.2.1) (g1.2.2.2.2)
theorem E3_4 {α0:Sort _} {α1:Sort _} {α2:Sort _} {P0 P1 P2 P3:α0->α1->α2->Prop} {G:Prop} (h:∃x0:α0,∃x1:α1,∃x2:α2,P0 x0 x1 x2/\P1 x0 x1 x2/\P2 x0 x1 x2/\P3 x0 x1 x2) (k:∀x0:α0,∀x1:α1,∀x2:α2,P0 x0 x1 x2->P1 x0 x1 x2->P2 x0 x1 x2->P3 x0 x1 x2->G):G:=Exists.elim h λx0 g0=>Exists.elim g0 λx1 g1=>Exists.elim g1 λx2 g2=>k x0 x1 x2 (g2.1) (g2.2.1) (g2.2.2.1) (g2.2.2.2)
theorem E3_5 {α0:Sort _} {α1:Sort _} {α2:Sort _} {P0 P1 P2 P3 P4:α0->α1->α2->Prop} {G:Prop} (h:∃x0:α0,∃x1:α1,∃x2:α2,P0 x0 x1 x2/\P1 x0 x1 x2/\P2 x0 x1 x2/\P3 x0 x1 x2/\P4 x0 x1 x2) (k:∀x0:α0,∀x1:α1,∀x2:α2,P0 x0 x1 x2->P1 x0 x1 x2->P2 x0 x1 x2->P3 x0 x1 x2->P4 x0 x1 x2->G):G:=Exists.elim h λx0 g0=>Exists.elim g0 λx1 g1=>Exists.elim g1 λx2 g2=>k x0 x1 x2 (g2.1) (g2.2.1) (g2.2.2.1) (g2.2.2.2.1) (g2.2.2.2.2)
theorem E3_6 {α0:Sort _} {α1:Sort _} {α2:Sort _} {P0 P1 P2 P3 P4 P5:α0->α1->α2->Prop} {G:Prop} (h:∃x0:α0,∃x1:α1,∃x2:α2,P0 x0 x1 x2/\P1 x0 x1 x2/\P2 x0 x1 x2/\P3 x0 x1 x2/\P4 x0 x1 x2/\P5 x0 x1 x2) (k:∀x0:α0,∀x1:α1,∀x2:α2,P0 x0 x1 x2->P1 x0 x1 x2->P2 x0 x1 x2->P3 x0 x1 x2->P4 x0 x1 x2->P5 x0 x1 x2->G):G:=Exists.elim h λx0 g0=>Exists.elim g0 λx1 g1=>Exists.elim g1 λx2 g2=>k x0 x1 x2 (g2.1) (g2.2.1) (g2.2.2.1) (g2.2.2.2.1) (g2.2.2.2.2.1) (g2.2.2.2.2.2)
theorem E4_7 {α0:Sort _} {α1:Sort _} {α2:Sort _} {α3:Sort _} {P0 P1 P2 P3 P4 P5 P6:α0->α1->α2->α3->Prop} {G:Prop} (h:∃x0:α0,∃x1:α1,∃x2:α2,∃x3:α3,P0 x0 x1 x2 x3/\P1 x0 x1 x2 x3/\P2 x0 x1 x2 x3/\P3 x0 x1 x2 x3/\P4 x0 x1 x2 x3/\P5 x0 x1 x2 x3/\P6 x0 x1 x2 x3) (k:∀x0:α0,∀x1:α1,∀x2:α2,∀x3:α3,P0 x0 x1 x2 x3->P1 x0 x1 x2 x3->P2 x0 x1 x2 x3->P3 x0 x1 x2 x3->P4 x0 x1 x2 x3->P5 x0 x1 x2 x3->P6 x0 x1 x2 x3->G):G:=Exists.elim h λx0 g0=>Exists.elim g0 λx1 g1=>Exists.elim g1 λx2 g2=>Exists.elim g2 λx3 g3=>k x0 x1 x2 x3 (g3.1) (g3.2.1) (g3.2.2.1) (g3.2.2.2.1) (g3.2.2.2.2.1) (g3.2.2.2.2.2.1) (g3.2.2.2.2.2.2)
theorem E6_7 {α0:Sort _} {α1:Sort _} {α2:Sort _} {α3:Sort _} {α4:Sort _} {α5:Sort _} {P0 P1 P2 P3 P4 P5 P6:α0->α1->α2->α3->α4->α5->Prop} {G:Prop} (h:∃x0:α0,∃x1:α1,∃x2:α2,∃x3:α3,∃x4:α4,∃x5:α5,P0 x0 x1 x2 x3 x4 x5/\P1 x0 x1 x2 x3 x4 x5/\P2 x0 x1 x2 x3 x4 x5/\P3 x0 x1 x2 x3 x4 x5/\P4 x0 x1 x2 x3 x4 x5/\P5 x0 x1 x2 x3 x4 x5/\P6 x0 x1 x2 x3 x4 x5) (k:∀x0:α0,∀x1:α1,∀x2:α2,∀x3:α3,∀x4:α4,∀x5:α5,P0 x0 x1 x2 x3 x4 x5->P1 x0 x1 x2 x3 x4 x5->P2 x0 x1 x2 x3 x4 x5->P3 x0 x1 x2 x3 x4 x5->P4 x0 x1 x2 x3 x4 x5->P5 x0 x1 x2 x3 x4 x5->P6 x0 x1 x2 x3 x4 x5->G):G:=Exists.elim h λx0 g0=>Exists.elim g0 λx1 g1=>Exists.elim g1 λx2 g2=>Exists.elim g2 λx3 g3=>Exists.elim g3 λx4 g4=>Exists.elim g4 λx5 g5=>k x0 x1 x2 x3 x4 x5 (g5.1) (g5.2.1) (g5.2.2.1) (g5.2.2.2.1) (g5.2.2.2.2.1) (g5.2.2.2.2.2.1) (g5.2.2.2.2.2.2)
theorem zn4 {P0 P1 P2 P3 P4 P5 P6 P7 P8 P9 P10 P11 P12 P13:Prop} {G:Prop} (h:P0/\P1/\P2/\P3/\P4/\P5/\P6/\P7/\P8/\P9/\P10/\P11/\P12/\P13) (k:P0->P1->P2->P3->P4->P5->P6->P7->P8->P9->P10->P11->P12->P13->G):G:=k (h.1) (h.2.1) (h.2.2.1) (h.2.2.2.1) (h.2.2.2.2.1) (h.2.2.2.2.2.1) (h.2.2.2.2.2.2.1) (h.2.2.2.2.2.2.2.1) (h.2.2.2.2.2.2.2.2.1) (h.2.2.2.2.2.2.2.2.2.1) (h.2.2.2.2.2.2.2.2.2.2.1) (h.2.2.2.2.2.2.2.2.2.2.2.1) (h.2.2.2.2.2.2.2.2.2.2.2.2.1) (h.2.2.2.2.2.2.2.2.2.2.2.2.2)
end Mine
end
section
open PySem PySem.W PyProof.Rows
set_option Elab.async false
set_option maxRecDepth 100000
set_option maxHeartbeats 0
namespace Mine
noncomputable abbrev Pw:=PySem.Challenge.pw_xm0204_01
noncomputable abbrev Rw:=PySem.Challenge.rw_xm0204_01
noncomputable def lkG1 (p:Program):Bool:=sreFenced p.main&&((moduleNames p.main.body).isEmpty||lookedIntoSs (moduleNames p.main.body) p.main.body)
noncomputable def lkG2 (p:Program):Bool:=namesResolve p
noncomputable def lkG3 (p:Program):Bool:=p.boundNames.all (λn=>!worldNames.contains n)
noncomputable def lkG4 (n:Str) (p:Program):Bool:=namesMeet p p.main.body (λsc x=>x !=n||!(sc.names.lookup x==some .globalImplicit||sc.names.lookup x==some .globalExplicit))
noncomputable def lkG5 (p:Program):Bool:=noRoadLSs { strict:=!(importedModules p.main.body).all cThrough.contains,foot:=none,bare:=[]} p.main.body
noncomputable def lkG6 (p:Program):Bool:=namesMeet p p.main.body (λ_ n=>attrL n)
theorem mkL:(λ(_ _ _ _ _:Program->Bool) (_:Str->Program->Bool)=>true) lkG1 lkG2 lkG3 lkG5 lkG6 lkG4=true:=by k_qdec
theorem lk1:lkG1 Pw=true:=by rw [PySem.W.Fast.te11526851799707051224];kernel_rfl
theorem lk3:lkG2 Pw=true:=by rw [PySem.W.Fast.te9253637692060464530];kernel_rfl
theorem lk4:lkG3 Pw=true:=by rw [PySem.W.Fast.te3442940100642411298];kernel_rfl
theorem lk5:lkG4 "vars" Pw=true:=by rw [PySem.W.Fast.te2052358599248730174];kernel_rfl
theorem lk6:lkG4 "dir" Pw=true:=by rw [PySem.W.Fast.te2052358599248730174];kernel_rfl
theorem lk7:lkG4 "locals" Pw=true:=by rw [PySem.W.Fast.te2052358599248730174];kernel_rfl
theorem lk8:lkG5 Pw=true:=by rw [PySem.W.Fast.te1317018359909164815];kernel_rfl
theorem lk9:lkG6 Pw=true:=by rw [PySem.W.Fast.te7955189674362633512];kernel_rfl
theorem lkO:looksOpen Pw=true:=by
  unfold looksOpen
  rw [show (sreFenced Pw.main&&((moduleNames Pw.main.body).isEmpty||lookedIntoSs (moduleNames Pw.main.body) Pw.main.body))=true from lk1,show namesResolve Pw=true from lk3,show Pw.boundNames.all (λn=>!worldNames.contains n)=true from lk4,show namesMeet Pw Pw.main.body (λ_ n=>attrL n)=true from lk9]
  have e:(["vars","dir","locals"]:List Str).filter (readsOut Pw Pw.main.body)=[]:=by
    rw [List.filter_cons,List.filter_cons,List.filter_cons]
    rw [show readsOut Pw Pw.main.body "vars"= !lkG4 "vars" Pw from rfl,show readsOut Pw Pw.main.body "dir"= !lkG4 "dir" Pw from rfl,show readsOut Pw Pw.main.body "locals"= !lkG4 "locals" Pw from rfl,lk5,lk6,lk7]
    rfl
  rw [e,show noRoadLSs _ Pw.main.body=true from lk8]
  rfl
theorem lkP:Rw.row.partSaid=true:=by
  unfold OpenRow.partSaid
  rw [show looksOpen Rw.row.prog=true from lkO]
  kernel_rfl
theorem lkR:Rw.row.wellSaid=true:=by
  unfold OpenRow.wellSaid
  rw [lkP]
  kernel_rfl
theorem lkL:Rw.wellSaid=true:=by
  unfold OpenLaw.wellSaid
  rw [lkR,PySem.W.Fast.te17119622794617984870,PySem.W.Fast.te8326940854005059898]
  kernel_rfl
theorem law_of (h:Rw.row.wellSaid=true->Rw.row.Holds):Rw.Holds:=holds_law lkL h
end Mine
end
section
open PySem PySem.W PyProof.Rows
set_option Elab.async false
namespace Mine
inductive PT where
  | nil
  | node (v:Option Obj) (l r:PT)
namespace PT
noncomputable def get:PT->Nat->Option Obj
  | .nil,_=>none
  | .node v l r,i=>match Nat.beq i 0 with
    | true=>v
    | false=>match Nat.beq (i % 2) 1 with
      | true=>l.get (i / 2)
      | false=>r.get (i / 2 - 1)
noncomputable def put:Nat->PT->Nat->Obj->PT
  | 0,_,_,_=>.nil
  | n + 1,t,i,o=>match Nat.beq i 0 with
    | true=>match t with
      | .nil=>.node (some o) .nil .nil
      | .node _ l r=>.node (some o) l r
    | false=>match Nat.beq (i % 2) 1 with
      | true=>match t with
        | .nil=>.node none (put n .nil (i / 2) o) .nil
        | .node v l r=>.node v (put n l (i / 2) o) r
      | false=>match t with
        | .nil=>.node none .nil (put n .nil (i / 2 - 1) o)
        | .node v l r=>.node v l (put n r (i / 2 - 1) o)
theorem zav (v:Option Obj) (l r:PT) (i:Nat):(node v l r).get i=if i=0 then v else if i % 2=1 then l.get (i / 2) else r.get (i / 2 - 1):=by
  show (match Nat.beq i 0 with | true=>v | false=>match Nat.beq (i % 2) 1 with | true=>l.get (i / 2) | false=>r.get (i / 2 - 1))=_
  rw [BT.beq_eq,BT.beq_eq]
  by_cases h:i=0
  · simp [h]
  · by_cases q:i % 2=1 <;> simp [h,q]
theorem zgh (n:Nat) (t:PT) (o:Obj):put (n + 1) t 0 o=match t with | .nil=>.node (some o) .nil .nil | .node _ l r=>.node (some o) l r:=rfl
theorem zh8 (n:Nat) (t:PT) (i:Nat) (o:Obj) (h:i % 2=1):put (n + 1) t i o=match t with | .nil=>.node none (put n .nil (i / 2) o) .nil | .node v l r=>.node v (put n l (i / 2) o) r:=by
  have h0:i≠0:=by omega
  conv=>lhs;unfold put
  rw [BT.beq_eq,BT.beq_eq,decide_eq_false h0,decide_eq_true h]
theorem zgi (n:Nat) (t:PT) (i:Nat) (o:Obj) (h0:i≠0) (h:¬ i % 2=1):put (n + 1) t i o=match t with | .nil=>.node none .nil (put n .nil (i / 2 - 1) o) | .node v l r=>.node v l (put n r (i / 2 - 1) o):=by
  conv=>lhs;unfold put
  rw [BT.beq_eq,BT.beq_eq,decide_eq_false h0,decide_eq_false h]
theorem half {i j:Nat} (h:j / 2=i / 2) (m:j % 2=i % 2):j=i:=by rw [<- Nat.div_add_mod j 2,h,m];exact Nat.div_add_mod i 2
theorem zgD {i:Nat} (h:i≠0) (p:¬ i % 2=1):i % 2=0/\0 < i / 2:=by
  rcases Nat.mod_two_eq_zero_or_one i with q | q
  · refine ⟨q,Nat.pos_of_ne_zero λz=>h ?_⟩
    have:=Nat.div_add_mod i 2
    rw [z,q] at this;exact this.symm
  · exact absurd q p
theorem zkD {i j:Nat} (hi:i≠0) (pi:¬ i % 2=1) (hj:j≠0) (pj:¬ j % 2=1) (h:j / 2 - 1=i / 2 - 1):j=i:=half (Nat.pred_inj (zgD hj pj).2 (zgD hi pi).2 h) ((zgD hj pj).1.trans (zgD hi pi).1.symm)
theorem get_put (o x:Obj):∀(n:Nat) (t:PT) (i j:Nat),(put n t i o).get j=some x->(j=i/\x=o)\/(j≠i/\t.get j=some x)
  | 0,_,_,_,h=>by exact no h
  | n + 1,t,i,j,h=>by
    by_cases h0:i=0
    · subst h0
      rw [zgh] at h
      cases t with
      | nil=>
        simp only at h
        rw [zav] at h
        by_cases hj:j=0
        · rw [if_pos hj] at h;(replace h:=si h;subst h);exact .inl ⟨hj,rfl⟩
        · rw [if_neg hj] at h;split at h <;> exact no h
      | node v l r=>
        simp only at h
        rw [zav] at h
        by_cases hj:j=0
        · rw [if_pos hj] at h;(replace h:=si h;subst h);exact .inl ⟨hj,rfl⟩
        · refine .inr ⟨hj,?_⟩
          rw [zav,if_neg hj]
          rw [if_neg hj] at h;exact h
    · by_cases hp:i % 2=1
      · rw [zh8 n t i o hp] at h
        cases t with
        | nil=>
          simp only at h
          rw [zav] at h
          by_cases hj:j=0
          · rw [if_pos hj] at h;exact no h
          · rw [if_neg hj] at h
            by_cases pj:j % 2=1
            · rw [if_pos pj] at h
              rcases get_put o x n .nil (i / 2) (j / 2) h with ⟨e,ex⟩ | ⟨_,e⟩
              · exact .inl ⟨half e (pj.trans hp.symm),ex⟩
              · exact no e
            · rw [if_neg pj] at h;exact no h
        | node v l r=>
          simp only at h
          rw [zav] at h
          by_cases hj:j=0
          · rw [if_pos hj] at h
            exact .inr ⟨λq=>h0 (q.symm.trans hj),by rw [zav,if_pos hj];exact h⟩
          · rw [if_neg hj] at h
            by_cases pj:j % 2=1
            · rw [if_pos pj] at h
              rcases get_put o x n l (i / 2) (j / 2) h with ⟨e,ex⟩ | ⟨ne,e⟩
              · exact .inl ⟨half e (pj.trans hp.symm),ex⟩
              · exact .inr ⟨by intro q;exact ne (by rw [q]),by rw [zav,if_neg hj,if_pos pj];exact e⟩
            · rw [if_neg pj] at h
              exact .inr ⟨by intro q;exact pj (q▸hp),by rw [zav,if_neg hj,if_neg pj];exact h⟩
      · rw [zgi n t i o h0 hp] at h
        cases t with
        | nil=>
          simp only at h
          rw [zav] at h
          by_cases hj:j=0
          · rw [if_pos hj] at h;exact no h
          · rw [if_neg hj] at h
            by_cases pj:j % 2=1
            · rw [if_pos pj] at h;exact no h
            · rw [if_neg pj] at h
              rcases get_put o x n .nil (i / 2 - 1) (j / 2 - 1) h with ⟨e,ex⟩ | ⟨_,e⟩
              · exact .inl ⟨zkD h0 hp hj pj e,ex⟩
              · exact no e
        | node v l r=>
          simp only at h
          rw [zav] at h
          by_cases hj:j=0
          · rw [if_pos hj] at h
            exact .inr ⟨λq=>h0 (q.symm.trans hj),by rw [zav,if_pos hj];exact h⟩
          · rw [if_neg hj] at h
            by_cases pj:j % 2=1
            · rw [if_pos pj] at h
              exact .inr ⟨by intro q;exact hp (q▸pj),by rw [zav,if_neg hj,if_pos pj];exact h⟩
            · rw [if_neg pj] at h
              rcases get_put o x n r (i / 2 - 1) (j / 2 - 1) h with ⟨e,ex⟩ | ⟨ne,e⟩
              · exact .inl ⟨zkD h0 hp hj pj e,ex⟩
              · exact .inr ⟨by intro q;exact ne (by rw [q]),by rw [zav,if_neg hj,if_neg pj];exact e⟩
end PT
structure Known (h:Heap) (T:PT) (n:Nat):Prop where
  size:h.objs.size=n
  at':∀i o,T.get i=some o->h.objs[i]? =some o
theorem zca {h:Heap} {a:Addr} {o:Obj} (e:h.objs[a]? =some o):h.get? a=alive o:=by
  unfold Heap.get?
  rw [e]
  obtain ⟨c,d,dt,sl⟩:=o
  cases dt <;> rfl
theorem Known.push {h:Heap} {T:PT} {n:Nat} (k:Known h T n) (o:Obj):Known (h.push o) (T.put 40 n o) (n + 1):=by
  obtain ⟨objs,life⟩:=h
  refine ⟨by show (objs.push o).size=n + 1;rw [Array.size_push];exact congrArg (· + 1) k.size,λi x e=>?_⟩
  show (objs.push o)[i]? =some x
  have hs:objs.size=n:=k.size
  rcases PT.get_put o x 40 T n i e with ⟨rfl,rfl⟩ | ⟨ne,e⟩
  · rw [Array.getElem?_push,if_pos hs.symm]
  · rw [Array.getElem?_push,if_neg (by rw [hs];exact ne)]
    exact k.at' i x e
theorem Known.update {h:Heap} {T:PT} {n:Nat} (k:Known h T n) {a:Addr} {o:Obj} {f:Obj->Obj} (e:T.get a=some o):Known (h.update a f) (T.put 40 a (f o)) n:=by
  obtain ⟨objs,life⟩:=h
  refine ⟨by show (objs.modify a f).size=n;rw [Array.size_modify];exact k.size,λi x e'=>?_⟩
  show (objs.modify a f)[i]? =some x
  rw [Array.getElem?_modify]
  rcases PT.get_put (f o) x 40 T a i e' with ⟨rfl,rfl⟩ | ⟨ne,e'⟩
  · rw [if_pos rfl,show objs[i]? =some o from k.at' _ _ e];rfl
  · rw [if_neg (Ne.symm ne)];exact k.at' i x e'
structure PS where
  tree:PT
  n:Nat
  gens:Array GenState
  drawn:Drawn
  toks:Nat
  os:OsState
noncomputable def Stays (S S':PS) (s s':Shared):Prop:=S.n<=S'.n/\∀i,i < S.n->S.tree.get i=none->s'.heap.objs[i]? =s.heap.objs[i]?/\S'.tree.get i=none
theorem Stays.refl (S:PS) (s:Shared):Stays S S s s:=⟨Nat.le_refl _,λ_ _ h=>⟨rfl,h⟩⟩
theorem Stays.trans {S S₁ S₂:PS} {s s₁ s₂:Shared} (a:Stays S S₁ s s₁) (b:Stays S₁ S₂ s₁ s₂):Stays S S₂ s s₂:=
  ⟨Nat.le_trans a.1 b.1,λi hi h=>by
    refine E0_2 (a.2 i hi h) λe1 n1=>?_
    refine E0_2 (b.2 i (Nat.lt_of_lt_of_le hi a.1) n1) λe2 n2=>?_
    exact ⟨e2.trans e1,n2⟩⟩
theorem zea {T:PT} {n i j:Nat} {o:Obj} (h:T.get j=none) (ne:j≠i):(T.put n i o).get j=none:=by
  cases e:(T.put n i o).get j with
  | none=>rfl
  | some x=>
    rcases PT.get_put o x n T i j e with ⟨q,_⟩ | ⟨_,q⟩
    · exact absurd q ne
    · rw [h] at q;exact no q
noncomputable def PS.Of (S:PS) (s:Shared):Prop:=Known s.heap S.tree S.n/\s.gens=S.gens/\s.drawn=S.drawn/\s.toks=S.toks/\s.os=S.os
noncomputable def ze4 (den:Code->Sem Fin) (p:Program) (w:World):PS->Thread->Option (PS×Thread)
  | ⟨T,n,gens,drawn,toks,os⟩,⟨cur,code,pos,stack⟩=>match cur with
    | .load a _ k=>(T.get a).bind λo=>(alive o).bind λo'=>some (⟨T,n,gens,drawn,toks,os⟩,⟨k o',code,pos,stack⟩)
    | .update a _ f k=>(T.get a).bind λo=>(alive o).bind λ_=>some (⟨T.put 40 a (f o),n,gens,drawn,toks,os⟩,⟨k (),code,pos,stack⟩)
    | .alloc o k=>some (⟨T.put 40 n o,n + 1,gens,drawn,toks,os⟩,⟨k n,code,pos,stack⟩)
    | .loadIfAlive a k=>(T.get a).bind λo=>some (⟨T,n,gens,drawn,toks,os⟩,⟨k (alive o),code,pos,stack⟩)
    | c=>match step den p w ⟨{},gens,drawn,toks,os⟩ ⟨c,code,pos,stack⟩ with
      | .go s' t'=>some (⟨T,n,s'.gens,s'.drawn,s'.toks,s'.os⟩,t')
      | .halt _ _=>none
noncomputable def zju:Sem Fin->Bool
  | .load _ _ _ | .update _ _ _ _ | .alloc _ _ | .loadIfAlive _ _=>false
  | _=>true
theorem zdC {den:Code->Sem Fin} {p:Program} {w:World} {T:PT} {n:Nat} {heap:Heap} {g:Array GenState} {d:Drawn} {tk:Nat} {o:OsState} {cur:Sem Fin} {code:Code} {pos:Pos} {stack:List Frame} {S':PS} {t':Thread} (K:Known heap T n)
    (hp:zju cur=true) (e:(match step den p w ⟨{},g,d,tk,o⟩ ⟨cur,code,pos,stack⟩ with
        | .go s' t'=>some ((⟨T,n,s'.gens,s'.drawn,s'.toks,s'.os⟩:PS),t')
        | .halt _ _=>none)=some (S',t')):∃s',step den p w ⟨heap,g,d,tk,o⟩ ⟨cur,code,pos,stack⟩=.go s' t'/\S'.Of s'/\Stays ⟨T,n,g,d,tk,o⟩ S' ⟨heap,g,d,tk,o⟩ s':=by
  cases q:step den p w ⟨{},g,d,tk,o⟩ ⟨cur,code,pos,stack⟩ with
  | halt x y=>rw [q] at e;exact no e
  | go s₀ t₀=>
    rw [q] at e
    refine E0_2 (Prod.mk.inj (si e)) λe1 e2=>?_
    subst e1;subst e2
    exact ⟨_,step_heap (λa q k z=>by subst z;exact nb hp) (λa q f k z=>by subst z;exact nb hp) (λo k z=>by subst z;exact nb hp) (λa k z=>by subst z;exact nb hp) q,⟨K,rfl,rfl,rfl,rfl⟩,Nat.le_refl _,λi _ h=>⟨rfl,h⟩⟩
theorem zcl {den:Code->Sem Fin} {p:Program} {w:World} {S S':PS} {t t':Thread} {s:Shared} (O:S.Of s) (e:ze4 den p w S t=some (S',t')):
    ∃s',step den p w s t=.go s' t'/\S'.Of s'/\Stays S S' s s':=by
  obtain ⟨T,n,gens,drawn,toks,os⟩:=S
  obtain ⟨heap,g,d,tk,o⟩:=s
  refine E0_5 O ?_;clear O;rintro K rfl rfl rfl rfl
  obtain ⟨cur,code,pos,stack⟩:=t
  dsimp only at K
  cases cur with
  | load a q k=>
    refine E1_2 (Option.bind_eq_some_iff.mp (show (T.get a).bind _=some _ from e)) λx g1 e=>?_
    refine E1_2 (Option.bind_eq_some_iff.mp e) λy al e=>?_
    refine E0_2 (Prod.mk.inj (si e)) λe1 e2=>?_
    subst e1;subst e2
    refine ⟨⟨heap,g,d,tk,o⟩,?_,⟨K,rfl,rfl,rfl,rfl⟩,Nat.le_refl _,λi _ h=>⟨rfl,h⟩⟩
    show (match heap.get? a with | some o=>_ | none=>_)=_
    rw [zca (K.at' _ _ g1),al]
  | update a q f k=>
    refine E1_2 (Option.bind_eq_some_iff.mp (show (T.get a).bind _=some _ from e)) λx g1 e=>?_
    refine E1_2 (Option.bind_eq_some_iff.mp e) λy al e=>?_
    refine E0_2 (Prod.mk.inj (si e)) λe1 e2=>?_
    subst e1;subst e2
    refine ⟨⟨heap.update a f,g,d,tk,o⟩,?_,⟨K.update g1,rfl,rfl,rfl,rfl⟩,Nat.le_refl _,λi _ h=>?_⟩
    rotate_left
    · have ne:i≠a:=λq=>by rw [q,g1] at h;exact on h
      refine ⟨?_,zea h ne⟩
      obtain ⟨objs,life⟩:=heap
      show (objs.modify a f)[i]? =objs[i]?
      rw [Array.getElem?_modify,if_neg (Ne.symm ne)]
    show (if (heap.get? a).isSome=true then _ else _)=_
    rw [zca (K.at' _ _ g1),al]
    exact if_pos rfl
  | alloc x k=>
    refine E0_2 (Prod.mk.inj (si (show some _=some _ from e))) λe1 e2=>?_
    subst e1;subst e2
    refine ⟨⟨heap.push x,g,d,tk,o⟩,?_,⟨K.push x,rfl,rfl,rfl,rfl⟩,Nat.le_succ _,λi hi h=>?_⟩
    rotate_left
    · have ne:i≠n:=Nat.ne_of_lt hi
      refine ⟨?_,zea h ne⟩
      obtain ⟨objs,life⟩:=heap
      show (objs.push x)[i]? =objs[i]?
      have hs:objs.size=n:=K.size
      rw [Array.getElem?_push,if_neg (by rw [hs];exact ne)]
    have hs:=K.size
    subst hs;rfl
  | loadIfAlive a k=>
    refine E1_2 (Option.bind_eq_some_iff.mp (show (T.get a).bind _=some _ from e)) λx g1 e=>?_
    refine E0_2 (Prod.mk.inj (si e)) λe1 e2=>?_
    subst e1;subst e2
    refine ⟨⟨heap,g,d,tk,o⟩,?_,⟨K,rfl,rfl,rfl,rfl⟩,Nat.le_refl _,λi _ h=>⟨rfl,h⟩⟩
    rw [<- zca (K.at' _ _ g1)];rfl
  | _=>exact zdC K rfl e
section
variable (tb:String->Option Builtin) (p:Program) (w:World) (n₀:Nat) (ann:Option Value) (b:Nat)
noncomputable def zbW:Nat->PS->Thread->Option (Flow×PS×Code×Pos)
  | 0,_,_=>none
  | n + 1,s,t=>match endAt b t with
    | some f=>some (f,s,t.code,t.pos)
    | none=>match stepOk n₀ ann t with
      | false=>none
      | true=>match ze4 (denote tb) p w s t with
        | some (s',t')=>zbW n s' t'
        | none=>none
theorem zbx:∀(n:Nat) (S S':PS) (t:Thread) (f:Flow) (c:Code) (q:Pos) (s:Shared),S.Of s->zbW tb p w n₀ ann b n S t=some (f,S',c,q)->∃s',segRun tb p w n₀ ann b n s t=some (f,s',c,q)/\S'.Of s'/\Stays S S' s s'
  | 0,_,_,_,_,_,_,_,_,h=>by simp [zbW] at h
  | n + 1,S,S',t,f,c,q,s,O,h=>by
    unfold zbW at h
    unfold segRun
    cases he:endAt b t with
    | some x=>rw [he] at h;cases h;exact ⟨s,rfl,O,Stays.refl _ _⟩
    | none=>
      rw [he] at h
      cases hk:stepOk n₀ ann t with
      | false=>rw [hk] at h;exact no h
      | true=>
        rw [hk] at h
        cases hs:ze4 (denote tb) p w S t with
        | none=>rw [hs] at h;exact no h
        | some r=>
          obtain ⟨S₂,t₂⟩:=r
          rw [hs] at h
          refine E1_3 (zcl O hs) λs₂ e₂ O₂ y₂=>?_
          rw [e₂]
          refine E1_3 (zbx n S₂ S' t₂ f c q s₂ O₂ h) λs₃ e₃ O₃ y₃=>?_
          exact ⟨s₃,e₃,O₃,y₂.trans y₃⟩
noncomputable def zd4:Nat->PS->Thread->Option (PS×Thread)
  | 0,s,t=>some (s,t)
  | n + 1,s,t=>match through t with
    | true=>none
    | false=>match stepOk n₀ ann t with
      | false=>none
      | true=>match ze4 (denote tb) p w s t with
        | some (s',t')=>zd4 n s' t'
        | none=>none
theorem zbT:∀(n:Nat) (S S':PS) (t t':Thread) (s:Shared),S.Of s->zd4 tb p w n₀ ann n S t=some (S',t')->∃s',topGo tb p w n₀ ann n s t=some (s',t')/\S'.Of s'/\Stays S S' s s'
  | 0,_,_,_,_,s,O,h=>by cases h;exact ⟨s,rfl,O,Stays.refl _ _⟩
  | n + 1,S,S',t,t',s,O,h=>by
    unfold zd4 at h
    unfold topGo
    cases ht:through t with
    | true=>rw [ht] at h;exact no h
    | false=>
      rw [ht] at h
      cases hk:stepOk n₀ ann t with
      | false=>rw [hk] at h;exact no h
      | true=>
        rw [hk] at h
        cases hs:ze4 (denote tb) p w S t with
        | none=>rw [hs] at h;exact no h
        | some r=>
          obtain ⟨S₂,t₂⟩:=r
          rw [hs] at h
          refine E1_3 (zcl O hs) λs₂ e₂ O₂ y₂=>?_
          rw [e₂]
          refine E1_3 (zbT n S₂ S' t₂ t' s₂ O₂ h) λs₃ e₃ O₃ y₃=>?_
          exact ⟨s₃,e₃,O₃,y₂.trans y₃⟩
end
end Mine
end
section
open PySem PySem.W PyProof.Rows
set_option Elab.async false
set_option maxRecDepth 100000
set_option maxHeartbeats 0
namespace Mine
noncomputable section
noncomputable def env0:Env:={ scope:=Pw.main.scope,locals:=mainNs,globals:=mainNs,cells:=[],code:=.ref 13,frame:=some 14}
noncomputable def cE:Code:=.body (behindTheImports Pw) env0
noncomputable def E (P:Params) (x:Str) (t:Nat) (v:Value):DictEntry:=⟨PyData.keyHash P x,.str x t,v⟩
noncomputable def fnAt (i:Nat):Arguments×List Stmt×Scope:=match Pw.main.body[i]? with | some (.FunctionDef _ a b _ _ _ sc _ _ _)=>(a,b,sc) | _=>(⟨[],[],none,[],[],none,[]⟩,[],default)
noncomputable def zaf (i j:Nat):Arguments×List Stmt×Scope:=match Pw.main.body[i]? with | some (.ClassDef _ _ _ cb _ _ _ _ _ _ _)=>(match cb[j]? with | some (.FunctionDef _ a b _ _ _ sc _ _ _)=>(a,b,sc) | _=>(⟨[],[],none,[],[],none,[]⟩,[],default)) | _=>(⟨[],[],none,[],[],none,[]⟩,[],default)
noncomputable def mkF (x:Arguments×List Stmt×Scope) (name qual:Str) (cl:List (Str×Addr)) (dV kV doc pm:Value) (an:Option Addr) (cd ct:Value):FuncData:={ name,qualname:=qual,params:=x.1,body:=.stmts x.2.1,scope:=x.2.2,globals:=3,closure:=cl,defaults:=dV,kwdefaults:=kV,doc,pyModule:=pm,annotations:=an,code:=cd,closureTuple:=ct,builtins:=0}
noncomputable abbrev PA:=Params->List (Addr×Obj)
noncomputable def eR (P:Params) (x:Str) (t:Nat) (a:Addr):DictEntry:=E P x t (.ref a)
noncomputable def eB (P:Params) (x:Str) (t:Nat) (n:String):DictEntry:=E P x t (.builtin n)
noncomputable def eT (P:Params) (x:Str) (t:Nat) (n:String):DictEntry:=E P x t (.type n)
noncomputable def rN:Nat->Value | 0=>.none | n + 1=>.ref (n + 1)
noncomputable def cut:Str:="/claim/cut.py"
noncomputable def cO (n q:Str) (a l g r v1 v2 v3 v4 v5 k:Nat):Obj:=⟨.type "code",none,.fields #[.str n a,.str q (a + 1),.str cut (a + 2),.int (.ofNat l) 0,.int (.ofNat g) 0,.int 0 0,.int 0 0,.int 3 0,.ref r,.bool true,.int 181 0,rN v1,rN v2,rN v3,rN v4,rN v5,.int (.ofNat k) 0,.int (.ofNat l) 0,.str cut (k + 1)],#[]⟩
noncomputable def sO (l:List (Nat×Nat)):Obj:=⟨.none,none,.fields (List.toArray (l.flatMap λp=>[.int (.ofNat p.1) 0,.int 0 0,.ref p.2])),#[]⟩
noncomputable def fO (x:Arguments×List Stmt×Scope) (d:Value) (n q m:Str) (t c:Nat):Obj:=⟨.type "function",none,.func (mkF x n q [] d .none .none (.str m t) none (.ref c) .none),#[]⟩
noncomputable def fA (i:Nat) (n q m:Str) (t c:Nat):Obj:=fO (fnAt i) .none n q m t c
noncomputable def gA (i j:Nat) (n q m:Str) (t c:Nat):Obj:=fO (zaf i j) .none n q m t c
noncomputable def fAD (d:Value) (i:Nat) (n q m:Str) (t c:Nat):Obj:=fO (fnAt i) d n q m t c
noncomputable def gAD (d:Value) (i j:Nat) (n q m:Str) (t c:Nat):Obj:=fO (zaf i j) d n q m t c
noncomputable def M0:Str:="chancore.values"
noncomputable def M1:Str:="chancore.plain_store"
noncomputable def M2:Str:="chancore.plain_ways"
noncomputable def M3:Str:="chancore.choices"
noncomputable def M4:Str:="chancore.plain_frames"
noncomputable def M5:Str:="chancore.types"
noncomputable def M6:Str:="chancore.plain_channels"
noncomputable def M7:Str:="chancore.plain_gates"
noncomputable def M8:Str:="chancore.texts"
noncomputable def M9:Str:="chancore.plain_rounds"
noncomputable def M10:Str:="chancore.plain_reader"
noncomputable def M11:Str:="chancore.world"
noncomputable def M12:Str:="law_xm0204_01"
noncomputable def mkPS (l:List (Addr×Obj)) (n toks:Nat) (os:OsState):PS:=⟨l.foldl (λt p=>t.put 40 p.1 p.2) .nil,n,#[],boot_drawn,toks,os⟩
noncomputable abbrev ObsT:=Option (Flow×Nat×Array GenState×Drawn×Nat×OsState×List (Option Obj)×Code×Pos)
noncomputable abbrev WT:=World->OsState->ObsT
noncomputable def obs (as:List Addr) (r:Option (Flow×PS×Code×Pos)):ObsT:=r.map λr=>(r.1,r.2.1.n,r.2.1.gens,r.2.1.drawn,r.2.1.toks,r.2.1.os,as.map r.2.1.tree.get,r.2.2.1,r.2.2.2)
noncomputable def pieceG (p:Program) (e:Env) (c:Code) (st ct N n tk:Nat) (pos:Pos) (l:List (Addr×Obj)) (as:List Addr) (w:World) (os:OsState):ObsT:=obs as (zbW treeTable p w 11 (some (.ref 6)) 1 N (mkPS l n tk os) (piecesOf ((p.main.body.drop st).take ct) e c pos [topFrame default]))
noncomputable def zay (st ct N n tk:Nat) (pos:Pos) (kb:Params->List (Addr×Obj)) (as:List Addr) (w:World) (os:OsState):ObsT:=pieceG Pw env0 cE st ct N n tk pos (kb w.params) as w os
theorem mkG:(λ(_:Program->Env->Code->Nat->Nat->Nat->Nat->Nat->Pos->List (Addr×Obj)->List Addr->World->OsState->ObsT)=>true) pieceG=true:=by k_qdec
theorem pcG {st ct N n tk:Nat} {pos:Pos} {kb:Params->List (Addr×Obj)} {as:List Addr} {w:World} {os:OsState} {r:ObsT} (h:PySem.W.Fast.tw7287170720140865528 Pw env0 cE st ct N n tk pos (kb w.params) as w os=r):zay st ct N n tk pos kb as w os=r:=by
  unfold zay;rw [PySem.W.Fast.te7287170720140865528];exact h
theorem pcB {L R:World->OsState->ObsT} {w:World} {os:OsState} (h0:L (w.withFollow "special-get-raises" false) os=R (w.withFollow "special-get-raises" false) os) (h1:L (w.withFollow "special-get-raises" true) os=R (w.withFollow "special-get-raises" true) os):L w os=R w os:=by
  have e:=World.withFollow_self w "special-get-raises"
  cases h:w.params.followText "special-get-raises" <;> rw [h] at e
  · rw [e] at h0;exact h0
  · rw [e] at h1;exact h1
noncomputable def zaI (n tk:Nat) (pos:Pos) (kb:Params->List (Addr×Obj)) (w:World) (os:OsState):ObsT:=some (.next,n,#[],boot_drawn,tk,os,(kb w.params).map (λp=>some p.2),cE,pos)
noncomputable def ob0 (P:Params):Obj:=⟨(.type "dict"),none,(.dict #[(E P "__name__" 1 (.str "builtins" 160)),eB P "__doc__" 2 "builtins.__doc__:str#opaque",eB P "__package__" 3 "builtins.__package__:str#opaque",eB P "__loader__" 4 "builtins.__loader__:shared#opaque",eB P "__spec__" 5 "builtins.__spec__#opaque",eB P "__build_class__" 6 "__build_class__",eB P "__import__" 7 "__import__",eB P "abs" 8 "abs",eB P "all" 9 "all",eB P "any" 10 "any",eB P "ascii" 11 "ascii",eB P "bin" 12 "bin",eB P "breakpoint" 13 "breakpoint",eB P "callable" 14 "callable",eB P "chr" 15 "chr",eB P "compile" 16 "compile",eB P "delattr" 17 "delattr",eB P "dir" 18 "dir",eB P "divmod" 19 "divmod",eB P "eval" 20 "eval",eB P "exec" 21 "exec",eB P "format" 22 "format",eB P "getattr" 23 "getattr",eB P "globals" 24 "globals",eB P "hasattr" 25 "hasattr",eB P "hash" 26 "hash",eB P "hex" 27 "hex",eB P "id" 28 "id",eB P "input" 29 "input",eB P "isinstance" 30 "isinstance",eB P "issubclass" 31 "issubclass",eB P "iter" 32 "iter",eB P "aiter" 33 "aiter",eB P "len" 34 "len",eB P "locals" 35 "locals",eB P "max" 36 "max",eB P "min" 37 "min",eB P "next" 38 "next",eB P "anext" 39 "anext",eB P "oct" 40 "oct",eB P "ord" 41 "ord",eB P "pow" 42 "pow",eB P "print" 43 "print",eB P "repr" 44 "repr",eB P "round" 45 "round",eB P "setattr" 46 "setattr",eB P "sorted" 47 "sorted",eB P "sum" 48 "sum",eB P "vars" 49 "vars",(E P "None" 50 .none),(E P "Ellipsis" 51 .ellipsis),(E P "NotImplemented" 52 .notImplemented),(E P "False" 53 (.bool false)),(E P "True" 54 (.bool true)),eT P "bool" 55 "bool",eT P "memoryview" 56 "memoryview",eT P "bytearray" 57 "bytearray",eT P "bytes" 58 "bytes",eT P "classmethod" 59 "classmethod",eT P "complex" 60 "complex",eT P "dict" 61 "dict",eT P "enumerate" 62 "enumerate",eT P "filter" 63 "filter",eT P "float" 64 "float",eT P "frozenset" 65 "frozenset",eT P "property" 66 "property",eT P "int" 67 "int",eT P "list" 68 "list",eT P "map" 69 "map",eT P "object" 70 "object",eT P "range" 71 "range",eT P "reversed" 72 "reversed",eT P "set" 73 "set",eT P "slice" 74 "slice",eT P "staticmethod" 75 "staticmethod",eT P "str" 76 "str",eT P "super" 77 "super",eT P "tuple" 78 "tuple",eT P "type" 79 "type",eT P "zip" 80 "zip",(E P "__debug__" 81 (.bool true)),eT P "BaseException" 82 "BaseException",eT P "BaseExceptionGroup" 83 "BaseExceptionGroup",eT P "Exception" 84 "Exception",eT P "GeneratorExit" 85 "GeneratorExit",eT P "KeyboardInterrupt" 86 "KeyboardInterrupt",eT P "SystemExit" 87 "SystemExit",eT P "ArithmeticError" 88 "ArithmeticError",eT P "AssertionError" 89 "AssertionError",eT P "AttributeError" 90 "AttributeError",eT P "BufferError" 91 "BufferError",eT P "EOFError" 92 "EOFError",eT P "ImportError" 93 "ImportError",eT P "LookupError" 94 "LookupError",eT P "MemoryError" 95 "MemoryError",eT P "NameError" 96 "NameError",eT P "OSError" 97 "OSError",eT P "ReferenceError" 98 "ReferenceError",eT P "RuntimeError" 99 "RuntimeError",eT P "StopAsyncIteration" 100 "StopAsyncIteration",eT P "StopIteration" 101 "StopIteration",eT P "SyntaxError" 102 "SyntaxError",eT P "SystemError" 103 "SystemError",eT P "TypeError" 104 "TypeError",eT P "ValueError" 105 "ValueError",eT P "Warning" 106 "Warning",eT P "FloatingPointError" 107 "FloatingPointError",eT P "OverflowError" 108 "OverflowError",eT P "ZeroDivisionError" 109 "ZeroDivisionError",eT P "BytesWarning" 110 "BytesWarning",eT P "DeprecationWarning" 111 "DeprecationWarning",eT P "EncodingWarning" 112 "EncodingWarning",eT P "FutureWarning" 113 "FutureWarning",eT P "ImportWarning" 114 "ImportWarning",eT P "PendingDeprecationWarning" 115 "PendingDeprecationWarning",eT P "ResourceWarning" 116 "ResourceWarning",eT P "RuntimeWarning" 117 "RuntimeWarning",eT P "SyntaxWarning" 118 "SyntaxWarning",eT P "UnicodeWarning" 119 "UnicodeWarning",eT P "UserWarning" 120 "UserWarning",eT P "BlockingIOError" 121 "BlockingIOError",eT P "ChildProcessError" 122 "ChildProcessError",eT P "ConnectionError" 123 "ConnectionError",eT P "FileExistsError" 124 "FileExistsError",eT P "FileNotFoundError" 125 "FileNotFoundError",eT P "InterruptedError" 126 "InterruptedError",eT P "IsADirectoryError" 127 "IsADirectoryError",eT P "NotADirectoryError" 128 "NotADirectoryError",eT P "PermissionError" 129 "PermissionError",eT P "ProcessLookupError" 130 "ProcessLookupError",eT P "TimeoutError" 131 "TimeoutError",eT P "IndentationError" 132 "IndentationError",eT P "_IncompleteInputError" 133 "_IncompleteInputError",eT P "IndexError" 134 "IndexError",eT P "KeyError" 135 "KeyError",eT P "ModuleNotFoundError" 136 "ModuleNotFoundError",eT P "NotImplementedError" 137 "NotImplementedError",eT P "PythonFinalizationError" 138 "PythonFinalizationError",eT P "RecursionError" 139 "RecursionError",eT P "UnboundLocalError" 140 "UnboundLocalError",eT P "UnicodeError" 141 "UnicodeError",eT P "BrokenPipeError" 142 "BrokenPipeError",eT P "ConnectionAbortedError" 143 "ConnectionAbortedError",eT P "ConnectionRefusedError" 144 "ConnectionRefusedError",eT P "ConnectionResetError" 145 "ConnectionResetError",eT P "TabError" 146 "TabError",eT P "UnicodeDecodeError" 147 "UnicodeDecodeError",eT P "UnicodeEncodeError" 148 "UnicodeEncodeError",eT P "UnicodeTranslateError" 149 "UnicodeTranslateError",eT P "ExceptionGroup" 150 "ExceptionGroup",eT P "EnvironmentError" 151 "OSError",eT P "IOError" 152 "OSError",eB P "open" 153 "open",eB P "quit" 154 "builtins.quit#opaque",eB P "exit" 155 "builtins.exit#opaque",eB P "copyright" 156 "builtins.copyright#opaque",eB P "credits" 157 "builtins.credits#opaque",eB P "license" 158 "builtins.license#opaque",eB P "help" 159 "builtins.help#opaque"] 159),#[]⟩
noncomputable def ob1l (P:Params):List DictEntry:=[(E P "__name__" 165 (.str "__main__" 164)),(E P "__doc__" 166 .none),(E P "__package__" 167 .none),eB P "__loader__" 168 "__main__.__loader__#opaque",(E P "__spec__" 169 .none),eR P "__annotations__" 170 6,eR P "__builtins__" 171 4,(E P "__file__" 173 (.str "/claim/cut.py" 172)),(E P "__cached__" 174 .none)]
noncomputable def ob1 (P:Params):Obj:=⟨.type "dict",none,.dict (ob1l P).toArray 9,#[]⟩
noncomputable def ob2 (P:Params):Obj:=⟨(.type "code"),none,(.fields #[(.str "<module>" 182),(.str "<module>" 183),(.str "/claim/cut.py" 184),(.int 1 0),(.int 0 0),(.int 0 0),(.int 0 0),(.int 0 0),(.ref 11),(.bool false),(.int 181 0),(.ref 12),.none,.none,.none,.none,(.int 185 0),(.int 1 0),(.str "/claim/cut.py" 186)]),#[]⟩
noncomputable def kb0:PA:=λP=>[(0,ob0 P),(2,⟨.none,none,(.dict #[] 0),#[]⟩),(3,ob1 P),(4,⟨(.type "module"),(some 0),.plain,#[]⟩),(12,⟨.none,none,(.fields #[]),#[]⟩),(13,ob2 P)]
noncomputable def ob3l (P:Params):List DictEntry:=(List.set (ob1l P) 0 ((E P "__name__" 165 (.str "chancore.errors" 194))))++[eR P "_wall" 193 21,eR P "ChanError" 227 39,eR P "NameFault" 243 52,eR P "TypeFault" 259 64,eR P "MachineFault" 285 83,eR P "FuelFault" 301 95,eR P "GoPanic" 326 114]
noncomputable def ob3 (P:Params):Obj:=⟨.type "dict",none,.dict (ob3l P).toArray 16,#[]⟩
noncomputable def ob4s:List (Nat×Nat):=[(1,20),(5,27),(11,48),(13,60),(15,72),(20,91),(22,103)]
noncomputable def ob4 (P:Params):Obj:=sO ob4s
noncomputable def kb1:PA:=λP=>[(0,ob0 P),(2,⟨.none,none,(.dict #[(E P "type.__subclasses__.Exception.0" 224 (.int 39 0)),(E P "type.__subclasses__.Exception.n" 225 (.int 1 0))] 2),#[]⟩),(3,ob3 P),(4,⟨(.type "module"),(some 0),.plain,#[]⟩),(12,ob4 P),(13,ob2 P)]
noncomputable def ko1:PA:=λP=>[]
noncomputable def kl1:PA:=λP=>kb1 P++ko1 P
noncomputable def lhs0:WT:=zay 0 8 1401 15 187 ⟨0,0,0,0⟩ kb0 [0,2,3,4,12,13]
noncomputable def rhs0:WT:=zaI 117 327 ⟨22,0,26,26⟩ kl1
theorem pc0 (w:World) (os:OsState):lhs0 w os=rhs0 w os:=pcG (by kernel_rfl)
noncomputable def ob5l (P:Params):List DictEntry:=(List.set (ob3l P) 0 ((E P "__name__" 165 (.str "chancore.plain_store" 415))))++[eR P "RUNTIME_ERROR" 329 117,eR P "runtime_panic" 336 124,eR P "LOOSE_TAGS" 342 125,(E P "MOST_PARTS" 346 (.int 1048576 345)),eR P "need_few" 354 132,eR P "value_tag" 361 139,eR P "values_equal" 376 147,eR P "value_key" 389 155,eR P "leaf_text" 397 162,eR P "value_text" 414 170,(E P "MOST_ELEMENTS" 420 (.int 1048576 419)),eR P "part_along" 429 177,eR P "with_part_along" 439 184,eR P "place_of_pointer" 446 191,eR P "pointer_to" 453 198,eR P "inner_place" 461 205,eR P "PlainMap" 516 241,eR P "PlainStore" 701 365]
noncomputable def ob5 (P:Params):Obj:=⟨.type "dict",none,.dict (ob5l P).toArray 34,#[]⟩
noncomputable def ob6s:List (Nat×Nat):=ob4s++[(28,123),(33,131),(36,138),(44,146),(67,154),(84,161),(91,169),(115,176),(119,183),(124,190),(128,197),(130,204),(132,211),(154,251)]
noncomputable def ob6 (P:Params):Obj:=sO ob6s
noncomputable def kb2:PA:=λP=>[(0,ob0 P),(2,⟨.none,none,(.dict #[(E P "type.__subclasses__.Exception.0" 224 (.int 39 0)),(E P "type.__subclasses__.Exception.n" 225 (.int 1 0))] 2),#[]⟩),(3,ob5 P),(4,⟨(.type "module"),(some 0),.plain,#[]⟩),(12,ob6 P),(13,ob2 P)]
noncomputable def ob7 (P:Params):Obj:=cO "need_few" "need_few" 347 33 2 126 127 0 128 129 130 352
noncomputable def ob8 (P:Params):Obj:=cO "value_tag" "value_tag" 355 36 1 133 134 0 135 136 137 359
noncomputable def ob9 (P:Params):Obj:=cO "value_key" "value_key" 377 67 3 149 150 0 151 152 153 387
noncomputable def ob10 (P:Params):Obj:=cO "part_along" "part_along" 421 115 2 171 172 0 173 174 175 427
noncomputable def ob11 (P:Params):Obj:=cO "with_part_along" "with_part_along" 430 119 3 178 179 0 180 181 182 437
noncomputable def ob12 (P:Params):Obj:=cO "inner_place" "inner_place" 454 130 2 199 200 0 201 202 203 459
noncomputable def ob13 (P:Params):Obj:=cO "__init__" "PlainMap.__init__" 474 134 1 213 214 0 215 216 217 478
noncomputable def ob14 (P:Params):Obj:=cO "entry_of" "PlainMap.entry_of" 481 138 2 220 221 0 222 223 224 487
noncomputable def ob15 (P:Params):Obj:=cO "put" "PlainMap.put" 490 144 4 227 228 0 229 230 231 498
noncomputable def ob16 (P:Params):Obj:=cO "take_out" "PlainMap.take_out" 501 152 2 234 235 0 0 0 236 504
noncomputable def ob17 (P:Params):Obj:=⟨(.type "dict"),none,(.dict #[(E P "__module__" 469 (.str "chancore.plain_store" 415)),(E P "__firstlineno__" 473 (.int 132 472)),eR P "__init__" 480 219,eR P "entry_of" 489 226,eR P "put" 500 233,eR P "take_out" 506 238,eR P "__static_attributes__" 509 239,eR P "__dict__" 511 242,eR P "__weakref__" 513 243,(E P "__doc__" 514 .none)] 4),#[]⟩
noncomputable def ob18 (P:Params):Obj:=⟨(.type "type"),none,(.cls { name:="PlainMap",bases:=[(.type "object")],mro:=[(.ref 241),(.type "object")],ns:=240,qualname:="PlainMap",hasDict:=true,slotNames:=[],subclasses:=[],abstract:=false,collection:=none,hasDel:=false}),#[none,none,(some (.str "PlainMap" 462)),(some (.str "PlainMap" 470)),(some (.builtin "object.__new__")),(some (.bool true))]⟩
noncomputable def ob19 (P:Params):Obj:=cO "__init__" "PlainStore.__init__" 529 156 2 253 254 0 255 256 257 534
noncomputable def ob20 (P:Params):Obj:=cO "new_cell" "PlainStore.new_cell" 537 162 2 260 261 0 262 263 264 542
noncomputable def ob21 (P:Params):Obj:=cO "new_row" "PlainStore.new_row" 545 166 2 267 268 0 269 270 271 550
noncomputable def ob22 (P:Params):Obj:=cO "load" "PlainStore.load" 553 170 2 274 275 0 276 277 278 561
noncomputable def ob23 (P:Params):Obj:=cO "store" "PlainStore.store" 564 176 3 281 282 0 283 284 285 574
noncomputable def ob24 (P:Params):Obj:=cO "whole_slice" "PlainStore.whole_slice" 577 184 2 288 289 0 290 291 292 582
noncomputable def ob25 (P:Params):Obj:=cO "element_place" "PlainStore.element_place" 585 187 3 295 296 0 297 298 299 591
noncomputable def ob26 (P:Params):Obj:=cO "slice_listed" "PlainStore.slice_listed" 594 192 2 302 303 0 0 0 304 597
noncomputable def ob27 (P:Params):Obj:=cO "put_listed" "PlainStore.put_listed" 600 195 4 307 308 0 309 310 311 609
noncomputable def ob28 (P:Params):Obj:=cO "part_of_slice" "PlainStore.part_of_slice" 612 199 5 314 315 0 316 317 318 625
noncomputable def ob29 (P:Params):Obj:=cO "joined_slice" "PlainStore.joined_slice" 628 208 4 321 322 0 323 324 325 639
noncomputable def ob30 (P:Params):Obj:=cO "new_map" "PlainStore.new_map" 642 223 1 328 329 0 330 331 332 646
noncomputable def ob31 (P:Params):Obj:=cO "map_of" "PlainStore.map_of" 649 227 2 335 336 0 337 338 339 654
noncomputable def ob32 (P:Params):Obj:=cO "looked_up" "PlainStore.looked_up" 657 230 3 342 343 0 344 345 346 666
noncomputable def ob33 (P:Params):Obj:=cO "put_key" "PlainStore.put_key" 669 235 4 349 350 0 351 352 353 676
noncomputable def ob34 (P:Params):Obj:=cO "drop_key" "PlainStore.drop_key" 679 240 3 356 357 0 358 359 360 687
noncomputable def ob35 (P:Params):Obj:=⟨(.type "dict"),none,(.dict #[(E P "__module__" 524 (.str "chancore.plain_store" 415)),(E P "__firstlineno__" 528 (.int 154 527)),eR P "__init__" 536 259,eR P "new_cell" 544 266,eR P "new_row" 552 273,eR P "load" 563 280,eR P "store" 576 287,eR P "whole_slice" 584 294,eR P "element_place" 593 301,eR P "slice_listed" 599 306,eR P "put_listed" 611 313,eR P "part_of_slice" 627 320,eR P "joined_slice" 641 327,eR P "new_map" 648 334,eR P "map_of" 656 341,eR P "looked_up" 668 348,eR P "put_key" 678 355,eR P "drop_key" 689 362,eR P "__static_attributes__" 694 363,eR P "__dict__" 696 366,eR P "__weakref__" 698 367,(E P "__doc__" 699 .none)] 4),#[]⟩
noncomputable def ob36 (P:Params):Obj:=⟨(.type "type"),none,(.cls { name:="PlainStore",bases:=[(.type "object")],mro:=[(.ref 365),(.type "object")],ns:=364,qualname:="PlainStore",hasDict:=true,slotNames:=[],subclasses:=[],abstract:=false,collection:=none,hasDel:=false}),#[none,none,(some (.str "PlainStore" 517)),(some (.str "PlainStore" 525)),(some (.builtin "object.__new__")),(some (.bool true))]⟩
noncomputable def ko2:PA:=λP=>[(125,⟨(.type "tuple"),none,(.seq #[(.str "slice" 339),(.str "map" 340),(.str "func" 341)] 0),#[]⟩),(131,ob7 P),(132,fA 13 "need_few" "need_few" M0 337 131),(138,ob8 P),(139,fA 14 "value_tag" "value_tag" M0 337 138),(148,⟨(.type "tuple"),none,(.seq #[.none] 0),#[]⟩),(154,ob9 P),(155,fAD (.ref 148) 16 "value_key" "value_key" M0 337 154),(176,ob10 P),(177,fA 21 "part_along" "part_along" M1 415 176),(183,ob11 P),(184,fA 22 "with_part_along" "with_part_along" M1 415 183),(204,ob12 P),(205,fA 25 "inner_place" "inner_place" M1 415 204),(218,ob13 P),(219,gA 26 0 "__init__" "PlainMap.__init__" M1 415 218),(225,ob14 P),(226,gA 26 1 "entry_of" "PlainMap.entry_of" M1 415 225),(232,ob15 P),(233,gA 26 2 "put" "PlainMap.put" M1 415 232),(237,ob16 P),(238,gA 26 3 "take_out" "PlainMap.take_out" M1 415 237),(240,ob17 P),(241,ob18 P),(258,ob19 P),(259,gA 27 0 "__init__" "PlainStore.__init__" M1 415 258),(265,ob20 P),(266,gA 27 1 "new_cell" "PlainStore.new_cell" M1 415 265),(272,ob21 P),(273,gA 27 2 "new_row" "PlainStore.new_row" M1 415 272),(279,ob22 P),(280,gA 27 3 "load" "PlainStore.load" M1 415 279),(286,ob23 P),(287,gA 27 4 "store" "PlainStore.store" M1 415 286),(293,ob24 P),(294,gA 27 5 "whole_slice" "PlainStore.whole_slice" M1 415 293),(300,ob25 P),(301,gA 27 6 "element_place" "PlainStore.element_place" M1 415 300),(305,ob26 P),(306,gA 27 7 "slice_listed" "PlainStore.slice_listed" M1 415 305),(312,ob27 P),(313,gA 27 8 "put_listed" "PlainStore.put_listed" M1 415 312),(319,ob28 P),(320,gA 27 9 "part_of_slice" "PlainStore.part_of_slice" M1 415 319),(326,ob29 P),(327,gA 27 10 "joined_slice" "PlainStore.joined_slice" M1 415 326),(333,ob30 P),(334,gA 27 11 "new_map" "PlainStore.new_map" M1 415 333),(340,ob31 P),(341,gA 27 12 "map_of" "PlainStore.map_of" M1 415 340),(347,ob32 P),(348,gA 27 13 "looked_up" "PlainStore.looked_up" M1 415 347),(354,ob33 P),(355,gA 27 14 "put_key" "PlainStore.put_key" M1 415 354),(361,ob34 P),(362,gA 27 15 "drop_key" "PlainStore.drop_key" M1 415 361),(364,ob35 P),(365,ob36 P)]
noncomputable def kl2:PA:=λP=>kb2 P++ko2 P
noncomputable def lhs1:WT:=zay 8 20 1511 117 327 ⟨22,0,26,26⟩ kb1 [0,2,3,4,12,13,125,131,132,138,139,148,154,155,176,177,183,184,204,205,218,219,225,226,232,233,237,238,240,241,258,259,265,266,272,273,279,280,286,287,293,294,300,301,305,306,312,313,319,320,326,327,333,334,340,341,347,348,354,355,361,362,364,365]
noncomputable def rhs1:WT:=zaI 370 702 ⟨154,0,243,32⟩ kl2
theorem pc1 (w:World) (os:OsState):lhs1 w os=rhs1 w os:=pcG (by kernel_rfl)
noncomputable def zjL (P:Params):List DictEntry:=(List.set (ob5l P) 0 ((E P "__name__" 165 (.str "chancore.lookup" 828))))++[eR P "MapRound" 738 391,eR P "is_place_at" 749 402,eR P "way_of_place" 760 409,eR P "begin_of_way" 770 416,eR P "place_on_way" 786 423,eR P "Choices" 827 447,eR P "Reached" 862 469,eR P "without_pointer" 869 480,eR P "own_methods" 877 487,eR P "members_at" 883 492,eR P "embedded_in" 897 499,eR P "Levels" 939 523,eR P "start_type" 949 534]
noncomputable def ob37 (P:Params):Obj:=⟨.type "dict",none,.dict (zjL P).toArray 47,#[]⟩
noncomputable def zjK:List (Nat×Nat):=ob6s++[(244,375),(260,401),(269,408),(280,415),(288,422),(300,429),(313,457),(319,479),(321,486),(323,491),(337,498),(346,505),(365,533)]
noncomputable def ob38 (P:Params):Obj:=sO zjK
noncomputable def kb3:PA:=λP=>[(0,ob0 P),(2,⟨.none,none,(.dict #[(E P "type.__subclasses__.Exception.0" 224 (.int 39 0)),(E P "type.__subclasses__.Exception.n" 225 (.int 1 0))] 2),#[]⟩),(3,ob37 P),(4,⟨(.type "module"),(some 0),.plain,#[]⟩),(12,ob38 P),(13,ob2 P)]
noncomputable def ob39 (P:Params):Obj:=cO "__init__" "MapRound.__init__" 714 246 2 377 378 0 379 380 381 719
noncomputable def ob40 (P:Params):Obj:=cO "next_entry" "MapRound.next_entry" 722 251 2 384 385 0 0 0 386 725
noncomputable def ob41 (P:Params):Obj:=⟨(.type "dict"),none,(.dict #[(E P "__module__" 709 (.str "chancore.plain_store" 415)),(E P "__firstlineno__" 713 (.int 244 712)),eR P "__init__" 721 383,eR P "next_entry" 727 388,eR P "__static_attributes__" 731 389,eR P "__dict__" 733 392,eR P "__weakref__" 735 393,(E P "__doc__" 736 .none)] 4),#[]⟩
noncomputable def ob42 (P:Params):Obj:=⟨(.type "type"),none,(.cls { name:="MapRound",bases:=[(.type "object")],mro:=[(.ref 391),(.type "object")],ns:=390,qualname:="MapRound",hasDict:=true,slotNames:=[],subclasses:=[],abstract:=false,collection:=none,hasDel:=false}),#[none,none,(some (.str "MapRound" 702)),(some (.str "MapRound" 710)),(some (.builtin "object.__new__")),(some (.bool true))]⟩
noncomputable def ob43 (P:Params):Obj:=cO "is_place_at" "is_place_at" 741 260 2 396 397 0 398 399 400 747
noncomputable def ob44 (P:Params):Obj:=cO "way_of_place" "way_of_place" 750 269 2 403 404 0 405 406 407 758
noncomputable def ob45 (P:Params):Obj:=cO "__init__" "Choices.__init__" 801 302 2 431 432 0 433 434 435 806
noncomputable def ob46 (P:Params):Obj:=cO "pick" "Choices.pick" 809 306 2 438 439 0 440 441 442 815
noncomputable def ob47 (P:Params):Obj:=⟨(.type "dict"),none,(.dict #[(E P "__module__" 796 (.str "chancore.choices" 787)),(E P "__firstlineno__" 800 (.int 300 799)),eR P "__init__" 808 437,eR P "pick" 817 444,eR P "__static_attributes__" 820 445,eR P "__dict__" 822 448,eR P "__weakref__" 824 449,(E P "__doc__" 825 .none)] 4),#[]⟩
noncomputable def ob48 (P:Params):Obj:=⟨(.type "type"),none,(.cls { name:="Choices",bases:=[(.type "object")],mro:=[(.ref 447),(.type "object")],ns:=446,qualname:="Choices",hasDict:=true,slotNames:=[],subclasses:=[],abstract:=false,collection:=none,hasDel:=false}),#[none,none,(some (.str "Choices" 789)),(some (.str "Choices" 797)),(some (.builtin "object.__new__")),(some (.bool true))]⟩
noncomputable def ko3:PA:=λP=>[(382,ob39 P),(383,gA 28 0 "__init__" "MapRound.__init__" M1 415 382),(387,ob40 P),(388,gA 28 1 "next_entry" "MapRound.next_entry" M1 415 387),(390,ob41 P),(391,ob42 P),(401,ob43 P),(402,fA 30 "is_place_at" "is_place_at" M2 739 401),(408,ob44 P),(409,fA 31 "way_of_place" "way_of_place" M2 739 408),(436,ob45 P),(437,gA 35 0 "__init__" "Choices.__init__" M3 787 436),(443,ob46 P),(444,gA 35 1 "pick" "Choices.pick" M3 787 443),(446,ob47 P),(447,ob48 P)]
noncomputable def kl3:PA:=λP=>kb3 P++ko3 P
noncomputable def lhs2:WT:=zay 28 16 1309 370 702 ⟨154,0,243,32⟩ kb2 [0,2,3,4,12,13,382,383,387,388,390,391,401,402,408,409,436,437,443,444,446,447]
noncomputable def rhs2:WT:=zaI 535 950 ⟨365,0,372,24⟩ kl3
theorem pc2 (w:World) (os:OsState):lhs2 w os=rhs2 w os:=pcG (by kernel_rfl)
noncomputable def zjJ (P:Params):List DictEntry:=(List.set (zjL P) 0 ((E P "__name__" 165 (.str "chancore.plain_frames" 1042))))++[eR P "find_member" 963 541,eR P "names_of_methods" 979 548,eR P "member_or_none" 988 555,eR P "is_in_set" 994 560,eR P "method_set" 1007 567,eR P "lack_of" 1018 574,eR P "implements" 1030 581,eR P "face_fits" 1041 588,eR P "PlainPanic" 1073 605,eR P "PlainCall" 1135 647,eR P "PlainRoutine" 1167 668,eR P "PlainRoutines" 1222 708]
noncomputable def ob49 (P:Params):Obj:=⟨.type "dict",none,.dict (zjJ P).toArray 59,#[]⟩
noncomputable def zjI:List (Nat×Nat):=zjK++[(373,540),(392,547),(403,554),(408,559),(412,566),(422,573),(428,580),(437,587),(442,594),(447,615),(475,657),(482,678)]
noncomputable def ob50 (P:Params):Obj:=sO zjI
noncomputable def kb4:PA:=λP=>[(0,ob0 P),(2,⟨.none,none,(.dict #[(E P "type.__subclasses__.Exception.0" 224 (.int 39 0)),(E P "type.__subclasses__.Exception.n" 225 (.int 1 0))] 2),#[]⟩),(3,ob49 P),(4,⟨(.type "module"),(some 0),.plain,#[]⟩),(12,ob50 P),(13,ob2 P)]
noncomputable def ob51 (P:Params):Obj:=cO "__init__" "PlainRoutines.__init__" 1180 484 2 680 681 0 682 683 684 1185
noncomputable def ob52 (P:Params):Obj:=cO "new_one" "PlainRoutines.new_one" 1188 489 1 687 688 0 689 690 691 1193
noncomputable def ob53 (P:Params):Obj:=cO "pick_one" "PlainRoutines.pick_one" 1196 496 1 694 695 0 0 0 696 1199
noncomputable def ob54 (P:Params):Obj:=cO "wake_one" "PlainRoutines.wake_one" 1202 503 3 699 700 0 701 702 703 1209
noncomputable def ob55 (P:Params):Obj:=⟨(.type "dict"),none,(.dict #[(E P "__module__" 1175 (.str "chancore.plain_frames" 1042)),(E P "__firstlineno__" 1179 (.int 482 1178)),eR P "__init__" 1187 686,eR P "new_one" 1195 693,eR P "pick_one" 1201 698,eR P "wake_one" 1211 705,eR P "__static_attributes__" 1215 706,eR P "__dict__" 1217 709,eR P "__weakref__" 1219 710,(E P "__doc__" 1220 .none)] 4),#[]⟩
noncomputable def ob56 (P:Params):Obj:=⟨(.type "type"),none,(.cls { name:="PlainRoutines",bases:=[(.type "object")],mro:=[(.ref 708),(.type "object")],ns:=707,qualname:="PlainRoutines",hasDict:=true,slotNames:=[],subclasses:=[],abstract:=false,collection:=none,hasDel:=false}),#[none,none,(some (.str "PlainRoutines" 1168)),(some (.str "PlainRoutines" 1176)),(some (.builtin "object.__new__")),(some (.bool true))]⟩
noncomputable def ko4:PA:=λP=>[(685,ob51 P),(686,gA 58 0 "__init__" "PlainRoutines.__init__" M4 1042 685),(692,ob52 P),(693,gA 58 1 "new_one" "PlainRoutines.new_one" M4 1042 692),(697,ob53 P),(698,gA 58 2 "pick_one" "PlainRoutines.pick_one" M4 1042 697),(704,ob54 P),(705,gA 58 3 "wake_one" "PlainRoutines.wake_one" M4 1042 704),(707,ob55 P),(708,ob56 P)]
noncomputable def kl4:PA:=λP=>kb4 P++ko4 P
noncomputable def lhs3:WT:=zay 44 15 1383 535 950 ⟨365,0,372,24⟩ kb3 [0,2,3,4,12,13,685,686,692,693,697,698,704,705,707,708]
noncomputable def rhs3:WT:=zaI 713 1223 ⟨482,0,508,29⟩ kl4
theorem pc3 (w:World) (os:OsState):lhs3 w os=rhs3 w os:=pcG (by kernel_rfl)
noncomputable def zjH (P:Params):List DictEntry:=(List.set (zjJ P) 0 ((E P "__name__" 165 (.str "chancore.plain_channels" 1376))))++[eR P "underlying_of" 1232 719,eR P "is_comparable" 1238 724,eR P "zero_value" 1244 729,eR P "POINTED_NAMES" 1254 730,eR P "face_receiver" 1272 737,eR P "part_of_receiver" 1287 744,eR P "resolved_call" 1298 751,eR P "begun_call" 1304 756,eR P "begun_builtin" 1314 763,eR P "enter_later" 1327 770,eR P "run_defers" 1337 777,eR P "results_of" 1343 782,eR P "behind_deferred" 1353 789,eR P "lead_on" 1368 796,eR P "recovered_by" 1375 803,(E P "CLOSED_SEND" 1379 (.str "send on closed channel" 1378)),(E P "CLOSED_TWICE" 1381 (.str "close of closed channel" 1380)),(E P "CLOSED_NIL" 1383 (.str "close of nil channel" 1382)),eR P "PlainChannel" 1414 820,eR P "PlainChannels" 1576 937]
noncomputable def ob57 (P:Params):Obj:=⟨.type "dict",none,.dict (zjH P).toArray 79,#[]⟩
noncomputable def zjG:List (Nat×Nat):=zjI++[(510,718),(512,723),(527,728),(542,736),(564,743),(570,750),(582,755),(596,762),(602,769),(611,776),(624,781),(629,788),(637,795),(650,802),(659,809),(665,830)]
noncomputable def ob58 (P:Params):Obj:=sO zjG
noncomputable def kb5:PA:=λP=>[(0,ob0 P),(2,⟨.none,none,(.dict #[(E P "type.__subclasses__.Exception.0" 224 (.int 39 0)),(E P "type.__subclasses__.Exception.n" 225 (.int 1 0))] 2),#[]⟩),(3,ob57 P),(4,⟨(.type "module"),(some 0),.plain,#[]⟩),(12,ob58 P),(13,ob2 P)]
noncomputable def ob59 (P:Params):Obj:=cO "zero_value" "zero_value" 1239 527 2 725 726 0 0 0 727 1242
noncomputable def ob60 (P:Params):Obj:=cO "__init__" "PlainChannels.__init__" 1427 667 1 832 833 0 834 835 836 1431
noncomputable def ob61 (P:Params):Obj:=cO "make_one" "PlainChannels.make_one" 1434 671 2 839 840 0 841 842 843 1439
noncomputable def ob62 (P:Params):Obj:=cO "size_of" "PlainChannels.size_of" 1442 675 2 846 847 0 848 849 850 1447
noncomputable def ob63 (P:Params):Obj:=cO "room_of" "PlainChannels.room_of" 1450 678 2 853 854 0 855 856 857 1455
noncomputable def ob64 (P:Params):Obj:=cO "first_waiting" "PlainChannels.first_waiting" 1458 681 3 860 861 0 862 863 864 1465
noncomputable def ob65 (P:Params):Obj:=cO "let_go" "PlainChannels.let_go" 1468 687 2 867 868 0 0 0 869 1471
noncomputable def ob66 (P:Params):Obj:=cO "may_send" "PlainChannels.may_send" 1474 690 2 872 873 0 874 875 876 1480
noncomputable def ob67 (P:Params):Obj:=cO "may_take" "PlainChannels.may_take" 1483 696 2 879 880 0 881 882 883 1489
noncomputable def ob68 (P:Params):Obj:=cO "may_do" "PlainChannels.may_do" 1492 702 3 886 887 0 888 889 890 1498
noncomputable def ob69 (P:Params):Obj:=cO "send_now" "PlainChannels.send_now" 1501 705 3 893 894 0 895 896 897 1509
noncomputable def ob70 (P:Params):Obj:=cO "take_now" "PlainChannels.take_now" 1512 716 2 900 901 0 902 903 904 1520
noncomputable def ob71 (P:Params):Obj:=cO "do_now" "PlainChannels.do_now" 1523 726 4 907 908 0 909 910 911 1530
noncomputable def ob72 (P:Params):Obj:=cO "close_now" "PlainChannels.close_now" 1533 729 2 914 915 0 916 917 918 1539
noncomputable def ob73 (P:Params):Obj:=cO "ended" "PlainChannels.ended" 1542 738 4 921 922 0 923 924 925 1551
noncomputable def ob74 (P:Params):Obj:=cO "wait_for" "PlainChannels.wait_for" 1554 746 3 928 929 0 930 931 932 1564
noncomputable def ob75 (P:Params):Obj:=⟨(.type "dict"),none,(.dict #[(E P "__module__" 1422 (.str "chancore.plain_channels" 1376)),(E P "__firstlineno__" 1426 (.int 665 1425)),eR P "__init__" 1433 838,eR P "make_one" 1441 845,eR P "size_of" 1449 852,eR P "room_of" 1457 859,eR P "first_waiting" 1467 866,eR P "let_go" 1473 871,eR P "may_send" 1482 878,eR P "may_take" 1491 885,eR P "may_do" 1500 892,eR P "send_now" 1511 899,eR P "take_now" 1522 906,eR P "do_now" 1532 913,eR P "close_now" 1541 920,eR P "ended" 1553 927,eR P "wait_for" 1566 934,eR P "__static_attributes__" 1569 935,eR P "__dict__" 1571 938,eR P "__weakref__" 1573 939,(E P "__doc__" 1574 .none)] 4),#[]⟩
noncomputable def ob76 (P:Params):Obj:=⟨(.type "type"),none,(.cls { name:="PlainChannels",bases:=[(.type "object")],mro:=[(.ref 937),(.type "object")],ns:=936,qualname:="PlainChannels",hasDict:=true,slotNames:=[],subclasses:=[],abstract:=false,collection:=none,hasDel:=false}),#[none,none,(some (.str "PlainChannels" 1415)),(some (.str "PlainChannels" 1423)),(some (.builtin "object.__new__")),(some (.bool true))]⟩
noncomputable def ko5:PA:=λP=>[(728,ob59 P),(729,fA 62 "zero_value" "zero_value" M5 1223 728),(837,ob60 P),(838,gA 81 0 "__init__" "PlainChannels.__init__" M6 1376 837),(844,ob61 P),(845,gA 81 1 "make_one" "PlainChannels.make_one" M6 1376 844),(851,ob62 P),(852,gA 81 2 "size_of" "PlainChannels.size_of" M6 1376 851),(858,ob63 P),(859,gA 81 3 "room_of" "PlainChannels.room_of" M6 1376 858),(865,ob64 P),(866,gA 81 4 "first_waiting" "PlainChannels.first_waiting" M6 1376 865),(870,ob65 P),(871,gA 81 5 "let_go" "PlainChannels.let_go" M6 1376 870),(877,ob66 P),(878,gA 81 6 "may_send" "PlainChannels.may_send" M6 1376 877),(884,ob67 P),(885,gA 81 7 "may_take" "PlainChannels.may_take" M6 1376 884),(891,ob68 P),(892,gA 81 8 "may_do" "PlainChannels.may_do" M6 1376 891),(898,ob69 P),(899,gA 81 9 "send_now" "PlainChannels.send_now" M6 1376 898),(905,ob70 P),(906,gA 81 10 "take_now" "PlainChannels.take_now" M6 1376 905),(912,ob71 P),(913,gA 81 11 "do_now" "PlainChannels.do_now" M6 1376 912),(919,ob72 P),(920,gA 81 12 "close_now" "PlainChannels.close_now" M6 1376 919),(926,ob73 P),(927,gA 81 13 "ended" "PlainChannels.ended" M6 1376 926),(933,ob74 P),(934,gA 81 14 "wait_for" "PlainChannels.wait_for" M6 1376 933),(936,ob75 P),(937,ob76 P)]
noncomputable def kl5:PA:=λP=>kb5 P++ko5 P
noncomputable def lhs4:WT:=zay 59 23 1426 713 1223 ⟨482,0,508,29⟩ kb4 [0,2,3,4,12,13,728,729,837,838,844,845,851,852,858,859,865,866,870,871,877,878,884,885,891,892,898,899,905,906,912,913,919,920,926,927,933,934,936,937]
noncomputable def rhs4:WT:=zaI 942 1577 ⟨665,0,749,75⟩ kl5
theorem pc4 (w:World) (os:OsState):lhs4 w os=rhs4 w os:=pcG (by kernel_rfl)
noncomputable def zjF (P:Params):List DictEntry:=(List.set (zjH P) 0 ((E P "__name__" 165 (.str "chancore.reader_builtins" 1848))))++[eR P "PlainGates" 1641 984,(E P "WRONG_RUNE" 1645 (.int 65533 1644)),(E P "LAST_RUNE" 1647 (.int 1114111 1646)),(E P "FIRST_HALF" 1649 (.int 55296 1648)),(E P "LAST_HALF" 1651 (.int 57343 1650)),eR P "LONG_HEADS" 1661 992,eR P "is_right_rune" 1668 999,eR P "head_of" 1679 1006,eR P "rune_at" 1693 1013,eR P "runes_of" 1704 1020,eR P "rune_places" 1715 1027,eR P "octets_of_rune" 1721 1032,eR P "octets_of" 1727 1037,eR P "cut_text" 1736 1044,eR P "CountedRound" 1789 1075,eR P "ToldRound" 1837 1110,eR P "round_over" 1847 1121]
noncomputable def ob77 (P:Params):Obj:=⟨.type "dict",none,.dict (zjF P).toArray 96,#[]⟩
noncomputable def zjE:List (Nat×Nat):=zjG++[(751,947),(797,998),(799,1005),(805,1012),(818,1019),(825,1026),(832,1031),(840,1036),(842,1043),(847,1050),(865,1085),(878,1120)]
noncomputable def ob78 (P:Params):Obj:=sO zjE
noncomputable def kb6:PA:=λP=>[(0,ob0 P),(2,⟨.none,none,(.dict #[(E P "type.__subclasses__.Exception.0" 224 (.int 39 0)),(E P "type.__subclasses__.Exception.n" 225 (.int 1 0))] 2),#[]⟩),(3,ob77 P),(4,⟨(.type "module"),(some 0),.plain,#[]⟩),(12,ob78 P),(13,ob2 P)]
noncomputable def ob79 (P:Params):Obj:=cO "__init__" "PlainGates.__init__" 1591 753 1 949 950 0 951 952 953 1595
noncomputable def ob80 (P:Params):Obj:=cO "lock_now" "PlainGates.lock_now" 1598 758 3 956 957 0 958 959 960 1604
noncomputable def ob81 (P:Params):Obj:=cO "unlock_now" "PlainGates.unlock_now" 1607 765 2 963 964 0 965 966 967 1613
noncomputable def ob82 (P:Params):Obj:=cO "add_now" "PlainGates.add_now" 1616 775 3 970 971 0 0 0 972 1619
noncomputable def ob83 (P:Params):Obj:=cO "wait_now" "PlainGates.wait_now" 1622 786 3 975 976 0 977 978 979 1628
noncomputable def ob84 (P:Params):Obj:=⟨(.type "dict"),none,(.dict #[(E P "__module__" 1586 (.str "chancore.plain_gates" 1577)),(E P "__firstlineno__" 1590 (.int 751 1589)),eR P "__init__" 1597 955,eR P "lock_now" 1606 962,eR P "unlock_now" 1615 969,eR P "add_now" 1621 974,eR P "wait_now" 1630 981,eR P "__static_attributes__" 1634 982,eR P "__dict__" 1636 985,eR P "__weakref__" 1638 986,(E P "__doc__" 1639 .none)] 4),#[]⟩
noncomputable def ob85 (P:Params):Obj:=⟨(.type "type"),none,(.cls { name:="PlainGates",bases:=[(.type "object")],mro:=[(.ref 984),(.type "object")],ns:=983,qualname:="PlainGates",hasDict:=true,slotNames:=[],subclasses:=[],abstract:=false,collection:=none,hasDel:=false}),#[none,none,(some (.str "PlainGates" 1579)),(some (.str "PlainGates" 1587)),(some (.builtin "object.__new__")),(some (.bool true))]⟩
noncomputable def ob86 (P:Params):Obj:=cO "is_right_rune" "is_right_rune" 1662 797 1 993 994 0 995 996 997 1666
noncomputable def ob87 (P:Params):Obj:=cO "head_of" "head_of" 1669 799 1 1000 1001 0 1002 1003 1004 1677
noncomputable def ob88 (P:Params):Obj:=cO "rune_at" "rune_at" 1680 805 2 1007 1008 0 1009 1010 1011 1691
noncomputable def ob89 (P:Params):Obj:=cO "rune_places" "rune_places" 1705 825 1 1021 1022 0 1023 1024 1025 1713
noncomputable def ob90 (P:Params):Obj:=cO "__init__" "CountedRound.__init__" 1751 849 4 1052 1053 0 1054 1055 1056 1758
noncomputable def ob91 (P:Params):Obj:=cO "next_turn" "CountedRound.next_turn" 1761 855 2 1059 1060 0 1061 1062 1063 1766
noncomputable def ob92 (P:Params):Obj:=cO "item_at" "CountedRound.item_at" 1769 861 3 1066 1067 0 1068 1069 1070 1775
noncomputable def ob93 (P:Params):Obj:=⟨(.type "dict"),none,(.dict #[(E P "__module__" 1746 (.str "chancore.plain_rounds" 1737)),(E P "__firstlineno__" 1750 (.int 847 1749)),eR P "__init__" 1760 1058,eR P "next_turn" 1768 1065,eR P "item_at" 1777 1072,eR P "__static_attributes__" 1782 1073,eR P "__dict__" 1784 1076,eR P "__weakref__" 1786 1077,(E P "__doc__" 1787 .none)] 4),#[]⟩
noncomputable def ob94 (P:Params):Obj:=⟨(.type "type"),none,(.cls { name:="CountedRound",bases:=[(.type "object")],mro:=[(.ref 1075),(.type "object")],ns:=1074,qualname:="CountedRound",hasDict:=true,slotNames:=[],subclasses:=[],abstract:=false,collection:=none,hasDel:=false}),#[none,none,(some (.str "CountedRound" 1739)),(some (.str "CountedRound" 1747)),(some (.builtin "object.__new__")),(some (.bool true))]⟩
noncomputable def ob95 (P:Params):Obj:=cO "__init__" "ToldRound.__init__" 1802 867 3 1087 1088 0 1089 1090 1091 1808
noncomputable def ob96 (P:Params):Obj:=cO "next_turn" "ToldRound.next_turn" 1811 871 2 1094 1095 0 1096 1097 1098 1816
noncomputable def ob97 (P:Params):Obj:=cO "item_at" "ToldRound.item_at" 1819 876 3 1101 1102 0 1103 1104 1105 1825
noncomputable def ob98 (P:Params):Obj:=⟨(.type "dict"),none,(.dict #[(E P "__module__" 1797 (.str "chancore.plain_rounds" 1737)),(E P "__firstlineno__" 1801 (.int 865 1800)),eR P "__init__" 1810 1093,eR P "next_turn" 1818 1100,eR P "item_at" 1827 1107,eR P "__static_attributes__" 1830 1108,eR P "__dict__" 1832 1111,eR P "__weakref__" 1834 1112,(E P "__doc__" 1835 .none)] 4),#[]⟩
noncomputable def ob99 (P:Params):Obj:=⟨(.type "type"),none,(.cls { name:="ToldRound",bases:=[(.type "object")],mro:=[(.ref 1110),(.type "object")],ns:=1109,qualname:="ToldRound",hasDict:=true,slotNames:=[],subclasses:=[],abstract:=false,collection:=none,hasDel:=false}),#[none,none,(some (.str "ToldRound" 1790)),(some (.str "ToldRound" 1798)),(some (.builtin "object.__new__")),(some (.bool true))]⟩
noncomputable def zm4 (P:Params):Obj:=cO "round_over" "round_over" 1838 878 3 1115 1116 0 1117 1118 1119 1845
noncomputable def ko6:PA:=λP=>[(954,ob79 P),(955,gA 83 0 "__init__" "PlainGates.__init__" M7 1577 954),(961,ob80 P),(962,gA 83 1 "lock_now" "PlainGates.lock_now" M7 1577 961),(968,ob81 P),(969,gA 83 2 "unlock_now" "PlainGates.unlock_now" M7 1577 968),(973,ob82 P),(974,gA 83 3 "add_now" "PlainGates.add_now" M7 1577 973),(980,ob83 P),(981,gA 83 4 "wait_now" "PlainGates.wait_now" M7 1577 980),(983,ob84 P),(984,ob85 P),(989,⟨(.type "tuple"),none,(.seq #[(.int 192 1652),(.int 223 1653),(.int 128 1654)] 0),#[]⟩),(990,⟨(.type "tuple"),none,(.seq #[(.int 224 1655),(.int 239 1656),(.int 2048 1657)] 0),#[]⟩),(991,⟨(.type "tuple"),none,(.seq #[(.int 240 1658),(.int 247 1659),(.int 65536 1660)] 0),#[]⟩),(992,⟨(.type "tuple"),none,(.seq #[(.ref 989),(.ref 990),(.ref 991)] 0),#[]⟩),(998,ob86 P),(999,fA 90 "is_right_rune" "is_right_rune" M8 1642 998),(1005,ob87 P),(1006,fA 91 "head_of" "head_of" M8 1642 1005),(1012,ob88 P),(1013,fA 92 "rune_at" "rune_at" M8 1642 1012),(1026,ob89 P),(1027,fA 94 "rune_places" "rune_places" M8 1642 1026),(1057,ob90 P),(1058,gA 99 0 "__init__" "CountedRound.__init__" M9 1737 1057),(1064,ob91 P),(1065,gA 99 1 "next_turn" "CountedRound.next_turn" M9 1737 1064),(1071,ob92 P),(1072,gA 99 2 "item_at" "CountedRound.item_at" M9 1737 1071),(1074,ob93 P),(1075,ob94 P),(1092,ob95 P),(1093,gA 100 0 "__init__" "ToldRound.__init__" M9 1737 1092),(1099,ob96 P),(1100,gA 100 1 "next_turn" "ToldRound.next_turn" M9 1737 1099),(1106,ob97 P),(1107,gA 100 2 "item_at" "ToldRound.item_at" M9 1737 1106),(1109,ob98 P),(1110,ob99 P),(1120,zm4 P),(1121,fA 101 "round_over" "round_over" M9 1737 1120)]
noncomputable def kl6:PA:=λP=>kb6 P++ko6 P
noncomputable def lhs5:WT:=zay 82 21 1308 942 1577 ⟨665,0,749,75⟩ kb5 [0,2,3,4,12,13,954,955,961,962,968,969,973,974,980,981,983,984,989,990,991,992,998,999,1005,1006,1012,1013,1026,1027,1057,1058,1064,1065,1071,1072,1074,1075,1092,1093,1099,1100,1106,1107,1109,1110,1120,1121]
noncomputable def rhs5:WT:=zaI 1122 1850 ⟨889,0,889,8⟩ kl6
theorem pc5 (w:World) (os:OsState):lhs5 w os=rhs5 w os:=pcG (by kernel_rfl)
noncomputable def zhg (P:Params):List DictEntry:=(List.set (zjF P) 0 ((E P "__name__" 165 (.str "chancore.integers" 2025))))++[(E P "MOST_ROOM" 1853 (.int 1048576 1852)),eR P "NOTHING_TOLD" 1855 1123,eR P "GATE_NAMES" 1862 1124,eR P "do_builtin" 1874 1131,eR P "builtin_value" 1887 1138,eR P "deed_done" 1893 1143,eR P "values_listed" 1901 1150,eR P "chosen_of" 1911 1157,eR P "size_told" 1921 1164,eR P "made_thing" 1933 1171,eR P "pass_gate" 1947 1178,eR P "number_of_channel" 1954 1185,eR P "do_send" 1966 1192,eR P "do_receive" 1977 1199,eR P "meet_channel" 1992 1206,eR P "do_sent" 2002 1213,eR P "do_got" 2015 1220,eR P "received_told" 2024 1227]
noncomputable def zm3 (P:Params):Obj:=⟨.type "dict",none,.dict (zhg P).toArray 114,#[]⟩
noncomputable def zhf:List (Nat×Nat):=zjE++[(893,1130),(903,1137),(920,1142),(932,1149),(934,1156),(940,1163),(954,1170),(969,1177),(984,1184),(986,1191),(989,1198),(992,1205),(1001,1212),(1003,1219),(1007,1226)]
noncomputable def zjP (P:Params):Obj:=sO zhf
noncomputable def kb7:PA:=λP=>[(0,ob0 P),(2,⟨.none,none,(.dict #[(E P "type.__subclasses__.Exception.0" 224 (.int 39 0)),(E P "type.__subclasses__.Exception.n" 225 (.int 1 0))] 2),#[]⟩),(3,zm3 P),(4,⟨(.type "module"),(some 0),.plain,#[]⟩),(12,zjP P),(13,ob2 P)]
noncomputable def ko7:PA:=λP=>[]
noncomputable def kl7:PA:=λP=>kb7 P++ko7 P
noncomputable def lhs6:WT:=zay 103 19 544 1122 1850 ⟨889,0,889,8⟩ kb6 [0,2,3,4,12,13]
noncomputable def rhs6:WT:=zaI 1228 2027 ⟨1011,0,1011,8⟩ kl7
theorem pc6 (w:World) (os:OsState):lhs6 w os=rhs6 w os:=pcG (by kernel_rfl)
noncomputable def zhe (P:Params):List DictEntry:=zhg P++[eR P "KIND_BITS" 2057 1228]
noncomputable def zm2 (P:Params):Obj:=⟨.type "dict",none,.dict (zhe P).toArray 115,#[]⟩
noncomputable def kb8:PA:=λP=>[(0,ob0 P),(2,⟨.none,none,(.dict #[(E P "type.__subclasses__.Exception.0" 224 (.int 39 0)),(E P "type.__subclasses__.Exception.n" 225 (.int 1 0))] 2),#[]⟩),(3,zm2 P),(4,⟨(.type "module"),(some 0),.plain,#[]⟩),(12,zjP P),(13,ob2 P)]
noncomputable def ko8:PA:=λP=>[]
noncomputable def kl8:PA:=λP=>kb8 P++ko8 P
noncomputable def lhs7:WT:=zay 122 1 161 1228 2027 ⟨1011,0,1011,8⟩ kb7 [0,2,3,4,12,13]
noncomputable def rhs7:WT:=zaI 1229 2058 ⟨1012,0,1012,9⟩ kl8
theorem pc7 (w:World) (os:OsState):lhs7 w os=rhs7 w os:=pcB (L:=lhs7) (R:=rhs7) (pcG (by kernel_rfl)) (pcG (by kernel_rfl))
noncomputable def zhd (P:Params):List DictEntry:=(List.set (zhe P) 0 ((E P "__name__" 165 (.str "chancore.reader_statements" 2368))))++[eR P "SHIFTING_OPS" 2060 1229,eR P "has_sign" 2067 1236,eR P "least_int" 2074 1243,eR P "wrapped_int" 2083 1250,eR P "cut_quotient" 2092 1257,eR P "shifted_int" 2102 1264,eR P "exact_result" 2112 1271,eR P "int_arithmetic" 2122 1278,eR P "int_unary" 2131 1285,eR P "is_ordered_so" 2140 1292,eR P "COMPARING_SIGNS" 2149 1293,eR P "OCTET_KIND" 2152 1294,(E P "MOST_OCTETS" 2156 (.int 1048576 2155)),eR P "asked_values" 2162 1299,eR P "ask_value" 2174 1306,eR P "told_value" 2180 1311,eR P "parts_asked" 2186 1316,eR P "parts_of_value" 2192 1321,eR P "do_load" 2203 1328,eR P "do_pointer" 2214 1335,eR P "do_second" 2225 1342,eR P "do_made" 2237 1349,eR P "count_of_parts" 2243 1354,eR P "made_of" 2255 1361,eR P "part_of_value" 2264 1368,eR P "joined_texts" 2272 1375,eR P "plain_binary" 2283 1382,eR P "plain_converted" 2295 1389,eR P "plain_asserted" 2307 1396,eR P "plain_looked_up" 2319 1403,eR P "plain_cut" 2337 1410,eR P "new_thing" 2343 1415,eR P "bound_method" 2352 1422,eR P "do_call" 2367 1429,eR P "statements_told" 2376 1436,eR P "do_rows" 2390 1443,eR P "do_statement" 2402 1450,eR P "plain_tasks" 2410 1457,eR P "later_tasks" 2420 1464,eR P "long_tasks" 2428 1471,eR P "do_drop" 2438 1478,eR P "do_either" 2449 1485,eR P "do_behind" 2459 1492]
noncomputable def zm1 (P:Params):Obj:=⟨.type "dict",none,.dict (zhd P).toArray 158,#[]⟩
noncomputable def zhc:List (Nat×Nat):=zhf++[(1014,1235),(1016,1242),(1018,1249),(1021,1256),(1024,1263),(1029,1270),(1046,1277),(1050,1284),(1054,1291),(1068,1298),(1070,1305),(1086,1310),(1097,1315),(1114,1320),(1131,1327),(1134,1334),(1137,1341),(1142,1348),(1146,1353),(1150,1360),(1171,1367),(1178,1374),(1182,1381),(1190,1388),(1202,1395),(1210,1402),(1215,1409),(1230,1414),(1250,1421),(1256,1428),(1263,1435),(1265,1442),(1270,1449),(1285,1456),(1294,1463),(1298,1470),(1309,1477),(1311,1484),(1317,1491)]
noncomputable def zm0 (P:Params):Obj:=sO zhc
noncomputable def kb9:PA:=λP=>[(0,ob0 P),(2,⟨.none,none,(.dict #[(E P "type.__subclasses__.Exception.0" 224 (.int 39 0)),(E P "type.__subclasses__.Exception.n" 225 (.int 1 0))] 2),#[]⟩),(3,zm1 P),(4,⟨(.type "module"),(some 0),.plain,#[]⟩),(12,zm0 P),(13,ob2 P)]
noncomputable def ko9:PA:=λP=>[]
noncomputable def kl9:PA:=λP=>kb9 P++ko9 P
noncomputable def lhs8:WT:=zay 123 45 1301 1229 2058 ⟨1012,0,1012,9⟩ kb8 [0,2,3,4,12,13]
noncomputable def rhs8:WT:=zaI 1493 2460 ⟨1317,0,1318,8⟩ kl9
theorem pc8 (w:World) (os:OsState):lhs8 w os=rhs8 w os:=pcG (by kernel_rfl)
noncomputable def zhb (P:Params):List DictEntry:=(List.set (zhd P) 0 ((E P "__name__" 165 (.str "chancore.plain_reader" 2851))))++[eR P "parts_of_target" 2467 1499,eR P "assign_at" 2478 1506,eR P "value_before" 2490 1513,eR P "assigning_tasks" 2496 1518,eR P "values_told" 2504 1525,eR P "do_assign" 2510 1530,eR P "do_before" 2521 1537,eR P "do_update" 2539 1544,eR P "do_let" 2555 1551,eR P "do_give" 2568 1558,eR P "do_given" 2581 1565,eR P "do_return" 2594 1572,eR P "read_callee" 2603 1579,eR P "do_go" 2619 1586,eR P "do_defer" 2632 1593,eR P "do_turn" 2643 1600,eR P "do_turned" 2653 1607,eR P "begin_turn" 2661 1614,eR P "do_again" 2673 1621,eR P "do_walk" 2685 1628,eR P "name_given" 2693 1635,eR P "walk_on" 2707 1642,eR P "do_item" 2721 1649,eR P "do_take" 2734 1656,eR P "do_taken" 2749 1663,eR P "do_ask" 2764 1670,eR P "do_asked" 2778 1677,eR P "enter_row" 2789 1684,eR P "do_typed" 2806 1691,eR P "begin_named" 2817 1698,eR P "select_parts" 2827 1705,eR P "do_select" 2833 1710,eR P "do_selected" 2850 1717,eR P "do_point" 2862 1724,eR P "do_defers" 2872 1731]
noncomputable def zmZ (P:Params):Obj:=⟨.type "dict",none,.dict (zhb P).toArray 193,#[]⟩
noncomputable def zha:List (Nat×Nat):=zhc++[(1319,1498),(1323,1505),(1332,1512),(1337,1517),(1345,1524),(1347,1529),(1355,1536),(1358,1543),(1364,1550),(1371,1557),(1374,1564),(1377,1571),(1383,1578),(1386,1585),(1395,1592),(1401,1599),(1407,1606),(1410,1613),(1412,1620),(1420,1627),(1423,1634),(1425,1641),(1438,1648),(1441,1655),(1444,1662),(1450,1669),(1459,1676),(1465,1683),(1471,1690),(1481,1697),(1485,1704),(1490,1709),(1510,1716),(1520,1723),(1522,1730)]
noncomputable def zjO (P:Params):Obj:=sO zha
noncomputable def kb10:PA:=λP=>[(0,ob0 P),(2,⟨.none,none,(.dict #[(E P "type.__subclasses__.Exception.0" 224 (.int 39 0)),(E P "type.__subclasses__.Exception.n" 225 (.int 1 0))] 2),#[]⟩),(3,zmZ P),(4,⟨(.type "module"),(some 0),.plain,#[]⟩),(12,zjO P),(13,ob2 P)]
noncomputable def ko10:PA:=λP=>[]
noncomputable def kl10:PA:=λP=>kb10 P++ko10 P
noncomputable def lhs9:WT:=zay 168 36 1185 1493 2460 ⟨1317,0,1318,8⟩ kb9 [0,2,3,4,12,13]
noncomputable def rhs9:WT:=zaI 1732 2873 ⟨1522,0,1523,34⟩ kl10
theorem pc9 (w:World) (os:OsState):lhs9 w os=rhs9 w os:=pcG (by kernel_rfl)
noncomputable def zg9 (P:Params):List DictEntry:=zhb P++[eR P "TASK_DEEDS" 2951 1732]
noncomputable def zmY (P:Params):Obj:=⟨.type "dict",none,.dict (zg9 P).toArray 194,#[]⟩
noncomputable def kb11:PA:=λP=>[(0,ob0 P),(2,⟨.none,none,(.dict #[(E P "type.__subclasses__.Exception.0" 224 (.int 39 0)),(E P "type.__subclasses__.Exception.n" 225 (.int 1 0))] 2),#[]⟩),(3,zmY P),(4,⟨(.type "module"),(some 0),.plain,#[]⟩),(12,zjO P),(13,ob2 P)]
noncomputable def ko11:PA:=λP=>[]
noncomputable def kl11:PA:=λP=>kb11 P++ko11 P
noncomputable def zj0:WT:=zay 204 1 781 1732 2873 ⟨1522,0,1523,34⟩ kb10 [0,2,3,4,12,13]
noncomputable def zjn:WT:=zaI 1735 2952 ⟨1524,0,1524,10⟩ kl11
theorem pc10 (w:World) (os:OsState):zj0 w os=zjn w os:=pcB (L:=zj0) (R:=zjn) (pcG (by kernel_rfl)) (pcG (by kernel_rfl))
noncomputable def zg8 (P:Params):List DictEntry:=(List.set (zg9 P) 0 ((E P "__name__" 165 (.str "law_xm0204_01" 3224))))++[eR P "all_functions" 2957 1739,eR P "PlainRun" 3106 1840,eR P "PLAIN" 3110 1847,eR P "NamedRow" 3145 1864,eR P "known_rows" 3158 1875,eR P "World" 3223 1907,eR P "_law_pot" 3234 1918,eR P "_law_scoop" 3243 1925]
noncomputable def zmX (P:Params):Obj:=⟨.type "dict",none,.dict (zg8 P).toArray 202,#[]⟩
noncomputable def zg7:List (Nat×Nat):=zha++[(1525,1738),(1532,1745),(1614,1853),(1621,1874),(1630,1881),(1669,1917),(1673,1924)]
noncomputable def zmW (P:Params):Obj:=sO zg7
noncomputable def kb12:PA:=λP=>[(0,ob0 P),(2,⟨.none,none,(.dict #[(E P "type.__subclasses__.Exception.0" 224 (.int 39 0)),(E P "type.__subclasses__.Exception.n" 225 (.int 1 0))] 2),#[]⟩),(3,zmX P),(4,⟨(.type "module"),(some 0),.plain,#[]⟩),(12,zmW P),(13,ob2 P)]
noncomputable def zmV (P:Params):Obj:=cO "all_functions" "all_functions" 2952 1525 1 1735 1736 0 0 0 1737 2955
noncomputable def zmU (P:Params):Obj:=cO "__init__" "PlainRun.__init__" 2970 1534 5 1747 1748 0 1749 1750 1751 2979
noncomputable def zmT (P:Params):Obj:=cO "may_compare" "PlainRun.may_compare" 2982 1549 2 1754 1755 0 1756 1757 1758 2987
noncomputable def zmS (P:Params):Obj:=cO "run" "PlainRun.run" 2990 1552 2 1761 1762 0 1763 1764 1765 2995
noncomputable def zmR (P:Params):Obj:=cO "step" "PlainRun.step" 2998 1558 1 1768 1769 0 1770 1771 1772 3007
noncomputable def zmQ (P:Params):Obj:=cO "caught" "PlainRun.caught" 3010 1569 2 1775 1776 0 1777 1778 1779 3016
noncomputable def zmP (P:Params):Obj:=cO "wait_here" "PlainRun.wait_here" 3019 1576 2 1782 1783 0 1784 1785 1786 3024
noncomputable def zmO (P:Params):Obj:=cO "next_one" "PlainRun.next_one" 3027 1580 1 1789 1790 0 1791 1792 1793 3031
noncomputable def zmN (P:Params):Obj:=cO "routine_is_over" "PlainRun.routine_is_over" 3034 1584 2 1796 1797 0 1798 1799 1800 3039
noncomputable def zmM (P:Params):Obj:=cO "wake_rows" "PlainRun.wake_rows" 3042 1591 2 1803 1804 0 1805 1806 1807 3050
noncomputable def zmL (P:Params):Obj:=cO "answer_of" "PlainRun.answer_of" 3053 1595 2 1810 1811 0 1812 1813 1814 3058
noncomputable def zmK (P:Params):Obj:=cO "walk_of" "PlainRun.walk_of" 3061 1600 3 1817 1818 0 1819 1820 1821 3067
noncomputable def zmJ (P:Params):Obj:=cO "is_of_type" "PlainRun.is_of_type" 3070 1603 3 1824 1825 0 1826 1827 1828 3076
noncomputable def zmI (P:Params):Obj:=cO "held_as" "PlainRun.held_as" 3079 1608 3 1831 1832 0 1833 1834 1835 3085
noncomputable def zmH (P:Params):Obj:=⟨(.type "dict"),none,(.dict #[(E P "__module__" 2965 (.str "chancore.plain_reader" 2851)),(E P "__firstlineno__" 2969 (.int 1532 2968)),eR P "__init__" 2981 1753,eR P "may_compare" 2989 1760,eR P "run" 2997 1767,eR P "step" 3009 1774,eR P "caught" 3018 1781,eR P "wait_here" 3026 1788,eR P "next_one" 3033 1795,eR P "routine_is_over" 3041 1802,eR P "wake_rows" 3052 1809,eR P "answer_of" 3060 1816,eR P "walk_of" 3069 1823,eR P "is_of_type" 3078 1830,eR P "held_as" 3087 1837,eR P "__static_attributes__" 3099 1838,eR P "__dict__" 3101 1841,eR P "__weakref__" 3103 1842,(E P "__doc__" 3104 .none)] 4),#[]⟩
noncomputable def zmG (P:Params):Obj:=⟨(.type "type"),none,(.cls { name:="PlainRun",bases:=[(.type "object")],mro:=[(.ref 1840),(.type "object")],ns:=1839,qualname:="PlainRun",hasDict:=true,slotNames:=[],subclasses:=[],abstract:=false,collection:=none,hasDel:=false}),#[none,none,(some (.str "PlainRun" 2958)),(some (.str "PlainRun" 2966)),(some (.builtin "object.__new__")),(some (.bool true))]⟩
noncomputable def zmF (P:Params):Obj:=cO "__init__" "NamedRow.__init__" 3123 1616 5 1855 1856 0 1857 1858 1859 3131
noncomputable def zmE (P:Params):Obj:=⟨(.type "dict"),none,(.dict #[(E P "__module__" 3118 (.str "chancore.world" 3107)),(E P "__firstlineno__" 3122 (.int 1614 3121)),eR P "__init__" 3133 1861,eR P "__static_attributes__" 3138 1862,eR P "__dict__" 3140 1865,eR P "__weakref__" 3142 1866,(E P "__doc__" 3143 .none)] 4),#[]⟩
noncomputable def zmD (P:Params):Obj:=⟨(.type "type"),none,(.cls { name:="NamedRow",bases:=[(.type "object")],mro:=[(.ref 1864),(.type "object")],ns:=1863,qualname:="NamedRow",hasDict:=true,slotNames:=[],subclasses:=[],abstract:=false,collection:=none,hasDel:=false}),#[none,none,(some (.str "NamedRow" 3111)),(some (.str "NamedRow" 3119)),(some (.builtin "object.__new__")),(some (.bool true))]⟩
noncomputable def zmC (P:Params):Obj:=cO "known_rows" "known_rows" 3146 1621 0 1869 1870 0 1871 1872 1873 3156
noncomputable def zmB (P:Params):Obj:=cO "__init__" "World.__init__" 3171 1632 2 1884 1885 0 1886 1887 1888 3176
noncomputable def zmA (P:Params):Obj:=cO "base_of" "World.base_of" 3179 1654 2 1891 1892 0 1893 1894 1895 3185
noncomputable def zmz (P:Params):Obj:=cO "settled" "World.settled" 3188 1666 2 1898 1899 0 1900 1901 1902 3193
noncomputable def zmy (P:Params):Obj:=⟨(.type "dict"),none,(.dict #[(E P "__module__" 3166 (.str "chancore.world" 3107)),(E P "__firstlineno__" 3170 (.int 1630 3169)),eR P "__init__" 3178 1890,eR P "base_of" 3187 1897,eR P "settled" 3195 1904,eR P "__static_attributes__" 3216 1905,eR P "__dict__" 3218 1908,eR P "__weakref__" 3220 1909,(E P "__doc__" 3221 .none)] 4),#[]⟩
noncomputable def zmx (P:Params):Obj:=⟨(.type "type"),none,(.cls { name:="World",bases:=[(.type "object")],mro:=[(.ref 1907),(.type "object")],ns:=1906,qualname:="World",hasDict:=true,slotNames:=[],subclasses:=[],abstract:=false,collection:=none,hasDel:=false}),#[none,none,(some (.str "World" 3159)),(some (.str "World" 3167)),(some (.builtin "object.__new__")),(some (.bool true))]⟩
noncomputable def zmw (P:Params):Obj:=cO "_law_pot" "_law_pot" 3226 1669 1 1912 1913 0 1914 1915 1916 3232
noncomputable def zmv (P:Params):Obj:=cO "_law_scoop" "_law_scoop" 3235 1673 2 1919 1920 0 1921 1922 1923 3241
noncomputable def ko12:PA:=λP=>[(1738,zmV P),(1739,fA 205 "all_functions" "all_functions" M10 2851 1738),(1752,zmU P),(1753,gA 206 0 "__init__" "PlainRun.__init__" M10 2851 1752),(1759,zmT P),(1760,gA 206 1 "may_compare" "PlainRun.may_compare" M10 2851 1759),(1766,zmS P),(1767,gA 206 2 "run" "PlainRun.run" M10 2851 1766),(1773,zmR P),(1774,gA 206 3 "step" "PlainRun.step" M10 2851 1773),(1780,zmQ P),(1781,gA 206 4 "caught" "PlainRun.caught" M10 2851 1780),(1787,zmP P),(1788,gA 206 5 "wait_here" "PlainRun.wait_here" M10 2851 1787),(1794,zmO P),(1795,gA 206 6 "next_one" "PlainRun.next_one" M10 2851 1794),(1801,zmN P),(1802,gA 206 7 "routine_is_over" "PlainRun.routine_is_over" M10 2851 1801),(1808,zmM P),(1809,gA 206 8 "wake_rows" "PlainRun.wake_rows" M10 2851 1808),(1815,zmL P),(1816,gA 206 9 "answer_of" "PlainRun.answer_of" M10 2851 1815),(1822,zmK P),(1823,gA 206 10 "walk_of" "PlainRun.walk_of" M10 2851 1822),(1829,zmJ P),(1830,gA 206 11 "is_of_type" "PlainRun.is_of_type" M10 2851 1829),(1836,zmI P),(1837,gA 206 12 "held_as" "PlainRun.held_as" M10 2851 1836),(1839,zmH P),(1840,zmG P),(1845,⟨(.type "tuple"),none,(.seq #[] 0),#[]⟩),(1846,⟨(.type "tuple"),none,(.seq #[] 0),#[]⟩),(1847,⟨(.type "tuple"),none,(.seq #[(.str "func" 3109),(.ref 1845),(.ref 1846),(.bool false)] 0),#[]⟩),(1860,zmF P),(1861,gA 209 0 "__init__" "NamedRow.__init__" M11 3107 1860),(1863,zmE P),(1864,zmD P),(1874,zmC P),(1875,fA 210 "known_rows" "known_rows" M11 3107 1874),(1883,⟨(.type "tuple"),none,(.seq #[.none] 0),#[]⟩),(1889,zmB P),(1890,gAD (.ref 1883) 211 0 "__init__" "World.__init__" M11 3107 1889),(1896,zmA P),(1897,gA 211 1 "base_of" "World.base_of" M11 3107 1896),(1903,zmz P),(1904,gA 211 2 "settled" "World.settled" M11 3107 1903),(1906,zmy P),(1907,zmx P),(1917,zmw P),(1918,fA 213 "_law_pot" "_law_pot" M12 3224 1917),(1924,zmv P),(1925,fA 214 "_law_scoop" "_law_scoop" M12 3224 1924)]
noncomputable def kl12:PA:=λP=>kb12 P++ko12 P
noncomputable def zni:WT:=zay 205 10 1322 1735 2952 ⟨1524,0,1524,10⟩ kb11 [0,2,3,4,12,13,1738,1739,1752,1753,1759,1760,1766,1767,1773,1774,1780,1781,1787,1788,1794,1795,1801,1802,1808,1809,1815,1816,1822,1823,1829,1830,1836,1837,1839,1840,1845,1846,1847,1860,1861,1863,1864,1874,1875,1883,1889,1890,1896,1897,1903,1904,1906,1907,1917,1918,1924,1925]
noncomputable def zmc:WT:=zaI 1926 3244 ⟨1673,0,1679,30⟩ kl12
theorem pc11 (w:World) (os:OsState):zni w os=zmc w os:=pcG (by kernel_rfl)
noncomputable def zjN (P:Params):List DictEntry:=zg8 P++[eR P "_law_one" 3251 1932,eR P "_law_turns" 3262 1939,eR P "_law_counted_right" 3268 1944,eR P "_law_told_right" 3274 1949,eR P "_law_expression" 3294 1956,eR P "_law_ways_right" 3306 1963,eR P "_law_bare" 3312 1968,eR P "_law_nested" 3318 1973,eR P "_law_parts_right" 3324 1978,eR P "law" 3330 1983]
noncomputable def zdF (P:Params):Obj:=⟨.type "dict",none,.dict (zjN P).toArray 212,#[]⟩
noncomputable def zjM:List (Nat×Nat):=zg7++[(1680,1931),(1682,1938),(1690,1943),(1712,1948),(1735,1955),(1758,1962),(1764,1967),(1766,1972),(1771,1977),(1787,1982)]
noncomputable def zmu (P:Params):Obj:=sO zjM
noncomputable def kb13:PA:=λP=>[(0,ob0 P),(2,⟨.none,none,(.dict #[(E P "type.__subclasses__.Exception.0" 224 (.int 39 0)),(E P "type.__subclasses__.Exception.n" 225 (.int 1 0))] 2),#[]⟩),(3,zdF P),(4,⟨(.type "module"),(some 0),.plain,#[]⟩),(12,zmu P),(13,ob2 P)]
noncomputable def zmt (P:Params):Obj:=cO "_law_one" "_law_one" 3244 1680 2 1926 1927 0 1928 1929 1930 3249
noncomputable def zms (P:Params):Obj:=cO "_law_turns" "_law_turns" 3252 1682 2 1933 1934 0 1935 1936 1937 3260
noncomputable def zmr (P:Params):Obj:=cO "_law_counted_right" "_law_counted_right" 3263 1690 2 1940 1941 0 0 0 1942 3266
noncomputable def zmq (P:Params):Obj:=cO "_law_told_right" "_law_told_right" 3269 1712 3 1945 1946 0 0 0 1947 3272
noncomputable def zmp (P:Params):Obj:=cO "_law_expression" "_law_expression" 3275 1735 1 1950 1951 0 1952 1953 1954 3292
noncomputable def zmo (P:Params):Obj:=cO "_law_ways_right" "_law_ways_right" 3295 1758 2 1957 1958 0 1959 1960 1961 3304
noncomputable def zmn (P:Params):Obj:=cO "_law_bare" "_law_bare" 3307 1764 1 1964 1965 0 0 0 1966 3310
noncomputable def zmm (P:Params):Obj:=cO "_law_nested" "_law_nested" 3313 1766 2 1969 1970 0 0 0 1971 3316
noncomputable def zml (P:Params):Obj:=cO "_law_parts_right" "_law_parts_right" 3319 1771 1 1974 1975 0 0 0 1976 3322
noncomputable def zmk (P:Params):Obj:=cO "law" "law" 3325 1787 1 1979 1980 0 0 0 1981 3328
noncomputable def ko13:PA:=λP=>[(1931,zmt P),(1932,fA 215 "_law_one" "_law_one" M12 3224 1931),(1938,zms P),(1939,fA 216 "_law_turns" "_law_turns" M12 3224 1938),(1943,zmr P),(1944,fA 217 "_law_counted_right" "_law_counted_right" M12 3224 1943),(1948,zmq P),(1949,fA 218 "_law_told_right" "_law_told_right" M12 3224 1948),(1955,zmp P),(1956,fA 219 "_law_expression" "_law_expression" M12 3224 1955),(1962,zmo P),(1963,fA 220 "_law_ways_right" "_law_ways_right" M12 3224 1962),(1967,zmn P),(1968,fA 221 "_law_bare" "_law_bare" M12 3224 1967),(1972,zmm P),(1973,fA 222 "_law_nested" "_law_nested" M12 3224 1972),(1977,zml P),(1978,fA 223 "_law_parts_right" "_law_parts_right" M12 3224 1977),(1982,zmk P),(1983,fA 224 "law" "law" M12 3224 1982)]
noncomputable def kl13:PA:=λP=>kb13 P++ko13 P
noncomputable def znh:WT:=zay 215 10 296 1926 3244 ⟨1673,0,1679,30⟩ kb12 [0,2,3,4,12,13,1931,1932,1938,1939,1943,1944,1948,1949,1955,1956,1962,1963,1967,1968,1972,1973,1977,1978,1982,1983]
noncomputable def zmb:WT:=zaI 1984 3331 ⟨1787,0,1795,64⟩ kl13
theorem pc12 (w:World) (os:OsState):znh w os=zmb w os:=pcG (by kernel_rfl)
end
end Mine
end
section
open PySem PySem.W PyProof.Rows
set_option Elab.async false
set_option maxRecDepth 100000
set_option maxHeartbeats 0
namespace Mine
theorem zem:∀(l:List (Addr×Obj)) (t:PT) (i:Nat) (o:Obj),(l.foldl (λt p=>t.put 40 p.1 p.2) t).get i=some o->(i,o)∈l\/t.get i=some o
  | [],_,_,_,h=>.inr h
  | p::l,t,i,o,h=>by
    rcases zem l (t.put 40 p.1 p.2) i o h with e | e
    · exact .inl (.tail _ e)
    · rcases PT.get_put p.2 o 40 t p.1 i e with ⟨rfl,rfl⟩ | ⟨_,e⟩
      · exact .inl (.head _)
      · exact .inr e
theorem zeg {l:List (Addr×Obj)} {n tk:Nat} {os:OsState} {i:Nat} {o:Obj} (h:(mkPS l n tk os).tree.get i=some o):(i,o)∈l:=by
  rcases zem l .nil i o h with e | e
  · exact e
  · cases e
noncomputable def Is (l:List (Addr×Obj)) (n tk:Nat) (os:OsState) (s:Shared):Prop:=
  s.heap.objs.size=n/\s.gens=#[]/\s.drawn=boot_drawn/\s.toks=tk/\s.os=os/\∀p∈l,s.heap.objs[p.1]? =some p.2
theorem Is.of {l:List (Addr×Obj)} {n tk:Nat} {os:OsState} {s:Shared} (h:Is l n tk os s):(mkPS l n tk os).Of s:=
  ⟨⟨h.1,λi o e=>h.2.2.2.2.2 (i,o) (zeg e)⟩,h.2.1,h.2.2.1,h.2.2.2.1,h.2.2.2.2.1⟩
theorem zcT {T:PT}:∀{l:List (Addr×Obj)},(l.map (·.1)).map T.get=l.map (λp=>some p.2)->∀p∈l,T.get p.1=some p.2
  | [],_,_,h=>nomatch h
  | q::l,e,p,h=>by
    rw [List.map_cons,List.map_cons,List.map_cons] at e
    injection e with e1 e2
    cases h with
    | head=>exact e1
    | tail _ h=>exact zcT e2 p h
theorem zid {l:List (Addr×Obj)} {n tk:Nat} {os:OsState} {i:Nat} (h:∀p∈l,p.1≠i):(mkPS l n tk os).tree.get i=none:=by
  cases e:(mkPS l n tk os).tree.get i with
  | none=>rfl
  | some o=>exact absurd rfl (h (i,o) (zeg e))
noncomputable abbrev ann0:Option Value:=some (.ref 6)
noncomputable abbrev B0:List Frame:=[topFrame default]
theorem zmh {st ct N n tk n' tk':Nat} {pos pos':Pos} {kb kb' ko:Params->List (Addr×Obj)} {as:List Addr} {w:World} {os:OsState} {s:Shared}
    (e:zay st ct N n tk pos kb as w os=zaI n' tk' pos' (λP=>kb' P++ko P) w os) (ha:as=(kb' w.params++ko w.params).map (·.1)) (h:Is (kb w.params) n tk os s):
    ∃s',segRun treeTable Pw w 11 ann0 1 N s (piecesOf ((Pw.main.body.drop st).take ct) env0 cE pos B0)=some (.next,s',cE,pos')/\Is (kb' w.params) n' tk' os s'/\(∀p∈ko w.params,s'.heap.objs[p.1]? =some p.2)/\
      (n<=n'/\∀i,i < n->(∀p∈kb w.params,p.1≠i)->s'.heap.objs[i]? =s.heap.objs[i]?):=by
  unfold zay pieceG obs zaI at e
  obtain ⟨⟨f,S',c,q⟩,hr,he⟩:=Option.map_eq_some_iff.mp e
  simp only [Prod.mk.injEq] at he
  obtain ⟨rfl,rfl,hg,hd,rfl,rfl,hk,rfl,rfl⟩:=he
  obtain ⟨s',e',O',Y⟩:=zbx treeTable Pw w 11 ann0 1 _ _ _ _ _ _ _ s h.of hr
  have hk:=zcT (l:=kb' w.params++ko w.params) (by rw [<- ha];exact hk)
  obtain ⟨K,g1,g2,g3,g4⟩:=O'
  refine ⟨s',e',⟨K.size,g1.trans hg,g2.trans hd,g3,g4,λp hp=>K.at' _ _ (hk p (List.mem_append_left _ hp))⟩,λp hp=>K.at' _ _ (hk p (List.mem_append_right _ hp)),Y.1,λi hi hn=>(Y.2 i hi (zid hn)).1⟩
noncomputable def carried:List Addr:=[0,2,3,4,12,13]
structure Link (w:World) (os:OsState) (st:Nat) (kb:Params->List (Addr×Obj)) (n tk:Nat) (pos:Pos) (l:List (Addr×Obj)) (s s0:Shared):Prop where
  is:Is (kb w.params) n tk os s
  good:∀p∈l,s.heap.objs[p.1]? =some p.2
  low:∀p∈l,p.1 < n/\p.1∉carried
  run:∃M,∀N r,topRun treeTable Pw w 11 ann0 N s (restOf (Pw.main.body.drop st) env0 cE pos B0)=some r->topRun treeTable Pw w 11 ann0 (M + N) s0 (restOf (Pw.main.body.drop 0) env0 cE default B0)=some r
theorem Link.next {st ct N n tk n' tk':Nat} {pos pos':Pos} {kb kb' ko:Params->List (Addr×Obj)} {as:List Addr} {w:World} {os:OsState} {l:List (Addr×Obj)} {s s0:Shared} (L:Link w os st kb n tk pos l s s0)
    (e:zay st ct N n tk pos kb as w os=zaI n' tk' pos' (λP=>kb' P++ko P) w os) (ha:as=(kb' w.params++ko w.params).map (·.1)) (hk:(kb w.params).map (·.1)=carried)
    (ho:((ko w.params).all λp=>Nat.blt p.1 n'&&!carried.contains p.1)=true):∃s',Link w os (st + ct) kb' n' tk' pos' (l++ko w.params) s' s0:=by
  obtain ⟨s',e',I,g,le,stay⟩:=zmh e ha L.is
  refine ⟨s',I,λp hp=>?_,λp hp=>?_,?_⟩
  · rcases List.mem_append.mp hp with hp | hp
    · have:=L.low p hp
      refine (stay p.1 this.1 λq hq hqe=>this.2 ?_).trans (L.good p hp)
      rw [<- hk,<- hqe];exact List.mem_map_of_mem hq
    · exact g p hp
  · rcases List.mem_append.mp hp with hp | hp
    · exact ⟨Nat.lt_of_lt_of_le (L.low p hp).1 le,(L.low p hp).2⟩
    · have:=List.all_eq_true.mp ho p hp
      obtain ⟨a,b⟩:=Bool.and_eq_true_iff.mp this
      refine ⟨Nat.le_of_ble_eq_true a,λhc=>?_⟩
      rw [List.contains_iff_mem.mpr hc] at b;cases b
  · obtain ⟨M,hM⟩:=L.run
    refine ⟨M + N,λN' r hr=>?_⟩
    rw [Nat.add_assoc]
    refine hM (N + N') r ?_
    have z:=piece_app (n:=N) e' hr
    have y:(Pw.main.body.drop st).take ct++Pw.main.body.drop (st + ct)=Pw.main.body.drop st:=by
      rw [<- List.drop_drop];exact List.take_append_drop ct _
    rw [y] at z;exact z
theorem znM (w:World) (os:OsState) (s0:Shared) (h:Is (kb0 w.params) 15 187 os s0):∃s,Link w os 225 kb13 1984 3331 ⟨1787,0,1795,64⟩ ((((((((((((([]++ko1 w.params)++ko2 w.params)++ko3 w.params)++ko4 w.params)++ko5 w.params)++ko6 w.params)++ko7 w.params)++ko8 w.params)++ko9 w.params)++ko10 w.params)++ko11 w.params)++ko12 w.params)++ko13 w.params) s s0:=by
  have L0:Link w os 0 kb0 15 187 default [] s0 s0:=⟨h,λ_ hp=>(nomatch hp),λ_ hp=>(nomatch hp),0,λN r hr=>by rw [Nat.zero_add];exact hr⟩
  obtain ⟨s1,L1⟩:=L0.next (kb':=kb1) (ko:=ko1) (pc0 w os) (by kernel_rfl) (by kernel_rfl) (by kernel_rfl)
  obtain ⟨s2,L2⟩:=L1.next (kb':=kb2) (ko:=ko2) (pc1 w os) (by kernel_rfl) (by kernel_rfl) (by kernel_rfl)
  obtain ⟨s3,L3⟩:=L2.next (kb':=kb3) (ko:=ko3) (pc2 w os) (by kernel_rfl) (by kernel_rfl) (by kernel_rfl)
  obtain ⟨s4,L4⟩:=L3.next (kb':=kb4) (ko:=ko4) (pc3 w os) (by kernel_rfl) (by kernel_rfl) (by kernel_rfl)
  obtain ⟨s5,L5⟩:=L4.next (kb':=kb5) (ko:=ko5) (pc4 w os) (by kernel_rfl) (by kernel_rfl) (by kernel_rfl)
  obtain ⟨s6,L6⟩:=L5.next (kb':=kb6) (ko:=ko6) (pc5 w os) (by kernel_rfl) (by kernel_rfl) (by kernel_rfl)
  obtain ⟨s7,L7⟩:=L6.next (kb':=kb7) (ko:=ko7) (pc6 w os) (by kernel_rfl) (by kernel_rfl) (by kernel_rfl)
  obtain ⟨s8,L8⟩:=L7.next (kb':=kb8) (ko:=ko8) (pc7 w os) (by kernel_rfl) (by kernel_rfl) (by kernel_rfl)
  obtain ⟨s9,L9⟩:=L8.next (kb':=kb9) (ko:=ko9) (pc8 w os) (by kernel_rfl) (by kernel_rfl) (by kernel_rfl)
  obtain ⟨s10,L10⟩:=L9.next (kb':=kb10) (ko:=ko10) (pc9 w os) (by kernel_rfl) (by kernel_rfl) (by kernel_rfl)
  obtain ⟨s11,L11⟩:=L10.next (kb':=kb11) (ko:=ko11) (pc10 w os) (by kernel_rfl) (by kernel_rfl) (by kernel_rfl)
  obtain ⟨s12,L12⟩:=L11.next (kb':=kb12) (ko:=ko12) (pc11 w os) (by kernel_rfl) (by kernel_rfl) (by kernel_rfl)
  obtain ⟨s13,L13⟩:=L12.next (kb':=kb13) (ko:=ko13) (pc12 w os) (by kernel_rfl) (by kernel_rfl) (by kernel_rfl)
  exact ⟨s13,L13⟩
end Mine
end
section
open PySem PySem.W PyProof.Rows
set_option Elab.async false
set_option maxRecDepth 100000
set_option maxHeartbeats 0
namespace Mine
noncomputable def ziT (P:Params):List (Addr×Obj):=[(0,boot_o_0 P),(1,boot_o_1 P),(2,boot_o_2 P),(3,boot_o_3 P),(4,boot_o_4 P),(5,boot_o_5 P),(6,boot_o_6 P),(7,boot_o_7 P),(8,boot_o_8 P),(9,boot_o_9 P),(10,boot_o_10 P)]
theorem ziS (w:World) (os:OsState):Is (ziT w.params) 11 181 os ⟨boot_heap w.params,#[],boot_drawn,boot_toks,os⟩:=by
  refine ⟨rfl,rfl,rfl,rfl,rfl,λp hp=>?_⟩
  simp only [ziT,List.mem_cons,List.not_mem_nil,or_false] at hp
  rcases hp with rfl | rfl | rfl | rfl | rfl | rfl | rfl | rfl | rfl | rfl | rfl <;> rfl
noncomputable abbrev PreT:=Option (Nat×Array GenState×Drawn×Nat×OsState×List (Option Obj)×Thread)
noncomputable def preG (p:Program) (l:List (Addr×Obj)) (w:World) (os:OsState):PreT:=(zd4 treeTable p w 11 ann0 12 (mkPS l 11 181 os) (topStub p)).map λr=>(r.1.n,r.1.gens,r.1.drawn,r.1.toks,r.1.os,carried.map r.1.tree.get,r.2)
noncomputable def preL (w:World) (os:OsState):PreT:=preG Pw (ziT w.params) w os
noncomputable def preR (w:World) (os:OsState):PreT:=some (15,#[],boot_drawn,187,os,(kb0 w.params).map (λp=>some p.2),⟨denote treeTable cE,cE,default,B0⟩)
noncomputable def blkE:Bool:=match endAt 1 (blockOf (behindTheImports Pw) env0 cE default B0) with | some .next=>true | _=>false
theorem blk:blkE=true:=by kernel_rfl
theorem ziD (w:World) (s:Shared) (pos:Pos):topRun treeTable Pw w 11 ann0 2 s ⟨doneF .next,cE,pos,B0⟩=some s:=by
  obtain ⟨h,g,d,t,o⟩:=s
  rfl
theorem zgJ:Pw.main.body.drop 225=[]:=by kernel_rfl
theorem znR:behindTheImports Pw=Pw.main.body.drop 0:=by kernel_rfl
theorem zjs (w:World) (os:OsState):preL w os=preR w os:=by
  unfold preL;kernel_rfl
theorem ziU:endAt 1 (blockOf (behindTheImports Pw) env0 cE default B0)=some .next:=by
  have h:=blk
  unfold blkE at h
  cases e:endAt 1 (blockOf (behindTheImports Pw) env0 cE default B0) with
  | none=>rw [e] at h;cases h
  | some f=>rw [e] at h;cases f <;> first | rfl | cases h
theorem top_run (w:World) (os:OsState):∃M s,topRun treeTable Pw w 11 ann0 M ⟨boot_heap w.params,#[],boot_drawn,boot_toks,os⟩ (topStub Pw)=some s/\Is (kb13 w.params) 1984 3331 os s/\
    ∀p∈((((((((((((([]++ko1 w.params)++ko2 w.params)++ko3 w.params)++ko4 w.params)++ko5 w.params)++ko6 w.params)++ko7 w.params)++ko8 w.params)++ko9 w.params)++ko10 w.params)++ko11 w.params)++ko12 w.params)++ko13 w.params),s.heap.objs[p.1]? =some p.2:=by
  have e:=zjs w os
  unfold preL preG preR at e
  obtain ⟨⟨S',t'⟩,hr,he⟩:=Option.map_eq_some_iff.mp e
  simp only [Prod.mk.injEq] at he
  obtain ⟨hn,hg,hd,ht,ho,hk,rfl⟩:=he
  obtain ⟨s0,e0,O0,_⟩:=zbT treeTable Pw w 11 ann0 12 _ _ _ _ _ (ziS w os).of hr
  obtain ⟨K,g1,g2,g3,g4⟩:=O0
  have hk:=zcT (l:=kb0 w.params) hk
  have I0:Is (kb0 w.params) 15 187 os s0:=⟨K.size.trans hn,g1.trans hg,g2.trans hd,g3.trans ht,g4.trans ho,λp hp=>K.at' _ _ (hk p hp)⟩
  obtain ⟨s,L⟩:=znM w os s0 I0
  obtain ⟨M,hM⟩:=L.run
  refine ⟨12 + (1 + (M + 2)),s,?_,L.is,L.good⟩
  refine go_top e0 ?_
  refine piece_block (s':=s0) (p':=default) ?_ ?_
  · unfold segRun
    rw [ziU]
  · have z:=hM 2 s (by rw [zgJ];exact piece_nil (ziD w s _))
    rw [znR];exact z
end Mine
end
section
open PySem PySem.W PyProof.Rows
set_option Elab.async false
set_option maxRecDepth 100000
set_option maxHeartbeats 0
namespace Mine
noncomputable def zgn (l:List (Addr×Obj)) (a:Addr):Obj:=(l.lookup a).getD default
noncomputable def mini (P:Params):Heap:=⟨#[zgn (kb13 P) 0,default,zgn (kb13 P) 2,zgn (kb13 P) 3,zgn (kb13 P) 4],{}⟩
noncomputable def looksG (p:Program) (h0 h:Heap):Bool:=staticsOk [] h0 h&&namesBound p h&&laidKept h0 h&&h.accountedOkI []&&h.isNs mainGlobals&&h.isNs builtinsNs
noncomputable def zfD (w:World):Bool:=looksG Pw (boot_heap w.params) (mini w.params)
theorem mkLooks:(λ(_:Program->Heap->Heap->Bool)=>true) looksG=true:=by k_qdec
theorem imps:importedModules Pw.main.body=[]:=by kernel_rfl
theorem zgu (w:World):zfD w=true:=by
  unfold zfD;rw [PySem.W.Fast.te1834501457075214222];kernel_rfl
theorem blt_eq (w:World):(mini w.params).bltView=bltViewBooted:=by kernel_rfl
theorem zbN {w:World} {os:OsState} {s:Shared} (I:Is (kb13 w.params) 1984 3331 os s):s.heap.get? 0=(mini w.params).get? 0/\s.heap.get? 2=(mini w.params).get? 2/\s.heap.get? 3=(mini w.params).get? 3/\s.heap.get? 4=(mini w.params).get? 4:=by
  have h:=I.2.2.2.2.2
  have g (i:Addr) (o:Obj) (hm:(i,o)∈kb13 w.params) (e:(mini w.params).objs[i]? =some o):s.heap.get? i=(mini w.params).get? i:=by
    unfold Heap.get?
    rw [h (i,o) hm,e]
  refine ⟨g 0 _ (.head _) rfl,g 2 _ (.tail _ (.head _)) rfl,g 3 _ (.tail _ (.tail _ (.head _))) rfl,g 4 _ (.tail _ (.tail _ (.tail _ (.head _)))) rfl⟩
end Mine
end
section
open PySem PySem.W PyProof.Rows
set_option Elab.async false
set_option maxRecDepth 100000
set_option maxHeartbeats 0
namespace Mine
section
open PySem.TablesWhole
noncomputable def cx0 (p:Program):TablesWhole.Ctx:=⟨p.main.scope,[],[],[],none⟩
noncomputable def chunkOk (p:Program) (a n:Nat):Bool:=wSs holds p.main.scope (cx0 p) p.main.scope ((p.main.body.drop a).take n)
noncomputable def chunkGa (p:Program) (a n:Nat):Bool:=(wSs gather p.main.scope (cx0 p) p.main.scope ((p.main.body.drop a).take n)).isEmpty
theorem zbv (top:Scope) (cx:TablesWhole.Ctx) (sc:Scope):∀a b:List Stmt,wSs holds top cx sc (a++b)=(wSs holds top cx sc a&&wSs holds top cx sc b)
  | [],b=>by
    have e:wSs holds top cx sc []=true:=rfl
    rw [List.nil_append,e,Bool.true_and]
  | s::a,b=>by
    have e (r:List Stmt):wSs holds top cx sc (s::r)=(wS holds top cx sc s&&wSs holds top cx sc r):=rfl
    rw [List.cons_append,e,e,zbv top cx sc a b,Bool.and_assoc]
theorem zbw (top:Scope) (cx:TablesWhole.Ctx) (sc:Scope):∀a b:List Stmt,wSs gather top cx sc (a++b)=(wSs gather top cx sc a++wSs gather top cx sc b)
  | [],b=>by
    have e:wSs gather top cx sc []=[]:=rfl
    rw [List.nil_append,e,List.nil_append]
  | s::a,b=>by
    have e (r:List Stmt):wSs gather top cx sc (s::r)=(wS gather top cx sc s++wSs gather top cx sc r):=rfl
    rw [List.cons_append,e,e,zbw top cx sc a b,List.append_assoc]
noncomputable def cuts (l:List Stmt) (n:Nat):Nat->List Stmt
  | 0=>[]
  | k + 1=>cuts l n k++(l.drop (k * n)).take n
theorem zdr (l:List Stmt) (n:Nat):∀k,cuts l n k=l.take (k * n)
  | 0=>by rw [Nat.zero_mul];rfl
  | k + 1=>by rw [show cuts l n (k + 1)=cuts l n k++(l.drop (k * n)).take n from rfl,zdr l n k,Nat.succ_mul,List.take_add]
theorem zcw (p:Program) (n:Nat):∀k,(∀i,i < k->chunkOk p (i * n) n=true)->wSs holds p.main.scope (cx0 p) p.main.scope (cuts p.main.body n k)=true
  | 0,_=>rfl
  | k + 1,h=>by
    rw [show cuts p.main.body n (k + 1)=cuts p.main.body n k++(p.main.body.drop (k * n)).take n from rfl,zbv,zcw p n k λi hi=>h i (Nat.lt_succ_of_lt hi),Bool.true_and]
    exact h k (Nat.lt_succ_self k)
theorem zcc (p:Program) (n:Nat):∀k,(∀i,i < k->chunkGa p (i * n) n=true)->wSs gather p.main.scope (cx0 p) p.main.scope (cuts p.main.body n k)=[]
  | 0,_=>rfl
  | k + 1,h=>by
    rw [show cuts p.main.body n (k + 1)=cuts p.main.body n k++(p.main.body.drop (k * n)).take n from rfl,zbw,zcc p n k λi hi=>h i (Nat.lt_succ_of_lt hi),List.nil_append]
    exact List.isEmpty_iff.mp (h k (Nat.lt_succ_self k))
theorem zgK (l:List Stmt) (n k:Nat) (h:l.length<=k * n):cuts l n k=l:=by
  rw [zdr,List.take_of_length_le h]
theorem zi4 (p:Program) (n k:Nat) (h1:p.main.body.length<=k * n) (ha:∀i,i < k->chunkOk p (i * n) n=true) (hg:∀i,i < k->chunkGa p (i * n) n=true)
    (hn:noTwice p.main.scope=true) (hm:p.modules=[]/\p.parses=[]/\p.harvested=[]):p.tablesWhole=true:=by
  have e1:=zcw p n k ha
  have e2:=zcc p n k hg
  rw [zgK _ _ _ h1] at e1 e2
  unfold Program.tablesWhole wProgram wModule
  rw [hm.1,hm.2.1,hm.2.2]
  show (true&&(_&&(_&&true))&&_)=true
  unfold cx0 at e1 e2
  dsimp only
  rw [e2]
  show (true&&(noTwice p.main.scope&&(wSs holds p.main.scope ⟨p.main.scope,[],[],[],none⟩ p.main.scope p.main.body&&true))&&(true&&(true&&(true&&true))))=true
  rw [e1,hn];rfl
theorem mkC:(λ(_ _:Program->Nat->Nat->Bool)=>true) chunkOk chunkGa=true:=by k_qdec
theorem wa0:chunkOk Pw (0 * 20) 20=true:=by rw [PySem.W.Fast.te5118953815006548325];kernel_rfl
theorem wa1:chunkOk Pw (1 * 20) 20=true:=by rw [PySem.W.Fast.te5118953815006548325];kernel_rfl
theorem wa2:chunkOk Pw (2 * 20) 20=true:=by rw [PySem.W.Fast.te5118953815006548325];kernel_rfl
theorem wa3:chunkOk Pw (3 * 20) 20=true:=by rw [PySem.W.Fast.te5118953815006548325];kernel_rfl
theorem wa4:chunkOk Pw (4 * 20) 20=true:=by rw [PySem.W.Fast.te5118953815006548325];kernel_rfl
theorem wa5:chunkOk Pw (5 * 20) 20=true:=by rw [PySem.W.Fast.te5118953815006548325];kernel_rfl
theorem wa6:chunkOk Pw (6 * 20) 20=true:=by rw [PySem.W.Fast.te5118953815006548325];kernel_rfl
theorem wa7:chunkOk Pw (7 * 20) 20=true:=by rw [PySem.W.Fast.te5118953815006548325];kernel_rfl
theorem wa8:chunkOk Pw (8 * 20) 20=true:=by rw [PySem.W.Fast.te5118953815006548325];kernel_rfl
theorem wa9:chunkOk Pw (9 * 20) 20=true:=by rw [PySem.W.Fast.te5118953815006548325];kernel_rfl
theorem wa10:chunkOk Pw (10 * 20) 20=true:=by rw [PySem.W.Fast.te5118953815006548325];kernel_rfl
theorem wa11:chunkOk Pw (11 * 20) 20=true:=by rw [PySem.W.Fast.te5118953815006548325];kernel_rfl
theorem wb0:chunkGa Pw (0 * 20) 20=true:=by rw [PySem.W.Fast.te2492286071838617673];kernel_rfl
theorem wb1:chunkGa Pw (1 * 20) 20=true:=by rw [PySem.W.Fast.te2492286071838617673];kernel_rfl
theorem wb2:chunkGa Pw (2 * 20) 20=true:=by rw [PySem.W.Fast.te2492286071838617673];kernel_rfl
theorem wb3:chunkGa Pw (3 * 20) 20=true:=by rw [PySem.W.Fast.te2492286071838617673];kernel_rfl
theorem wb4:chunkGa Pw (4 * 20) 20=true:=by rw [PySem.W.Fast.te2492286071838617673];kernel_rfl
theorem wb5:chunkGa Pw (5 * 20) 20=true:=by rw [PySem.W.Fast.te2492286071838617673];kernel_rfl
theorem wb6:chunkGa Pw (6 * 20) 20=true:=by rw [PySem.W.Fast.te2492286071838617673];kernel_rfl
theorem wb7:chunkGa Pw (7 * 20) 20=true:=by rw [PySem.W.Fast.te2492286071838617673];kernel_rfl
theorem wb8:chunkGa Pw (8 * 20) 20=true:=by rw [PySem.W.Fast.te2492286071838617673];kernel_rfl
theorem wb9:chunkGa Pw (9 * 20) 20=true:=by rw [PySem.W.Fast.te2492286071838617673];kernel_rfl
theorem wb10:chunkGa Pw (10 * 20) 20=true:=by rw [PySem.W.Fast.te2492286071838617673];kernel_rfl
theorem wb11:chunkGa Pw (11 * 20) 20=true:=by rw [PySem.W.Fast.te2492286071838617673];kernel_rfl
theorem lt12 {q:Nat->Prop} (h0:q 0) (h1:q 1) (h2:q 2) (h3:q 3) (h4:q 4) (h5:q 5) (h6:q 6) (h7:q 7) (h8:q 8) (h9:q 9) (h10:q 10) (h11:q 11):∀i,i < 12->q i
  | 0,_=>h0 | 1,_=>h1 | 2,_=>h2 | 3,_=>h3 | 4,_=>h4 | 5,_=>h5 | 6,_=>h6 | 7,_=>h7 | 8,_=>h8 | 9,_=>h9 | 10,_=>h10 | 11,_=>h11
  | n + 12,h=>by omega
theorem tw:Pw.tablesWhole=true:=
  zi4 Pw 20 12 (by decide +kernel) (lt12 wa0 wa1 wa2 wa3 wa4 wa5 wa6 wa7 wa8 wa9 wa10 wa11) (lt12 wb0 wb1 wb2 wb3 wb4 wb5 wb6 wb7 wb8 wb9 wb10 wb11) (by kernel_rfl) ⟨rfl,rfl,rfl⟩
end
end Mine
end
section
namespace Mine
noncomputable section
inductive P | h | o (p:P) | i (p:P)
  deriving Inhabited,DecidableEq
inductive B | n (x:Nat) | s (j:Nat) (c lo hi:Int)
inductive V
  | non | boo (b:Bool) | int (i:Int) | str (k:Nat) | byt (bs:List B) | ref (n:P) | glo (g:P)
  | sym (j:Nat) (c lo hi:Int)
  | ani
  | any
  | nes (j d:Nat)
  deriving Inhabited
inductive O
  | tup (xs:List V) | lst (xs:List V) | ns (m:List (Nat×V)) | inst (c:P) (d:P) | cel (v:V) | cnil
  | clo (f:P) (cs:List (Nat×P)) (q:P) | bm (f:P) (self:P)
  | lit (l:P) (i:Nat) | tit (t:P) (i:Nat) | rng (a b:Int) | rit (a b:Int)
  | exc (c:P) (d:Option P) (fl:Bool) | tab (f:P) (c:Option P) | cod (f:P) | junk
  deriving Inhabited
inductive T (α:Type)
  | nil | node (o:Option α) (l r:T α)
inductive TO
  | nil | node (o:O) (l r:TO)
noncomputable abbrev Bs:=List (Nat×V)
structure St where
  t:TO
  n:P
  m:Nat
  k:List (P×Bs)
inductive G | fn (i:P) | cl (i:P) | bi (b:Nat) | val (v:V) | drw
structure Cl where
  ini:Option P
  mt:List (Nat×P)
  ex:Bool
inductive Fl | next | brk | cont | ret (v:V)
noncomputable abbrev KV:=V->St->Bool
noncomputable abbrev KB:=Bool->St->Bool
noncomputable abbrev KL:=List V->St->Bool
noncomputable abbrev KS:=St->Bool
noncomputable abbrev KF:=Fl->St->Bool
noncomputable abbrev KP:=P->St->Bool
noncomputable abbrev Cs:=List (Nat×P)
structure Pg where
  g:T G
  c:T Cl
  enc:List (Nat×List B)
noncomputable def bq (b x y:Bool):Bool:=Bool.rec y x b
noncomputable def bnot (b:Bool):Bool:=Bool.rec true false b
noncomputable def frc (n:Nat) (k:Nat->Bool):Bool:=Nat.rec false (λy _=>k y) (Nat.succ n)
noncomputable def za0 (k:Int->Bool) (a:Nat):Bool:=k (.ofNat a)
noncomputable def zaZ (k:Int->Bool) (a:Nat):Bool:=k (.negSucc a)
noncomputable def optK {α:Type} (o:Option α) (k:α->Bool):Bool:=Option.rec false k o
noncomputable def f2 {α β:Type} (_:α) (_:β):Bool:=false
noncomputable def zaH (v:V) (non:Bool) (boo:Bool->Bool) (int:Int->Bool) (str:Nat->Bool) (byt:List B->Bool) (ref glo:P->Bool) (sym:Nat->Int->Int->Int->Bool) (ani any:Bool):Bool:=
  V.rec non boo int str byt ref glo sym ani any f2 v
noncomputable def f1 {α:Type} (_:α):Bool:=false
noncomputable def f4 (_:Nat) (_ _ _:Int):Bool:=false
noncomputable def vRef (v:V) (k:P->Bool):Bool:=V.rec false f1 f1 f1 f1 k f1 f4 false false f2 v
noncomputable def vInt (v:V) (k:Int->Bool):Bool:=V.rec false f1 k f1 f1 f1 f1 f4 false false f2 v
noncomputable def vStr (v:V) (k:Nat->Bool):Bool:=V.rec false f1 f1 k f1 f1 f1 f4 false false f2 v
noncomputable def vByt (v:V) (k:List B->Bool):Bool:=V.rec false f1 f1 f1 k f1 f1 f4 false false f2 v
noncomputable def vGlo (v:V) (k:P->Bool):Bool:=V.rec false f1 f1 f1 f1 f1 k f4 false false f2 v
noncomputable def f3 {α β γ:Type} (_:α) (_:β) (_:γ):Bool:=false
noncomputable def oTup (o:O) (k:List V->Bool):Bool:=O.rec k f1 f1 f2 f1 false f3 f2 f2 f2 f2 f2 f3 f2 f1 false o
noncomputable def oLst (o:O) (k:List V->Bool):Bool:=O.rec f1 k f1 f2 f1 false f3 f2 f2 f2 f2 f2 f3 f2 f1 false o
noncomputable def oSeq (o:O) (t l:List V->Bool):Bool:=O.rec t l f1 f2 f1 false f3 f2 f2 f2 f2 f2 f3 f2 f1 false o
noncomputable def oNs (o:O) (k:Bs->Bool):Bool:=O.rec f1 f1 k f2 f1 false f3 f2 f2 f2 f2 f2 f3 f2 f1 false o
noncomputable def oCel (o:O) (k:V->Bool):Bool:=O.rec f1 f1 f1 f2 k false f3 f2 f2 f2 f2 f2 f3 f2 f1 false o
noncomputable def zfo (o:O) (k:Bool):Bool:=O.rec f1 f1 f1 f2 (λ_=>k) k f3 f2 f2 f2 f2 f2 f3 f2 f1 false o
noncomputable def zm5 (o:O) (k:P->P->Bool):Bool:=O.rec f1 f1 f1 k f1 false f3 f2 f2 f2 f2 f2 f3 f2 f1 false o
noncomputable def yes {α:Type} (_:α):Bool:=true
noncomputable def no4 (_:Nat) (_ _ _:Int):Bool:=true
noncomputable def zec (v:V):Bool:=V.rec true yes yes yes yes yes f1 no4 true false f2 v
noncomputable def zah {α:Type} (l:List α):Nat->Bool:=List.rec (λ_=>true) (λ_ _ ih n=>Nat.rec false (λn _=>ih n) n) l
noncomputable def tgH {α:Type} (t:T α) (k:α->Bool):Bool:=T.rec false (λo _ _ _ _=>optK o k) t
noncomputable def tgO {α:Type} (ih:T α->(α->Bool)->Bool) (t:T α) (k:α->Bool):Bool:=T.rec false (λ_ l _ _ _=>ih l k) t
noncomputable def tgI {α:Type} (ih:T α->(α->Bool)->Bool) (t:T α) (k:α->Bool):Bool:=T.rec false (λ_ _ r _ _=>ih r k) t
noncomputable def tget {α:Type} (p:P):T α->(α->Bool)->Bool:=P.rec tgH (λ_ ih=>tgO ih) (λ_ ih=>tgI ih) p
noncomputable def ogH (t:TO) (k:O->Bool):Bool:=TO.rec false (λo _ _ _ _=>k o) t
noncomputable def ogO (ih:TO->(O->Bool)->Bool) (t:TO) (k:O->Bool):Bool:=TO.rec false (λ_ l _ _ _=>ih l k) t
noncomputable def ogI (ih:TO->(O->Bool)->Bool) (t:TO) (k:O->Bool):Bool:=TO.rec false (λ_ _ r _ _=>ih r k) t
noncomputable def oget (p:P):TO->(O->Bool)->Bool:=P.rec ogH (λ_ ih=>ogO ih) (λ_ ih=>ogI ih) p
noncomputable def zkg (o:O) (r:TO) (k:TO->Bool) (l:TO):Bool:=k (.node o l r)
noncomputable def zhn (o:O) (l:TO) (k:TO->Bool) (r:TO):Bool:=k (.node o l r)
noncomputable abbrev TP:=TO->(TO->Bool)->Bool
noncomputable def tpH (x:O) (t:TO) (k:TO->Bool):Bool:=TO.rec (k (.node x .nil .nil)) (λ_ l r _ _=>k (.node x l r)) t
noncomputable def tpO (ih:TP) (t:TO) (k:TO->Bool):Bool:=TO.rec (ih .nil (zkg .junk .nil k)) (λo l r _ _=>ih l (zkg o r k)) t
noncomputable def tpI (ih:TP) (t:TO) (k:TO->Bool):Bool:=TO.rec (ih .nil (zhn .junk .nil k)) (λo l r _ _=>ih r (zhn o l k)) t
noncomputable def tput (p:P) (x:O):TP:=P.rec (tpH x) (λ_ ih=>tpO ih) (λ_ ih=>tpI ih) p
noncomputable def kPo (k:P->Bool) (p:P):Bool:=k (.o p)
noncomputable def zgk (p:P):(P->Bool)->Bool:=P.rec (λk=>k (.o .h)) (λp _ k=>k (.i p)) (λ_ ih k=>ih (kPo k)) p
noncomputable def St.get (st:St) (i:P) (k:O->Bool):Bool:=St.rec (λt _ _ _=>oget i t k) st
noncomputable def kPut (k:KS) (n:P) (m:Nat) (f:List (P×Bs)) (t:TO):Bool:=k ⟨t,n,m,f⟩
noncomputable def St.put (st:St) (i:P) (o:O) (k:KS):Bool:=St.rec (λt n m f=>tput i o t (kPut k n m f)) st
noncomputable def znr (k:KP) (n:P) (m:Nat) (f:List (P×Bs)) (t:TO) (n':P):Bool:=k n ⟨t,n',m,f⟩
noncomputable def kAdd (k:KP) (n:P) (m:Nat) (f:List (P×Bs)) (t:TO):Bool:=zgk n (znr k n m f t)
noncomputable def St.add (st:St) (o:O) (k:KP):Bool:=St.rec (λt n m f=>tput n o t (kAdd k n m f)) st
noncomputable def kSym (k:Nat->St->Bool) (t:TO) (n:P) (m:Nat) (f:List (P×Bs)) (m':Nat):Bool:=k m ⟨t,n,m',f⟩
noncomputable def St.sym (st:St) (k:Nat->St->Bool):Bool:=St.rec (λt n m f=>frc (Nat.succ m) (kSym k t n m f)) st
noncomputable def znl (ms:Bs) (k:KS) (t:TO) (n:P) (m:Nat) (f:List (P×Bs)) (n':P):Bool:=k ⟨t,n',m,(n,ms)::f⟩
noncomputable def St.push (st:St) (ms:Bs) (k:KS):Bool:=St.rec (λt n m f=>zgk n (znl ms k t n m f)) st
noncomputable def pop1 (k:KS) (t:TO) (n:P) (m:Nat) (f:List (P×Bs)):Bool:=List.rec false (λ_ r _=>k ⟨t,n,m,r⟩) f
noncomputable def St.pop (st:St) (k:KS):Bool:=St.rec (λt n m f=>pop1 k t n m f) st
noncomputable def top2 (k:Bs->Bool) (L:P) (ms:Bs):Bool:=k ms
noncomputable def top1 (k:Bs->Bool) (f:List (P×Bs)):Bool:=List.rec false (λh _ _=>Prod.rec (top2 k) h) f
noncomputable def St.top (st:St) (k:Bs->Bool):Bool:=St.rec (λ_ _ _ f=>top1 k f) st
noncomputable def ret2 (ms:Bs) (k:KS) (t:TO) (n:P) (m:Nat) (r:List (P×Bs)) (L:P) (_:Bs):Bool:=k ⟨t,n,m,(L,ms)::r⟩
noncomputable def ret1 (ms:Bs) (k:KS) (t:TO) (n:P) (m:Nat) (f:List (P×Bs)):Bool:=List.rec false (λh r _=>Prod.rec (ret2 ms k t n m r) h) f
noncomputable def St.retop (st:St) (ms:Bs) (k:KS):Bool:=St.rec (λt n m f=>ret1 ms k t n m f) st
noncomputable def kRef (k:KV) (n:P) (st:St):Bool:=k (.ref n) st
noncomputable def peqH (q:P):Bool:=P.rec true (λ_ _=>false) (λ_ _=>false) q
noncomputable def peqO (ih:P->Bool) (q:P):Bool:=P.rec false (λq _=>ih q) (λ_ _=>false) q
noncomputable def peqI (ih:P->Bool) (q:P):Bool:=P.rec false (λ_ _=>false) (λq _=>ih q) q
noncomputable def peq (p:P):P->Bool:=P.rec peqH (λ_ ih=>peqO ih) (λ_ ih=>peqI ih) p
noncomputable def zjY {α:Type} (rest:(α->Bool)->Bool->Bool) (x:Nat) (k:α->Bool) (z:Bool) (a:Nat) (v:α):Bool:=bq (Nat.beq a x) (k v) (rest k z)
noncomputable def zjZ {α:Type} (x:Nat) (h:Nat×α) (rest:(α->Bool)->Bool->Bool) (k:α->Bool) (z:Bool):Bool:=Prod.rec (zjY rest x k z) h
noncomputable def zcJ {α:Type} (l:List (Nat×α)) (x:Nat):(α->Bool)->Bool->Bool:=List.rec (λ_ z=>z) (λh _ ih=>zjZ x h ih) l
noncomputable def look {α:Type} (l:List (Nat×α)) (x:Nat) (k:α->Bool):Bool:=zcJ l x k false
noncomputable def zaD {α:Type} (h:α) (k:List α->Bool) (r:List α):Bool:=k (h::r)
noncomputable abbrev KN:=Bs->Bool
noncomputable def zlS (x:Nat) (v:V) (r:Bs) (rest:KN->Bool) (k:KN) (a:Nat) (w:V):Bool:=bq (Nat.beq a x) (k ((a,v)::r)) (rest (zaD (a,w) k))
noncomputable def zlT (x:Nat) (v:V) (h:Nat×V) (r:Bs) (rest:KN->Bool) (k:KN):Bool:=Prod.rec (zlS x v r rest k) h
noncomputable def setL (l:Bs) (x:Nat) (v:V):KN->Bool:=List.rec (λk=>k [(x,v)]) (λh r ih=>zlT x v h r ih) l
noncomputable def nth1 {α:Type} (x:α) (ih:Nat->(α->Bool)->Bool) (i:Nat) (k:α->Bool):Bool:=Nat.rec (k x) (λj _=>ih j k) i
noncomputable def nth {α:Type} (l:List α):Nat->(α->Bool)->Bool:=List.rec (λ_ _=>false) (λx _ ih=>nth1 x ih) l
noncomputable abbrev KLs:=List V->Bool
noncomputable def zlR (v:V) (x:V) (r:List V) (ih:Nat->KLs->Bool) (i:Nat) (k:KLs):Bool:=Nat.rec (k (v::r)) (λj _=>ih j (zaD x k)) i
noncomputable def setN (l:List V) (i:Nat) (v:V) (k:KLs):Bool:=List.rec (λ_ _=>false) (λx r ih=>zlR v x r ih) l i k
noncomputable def appL {α:Type} (l:List α) (ys:List α):(List α->Bool)->Bool:=List.rec (λk=>k ys) (λx _ ih k=>ih (zaD x k)) l
noncomputable def len1 (ih:Nat->(Nat->Bool)->Bool) (k:Nat->Bool) (n:Nat):Bool:=ih n k
noncomputable def lenL {α:Type} (l:List α):Nat->(Nat->Bool)->Bool:=List.rec (λn k=>k n) (λ_ _ ih n k=>frc (Nat.succ n) (len1 ih k)) l
noncomputable def zfL (x:V) (k:List V->V->Bool) (r:List V) (v:V):Bool:=k (x::r) v
noncomputable def zir (l:List V):(List V->V->Bool)->Bool:=List.rec (λ_=>false) (λx r ih k=>List.rec (k [] x) (λ_ _ _=>ih (zfL x k)) r) l
noncomputable def zgc {α:Type} (n:Nat):List α->(List α->Bool)->Bool:=Nat.rec (λ_ k=>k []) (λ_ ih xs k=>List.rec (k []) (λx r _=>ih r (zaD x k)) xs) n
noncomputable def zfW {α:Type} (n:Nat):List α->(List α->Bool)->Bool:=Nat.rec (λxs k=>k xs) (λ_ ih xs k=>List.rec (k []) (λx r _=>ih r k) xs) n
noncomputable def kApp (xs:List V) (k:KLs) (r:List V):Bool:=appL xs r k
noncomputable def repL (n:Nat) (xs:List V) (k:KLs):Bool:=Nat.rec (λk=>k []) (λ_ ih k=>ih (kApp xs k)) n k
noncomputable def mem (l:List Nat) (x:Nat):Bool:=List.rec false (λa _ ih=>bq (Nat.beq a x) true ih) l
noncomputable def ileN (b:Int) (x:Nat):Bool:=Int.rec (λy=>Nat.ble x y) (λ_=>false) b
noncomputable def ileS (b:Int) (x:Nat):Bool:=Int.rec (λ_=>true) (λy=>Nat.ble y x) b
noncomputable def ile (a b:Int):Bool:=Int.rec (ileN b) (ileS b) a
noncomputable def ieqN (b:Int) (x:Nat):Bool:=Int.rec (λy=>Nat.beq x y) (λ_=>false) b
noncomputable def ieqS (b:Int) (x:Nat):Bool:=Int.rec (λ_=>false) (λy=>Nat.beq x y) b
noncomputable def ieq (a b:Int):Bool:=Int.rec (ieqN b) (ieqS b) a
noncomputable abbrev KI:=Int->Bool
noncomputable def isub (a b:Nat) (k:KI):Bool:=bq (Nat.ble b a) (frc (Nat.sub a b) (za0 k)) (frc (Nat.sub (Nat.sub b a) 1) (zaZ k))
noncomputable def znw (b:Int) (k:KI) (x:Nat):Bool:=Int.rec (λy=>frc (Nat.add x y) (za0 k)) (λy=>isub x (Nat.succ y) k) b
noncomputable def znv (b:Int) (k:KI) (x:Nat):Bool:=Int.rec (λy=>isub y (Nat.succ x) k) (λy=>frc (Nat.succ (Nat.add x y)) (zaZ k)) b
noncomputable def iadd (a b:Int) (k:KI):Bool:=Int.rec (znw b k) (znv b k) a
noncomputable def znu (k:KI) (x:Nat):Bool:=Nat.rec (k (.ofNat 0)) (λy _=>k (.negSucc y)) x
noncomputable def ineg (a:Int) (k:KI):Bool:=Int.rec (znu k) (λx=>frc (Nat.succ x) (za0 k)) a
noncomputable def zhr (a:Int) (k:KI) (b:Int):Bool:=iadd a b k
noncomputable def zdQ (a b:Int) (k:KI):Bool:=ineg b (zhr a k)
noncomputable def kInt (k:KV) (st:St) (i:Int):Bool:=k (.int i) st
noncomputable def isI (v:V):Bool:=V.rec false f1 yes f1 f1 f1 f1 no4 true false f2 v
noncomputable def zkW (k:KV) (st:St) (j:Nat):Bool:=k (.int (.ofNat j)) st
noncomputable def enum (n:Nat) (k:KV) (st:St):Bool:=Nat.rec true (λj ih=>bq (frc j (zkW k st)) ih false) n
noncomputable def kTr (st:St) (k:KB) (b:Bool):Bool:=bq b (k true st) (k false st)
noncomputable def trI (st:St) (k:KB) (i:Int):Bool:=bq (ieq i (.ofNat 0)) (k false st) (k true st)
noncomputable def zeV (v:V) (st:St) (k:KB):Bool:=zaH v (k false st) (kTr st k) (trI st k) f1 f1 f1 f1 f4 false false
noncomputable def both (st:St) (k:KB):Bool:=bq (k true st) (k false st) false
noncomputable abbrev SbF:=V->(V->Bool)->Bool
noncomputable def sbC {α:Type} (k:V->Bool) (v:V) (_:α):Bool:=k v
noncomputable def sbC2 {α β:Type} (k:V->Bool) (v:V) (_:α) (_:β):Bool:=k v
noncomputable def sbC4 (k:V->Bool) (v:V) (_:Nat) (_ _ _:Int):Bool:=k v
noncomputable def sbIx (k:V->Bool) (i:Int):Bool:=k (.int i)
noncomputable def sbI1 (j:Nat) (x:Int) (k:V->Bool) (v:V) (j':Nat) (c _ _:Int):Bool:=bq (Nat.beq j j') (iadd x c (sbIx k)) (k v)
noncomputable def sbI (j:Nat) (x:Int):SbF:=λv k=>V.rec (k v) (sbC k v) (sbC k v) (sbC k v) (sbC k v) (sbC k v) (sbC k v) (sbI1 j x k v) (k v) (k v) (sbC2 k v) v
noncomputable def sbN1 (j:Nat) (r:V) (k:V->Bool) (v:V) (j' _:Nat):Bool:=bq (Nat.beq j j') (k r) (k v)
noncomputable def sbN (j:Nat) (r:V):SbF:=λv k=>V.rec (k v) (sbC k v) (sbC k v) (sbC k v) (sbC k v) (sbC k v) (sbC k v) (sbC4 k v) (k v) (k v) (sbN1 j r k v) v
noncomputable def sbL1 (f:SbF) (x:V) (ih:(List V->Bool)->Bool) (k:List V->Bool):Bool:=f x λy=>ih (zaD y k)
noncomputable def sbL (f:SbF) (l:List V):(List V->Bool)->Bool:=List.rec (λk=>k []) (λx _ ih=>sbL1 f x ih) l
noncomputable def sbM2 (f:SbF) (ih:(Bs->Bool)->Bool) (k:Bs->Bool) (a:Nat) (x:V):Bool:=f x λy=>ih (zaD (a,y) k)
noncomputable def sbM1 (f:SbF) (h:Nat×V) (ih:(Bs->Bool)->Bool) (k:Bs->Bool):Bool:=Prod.rec (sbM2 f ih k) h
noncomputable def sbM (f:SbF) (l:Bs):(Bs->Bool)->Bool:=List.rec (λk=>k []) (λh _ ih=>sbM1 f h ih) l
noncomputable def sbOt (k:O->Bool) (xs:List V):Bool:=k (.tup xs)
noncomputable def sbOl (k:O->Bool) (xs:List V):Bool:=k (.lst xs)
noncomputable def sbOn (k:O->Bool) (m:Bs):Bool:=k (.ns m)
noncomputable def sbOc (k:O->Bool) (v:V):Bool:=k (.cel v)
noncomputable def sbK {α:Type} (o:O) (k:O->Bool) (_:α):Bool:=k o
noncomputable def sbK2 {α β:Type} (o:O) (k:O->Bool) (_:α) (_:β):Bool:=k o
noncomputable def sbK3 {α β γ:Type} (o:O) (k:O->Bool) (_:α) (_:β) (_:γ):Bool:=k o
noncomputable def sbO (f:SbF) (o:O) (k:O->Bool):Bool:=O.rec (λxs=>sbL f xs (sbOt k)) (λxs=>sbL f xs (sbOl k)) (λm=>sbM f m (sbOn k)) (sbK2 o k) (λv=>f v (sbOc k)) (k o) (sbK3 o k) (sbK2 o k) (sbK2 o k) (sbK2 o k) (sbK2 o k) (sbK2 o k) (sbK3 o k) (sbK2 o k) (sbK o k) (k o) o
noncomputable def sbT2 (f:SbF) (k:TO->Bool) (l r:TO) (o:O):Bool:=k (.node o l r)
noncomputable def sbT1 (f:SbF) (o:O) (ir:(TO->Bool)->Bool) (k:TO->Bool) (l:TO):Bool:=ir λr=>sbO f o (sbT2 f k l r)
noncomputable def sbT (f:SbF) (t:TO):(TO->Bool)->Bool:=TO.rec (λk=>k .nil) (λo _ _ il ir k=>il (sbT1 f o ir k)) t
noncomputable def sbF2 (f:SbF) (ih:(List (P×Bs)->Bool)->Bool) (k:List (P×Bs)->Bool) (L:P) (m:Bs):Bool:=sbM f m λm'=>ih (zaD (L,m') k)
noncomputable def sbF1 (f:SbF) (h:P×Bs) (ih:(List (P×Bs)->Bool)->Bool) (k:List (P×Bs)->Bool):Bool:=Prod.rec (sbF2 f ih k) h
noncomputable def sbF (f:SbF) (l:List (P×Bs)):(List (P×Bs)->Bool)->Bool:=List.rec (λk=>k []) (λh _ ih=>sbF1 f h ih) l
noncomputable def sbS2 (k:KS) (n:P) (m:Nat) (t:TO) (fr:List (P×Bs)):Bool:=k ⟨t,n,m,fr⟩
noncomputable def sbS1 (f:SbF) (k:KS) (n:P) (m:Nat) (fr:List (P×Bs)) (t:TO):Bool:=sbF f fr (sbS2 k n m t)
noncomputable def subS (f:SbF) (st:St) (k:KS):Bool:=St.rec (λt n m fr=>sbT f t (sbS1 f k n m fr)) st
noncomputable def ziI (j:Nat) (st:St) (k:Int->St->Bool) (i x:Int):Bool:=subS (sbI j x) st (k i)
noncomputable def zk1 (j:Nat) (c:Int) (st:St) (k:Int->St->Bool) (i:Int):Bool:=zdQ i c (ziI j st k i)
noncomputable def zgL (j:Nat) (c lo:Int) (st:St) (k:Int->St->Bool) (n:Nat):Bool:=Nat.rec true (λm ih=>bq (frc m λm=>iadd lo (.ofNat m) (zk1 j c st k)) ih false) n
noncomputable def zk2 (j:Nat) (c lo:Int) (st:St) (k:Int->St->Bool) (d:Int):Bool:=Int.rec (λd=>bq (Nat.ble d 40) (zgL j c lo st k (Nat.succ d)) false) (λ_=>false) d
noncomputable def conc (j:Nat) (c lo hi:Int) (st:St) (k:Int->St->Bool):Bool:=zdQ hi lo (zk2 j c lo st k)
noncomputable def ord (op:Nat) (x y:Int):Bool:=Nat.rec (bnot (ile y x)) (λop _=>Nat.rec (ile x y) (λop _=>Nat.rec (bnot (ile x y)) (λ_ _=>ile y x) op) op) op
noncomputable def lexK (ih:List B->(Bool->Bool)->Bool) (k:Bool->Bool) (r:List B) (x y:Nat):Bool:=bq (Nat.beq x y) (ih r k) (bq (Nat.ble x y) (k true) (k false))
noncomputable def lexB (y:B) (ih:List B->(Bool->Bool)->Bool) (k:Bool->Bool) (r:List B) (x:Nat):Bool:=B.rec (lexK ih k r x) f4 y
noncomputable def lexV (x:B) (ih:List B->(Bool->Bool)->Bool) (ys:List B) (k:Bool->Bool):Bool:=List.rec (k false) (λy r _=>B.rec (lexB y ih k r) f4 x) ys
noncomputable def zdL (xs:List B):List B->(Bool->Bool)->Bool:=List.rec (λys k=>List.rec (k false) (λ_ _ _=>k true) ys) (λx _ ih=>lexV x ih) xs
noncomputable def kSt (k:KB) (st:St) (b:Bool):Bool:=bq b (k true st) (k false st)
noncomputable def kStN (k:KB) (st:St) (b:Bool):Bool:=bq b (k false st) (k true st)
noncomputable def zjB (op:Nat) (st:St) (k:KB) (x y:List B):Bool:=bq (Nat.beq op 0) (zdL x y (kSt k st)) (bq (Nat.beq op 2) (zdL y x (kSt k st)) false)
noncomputable def zjA (op:Nat) (b:V) (st:St) (k:KB) (x:List B):Bool:=vByt b (zjB op st k x)
noncomputable def zjz (op:Nat) (st:St) (k:KB) (x y:Int):Bool:=kSt k st (ord op x y)
noncomputable def zjy (op:Nat) (b:V) (st:St) (k:KB) (x:Int):Bool:=vInt b (zjz op st k x)
noncomputable def zg6 (st:St) (k:KB) (_:Int):Bool:=both st k
noncomputable def ordC (op:Nat) (k:KB) (y i:Int) (st:St):Bool:=kSt k st (ord op i y)
noncomputable def zjx (op:Nat) (st:St) (k:KB) (j:Nat) (c lo hi y:Int):Bool:=bq (ord op lo y) (bq (ord op hi y) (k true st) (conc j c lo hi st (ordC op k y))) (bq (ord op hi y) (conc j c lo hi st (ordC op k y)) (k false st))
noncomputable def zjw (op:Nat) (b:V) (st:St) (k:KB) (j:Nat) (c lo hi:Int):Bool:=vInt b (zjx op st k j c lo hi)
noncomputable def ordV (op:Nat) (a b:V) (st:St) (k:KB):Bool:=zaH a false f1 (zjy op b st k) f1 (zjA op b st k) f1 f1 (zjw op b st k) (vInt b (zg6 st k)) false
noncomputable abbrev VV:=List (V×V)
noncomputable abbrev EqR:=VV->Nat->St->(Bool->Bool)->Bool
noncomputable abbrev KZ:=VV->Bool->Bool
noncomputable def kZip (x y:V) (k:KZ) (zs:VV) (b:Bool):Bool:=k ((x,y)::zs) b
noncomputable def zip1 (x:V) (ih:List V->VV->KZ->Bool) (ys:List V) (r:VV) (k:KZ):Bool:=List.rec (k r false) (λy s _=>ih s r (kZip x y k)) ys
noncomputable def zipT (xs:List V):List V->VV->KZ->Bool:=List.rec (λys r k=>List.rec (k r true) (λ_ _ _=>k r false) ys) (λx _ ih=>zip1 x ih) xs
noncomputable abbrev KBe:=Nat->Bool
noncomputable def beqN (ih:List B->Nat->KBe->Bool) (r:List B) (fl:Nat) (k:KBe) (x y:Nat):Bool:=bq (Nat.beq x y) (ih r fl k) (k 1)
noncomputable def beqS (ih:List B->Nat->KBe->Bool) (r:List B) (fl:Nat) (k:KBe) (i:Nat) (c _ _:Int) (j:Nat) (d _ _:Int):Bool:=bq (Nat.beq i j) (bq (ieq c d) (ih r fl k) (ih r 2 k)) (ih r 2 k)
noncomputable def beqX (ih:List B->Nat->KBe->Bool) (x:B) (ys:List B) (fl:Nat) (k:KBe):Bool:=
  List.rec (k 1) (λy r _=>B.rec (λx=>B.rec (beqN ih r fl k x) (λ_ _ _ _=>ih r 2 k) y) (λj c lo hi=>B.rec (λ_=>ih r 2 k) (beqS ih r fl k j c lo hi) y) x) ys
noncomputable def beqL (xs:List B):List B->Nat->KBe->Bool:=List.rec (λys fl k=>List.rec (k fl) (λ_ _ _=>k 1) ys) (λx _ ih=>beqX ih x) xs
noncomputable def zkT (k:Bool->Bool) (fl:Nat):Bool:=Nat.rec (k true) (λf _=>Nat.rec (k false) (λ_ _=>bq (k true) (k false) false) f) fl
noncomputable def eqU (ih:EqR) (r:VV) (fl:Nat) (st:St) (k:Bool->Bool):Bool:=bq (Nat.beq fl 1) (ih r 1 st k) (ih r 2 st k)
noncomputable def eqB (ih:EqR) (r:VV) (fl:Nat) (st:St) (k:Bool->Bool) (b:Bool):Bool:=bq b (ih r fl st k) (ih r 1 st k)
noncomputable def eqT (ih:EqR) (r:VV) (fl:Nat) (st:St) (k:Bool->Bool) (t:Nat):Bool:=Nat.rec (ih r fl st k) (λt _=>Nat.rec (ih r 1 st k) (λ_ _=>eqU ih r fl st k) t) t
noncomputable def eqF1 {α:Type} (ih:EqR) (r:VV) (st:St) (k:Bool->Bool) (_:α):Bool:=ih r 1 st k
noncomputable def eqF4 (ih:EqR) (r:VV) (st:St) (k:Bool->Bool) (_:Nat) (_ _ _:Int):Bool:=ih r 1 st k
noncomputable def eqU1 {α:Type} (ih:EqR) (r:VV) (fl:Nat) (st:St) (k:Bool->Bool) (_:α):Bool:=eqU ih r fl st k
noncomputable def eqU4 (ih:EqR) (r:VV) (fl:Nat) (st:St) (k:Bool->Bool) (_:Nat) (_ _ _:Int):Bool:=eqU ih r fl st k
noncomputable def eqZt (ih:EqR) (fl:Nat) (st:St) (k:Bool->Bool) (zs:VV) (b:Bool):Bool:=bq b (ih zs fl st k) (ih zs 1 st k)
noncomputable def eqZl (ih:EqR) (r:VV) (fl:Nat) (st:St) (k:Bool->Bool) (zs:VV) (b:Bool):Bool:=bq b (ih zs fl st k) (ih r 1 st k)
noncomputable def eqTT (ih:EqR) (r:VV) (fl:Nat) (st:St) (k:Bool->Bool) (xs ys:List V):Bool:=zipT xs ys r (eqZt ih fl st k)
noncomputable def eqLL (ih:EqR) (r:VV) (fl:Nat) (st:St) (k:Bool->Bool) (xs ys:List V):Bool:=zipT xs ys r (eqZl ih r fl st k)
noncomputable def eqT2 (ih:EqR) (r:VV) (fl:Nat) (st:St) (k:Bool->Bool) (xs:List V) (o:O):Bool:=oSeq o (eqTT ih r fl st k xs) (eqF1 ih r st k)
noncomputable def eqL2 (ih:EqR) (r:VV) (fl:Nat) (st:St) (k:Bool->Bool) (xs:List V) (o:O):Bool:=oSeq o (eqF1 ih r st k) (eqLL ih r fl st k xs)
noncomputable def eqT1 (ih:EqR) (r:VV) (fl:Nat) (st:St) (k:Bool->Bool) (y:P) (xs:List V):Bool:=st.get y (eqT2 ih r fl st k xs)
noncomputable def eqL1 (ih:EqR) (r:VV) (fl:Nat) (st:St) (k:Bool->Bool) (y:P) (xs:List V):Bool:=st.get y (eqL2 ih r fl st k xs)
noncomputable def eqO1 (ih:EqR) (r:VV) (fl:Nat) (st:St) (k:Bool->Bool) (y:P) (o:O):Bool:=oSeq o (eqT1 ih r fl st k y) (eqL1 ih r fl st k y)
noncomputable def seqO (ih:EqR) (r:VV) (st:St) (k:Bool->Bool) (o:O):Bool:=oSeq o (eqF1 ih r st k) (eqF1 ih r st k)
noncomputable def zbo (ih:EqR) (r:VV) (st:St) (k:Bool->Bool) (x:P):Bool:=st.get x (seqO ih r st k)
noncomputable def zfT {α:Type} (ih:EqR) (r:VV) (st:St) (k:Bool->Bool) (x:P) (_:α):Bool:=zbo ih r st k x
noncomputable def zkO (ih:EqR) (r:VV) (st:St) (k:Bool->Bool) (x:P) (_:Nat) (_ _ _:Int):Bool:=zbo ih r st k x
noncomputable def eqRR (e:P->P->Bool) (ih:EqR) (r:VV) (fl:Nat) (st:St) (k:Bool->Bool) (x y:P):Bool:=bq (e x y) (ih r fl st k) (st.get x (eqO1 ih r fl st k y))
noncomputable def zkP (e:P->P->Bool) (ih:EqR) (r:VV) (fl:Nat) (st:St) (k:Bool->Bool) (b:V) (x:P):Bool:=
  zaH b (zbo ih r st k x) (zfT ih r st k x) (zfT ih r st k x) (zfT ih r st k x) f1 (eqRR e ih r fl st k x) f1 (zkO ih r st k x) (zbo ih r st k x) false
noncomputable def zkQ (ih:EqR) (r:VV) (fl:Nat) (st:St) (k:Bool->Bool) (b:V):Bool:=zaH b (ih r fl st k) (eqF1 ih r st k) (eqF1 ih r st k) (eqF1 ih r st k) f1 (zbo ih r st k) f1 (eqF4 ih r st k) (ih r 1 st k) false
noncomputable def eqBo (ih:EqR) (r:VV) (fl:Nat) (st:St) (k:Bool->Bool) (x y:Bool):Bool:=bq x (eqB ih r fl st k y) (eqB ih r fl st k (bnot y))
noncomputable def zkU (ih:EqR) (r:VV) (fl:Nat) (st:St) (k:Bool->Bool) (b:V) (x:Bool):Bool:=zaH b (ih r 1 st k) (eqBo ih r fl st k x) f1 (eqF1 ih r st k) f1 (zbo ih r st k) f1 f4 false false
noncomputable def eqII (ih:EqR) (r:VV) (fl:Nat) (st:St) (k:Bool->Bool) (x y:Int):Bool:=eqB ih r fl st k (ieq x y)
noncomputable def zkS (ih:EqR) (r:VV) (fl:Nat) (st:St) (k:Bool->Bool) (b:V) (x:Int):Bool:=zaH b (ih r 1 st k) f1 (eqII ih r fl st k x) (eqF1 ih r st k) f1 (zbo ih r st k) f1 (eqU4 ih r fl st k) (eqU ih r fl st k) false
noncomputable def eqSS (ih:EqR) (r:VV) (fl:Nat) (st:St) (k:Bool->Bool) (x y:Nat):Bool:=eqB ih r fl st k (Nat.beq x y)
noncomputable def zkN (ih:EqR) (r:VV) (fl:Nat) (st:St) (k:Bool->Bool) (b:V) (x:Nat):Bool:=zaH b (ih r 1 st k) (eqF1 ih r st k) (eqF1 ih r st k) (eqSS ih r fl st k x) f1 (zbo ih r st k) f1 (eqF4 ih r st k) (ih r 1 st k) false
noncomputable def eqBB (ih:EqR) (r:VV) (fl:Nat) (st:St) (k:Bool->Bool) (x y:List B):Bool:=beqL x y 0 (eqT ih r fl st k)
noncomputable def znH (ih:EqR) (r:VV) (fl:Nat) (st:St) (k:Bool->Bool) (b:V) (x:List B):Bool:=vByt b (eqBB ih r fl st k x)
noncomputable def eqYY (ih:EqR) (r:VV) (fl:Nat) (st:St) (k:Bool->Bool) (i:Nat) (c:Int) (j:Nat) (d _ _:Int):Bool:=bq (Nat.beq i j) (eqB ih r fl st k (ieq c d)) (eqU ih r fl st k)
noncomputable def eqSI (ih:EqR) (r:VV) (fl:Nat) (st:St) (k:Bool->Bool) (lo hi y:Int):Bool:=bq (ile lo y) (bq (ile y hi) (eqU ih r fl st k) (ih r 1 st k)) (ih r 1 st k)
noncomputable def zkM (ih:EqR) (r:VV) (fl:Nat) (st:St) (k:Bool->Bool) (b:V) (i:Nat) (c lo hi:Int):Bool:=zaH b (ih r 1 st k) f1 (eqSI ih r fl st k lo hi) (eqF1 ih r st k) f1 (zbo ih r st k) f1 (eqYY ih r fl st k i c) (eqU ih r fl st k) false
noncomputable def zkV (ih:EqR) (r:VV) (fl:Nat) (st:St) (k:Bool->Bool) (b:V):Bool:=zaH b (ih r 1 st k) f1 (eqU1 ih r fl st k) (eqF1 ih r st k) f1 (zbo ih r st k) f1 (eqU4 ih r fl st k) (eqU ih r fl st k) false
noncomputable def eqNN (ih:EqR) (r:VV) (fl:Nat) (st:St) (k:Bool->Bool) (j j' _:Nat):Bool:=bq (Nat.beq j j') (ih r fl st k) false
noncomputable def zkR (ih:EqR) (r:VV) (fl:Nat) (st:St) (k:Bool->Bool) (b:V) (j _:Nat):Bool:=V.rec false f1 f1 f1 f1 f1 f1 f4 false false (eqNN ih r fl st k j) b
noncomputable def zfU (e:P->P->Bool) (ih:EqR) (r:VV) (fl:Nat) (st:St) (k:Bool->Bool) (a b:V):Bool:=
  V.rec (zkQ ih r fl st k b) (zkU ih r fl st k b) (zkS ih r fl st k b) (zkN ih r fl st k b) (znH ih r fl st k b) (zkP e ih r fl st k b) f1 (zkM ih r fl st k b) (zkV ih r fl st k b) false (zkR ih r fl st k b) a
noncomputable def eqPr (ih:EqR) (r:VV) (fl:Nat) (st:St) (k:Bool->Bool) (h:V×V):Bool:=Prod.rec (zfU peq ih r fl st k) h
noncomputable def eqP (f:Nat):EqR:=Nat.rec (λ_ _ _ _=>false) (λ_ ih l fl st k=>List.rec (zkT k fl) (λh r _=>eqPr ih r fl st k h) l) f
noncomputable def noP (_ _:P):Bool:=false
noncomputable def eqV (a b:V) (st:St) (k:Bool->Bool):Bool:=zfU noP (eqP 2000) [] 0 st k a b
noncomputable def eqI (a b:V) (st:St) (k:Bool->Bool):Bool:=eqP 2000 [(a,b)] 0 st k
noncomputable def kIn (ih:Bool->(Bool->Bool)->Bool) (fd:Bool) (k:Bool->Bool) (b:Bool):Bool:=bq b (ih true k) (ih fd k)
noncomputable def inL (xs:List V) (v:V) (st:St):Bool->(Bool->Bool)->Bool:=List.rec (λfd k=>k fd) (λx _ ih fd k=>eqI x v st (kIn ih fd k)) xs
noncomputable def kf1 {α:Type} (k:Bool->Bool) (_:α):Bool:=k false
noncomputable def kf4 (k:Bool->Bool) (_:Nat) (_ _ _:Int):Bool:=k false
noncomputable def zkv (a:V) (k:Bool->Bool):Bool:=zaH a (k true) (kf1 k) (kf1 k) (kf1 k) (kf1 k) (kf1 k) f1 (kf4 k) (k false) false
noncomputable def isV (a b:V) (k:Bool->Bool):Bool:=zaH b (zkv a k) f1 f1 f1 f1 f1 f1 f4 false false
noncomputable def inLK (a:V) (st:St) (k:Bool->Bool) (xs:List V):Bool:=inL xs a st false k
noncomputable def ktr {α:Type} (k:Bool->Bool) (_:α):Bool:=k true
noncomputable def inNs (a:V) (k:Bool->Bool) (m:Bs):Bool:=vStr a (λx=>zcJ m x (ktr k) (k false))
noncomputable def inO (a:V) (st:St) (k:Bool->Bool) (o:O):Bool:=O.rec (inLK a st k) (inLK a st k) (inNs a k) f2 f1 false f3 f2 f2 f2 f2 f2 f3 f2 f1 false o
noncomputable def inR (a:V) (st:St) (k:Bool->Bool) (n:P):Bool:=st.get n (inO a st k)
noncomputable def inV (a b:V) (st:St) (k:Bool->Bool):Bool:=vRef b (inR a st k)
noncomputable def cmpC (op:Nat) (a b:V) (st:St) (k:KB):Bool:=
  bq (Nat.beq op 4) (eqV a b st (kSt k st)) (bq (Nat.beq op 5) (eqV a b st (kStN k st)) (bq (Nat.beq op 6) (isV a b (kSt k st)) (bq (Nat.beq op 7) (isV a b (kStN k st))
    (bq (Nat.beq op 8) (inV a b st (kSt k st)) (bq (Nat.beq op 9) (inV a b st (kStN k st)) false)))))
noncomputable def cmpV (op:Nat) (a b:V) (st:St) (k:KB):Bool:=bq (Nat.ble op 3) (ordV op a b st k) (cmpC op a b st k)
end
end Mine
end
section
namespace Mine
noncomputable section
noncomputable def zd7 (n:Nat):Bool:=Nat.ble n 1000000000000000000
noncomputable def zan (x:Int):Bool:=Int.rec zd7 zd7 x
noncomputable def powN (x:Int) (k:KI) (n:Nat):Bool:=Int.rec (λx=>bq (Nat.ble n 64) (bq (zd7 x) (frc (Nat.pow x n) (za0 k)) false) false) (λ_=>false) x
noncomputable def powI (x:Int) (y:Int) (k:KI):Bool:=Int.rec (powN x k) (λ_=>false) y
noncomputable def znb (k:KI) (x y:Nat):Bool:=frc (Nat.mul x y) (za0 k)
noncomputable def mulN (b:Int) (k:KI) (x:Nat):Bool:=Int.rec (znb k x) (λy=>bq (Nat.beq x 0) (k (.ofNat 0)) (frc (Nat.pred (Nat.mul x (Nat.succ y))) (zaZ k))) b
noncomputable def mulS (b:Int) (k:KI) (x:Nat):Bool:=Int.rec (λy=>bq (Nat.beq y 0) (k (.ofNat 0)) (frc (Nat.pred (Nat.mul (Nat.succ x) y)) (zaZ k))) (λy=>frc (Nat.mul (Nat.succ x) (Nat.succ y)) (za0 k)) b
noncomputable def mulI (a b:Int) (k:KI):Bool:=bq (zan a) (bq (zan b) (Int.rec (mulN b k) (mulS b k) a) false) false
noncomputable def modI (a:Int) (k:KI) (n:Nat):Bool:=bq (Nat.ble 1 n) (Int.rec (λx=>frc (Nat.mod x n) (za0 k)) (λx=>frc (Nat.sub (Nat.pred n) (Nat.mod x n)) (za0 k)) a) false
noncomputable def zaP (y:Int) (k:Nat->Bool):Bool:=Int.rec k (λ_=>false) y
noncomputable def binI (op:Nat) (x y:Int) (k:KI):Bool:=
  bq (Nat.beq op 0) (iadd x y k) (bq (Nat.beq op 1) (zdQ x y k) (bq (Nat.beq op 2) (mulI x y k) (bq (Nat.beq op 4) (zaP y (modI x k)) (bq (Nat.beq op 5) (powI x y k) false))))
noncomputable def sh3 (k:KV) (st:St) (j:Nat) (c lo hi:Int):Bool:=k (.sym j c lo hi) st
noncomputable def sh2 (k:KV) (st:St) (j:Nat) (hi d:Int) (c lo:Int):Bool:=iadd hi d (sh3 k st j c lo)
noncomputable def sh1 (k:KV) (st:St) (j:Nat) (lo hi d:Int) (c:Int):Bool:=iadd lo d (sh2 k st j hi d c)
noncomputable def zdD (st:St) (k:KV) (d:Int) (j:Nat) (c lo hi:Int):Bool:=iadd c d (sh1 k st j lo hi d)
noncomputable def shN (st:St) (k:KV) (j:Nat) (c lo hi:Int) (d:Int):Bool:=zdD st k d j c lo hi
noncomputable def ziG (m:Nat) (k:KV) (j:Nat) (st:St):Bool:=frc (Nat.pred m) λh=>k (.sym j (.ofNat 0) (.ofNat 0) (.ofNat h)) st
noncomputable def dz (m:Nat):Bool:=Nat.beq m 4
noncomputable def zkY (m:Nat) (k:KV) (j:Nat) (st:St):Bool:=frc (Nat.pred m) λh=>k (.sym j (.ofNat 0) (.ofNat 1) (.ofNat h)) st
noncomputable def drZ (m:Nat) (k:KV) (st:St):Bool:=bq (k (.int (.ofNat 0)) st) (st.sym (zkY m k)) false
noncomputable def drK (m:Nat) (k:KV) (st:St):Bool:=bq (dz m) (drZ m k st) (bq (Nat.ble m 8) (enum m k st) (st.sym (ziG m k)))
noncomputable def aniM (st:St) (k:KV) (m:Nat):Bool:=bq (Nat.ble 1 m) (drK m k st) false
noncomputable def aniD (st:St) (k:KV) (m:Nat):Bool:=bq (Nat.ble 1 m) (bq (Nat.ble m 1000000000) (k .ani st) false) false
noncomputable def aniI (op:Nat) (st:St) (k:KV) (y:Int):Bool:=bq (Nat.beq op 4) (zaP y (aniM st k)) (bq (Nat.beq op 3) (zaP y (aniD st k)) (bq (Nat.beq op 0) (k .ani st) false))
noncomputable def zlj (op:Nat) (b:V) (st:St) (k:KV):Bool:=vInt b (aniI op st k)
noncomputable def zgW (lo hi:Int) (st:St) (k:KV) (y:Int):Bool:=bq (zan lo) (bq (zan hi) (bq (zan y) (k .ani st) false) false) false
noncomputable def zi8 (k:KV) (m:Nat) (i:Int) (st:St):Bool:=modI i (kInt k st) m
noncomputable def zi7 (j:Nat) (c lo hi:Int) (st:St) (k:KV) (m:Nat):Bool:=conc j c lo hi st (zi8 k m)
noncomputable def few (lo hi:Int):Bool:=zdQ hi lo (λd=>Int.rec (λd=>Nat.ble d 40) (λ_=>false) d)
noncomputable def zgX (j:Nat) (c lo hi:Int) (st:St) (k:KV) (y:Int):Bool:=bq (few lo hi) (zaP y (zi7 j c lo hi st k)) (aniI 4 st k y)
noncomputable def symI (op:Nat) (j:Nat) (c lo hi:Int) (st:St) (k:KV) (y:Int):Bool:=bq (Nat.beq op 0) (zdD st k y j c lo hi) (bq (Nat.beq op 1) (ineg y (shN st k j c lo hi)) (bq (Nat.beq op 2) (zgW lo hi st k y) (bq (Nat.beq op 4) (zgX j c lo hi st k y) (aniI op st k y))))
noncomputable def symS (op:Nat) (lo hi:Int) (st:St) (k:KV) (_:Nat) (_ lo' hi':Int):Bool:=bq (Nat.beq op 2) (bq (zan lo) (bq (zan hi) (bq (zan lo') (bq (zan hi') (k .ani st) false) false) false) false) false
noncomputable def zhH (op:Nat) (b:V) (st:St) (k:KV) (j:Nat) (c lo hi:Int):Bool:=zaH b false f1 (symI op j c lo hi st k) f1 f1 f1 f1 (symS op lo hi st k) false false
noncomputable def zbJ (k:KV) (st:St) (zs:List V):Bool:=st.add (.tup zs) (kRef k)
noncomputable def za5 (k:KV) (st:St) (zs:List V):Bool:=st.add (.lst zs) (kRef k)
noncomputable def zlb (x:P) (xs:List V) (st:St) (k:KV) (ys:List V):Bool:=List.rec (k (.ref x) st) (λ_ _ _=>bq (zah xs 300) (bq (zah ys 300) (appL xs ys (zbJ k st)) false) false) ys
noncomputable def znN (x y:P) (xs:List V) (st:St) (k:KV) (ys:List V):Bool:=List.rec (k (.ref y) st) (λ_ _ _=>zlb x xs st k ys) xs
noncomputable def znO (xs:List V) (st:St) (k:KV) (ys:List V):Bool:=bq (zah xs 300) (bq (zah ys 300) (appL xs ys (za5 k st)) false) false
noncomputable def zla (x y:P) (xs:List V) (st:St) (k:KV) (o:O):Bool:=oTup o (znN x y xs st k)
noncomputable def zlc (xs:List V) (st:St) (k:KV) (o:O):Bool:=oLst o (znO xs st k)
noncomputable def catT (x y:P) (st:St) (k:KV) (xs:List V):Bool:=st.get y (zla x y xs st k)
noncomputable def catL (y:P) (st:St) (k:KV) (xs:List V):Bool:=st.get y (zlc xs st k)
noncomputable def catO (x y:P) (st:St) (k:KV) (o:O):Bool:=oSeq o (catT x y st k) (catL y st k)
noncomputable def ziW (op:Nat) (st:St) (k:KV) (x y:P):Bool:=bq (Nat.beq op 0) (st.get x (catO x y st k)) false
noncomputable def repT (n:Nat) (st:St) (k:KV) (xs:List V):Bool:=bq (Nat.ble 2 n) (List.rec false (λ_ _ _=>bq (zah xs 300) (repL n xs (zbJ k st)) false) xs) false
noncomputable def zmd (n:Nat) (st:St) (k:KV) (xs:List V):Bool:=bq (zah xs 300) (repL n xs (za5 k st)) false
noncomputable def repO (n:Nat) (st:St) (k:KV) (o:O):Bool:=oSeq o (repT n st k) (zmd n st k)
noncomputable def repN (st:St) (k:KV) (x:P) (n:Nat):Bool:=bq (Nat.ble n 300) (st.get x (repO n st k)) false
noncomputable def znS (op:Nat) (st:St) (k:KV) (x:P) (y:Int):Bool:=bq (Nat.beq op 2) (zaP y (repN st k x)) false
noncomputable def zhI (op:Nat) (b:V) (st:St) (k:KV) (x:P):Bool:=zaH b false f1 (znS op st k x) f1 f1 (ziW op st k x) f1 f4 false false
noncomputable def zkw (op:Nat) (st:St) (k:KV) (x:Int) (j:Nat) (c lo hi:Int):Bool:=bq (Nat.beq op 0) (zdD st k x j c lo hi) false
noncomputable def divI (x:Int) (k:KI) (m:Nat):Bool:=bq (Nat.ble 1 m) (bq (Nat.ble m 1000000000) (Int.rec (λa=>frc (Nat.div a m) (za0 k)) (λ_=>false) x) false) false
noncomputable def zkx (op:Nat) (st:St) (k:KV) (x y:Int):Bool:=bq (Nat.beq op 3) (zaP y (divI x (kInt k st))) (binI op x y (kInt k st))
noncomputable def zhJ (op:Nat) (b:V) (st:St) (k:KV) (x:Int):Bool:=zaH b false f1 (zkx op st k x) f1 f1 f1 f1 (zkw op st k x) (bq (Nat.beq op 1) (k .ani st) false) false
noncomputable def kByt (k:KV) (st:St) (z:List B):Bool:=k (.byt z) st
noncomputable def zhE (op:Nat) (st:St) (k:KV) (x y:List B):Bool:=bq (Nat.beq op 0) (bq (zah x 300) (bq (zah y 300) (appL x y (kByt k st)) false) false) false
noncomputable def zli (op:Nat) (b:V) (st:St) (k:KV) (x:List B):Bool:=vByt b (zhE op st k x)
noncomputable def binV (op:Nat) (a b:V) (st:St) (k:KV):Bool:=zaH a false f1 (zhJ op b st k) f1 (zli op b st k) (zhI op b st k) f1 (zhH op b st k) (zlj op b st k) false
noncomputable def zeP (n:Nat) (i:Int) (k:Nat->Bool):Bool:=Int.rec (λa=>bq (Nat.blt a n) (k a) false) (λa=>bq (Nat.blt a n) (frc (Nat.sub (Nat.pred n) a) k) false) i
noncomputable def kV (k:KV) (st:St) (v:V):Bool:=k v st
noncomputable def kNth (xs:List V) (st:St) (k:KV) (p:Nat):Bool:=nth xs p (kV k st)
noncomputable def kAt (xs:List V) (i:Int) (st:St) (k:KV) (n:Nat):Bool:=zeP n i (kNth xs st k)
noncomputable def idxL (i:Int) (st:St) (k:KV) (xs:List V):Bool:=lenL xs 0 (kAt xs i st k)
noncomputable def idxO (i:Int) (st:St) (k:KV) (o:O):Bool:=oSeq o (idxL i st k) (idxL i st k)
noncomputable def idxI (st:St) (k:KV) (x:P) (i:Int):Bool:=bq (zan i) (st.get x (idxO i st k)) false
noncomputable def idxM (s:Nat) (st:St) (k:KV) (m:Bs):Bool:=look m s (kV k st)
noncomputable def idxN (s:Nat) (st:St) (k:KV) (o:O):Bool:=oNs o (idxM s st k)
noncomputable def idxS (st:St) (k:KV) (x:P) (s:Nat):Bool:=st.get x (idxN s st k)
noncomputable def idxC (k:KV) (x:P) (i:Int) (st:St):Bool:=idxI st k x i
noncomputable def idxY (st:St) (k:KV) (x:P) (j:Nat) (c lo hi:Int):Bool:=conc j c lo hi st (idxC k x)
noncomputable def idxR (i:V) (st:St) (k:KV) (x:P):Bool:=zaH i false f1 (idxI st k x) (idxS st k x) f1 f1 f1 (idxY st k x) false false
noncomputable def bV (k:KV) (st:St) (b:B):Bool:=B.rec (λx=>k (.int (.ofNat x)) st) (λj c lo hi=>k (.sym j c lo hi) st) b
noncomputable def zkc (xs:List B) (st:St) (k:KV) (p:Nat):Bool:=nth xs p (bV k st)
noncomputable def zkB (xs:List B) (st:St) (k:KV) (i:Int):Bool:=bq (zah xs 300) (zaP i (zkc xs st k)) false
noncomputable def idxB (i:V) (st:St) (k:KV) (xs:List B):Bool:=vInt i (zkB xs st k)
noncomputable def idxV (a i:V) (st:St) (k:KV):Bool:=zaH a false f1 f1 f1 (idxB i st k) (idxR i st k) f1 f4 false false
noncomputable def zk9 (n:Nat) (k:Nat->Bool) (i:Int):Bool:=Int.rec (λa=>bq (Nat.ble a n) (k a) (k n)) (λa=>bq (Nat.blt a n) (frc (Nat.sub (Nat.pred n) a) k) (k 0)) i
noncomputable def clip (n:Nat) (d:Nat) (i:Option V) (k:Nat->Bool):Bool:=Option.rec (k d) (λv=>vInt v (zk9 n k)) i
noncomputable def sl3 {α:Type} (a:Nat) (k:List α->Bool) (ys:List α):Bool:=zfW a ys k
noncomputable def sl2 {α:Type} (xs:List α) (a:Nat) (k:List α->Bool) (b:Nat):Bool:=zgc b xs (sl3 a k)
noncomputable def sl1 {α:Type} (xs:List α) (hi:Option V) (k:List α->Bool) (n:Nat) (a:Nat):Bool:=clip n n hi (sl2 xs a k)
noncomputable def sl0 {α:Type} (xs:List α) (lo hi:Option V) (k:List α->Bool) (n:Nat):Bool:=clip n 0 lo (sl1 xs hi k n)
noncomputable def slcL {α:Type} (xs:List α) (lo hi:Option V) (k:List α->Bool):Bool:=lenL xs 0 (sl0 xs lo hi k)
noncomputable def slT3 (xs:List V) (a:Nat) (st:St) (k:KV) (n:Nat):Bool:=bq (Nat.ble a n) (zfW a xs (zbJ k st)) false
noncomputable def slT2 (xs:List V) (st:St) (k:KV) (a:Nat):Bool:=bq (Nat.ble 1 a) (bq (zah xs 300) (lenL xs 0 (slT3 xs a st k)) false) false
noncomputable def slT1 (xs:List V) (st:St) (k:KV) (v:V):Bool:=vInt v λi=>zaP i (slT2 xs st k)
noncomputable def slU3 (xs:List V) (b:Nat) (st:St) (k:KV) (n:Nat):Bool:=bq (Nat.blt b n) (zgc b xs (zbJ k st)) false
noncomputable def slU2 (xs:List V) (st:St) (k:KV) (b:Nat):Bool:=bq (zah xs 300) (lenL xs 0 (slU3 xs b st k)) false
noncomputable def slU1 (xs:List V) (st:St) (k:KV) (v:V):Bool:=vInt v λi=>zaP i (slU2 xs st k)
noncomputable def slcT (lo hi:Option V) (st:St) (k:KV) (xs:List V):Bool:=Option.rec (Option.rec false (slT1 xs st k) lo) (λv=>Option.rec (slU1 xs st k v) (λ_=>false) lo) hi
noncomputable def zlQ (lo hi:Option V) (st:St) (k:KV) (xs:List V):Bool:=bq (zah xs 300) (slcL xs lo hi (za5 k st)) false
noncomputable def slcO (lo hi:Option V) (st:St) (k:KV) (o:O):Bool:=oSeq o (slcT lo hi st k) (zlQ lo hi st k)
noncomputable def slcR (lo hi:Option V) (st:St) (k:KV) (x:P):Bool:=st.get x (slcO lo hi st k)
noncomputable def slcV (a:V) (lo hi:Option V) (st:St) (k:KV):Bool:=vRef a (slcR lo hi st k)
noncomputable def zka (x:P) (st:St) (k:KS) (ys:List V):Bool:=st.put x (.lst ys) k
noncomputable def zfK (x:P) (st:St) (k:KS) (m:Bs):Bool:=st.put x (.ns m) k
noncomputable def seN (xs:List V) (v:V) (x:P) (st:St) (k:KS) (p:Nat):Bool:=setN xs p v (zka x st k)
noncomputable def seA (xs:List V) (i:Int) (v:V) (x:P) (st:St) (k:KS) (n:Nat):Bool:=zeP n i (seN xs v x st k)
noncomputable def seL (i:Int) (v:V) (x:P) (st:St) (k:KS) (xs:List V):Bool:=lenL xs 0 (seA xs i v x st k)
noncomputable def seO (i:Int) (v:V) (x:P) (st:St) (k:KS) (o:O):Bool:=oLst o (seL i v x st k)
noncomputable def seI (v:V) (x:P) (st:St) (k:KS) (i:Int):Bool:=bq (ile (.ofNat 0) i) (bq (zan i) (st.get x (seO i v x st k)) false) false
noncomputable def memK (x:Nat) (l:Bs):Bool:=List.rec false (λh _ ih=>Prod.rec (λa _=>bq (Nat.beq a x) true ih) h) l
noncomputable def ndL (l:Bs):Bool:=List.rec true (λh r ih=>Prod.rec (λa _=>bq (memK a r) false ih) h) l
noncomputable def seM (s:Nat) (v:V) (x:P) (st:St) (k:KS) (m:Bs):Bool:=bq (zah m 200) (bq (ndL m) (setL m s v (zfK x st k)) false) false
noncomputable def seNs (s:Nat) (v:V) (x:P) (st:St) (k:KS) (o:O):Bool:=oNs o (seM s v x st k)
noncomputable def seS (v:V) (x:P) (st:St) (k:KS) (s:Nat):Bool:=st.get x (seNs s v x st k)
noncomputable def seR (i v:V) (st:St) (k:KS) (x:P):Bool:=zaH i false f1 (seI v x st k) (seS v x st k) f1 f1 f1 f4 false false
noncomputable def zg0 (a i v:V) (st:St) (k:KS):Bool:=vRef a (seR i v st k)
noncomputable def ldC2 (st:St) (k:KV) (o:O):Bool:=oCel o (kV k st)
noncomputable def ldC (st:St) (k:KV) (c:P):Bool:=st.get c (ldC2 st k)
noncomputable def zj2 (x:Nat) (st:St) (k:KV) (ms:Bs):Bool:=look ms x (kV k st)
noncomputable def stC1 (v:V) (c:P) (st:St) (k:KS) (o:O):Bool:=zfo o (st.put c (.cel v) k)
noncomputable def stC (v:V) (st:St) (k:KS) (c:P):Bool:=st.get c (stC1 v c st k)
noncomputable def stR (st:St) (k:KS) (ms:Bs):Bool:=st.retop ms k
noncomputable def zh3 (x:Nat) (v:V) (st:St) (k:KS) (ms:Bs):Bool:=setL ms x v (stR st k)
noncomputable def zkr (n:P) (mk:P->Nat->O) (st:St) (k:KP) (_:List V):Bool:=st.add (mk n 0) k
noncomputable def zks (st:St) (k:KP) (a b:Int):Bool:=bq (zan a) (bq (zan b) (st.add (.rit a b) k) false) false
noncomputable def ziv (n:P) (st:St) (k:KP) (o:O):Bool:=O.rec (zkr n .tit st k) (zkr n .lit st k) f1 f2 f1 false f3 f2 f2 f2 (zks st k) f2 f3 f2 f1 false o
noncomputable def zns (st:St) (k:KP) (n:P):Bool:=st.get n (ziv n st k)
noncomputable def za1 (v:V) (st:St) (k:KP):Bool:=vRef v (zns st k)
noncomputable abbrev KO:=Option V->St->Bool
noncomputable def zgw (k:KO) (v:V) (st:St):Bool:=k (some v) st
noncomputable def zkd (k:KO) (st:St):Bool:=k none st
noncomputable def nxP2 (it l:P) (mk:P->Nat->O) (st:St) (k:KO) (v:V) (j:Nat):Bool:=st.put it (mk l j) (zgw k v)
noncomputable def nxP (it l:P) (i:Nat) (mk:P->Nat->O) (st:St) (k:KO) (v:V):Bool:=frc (Nat.succ i) (nxP2 it l mk st k v)
noncomputable def nxN (it l:P) (i:Nat) (mk:P->Nat->O) (xs:List V) (st:St) (k:KO) (n:Nat):Bool:=bq (Nat.blt i n) (nth xs i (nxP it l i mk st k)) (st.put it .junk (zkd k))
noncomputable def nxS (it l:P) (i:Nat) (mk:P->Nat->O) (st:St) (k:KO) (xs:List V):Bool:=lenL xs 0 (nxN it l i mk xs st k)
noncomputable def nxLo (it l:P) (i:Nat) (st:St) (k:KO) (o:O):Bool:=oLst o (nxS it l i .lit st k)
noncomputable def nxTo (it l:P) (i:Nat) (st:St) (k:KO) (o:O):Bool:=oTup o (nxS it l i .tit st k)
noncomputable def nxL (it:P) (st:St) (k:KO) (l:P) (i:Nat):Bool:=st.get l (nxLo it l i st k)
noncomputable def nxT (it:P) (st:St) (k:KO) (l:P) (i:Nat):Bool:=st.get l (nxTo it l i st k)
noncomputable def nxR2 (it:P) (a b:Int) (st:St) (k:KO) (a':Int):Bool:=st.put it (.rit a' b) (zgw k (.int a))
noncomputable def nxR (it:P) (st:St) (k:KO) (a b:Int):Bool:=bq (ile b a) (st.put it .junk (zkd k)) (iadd a (.ofNat 1) (nxR2 it a b st k))
noncomputable def zjT (it:P) (st:St) (k:KO) (o:O):Bool:=O.rec f1 f1 f1 f2 f1 false f3 f2 (nxL it st k) (nxT it st k) f2 (nxR it st k) f3 f2 f1 false o
noncomputable def zby (it:P) (st:St) (k:KO):Bool:=st.get it (zjT it st k)
noncomputable def bL (l:List B):KLs->Bool:=List.rec (λk=>k []) (λb _ ih k=>B.rec (λx=>ih (zaD (.int (.ofNat x)) k)) (λj c lo hi=>ih (zaD (.sym j c lo hi) k)) b) l
noncomputable def itS (k:KLs) (xs:List V):Bool:=bq (zah xs 300) (k xs) false
noncomputable def zhq (k:KLs) (o:O):Bool:=oSeq o (itS k) (itS k)
noncomputable def zkp (st:St) (k:KLs) (n:P):Bool:=st.get n (zhq k)
noncomputable def zkq (k:KLs) (xs:List B):Bool:=bq (zah xs 300) (bL xs k) false
noncomputable def zdP (v:V) (st:St) (k:KLs):Bool:=zaH v false f1 f1 f1 (zkq k) (zkp st k) f1 f4 false false
noncomputable abbrev KBs:=List B->Bool
noncomputable def toBn (ih:KBs->Bool) (k:KBs) (x:Nat):Bool:=bq (Nat.ble x 255) (ih (zaD (.n x) k)) false
noncomputable def toBi (ih:KBs->Bool) (k:KBs) (i:Int):Bool:=zaP i (toBn ih k)
noncomputable def toBs (ih:KBs->Bool) (k:KBs) (j:Nat) (c lo hi:Int):Bool:=bq (ile (.ofNat 0) lo) (bq (ile hi (.ofNat 255)) (ih (zaD (.s j c lo hi) k)) false) false
noncomputable def toB (l:List V):KBs->Bool:=List.rec (λk=>k []) (λv _ ih k=>zaH v false f1 (toBi ih k) f1 f1 f1 f1 (toBs ih k) false false) l
noncomputable def lnL (k:Nat->Bool) (xs:List V):Bool:=bq (zah xs 300) (lenL xs 0 k) false
noncomputable def lnB (k:Nat->Bool) (xs:List B):Bool:=bq (zah xs 300) (lenL xs 0 k) false
noncomputable def lnO (k:Nat->Bool) (o:O):Bool:=oSeq o (lnL k) (lnL k)
noncomputable def lnR (st:St) (k:Nat->Bool) (n:P):Bool:=st.get n (lnO k)
noncomputable def lenV (v:V) (st:St) (k:Nat->Bool):Bool:=zaH v false f1 f1 f1 (lnB k) (lnR st k) f1 f4 false false
noncomputable def kLen (k:KV) (st:St) (n:Nat):Bool:=k (.int (.ofNat n)) st
noncomputable def kBo (k:KV) (b:Bool) (st:St):Bool:=k (.boo b) st
noncomputable def kB' (k:KV) (st:St) (b:Bool):Bool:=bq b (k (.boo true) st) (k (.boo false) st)
noncomputable def isSq (k:KV) (st:St) (b:Bool) (_:List V):Bool:=kB' k st b
noncomputable def isO (t:Nat) (st:St) (k:KV) (o:O):Bool:=oSeq o (isSq k st (Nat.beq t 3)) (isSq k st false)
noncomputable def isR (t:Nat) (st:St) (k:KV) (n:P):Bool:=st.get n (isO t st k)
noncomputable def is1 {α:Type} (st:St) (k:KV) (b:Bool) (_:α):Bool:=kB' k st b
noncomputable def is4 (st:St) (k:KV) (b:Bool) (_:Nat) (_ _ _:Int):Bool:=kB' k st b
noncomputable def isB6 (t:Nat) (st:St) (k:KV) (_:List B):Bool:=bq (Nat.beq t 6) (k (.boo true) st) false
noncomputable def kCh1 (j d:Nat) (k:List V->St->Bool) (cs:List V) (st:St):Bool:=k (.nes j d::cs) st
noncomputable def mkCh (d n:Nat):St->(List V->St->Bool)->Bool:=Nat.rec (λst k=>k [] st) (λ_ ih st k=>st.sym λj st=>ih st (kCh1 j d k)) n
noncomputable def matE (j:Nat) (k:KV) (n:P) (st:St):Bool:=subS (sbN j (.ref n)) st (kBo k true)
noncomputable def matD (j w:Nat) (k:KV) (n2:P) (st:St):Bool:=st.add (.tup [.nes w 0,.ref n2]) (matE j k)
noncomputable def matC (j w:Nat) (k:KV) (cs:List V) (st:St):Bool:=st.add (.tup cs) (matD j w k)
noncomputable def matM (j d m:Nat) (st:St) (k:KV):Bool:=st.sym λw st=>mkCh d m st (matC j w k)
noncomputable def isN1 (j:Nat) (st:St) (k:KV) (d:Nat):Bool:=bq (subS (sbN j (.nes j 0)) st (kBo k false)) (bq (matM j d 1 st k) (bq (matM j d 2 st k) (matM j d 3 st k) false) false) false
noncomputable def znt (t:Nat) (st:St) (k:KV) (j d:Nat):Bool:=bq (Nat.beq t 3) (Nat.rec (k (.boo false) st) (λd _=>isN1 j st k d) d) false
noncomputable def isi (t:Nat) (v:V) (st:St) (k:KV):Bool:=
  V.rec (k (.boo false) st) f1 (is1 st k (Nat.beq t 9)) f1 (isB6 t st k) (isR t st k) f1 (is4 st k (Nat.beq t 9)) (kB' k st (Nat.beq t 9)) false (znt t st k) v
noncomputable def zgF (g:G) (fn cl:P->Bool) (bi:Nat->Bool) (val:V->Bool) (drw:Bool):Bool:=G.rec fn cl bi val drw g
noncomputable def isG2 (v:V) (st:St) (k:KV) (t:Nat):Bool:=bq (bq (Nat.beq t 6) true (bq (Nat.beq t 8) true (bq (Nat.beq t 9) true (Nat.beq t 3)))) (isi t v st k) false
noncomputable def isG (v:V) (st:St) (k:KV) (g:G):Bool:=zgF g f1 f1 (isG2 v st k) f1 false
noncomputable def isP (p:Pg) (v:V) (st:St) (k:KV) (g:P):Bool:=tget g p.g (isG v st k)
noncomputable def tupS (st:St) (k:KV) (xs:List V):Bool:=bq (zah xs 300) (zbJ k st xs) false
noncomputable def tupO (st:St) (k:KV) (o:O):Bool:=oLst o (tupS st k)
noncomputable def tupR (st:St) (k:KV) (n:P):Bool:=st.get n (tupO st k)
noncomputable def zlP (st:St) (k:KV) (m:Bs):Bool:=List.rec (za5 k st []) (λ_ _ _=>false) m
noncomputable def zjd (st:St) (k:KV) (o:O):Bool:=oNs o (zlP st k)
noncomputable def zjc (st:St) (k:KV) (n:P):Bool:=st.get n (zjd st k)
noncomputable def bytL (st:St) (k:KV) (xs:List V):Bool:=bq (zah xs 300) (toB xs (kByt k st)) false
noncomputable def bytO (st:St) (k:KV) (o:O):Bool:=oLst o (bytL st k)
noncomputable def bytR (st:St) (k:KV) (n:P):Bool:=st.get n (bytO st k)
noncomputable def rng1 (st:St) (k:KV) (b:Int):Bool:=st.add (.rng (.ofNat 0) b) (kRef k)
noncomputable def rng2 (st:St) (k:KV) (a b:Int):Bool:=st.add (.rng a b) (kRef k)
noncomputable def zjm (b:V) (st:St) (k:KV) (a:Int):Bool:=vInt b (rng2 st k a)
noncomputable def rngC (k:KV) (i:Int) (st:St):Bool:=rng1 st k i
noncomputable def rngY (st:St) (k:KV) (j:Nat) (c lo hi:Int):Bool:=conc j c lo hi st (rngC k)
noncomputable def rngV (v:V) (st:St) (k:KV):Bool:=zaH v false f1 (rng1 st k) f1 f1 f1 f1 (rngY st k) false false
noncomputable def bi1 (b:Nat) (v:V) (st:St) (k:KV):Bool:=
  bq (Nat.beq b 0) (lenV v st (kLen k st)) (bq (Nat.beq b 2) (zdP v st (za5 k st)) (bq (Nat.beq b 3) (vRef v (tupR st k)) (bq (Nat.beq b 5) (vRef v (zjc st k)) (bq (Nat.beq b 6) (vRef v (bytR st k)) (bq (Nat.beq b 7) (rngV v st k) false)))))
noncomputable def maxA (v w:V) (st:St) (k:KV):Bool:=bq (isI v) (bq (isI w) (k .ani st) false) false
noncomputable def bi2 (p:Pg) (b:Nat) (v w:V) (st:St) (k:KV):Bool:=bq (Nat.beq b 1) (vGlo w (isP p v st k)) (bq (Nat.beq b 4) (maxA v w st k) (bq (Nat.beq b 7) (vInt v (zjm w st k)) false))
noncomputable def arg1 (args:List V) (k:V->Bool):Bool:=List.rec false (λv r _=>List.rec (k v) (λ_ _ _=>false) r) args
noncomputable def arg2 (args:List V) (k:V->V->Bool):Bool:=List.rec false (λv r _=>arg1 r (k v)) args
noncomputable def bi2' (p:Pg) (b:Nat) (st:St) (k:KV) (v w:V):Bool:=bi2 p b v w st k
noncomputable def biT (p:Pg) (b:Nat) (st:St) (k:KV) (v:V) (r:List V):Bool:=List.rec (bi1 b v st k) (λ_ _ _=>arg1 r (bi2' p b st k v)) r
noncomputable def zhK (p:Pg) (args:List V) (st:St) (k:KV) (b:Nat):Bool:=List.rec false (λv r _=>biT p b st k v r) args
noncomputable def zke (k:KV) (st:St):Bool:=k .non st
noncomputable def zis (n:P) (st:St) (k:KV) (ys:List V):Bool:=st.put n (.lst ys) (zke k)
noncomputable def kVS (k:KV) (v:V) (st:St):Bool:=k v st
noncomputable def kPop (n:P) (st:St) (k:KV) (ys:List V) (v:V):Bool:=st.put n (.lst ys) (kVS k v)
noncomputable def extL (n:P) (xs:List V) (st:St) (k:KV) (ys:List V):Bool:=bq (zah ys 300) (appL xs ys (zis n st k)) false
noncomputable def extO (n:P) (xs:List V) (st:St) (k:KV) (o:O):Bool:=oLst o (extL n xs st k)
noncomputable def extR (n:P) (xs:List V) (st:St) (k:KV) (l:P):Bool:=st.get l (extO n xs st k)
noncomputable def outP (x:V) (k:List V->V->Bool) (r:List V) (v:V):Bool:=k (x::r) v
noncomputable def out1 (x:V) (r:List V) (ih:Nat->(List V->V->Bool)->Bool) (i:Nat) (k:List V->V->Bool):Bool:=Nat.rec (k r x) (λj _=>ih j (outP x k)) i
noncomputable def outN (l:List V):Nat->(List V->V->Bool)->Bool:=List.rec (λ_ _=>false) (λx r ih=>out1 x r ih) l
noncomputable def popN (n:P) (xs:List V) (st:St) (k:KV) (i:Nat):Bool:=outN xs i (kPop n st k)
noncomputable def pop0 (n:P) (xs:List V) (st:St) (k:KV) (i:Int):Bool:=zaP i (popN n xs st k)
noncomputable def lst1 (n:P) (xs:List V) (m:Nat) (st:St) (k:KV) (v:V):Bool:=bq (Nat.beq m 0) (appL xs [v] (zis n st k)) (bq (Nat.beq m 1) (vInt v (pop0 n xs st k)) (bq (Nat.beq m 2) (vRef v (extR n xs st k)) false))
noncomputable def zim (n:P) (m:Nat) (args:List V) (st:St) (k:KV) (xs:List V):Bool:=bq (zah xs 300) (List.rec (bq (Nat.beq m 1) (zir xs (kPop n st k)) false) (λv r _=>List.rec (lst1 n xs m st k v) (λ_ _ _=>false) r) args) false
noncomputable def kSub (x:Nat) (ih:(Cs->Bool)->Bool) (k:Cs->Bool) (c:P):Bool:=ih (zaD (x,c) k)
noncomputable def subL (l:List Nat) (cs:Cs):(Cs->Bool)->Bool:=List.rec (λk=>k []) (λx _ ih k=>look cs x (kSub x ih k)) l
noncomputable def zlB (x:Nat) (ih:List V->KN->Bool) (vs:List V) (k:KN):Bool:=List.rec false (λv s _=>ih s (zaD (x,v) k)) vs
noncomputable def zipN (l:List Nat):List V->KN->Bool:=List.rec (λvs k=>List.rec (k []) (λ_ _ _=>false) vs) (λx _ ih=>zlB x ih) l
end
end Mine
end
section
namespace Mine
noncomputable section
noncomputable abbrev CF:=P->List V->Cs->Nat->St->KV->KV->Bool
structure Cx where
  r:CF
  cs:Cs
  dp:Nat
  kx:KV
  p:Pg
  hd:Bool
  tb:Option (Option P)
noncomputable abbrev Ev:=Cx->St->KV->Bool
noncomputable abbrev Evs:=Cx->St->KL->Bool
noncomputable abbrev Tst:=Cx->St->KB->Bool
noncomputable abbrev Chn:=V->Cx->St->KB->Bool
noncomputable abbrev Ex:=Cx->St->KF->Bool
noncomputable abbrev As:=V->Cx->St->KS->Bool
noncomputable abbrev Ass:=List V->Cx->St->KS->Bool
noncomputable def xCst (v:V):Ev:=λ_ st k=>k v st
noncomputable def xLoc (x:Nat):Ev:=λ_ st k=>st.top (zj2 x st k)
noncomputable def xCel (x:Nat):Ev:=λc st k=>look c.cs x (ldC st k)
noncomputable def gl1 (g:P) (st:St) (k:KV) (o:G):Bool:=zgF o (λ_=>k (.glo g) st) (λ_=>k (.glo g) st) (λ_=>k (.glo g) st) (kV k st) (k (.glo g) st)
noncomputable def xGlo (g:P):Ev:=λc st k=>tget g c.p.g (gl1 g st k)
noncomputable def kTup (k:KV) (vs:List V) (st:St):Bool:=zbJ k st vs
noncomputable def kLst (k:KV) (vs:List V) (st:St):Bool:=za5 k st vs
noncomputable def xTup (es:Evs):Ev:=λc st k=>es c st (kTup k)
noncomputable def xLst (es:Evs):Ev:=λc st k=>es c st (kLst k)
noncomputable def zkZ (d:P) (k:KV) (st:St) (m:Bs):Bool:=bq (ndL m) (st.put d (.ns m) (kRef k d)) false
noncomputable def znK (ks:List Nat) (d:P) (k:KV) (vs:List V) (st:St) (m:Bs):Bool:=List.rec (zipN ks vs (zkZ d k st)) (λ_ _ _=>false) m
noncomputable def dcNs (ks:List Nat) (d:P) (k:KV) (vs:List V) (st:St) (o:O):Bool:=oNs o (znK ks d k vs st)
noncomputable def kDct (ks:List Nat) (d:P) (k:KV) (vs:List V) (st:St):Bool:=st.get d (dcNs ks d k vs st)
noncomputable def zk0 (ks:List Nat) (es:Evs) (c:Cx) (k:KV) (d:P) (st:St):Bool:=es c st (kDct ks d k)
noncomputable def xDct (ks:List Nat) (es:Evs):Ev:=λc st k=>st.add (.ns []) (zk0 ks es c k)
noncomputable def xDc0:Ev:=λc st k=>st.add (.ns []) (kRef k)
noncomputable def atBm (n:P) (st:St) (k:KV) (f:P):Bool:=st.add (.bm f n) (kRef k)
noncomputable def atCl (x:Nat) (n:P) (st:St) (k:KV) (C:Cl):Bool:=look C.mt x (atBm n st k)
noncomputable def kPl (k:KV) (st:St) (v:V):Bool:=bq (zec v) (k v st) false
noncomputable def atM (p:Pg) (x:Nat) (n c:P) (st:St) (k:KV) (m:Bs):Bool:=zcJ m x (kPl k st) (tget c p.c (atCl x n st k))
noncomputable def atNs (p:Pg) (x:Nat) (n c:P) (st:St) (k:KV) (o:O):Bool:=oNs o (atM p x n c st k)
noncomputable def atI (p:Pg) (x:Nat) (n:P) (st:St) (k:KV) (c d:P):Bool:=st.get d (atNs p x n c st k)
noncomputable def atXM (x:Nat) (st:St) (k:KV) (m:Bs):Bool:=look m x (kPl k st)
noncomputable def atXN (x:Nat) (st:St) (k:KV) (o:O):Bool:=oNs o (atXM x st k)
noncomputable def atX (x:Nat) (st:St) (k:KV) (_:P) (d:Option P) (_:Bool):Bool:=Option.rec false (λd=>st.get d (atXN x st k)) d
noncomputable def atO (p:Pg) (x:Nat) (n:P) (st:St) (k:KV) (o:O):Bool:=O.rec f1 f1 f1 (atI p x n st k) f1 false f3 f2 f2 f2 f2 f2 (atX x st k) f2 f1 false o
noncomputable def atR (p:Pg) (x:Nat) (st:St) (k:KV) (n:P):Bool:=st.get n (atO p x n st k)
noncomputable def kAtt (p:Pg) (x:Nat) (k:KV) (v:V) (st:St):Bool:=vRef v (atR p x st k)
noncomputable def xAtt (e:Ev) (x:Nat):Ev:=λc st k=>e c st (kAtt c.p x k)
noncomputable def zkh (v:V) (k:KV) (i:V) (st:St):Bool:=idxV v i st k
noncomputable def kIdx (i:Ev) (c:Cx) (k:KV) (v:V) (st:St):Bool:=i c st (zkh v k)
noncomputable def xIdx (e i:Ev):Ev:=λc st k=>e c st (kIdx i c k)
noncomputable abbrev Opt:=Cx->St->(Option V->St->Bool)->Bool
noncomputable def zbH:Opt:=λ_ st k=>k none st
noncomputable def zj7 (k:Option V->St->Bool) (v:V) (st:St):Bool:=k (some v) st
noncomputable def zbG (e:Ev):Opt:=λc st k=>e c st (zj7 k)
noncomputable def zj8 (v:V) (lo:Option V) (k:KV) (hi:Option V) (st:St):Bool:=slcV v lo hi st k
noncomputable def zj9 (hi:Opt) (c:Cx) (v:V) (k:KV) (lo:Option V) (st:St):Bool:=hi c st (zj8 v lo k)
noncomputable def kSlc (lo hi:Opt) (c:Cx) (k:KV) (v:V) (st:St):Bool:=lo c st (zj9 hi c v k)
noncomputable def xSlc (e:Ev) (lo hi:Opt):Ev:=λc st k=>e c st (kSlc lo hi c k)
noncomputable def zkl (op:Nat) (v:V) (k:KV) (w:V) (st:St):Bool:=binV op v w st k
noncomputable def kBin (op:Nat) (e:Ev) (c:Cx) (k:KV) (v:V) (st:St):Bool:=e c st (zkl op v k)
noncomputable def xBin (op:Nat) (a b:Ev):Ev:=λc st k=>a c st (kBin op b c k)
noncomputable def ngI (k:KV) (st:St) (i:Int):Bool:=ineg i (kInt k st)
noncomputable def kNeg (k:KV) (v:V) (st:St):Bool:=vInt v (ngI k st)
noncomputable def xNeg (e:Ev):Ev:=λc st k=>e c st (kNeg k)
noncomputable def znn (k:KV) (b:Bool) (st:St):Bool:=bq b (k (.boo false) st) (k (.boo true) st)
noncomputable def kNot (k:KV) (v:V) (st:St):Bool:=zeV v st (znn k)
noncomputable def xNot (e:Ev):Ev:=λc st k=>e c st (kNot k)
noncomputable def kChn (ch:Chn) (c:Cx) (k:KB) (v:V) (st:St):Bool:=ch v c st k
noncomputable def xCmp (a:Ev) (ch:Chn):Ev:=λc st k=>a c st (kChn ch c (kBo k))
noncomputable def znq (es:Ev) (c:Cx) (k:KV) (v:V) (b:Bool) (st:St):Bool:=bq b (es c st k) (k v st)
noncomputable def kAnd (es:Ev) (c:Cx) (k:KV) (v:V) (st:St):Bool:=zeV v st (znq es c k v)
noncomputable def xAnd (e es:Ev):Ev:=λc st k=>e c st (kAnd es c k)
noncomputable def kOr2 (es:Ev) (c:Cx) (k:KV) (v:V) (b:Bool) (st:St):Bool:=bq b (k v st) (es c st k)
noncomputable def kOr (es:Ev) (c:Cx) (k:KV) (v:V) (st:St):Bool:=zeV v st (kOr2 es c k v)
noncomputable def xOr (e es:Ev):Ev:=λc st k=>e c st (kOr es c k)
noncomputable def kIfe (x y:Ev) (c:Cx) (k:KV) (b:Bool) (st:St):Bool:=bq b (x c st k) (y c st k)
noncomputable def xIfe (t:Tst) (x y:Ev):Ev:=λc st k=>t c st (kIfe x y c k)
noncomputable def zj6 (n:P) (k:KV) (v:V) (st:St):Bool:=zaH v (k (.ref n) st) f1 f1 f1 f1 f1 f1 f4 false false
noncomputable def inF (r:CF) (args:List V) (dp:Nat) (k kx:KV) (n:P) (st:St) (f:P):Bool:=r f (.ref n::args) [] dp st (zj6 n k) kx
noncomputable def zf2 (r:CF) (C:Cl) (args:List V) (dp:Nat) (k kx:KV) (n:P) (st:St):Bool:=Option.rec false (inF r args dp k kx n st) C.ini
noncomputable def zf1 (r:CF) (c:P) (C:Cl) (args:List V) (dp:Nat) (k kx:KV) (d:P) (st:St):Bool:=st.add (.inst c d) (zf2 r C args dp k kx)
noncomputable def zhD (r:CF) (c:P) (args:List V) (dp:Nat) (st:St) (k kx:KV) (C:Cl):Bool:=bq C.ex (bq (zah args 30) (st.add (.exc c none false) (zf2 r C args dp k kx)) false) (st.add (.ns []) (zf1 r c C args dp k kx))
noncomputable def zhC (p:Pg) (r:CF) (args:List V) (dp:Nat) (st:St) (k kx:KV) (c:P):Bool:=tget c p.c (zhD r c args dp st k kx)
noncomputable def drB (b:V) (k:Bool):Bool:=V.rec false f1 f1 f1 f1 f1 f1 (λ_ _ lo hi=>bq (ile (.ofNat 0) lo) (bq (ile hi (.ofNat 2147483646)) k false) false) false false f2 b
noncomputable def drQ (m:Nat) (k:KV) (st:St):Bool:=st.pop (drK m k)
noncomputable def drP (n:P) (k:KV) (m:Nat) (j:Nat) (st:St):Bool:=st.put n (.lst [.ani,.sym j (.ofNat 0) (.ofNat 0) (.ofNat 2147483646)]) (drQ m k)
noncomputable def drS (n:P) (k:KV) (m:Nat) (st:St):Bool:=st.sym (drP n k m)
noncomputable def drV (n:P) (st:St) (k:KV) (m:Nat) (a b:V):Bool:=bq (isI a) (drB b (bq (Nat.ble 1 m) (bq (Nat.ble m 1000000000) (st.push [] (drS n k m)) false) false)) false
noncomputable def drL (n:P) (st:St) (k:KV) (m:Nat) (xs:List V):Bool:=arg2 xs (drV n st k m)
noncomputable def drO (n:P) (st:St) (k:KV) (m:Nat) (o:O):Bool:=oLst o (drL n st k m)
noncomputable def drM (n:P) (st:St) (k:KV) (m:Nat):Bool:=st.get n (drO n st k m)
noncomputable def drI (n:P) (st:St) (k:KV) (i:Int):Bool:=zaP i (drM n st k)
noncomputable def drR (b:V) (st:St) (k:KV) (n:P):Bool:=vInt b (drI n st k)
noncomputable def dr2 (st:St) (k:KV) (a b:V):Bool:=vRef a (drR b st k)
noncomputable def draw (args:List V) (st:St) (k:KV):Bool:=arg2 args (dr2 st k)
noncomputable def zlh (r:CF) (args:List V) (dp:Nat) (st:St) (k kx:KV) (f:P):Bool:=r f args [] dp st k kx
noncomputable def zlg (p:Pg) (r:CF) (args:List V) (dp:Nat) (st:St) (k kx:KV) (g:G):Bool:=zgF g (zlh r args dp st k kx) (zhC p r args dp st k kx) (zhK p args st k) f1 (bq (Nat.blt dp 40) (draw args st k) false)
noncomputable def zlf (p:Pg) (r:CF) (args:List V) (dp:Nat) (st:St) (k kx:KV) (g:P):Bool:=tget g p.g (zlg p r args dp st k kx)
noncomputable def caO (r:CF) (args:List V) (dp:Nat) (st:St) (k kx:KV) (f:P) (cs:Cs) (g:P):Bool:=bq (peq f g) (r f args cs dp st k kx) false
noncomputable def oCod (o:O) (k:P->Bool):Bool:=O.rec f1 f1 f1 f2 f1 false f3 f2 f2 f2 f2 f2 f3 f2 k false o
noncomputable def caC (r:CF) (args:List V) (dp:Nat) (st:St) (k kx:KV) (f:P) (cs:Cs) (o:O):Bool:=oCod o (caO r args dp st k kx f cs)
noncomputable def ziQ (r:CF) (args:List V) (dp:Nat) (st:St) (k kx:KV) (f:P) (cs:Cs) (q:P):Bool:=st.get q (caC r args dp st k kx f cs)
noncomputable def zle (r:CF) (args:List V) (dp:Nat) (st:St) (k kx:KV) (o:O):Bool:=O.rec f1 f1 f1 f2 f1 false (ziQ r args dp st k kx) f2 f2 f2 f2 f2 f3 f2 f1 false o
noncomputable def znP (r:CF) (args:List V) (dp:Nat) (st:St) (k kx:KV) (n:P):Bool:=st.get n (zle r args dp st k kx)
noncomputable def zld (p:Pg) (r:CF) (f:V) (args:List V) (dp:Nat) (st:St) (k kx:KV):Bool:=zaH f false f1 f1 f1 f1 (znP r args dp st k kx) (zlf p r args dp st k kx) f4 false false
noncomputable def zkk (c:Cx) (k:KV) (f:V) (vs:List V) (st:St):Bool:=bq c.hd false (zld c.p c.r f vs c.dp st k c.kx)
noncomputable def kCal (args:Evs) (c:Cx) (k:KV) (f:V) (st:St):Bool:=args c st (zkk c k f)
noncomputable def xCal (f:Ev) (args:Evs):Ev:=λc st k=>f c st (kCal args c k)
noncomputable def mcF (n:P) (f:P) (c:Cx) (k:KV) (vs:List V) (st:St):Bool:=bq c.hd false (c.r f (.ref n::vs) [] c.dp st k c.kx)
noncomputable def mcA (n:P) (args:Evs) (c:Cx) (st:St) (k:KV) (f:P):Bool:=args c st (mcF n f c k)
noncomputable def mcC (n:P) (x:Nat) (args:Evs) (c:Cx) (st:St) (k:KV) (C:Cl):Bool:=look C.mt x (mcA n args c st k)
noncomputable def mcM (n:P) (x:Nat) (args:Evs) (c:Cx) (st:St) (k:KV) (cl:P) (m:Bs):Bool:=zcJ m x f1 (tget cl c.p.c (mcC n x args c st k))
noncomputable def mcN (n:P) (x:Nat) (args:Evs) (c:Cx) (st:St) (k:KV) (cl:P) (o:O):Bool:=oNs o (mcM n x args c st k cl)
noncomputable def mcI (n:P) (x:Nat) (args:Evs) (c:Cx) (st:St) (k:KV) (cl d:P):Bool:=st.get d (mcN n x args c st k cl)
noncomputable def mcL2 (n:P) (x:Nat) (vs:List V) (st:St) (k:KV) (o:O):Bool:=oLst o (zim n x vs st k)
noncomputable def mcL1 (n:P) (x:Nat) (k:KV) (vs:List V) (st:St):Bool:=st.get n (mcL2 n x vs st k)
noncomputable def mcL (n:P) (x:Nat) (args:Evs) (c:Cx) (st:St) (k:KV) (_:List V):Bool:=bq (Nat.ble x 2) (args c st (mcL1 n x k)) false
noncomputable def mcO (n:P) (x:Nat) (args:Evs) (c:Cx) (st:St) (k:KV) (o:O):Bool:=O.rec f1 (mcL n x args c st k) f1 (mcI n x args c st k) f1 false f3 f2 f2 f2 f2 f2 f3 f2 f1 false o
noncomputable def mcR (x:Nat) (args:Evs) (c:Cx) (st:St) (k:KV) (n:P):Bool:=st.get n (mcO n x args c st k)
noncomputable def kMca (x:Nat) (args:Evs) (c:Cx) (k:KV) (o:V) (st:St):Bool:=vRef o (mcR x args c st k)
noncomputable def xMca (o:Ev) (x:Nat) (args:Evs):Ev:=λc st k=>o c st (kMca x args c k)
noncomputable abbrev Cmp:=P->P->Cx->St->KS->Bool
noncomputable def noX (v:V) (st:St):Bool:=false
noncomputable def zio (k:KS) (st:St):Bool:=st.pop k
noncomputable def lc3 (cm:Cmp) (c:Cx) (k:KV) (cs:Cs) (i acc:P) (st:St):Bool:=bq c.hd false (cm i acc ⟨c.r,cs,c.dp,noX,c.p,false,none⟩ st (zio (kRef k acc)))
noncomputable def lc2 (cm:Cmp) (c:Cx) (k:KV) (cs:Cs) (i acc:P) (st:St):Bool:=st.push [] (lc3 cm c k cs i acc)
noncomputable def lc1 (cm:Cmp) (c:Cx) (k:KV) (cs:Cs) (i:P) (st:St):Bool:=st.add (.lst []) (lc2 cm c k cs i)
noncomputable def lc0 (cm:Cmp) (c:Cx) (k:KV) (cs:Cs) (v:V) (st:St):Bool:=za1 v st (lc1 cm c k cs)
noncomputable def lcS (it:Ev) (cm:Cmp) (c:Cx) (st:St) (k:KV) (cs:Cs):Bool:=it c st (lc0 cm c k cs)
noncomputable def xLcm (it:Ev) (cm:Cmp) (frees:List Nat):Ev:=λc st k=>subL frees c.cs (lcS it cm c st k)
noncomputable abbrev KR:=St->KS->Bool
noncomputable def znL (acc:P) (rec:KR) (k:KS) (st:St) (ys:List V):Bool:=st.put acc (.lst ys) (λst=>rec st k)
noncomputable def zk7 (acc:P) (rec:KR) (k:KS) (v:V) (st:St) (xs:List V):Bool:=bq (zah xs 300) (appL xs [v] (znL acc rec k st)) false
noncomputable def zk8 (acc:P) (rec:KR) (k:KS) (v:V) (st:St) (o:O):Bool:=oLst o (zk7 acc rec k v st)
noncomputable def zk6 (acc:P) (rec:KR) (k:KS) (v:V) (st:St):Bool:=st.get acc (zk8 acc rec k v st)
noncomputable abbrev zbL:=P->Cx->St->KR->KS->Bool
noncomputable def zbm (e:Ev):zbL:=λacc c st rec k=>e c st (zk6 acc rec k)
noncomputable def zky (rec:KR) (k:KS) (st:St):Bool:=rec st k
noncomputable def inL2 (cm:Cmp) (acc:P) (c:Cx) (rec:KR) (k:KS) (i:P) (st:St):Bool:=cm i acc c st (zky rec k)
noncomputable def inL1 (cm:Cmp) (acc:P) (c:Cx) (rec:KR) (k:KS) (v:V) (st:St):Bool:=za1 v st (inL2 cm acc c rec k)
noncomputable def zhu (it:Ev) (cm:Cmp):zbL:=λacc c st rec k=>it c st (inL1 cm acc c rec k)
noncomputable def cmIf (inn:zbL) (acc:P) (c:Cx) (rec:KR) (k:KS) (b:Bool) (st:St):Bool:=bq b (inn acc c st rec k) (rec st k)
noncomputable def cmTs (ifs:Tst) (inn:zbL) (acc:P) (c:Cx) (rec:KR) (k:KS) (st:St):Bool:=ifs c st (cmIf inn acc c rec k)
noncomputable def zk5 (t:As) (ifs:Tst) (inn:zbL) (acc:P) (c:Cx) (rec:KR) (k:KS) (st:St) (v:V):Bool:=t v c st (cmTs ifs inn acc c rec k)
noncomputable def cmNx (t:As) (ifs:Tst) (inn:zbL) (acc:P) (c:Cx) (rec:KR) (k:KS) (v:Option V) (st:St):Bool:=Option.rec (k st) (zk5 t ifs inn acc c rec k st) v
noncomputable def zk4 (t:As) (ifs:Tst) (inn:zbL) (i acc:P) (c:Cx) (rec:KR) (st:St) (k:KS):Bool:=zby i st (cmNx t ifs inn acc c rec k)
noncomputable def zbC (t:As) (ifs:Tst) (inn:zbL) (i acc:P) (c:Cx) (n:Nat):KR:=Nat.rec (λ_ _=>false) (λ_ rec=>zk4 t ifs inn i acc c rec) n
noncomputable def xCm (t:As) (ifs:Tst) (inn:zbL):Cmp:=λi acc c=>zbC t ifs inn i acc c 200
noncomputable def xNil:Evs:=λ_ st k=>k [] st
noncomputable def znp (k:KL) (v:V) (vs:List V) (st:St):Bool:=k (v::vs) st
noncomputable def kEvs (es:Evs) (c:Cx) (k:KL) (v:V) (st:St):Bool:=es c st (znp k v)
noncomputable def zaa (e:Ev) (es:Evs):Evs:=λc st k=>e c st (kEvs es c k)
noncomputable def zj5 (k:KB) (v:V) (st:St):Bool:=zeV v st k
noncomputable def znm (k:KB) (b:Bool) (st:St):Bool:=bq b (k false st) (k true st)
noncomputable def zaQ (e:Ev):Tst:=λc st k=>e c st (zj5 k)
noncomputable def tNot (t:Tst):Tst:=λc st k=>t c st (znm k)
noncomputable def znk (ts:Tst) (c:Cx) (k:KB) (b:Bool) (st:St):Bool:=bq b (ts c st k) (k false st)
noncomputable def kTor (ts:Tst) (c:Cx) (k:KB) (b:Bool) (st:St):Bool:=bq b (k true st) (ts c st k)
noncomputable def tAnd (t ts:Tst):Tst:=λc st k=>t c st (znk ts c k)
noncomputable def tOr (t ts:Tst):Tst:=λc st k=>t c st (kTor ts c k)
noncomputable def tYes:Tst:=λ_ st k=>k true st
noncomputable def tNo:Tst:=λ_ st k=>k false st
noncomputable def kTif (x y:Tst) (c:Cx) (k:KB) (b:Bool) (st:St):Bool:=bq b (x c st k) (y c st k)
noncomputable def tIf (t x y:Tst):Tst:=λc st k=>t c st (kTif x y c k)
noncomputable def tCmp (a:Ev) (ch:Chn):Tst:=λc st k=>a c st (kChn ch c k)
noncomputable def ch1 (op:Nat) (v:V) (k:KB) (w:V) (st:St):Bool:=cmpV op v w st k
noncomputable def zad (op:Nat) (b:Ev):Chn:=λv c st k=>b c st (ch1 op v k)
noncomputable def chK (ch:Chn) (w:V) (c:Cx) (k:KB) (b:Bool) (st:St):Bool:=bq b (ch w c st k) (k false st)
noncomputable def ch2 (op:Nat) (ch:Chn) (v:V) (c:Cx) (k:KB) (w:V) (st:St):Bool:=cmpV op v w st (chK ch w c k)
noncomputable def zbD (op:Nat) (b:Ev) (ch:Chn):Chn:=λv c st k=>b c st (ch2 op ch v c k)
noncomputable def aLoc (x:Nat):As:=λv _ st k=>st.top (zh3 x v st k)
noncomputable def aCel (x:Nat):As:=λv c st k=>look c.cs x (stC v st k)
noncomputable def asM (x:Nat) (v:V) (d:P) (st:St) (k:KS) (m:Bs):Bool:=bq (zah m 200) (setL m x v (zfK d st k)) false
noncomputable def asNs (x:Nat) (v:V) (d:P) (st:St) (k:KS) (o:O):Bool:=oNs o (asM x v d st k)
noncomputable def asI (x:Nat) (v:V) (st:St) (k:KS) (_ d:P):Bool:=st.get d (asNs x v d st k)
noncomputable def asXn (n c:P) (k:KS) (fl:Bool) (d:P) (st:St):Bool:=st.put n (.exc c (some d) fl) k
noncomputable def asX (x:Nat) (v:V) (n:P) (st:St) (k:KS) (c:P) (d:Option P) (fl:Bool):Bool:=Option.rec (st.add (.ns [(x,v)]) (asXn n c k fl)) (λd=>st.get d (asNs x v d st k)) d
noncomputable def asO (x:Nat) (v:V) (n:P) (st:St) (k:KS) (o:O):Bool:=O.rec f1 f1 f1 (asI x v st k) f1 false f3 f2 f2 f2 f2 f2 (asX x v n st k) f2 f1 false o
noncomputable def asR (x:Nat) (v:V) (st:St) (k:KS) (n:P):Bool:=st.get n (asO x v n st k)
noncomputable def zkn (x:Nat) (v:V) (k:KS) (o:V) (st:St):Bool:=vRef o (asR x v st k)
noncomputable def aAtt (e:Ev) (x:Nat):As:=λv c st k=>e c st (zkn x v k)
noncomputable def zfM (o v:V) (k:KS) (i:V) (st:St):Bool:=zg0 o i v st k
noncomputable def zkm (i:Ev) (v:V) (c:Cx) (k:KS) (o:V) (st:St):Bool:=i c st (zfM o v k)
noncomputable def aIdx (e i:Ev):As:=λv c st k=>e c st (zkm i v c k)
noncomputable def asTn (n:Nat) (ts:Ass) (c:Cx) (st:St) (k:KS) (xs:List V) (m:Nat):Bool:=bq (Nat.beq m n) (ts xs c st k) false
noncomputable def asTu (n:Nat) (ts:Ass) (c:Cx) (st:St) (k:KS) (xs:List V):Bool:=lenL xs 0 (asTn n ts c st k xs)
noncomputable def asTO (n:Nat) (ts:Ass) (c:Cx) (st:St) (k:KS) (o:O):Bool:=oTup o (asTu n ts c st k)
noncomputable def asTR (n:Nat) (ts:Ass) (c:Cx) (st:St) (k:KS) (q:P):Bool:=st.get q (asTO n ts c st k)
noncomputable def aTup (n:Nat) (ts:Ass):As:=λv c st k=>bq c.hd false (vRef v (asTR n ts c st k))
noncomputable def aNil:Ass:=λvs _ st k=>List.rec (k st) (λ_ _ _=>false) vs
noncomputable def kAss (ts:Ass) (vs:List V) (c:Cx) (k:KS) (st:St):Bool:=ts vs c st k
noncomputable def zlA (t:As) (ts:Ass) (c:Cx) (st:St) (k:KS) (v:V) (vs:List V):Bool:=t v c st (kAss ts vs c k)
noncomputable def zai (t:As) (ts:Ass):Ass:=λvs c st k=>List.rec false (λv vs _=>zlA t ts c st k v vs) vs
noncomputable def zgx (k:KF) (st:St):Bool:=k .next st
noncomputable def zkf (k:KF) (v:V) (st:St):Bool:=k .next st
noncomputable def kRet (k:KF) (v:V) (st:St):Bool:=k (.ret v) st
noncomputable def sExp (e:Ev):Ex:=λc st k=>e c st (zkf k)
noncomputable def kAsg (t:As) (c:Cx) (k:KF) (v:V) (st:St):Bool:=t v c st (zgx k)
noncomputable def sAsg (t:As) (e:Ev):Ex:=λc st k=>e c st (kAsg t c k)
noncomputable def revL {α:Type} (l:List α):List α->(List α->Bool)->Bool:=List.rec (λacc k=>k acc) (λx _ ih acc k=>ih (x::acc) k) l
noncomputable def swK (ts:Ass) (c:Cx) (st:St) (k:KF) (xs:List V):Bool:=ts xs c st (zgx k)
noncomputable def swN (n:Nat) (ts:Ass) (c:Cx) (st:St) (k:KF) (xs:List V) (m:Nat):Bool:=bq (Nat.beq m n) (revL xs [] (swK ts c st k)) false
noncomputable def swT (n:Nat) (ts:Ass) (c:Cx) (st:St) (k:KF) (xs:List V):Bool:=lenL xs 0 (swN n ts c st k xs)
noncomputable def swO (n:Nat) (ts:Ass) (c:Cx) (st:St) (k:KF) (o:O):Bool:=oTup o (swT n ts c st k)
noncomputable def swR (n:Nat) (ts:Ass) (c:Cx) (st:St) (k:KF) (q:P):Bool:=st.get q (swO n ts c st k)
noncomputable def kSwp (n:Nat) (ts:Ass) (c:Cx) (k:KF) (v:V) (st:St):Bool:=vRef v (swR n ts c st k)
noncomputable def sSwp (n:Nat) (ts:Ass) (e:Ev):Ex:=λc st k=>bq c.hd false (e c st (kSwp n ts c k))
noncomputable def sRet (e:Ev):Ex:=λc st k=>e c st (kRet k)
noncomputable def sReN:Ex:=λ_ st k=>k (.ret .non) st
noncomputable def kSif (x y:Ex) (c:Cx) (k:KF) (b:Bool) (st:St):Bool:=bq b (x c st k) (y c st k)
noncomputable def sIf (t:Tst) (x y:Ex):Ex:=λc st k=>t c st (kSif x y c k)
noncomputable def zen (fl:Fl) (n b c:Bool) (r:V->Bool):Bool:=Fl.rec n b c r fl
noncomputable def kSeq (ss:Ex) (c:Cx) (k:KF) (fl:Fl) (st:St):Bool:=zen fl (ss c st k) (k .brk st) (k .cont st) (λv=>k (.ret v) st)
noncomputable def sNil:Ex:=λ_ st k=>k .next st
noncomputable def zab (s ss:Ex):Ex:=λc st k=>s c st (kSeq ss c k)
noncomputable abbrev KRF:=St->KF->Bool
noncomputable def zfJ (rec:KRF) (k:KF) (fl:Fl) (st:St):Bool:=zen fl (rec st k) (k .next st) (rec st k) (λv=>k (.ret v) st)
noncomputable def kWhl (b:Ex) (c:Cx) (rec:KRF) (k:KF) (t:Bool) (st:St):Bool:=bq t (b c st (zfJ rec k)) (k .next st)
noncomputable def zi2 (t:Tst) (b:Ex) (c:Cx) (rec:KRF) (st:St) (k:KF):Bool:=t c st (kWhl b c rec k)
noncomputable def noC (c:Cx):Cx:=⟨c.r,c.cs,c.dp,noX,c.p,false,c.tb⟩
noncomputable def zcW (t:Tst) (b:Ex) (c:Cx) (n:Nat):KRF:=Nat.rec (λ_ _=>false) (λ_ rec=>zi2 t b c rec) n
noncomputable def sWhl (t:Tst) (b:Ex):Ex:=λc st k=>bq c.hd false (zcW t b (noC c) 200 st k)
noncomputable def zit (b:Ex) (c:Cx) (rec:KRF) (k:KF) (st:St):Bool:=b c st (zfJ rec k)
noncomputable def zno (t:As) (b:Ex) (c:Cx) (rec:KRF) (k:KF) (st:St) (v:V):Bool:=t v c st (zit b c rec k)
noncomputable def kLop (t:As) (b:Ex) (c:Cx) (rec:KRF) (k:KF) (v:Option V) (st:St):Bool:=Option.rec (k .next st) (zno t b c rec k st) v
noncomputable def zfR (i:P) (t:As) (b:Ex) (c:Cx) (rec:KRF) (st:St) (k:KF):Bool:=zby i st (kLop t b c rec k)
noncomputable def zce (t:As) (b:Ex) (c:Cx) (i:P) (n:Nat):KRF:=Nat.rec (λ_ _=>false) (λ_ rec=>zfR i t b c rec) n
noncomputable def zkj (t:As) (b:Ex) (c:Cx) (k:KF) (i:P) (st:St):Bool:=bq c.hd false (zce t b (noC c) i 200 st k)
noncomputable def kFor (t:As) (b:Ex) (c:Cx) (k:KF) (v:V) (st:St):Bool:=za1 v st (zkj t b c k)
noncomputable def sFor (t:As) (e:Ev) (b:Ex):Ex:=λc st k=>e c st (kFor t b c k)
structure Fn where
  ps:List Nat
  ds:List V
  cl:List Nat
  bd:Ex
  tb:Option P
noncomputable def bdD (p:Nat) (ih:List V->List V->KN->Bool) (ds:List V) (k:KN) (v:V):Bool:=ih [] ds (zaD (p,v) k)
noncomputable def bdN (p:Nat) (ih:List V->List V->KN->Bool) (ds:List V) (k:KN) (n d:Nat):Bool:=bq (Nat.ble n d) (nth ds (Nat.sub d n) (bdD p ih ds k)) false
noncomputable def bdL (p:Nat) (ih:List V->List V->KN->Bool) (ds:List V) (k:KN) (n:Nat):Bool:=lenL ds 0 (bdN p ih ds k n)
noncomputable def bd1 (p:Nat) (r:List Nat) (ih:List V->List V->KN->Bool) (vs ds:List V) (k:KN):Bool:=List.rec (lenL r 1 (bdL p ih ds k)) (λv vs _=>ih vs ds (zaD (p,v) k)) vs
noncomputable def bindArgs (ps:List Nat):List V->List V->KN->Bool:=List.rec (λvs _ k=>List.rec (k []) (λ_ _ _=>false) vs) (λp r ih=>bd1 p r ih) ps
noncomputable abbrev KC:=Cs->St->Bool
noncomputable def zkb (x:Nat) (n:P) (k:KC) (cs:Cs) (st:St):Bool:=k ((x,n)::cs) st
noncomputable def mkV (x:Nat) (ih:St->KC->Bool) (k:KC) (n:P) (st:St):Bool:=ih st (zkb x n k)
noncomputable def mkU1 (x:Nat) (b:Bs) (ih:St->KC->Bool) (st:St) (k:KC):Bool:=zcJ b x (λv=>st.add (.cel v) (mkV x ih k)) (st.add .cnil (mkV x ih k))
noncomputable def zcI (cl:List Nat) (b:Bs):St->KC->Bool:=List.rec (λst k=>k [] st) (λx _ ih=>mkU1 x b ih) cl
noncomputable def zng (cl:List Nat) (h:Nat×V) (ih:KN->Bool) (k:KN):Bool:=bq (mem cl h.1) (ih k) (ih (zaD h k))
noncomputable def locs (cl:List Nat) (b:Bs):KN->Bool:=List.rec (λk=>k []) (λh _ ih=>zng cl h ih) b
noncomputable def ziM (k:KV) (fl:Fl) (st:St):Bool:=zen fl (st.pop (k .non)) false false (λv=>st.pop (k v))
noncomputable def cfX (kx:KV) (v:V) (st:St):Bool:=st.pop (kx v)
noncomputable def cfGo (r:CF) (p:Pg) (bd:Ex) (tb:Option P) (cs:Cs) (st:St) (k kx:KV) (dp:Nat):Bool:=bd ⟨r,cs,dp,cfX kx,p,false,some tb⟩ st (ziM k)
noncomputable def cfCs (r:CF) (p:Pg) (bd:Ex) (tb:Option P) (cs:Cs) (dp:Nat) (k kx:KV) (cs':Cs) (st:St):Bool:=
  List.rec (frc (Nat.succ dp) (cfGo r p bd tb cs' st k kx)) (λ_ _ _=>List.rec (frc (Nat.succ dp) (cfGo r p bd tb cs st k kx)) (λ_ _ _=>false) cs') cs
noncomputable def cfL (r:CF) (p:Pg) (F:Fn) (bs:Bs) (cs:Cs) (dp:Nat) (k kx:KV) (st:St):Bool:=zcI F.cl bs st (cfCs r p F.bd F.tb cs dp k kx)
noncomputable def cfM (r:CF) (p:Pg) (F:Fn) (bs:Bs) (cs:Cs) (dp:Nat) (st:St) (k kx:KV) (ms:Bs):Bool:=st.push ms (cfL r p F bs cs dp k kx)
noncomputable def cfB (r:CF) (p:Pg) (F:Fn) (cs:Cs) (dp:Nat) (st:St) (k kx:KV) (bs:Bs):Bool:=locs F.cl bs (cfM r p F bs cs dp st k kx)
noncomputable def cfF (r:CF) (p:Pg) (args:List V) (cs:Cs) (dp:Nat) (st:St) (k kx:KV) (F:Fn):Bool:=bindArgs F.ps args F.ds (cfB r p F cs dp st k kx)
noncomputable def cfS (p:Pg) (fs:T Fn) (r:CF) (f:P) (args:List V) (cs:Cs) (dp:Nat) (st:St) (k kx:KV):Bool:=bq (Nat.blt dp 40) (tget f fs (cfF r p args cs dp st k kx)) false
noncomputable def go (p:Pg) (fs:T Fn) (n:Nat):CF:=Nat.rec (λ_ _ _ _ _ _ _=>false) (λ_ r=>cfS p fs r) n
end
end Mine
end
section
open PySem PySem.W PyProof.Rows PySem.Calls
namespace Mine
theorem bq_t {b x y:Bool} (h:bq b x y=true):(b=true/\x=true)\/(b=false/\y=true):=by cases b <;> simp_all [bq]
theorem zac {b x:Bool} (h:bq b x false=true):b=true/\x=true:=by cases b <;> simp_all [bq]
theorem za2 {b x:Bool} (h:bq b false x=true):b=false/\x=true:=by cases b <;> simp_all [bq]
theorem zag:∀(p q:P),peq p q=true<->p=q
  | .h,.h=>⟨λ_=>rfl,λ_=>rfl⟩
  | .h,.o _=>⟨nofun,nofun⟩
  | .h,.i _=>⟨nofun,nofun⟩
  | .o _,.h=>⟨nofun,nofun⟩
  | .o p,.o q=>⟨λh=>by rw [(zag p q).mp h],λh=>(zag p q).mpr (by cases h;rfl)⟩
  | .o _,.i _=>⟨nofun,nofun⟩
  | .i _,.h=>⟨nofun,nofun⟩
  | .i _,.o _=>⟨nofun,nofun⟩
  | .i p,.i q=>⟨λh=>by rw [(zag p q).mp h],λh=>(zag p q).mpr (by cases h;rfl)⟩
noncomputable def TO.at:TO->P->O
  | .nil,_=>.junk
  | .node o _ _,.h=>o
  | .node _ l _,.o p=>l.at p
  | .node _ _ r,.i p=>r.at p
theorem TO.nil_at (p:P):TO.nil.at p=.junk:=by cases p <;> rfl
theorem zbZ:∀(p:P) (t:TO) (k:O->Bool),oget p t k=true->k (t.at p)=true
  | .h,.nil,k,h=>by exact nb h
  | .h,.node o l r,k,h=>h
  | .o p,.nil,k,h=>by exact nb h
  | .o p,.node o l r,k,h=>zbZ p l k h
  | .i p,.nil,k,h=>by exact nb h
  | .i p,.node o l r,k,h=>zbZ p r k h
theorem zaL:∀(p:P) (x:O) (t:TO) (k:TO->Bool),tput p x t k=true->∃t',k t'=true/\∀q,t'.at q=if q=p then x else t.at q
  | .h,x,.nil,k,h=>⟨_,h,λq=>by cases q <;> simp [TO.at,TO.nil_at]⟩
  | .h,x,.node o l r,k,h=>⟨_,h,λq=>by cases q <;> simp [TO.at]⟩
  | .o p,x,.nil,k,h=>by
    refine E1_2 (zaL p x .nil _ h) λt' h' e=>?_
    exact ⟨_,h',λq=>by cases q <;> simp [TO.at,TO.nil_at,e]⟩
  | .o p,x,.node o l r,k,h=>by
    refine E1_2 (zaL p x l _ h) λt' h' e=>?_
    exact ⟨_,h',λq=>by cases q <;> simp [TO.at,e]⟩
  | .i p,x,.nil,k,h=>by
    refine E1_2 (zaL p x .nil _ h) λt' h' e=>?_
    exact ⟨_,h',λq=>by cases q <;> simp [TO.at,TO.nil_at,e]⟩
  | .i p,x,.node o l r,k,h=>by
    refine E1_2 (zaL p x r _ h) λt' h' e=>?_
    exact ⟨_,h',λq=>by cases q <;> simp [TO.at,e]⟩
noncomputable def P.num:P->Nat
  | .h=>1
  | .o p=>2 * p.num
  | .i p=>2 * p.num + 1
noncomputable def P.suc:P->P
  | .h=>.o .h
  | .o p=>.i p
  | .i p=>.o p.suc
theorem P.suc_num:∀p:P,p.suc.num=p.num + 1
  | .h=>rfl
  | .o p=>rfl
  | .i p=>by simp [P.suc,P.num,P.suc_num p];omega
theorem zbj:∀(p:P) (k:P->Bool),zgk p k=true->k p.suc=true
  | .h,k,h=>h
  | .o p,k,h=>h
  | .i p,k,h=>zbj p _ h
theorem St.get_spec {st:St} {i:P} {k:O->Bool} (h:st.get i k=true):k (st.t.at i)=true:=zbZ i st.t k h
theorem St.put_spec {st:St} {i:P} {o:O} {k:KS} (h:st.put i o k=true):∃t',k ⟨t',st.n,st.m,st.k⟩=true/\∀q,t'.at q=if q=i then o else st.t.at q:=zaL i o st.t _ h
theorem St.add_spec {st:St} {o:O} {k:KP} (h:st.add o k=true):∃t',k st.n ⟨t',st.n.suc,st.m,st.k⟩=true/\∀q,t'.at q=if q=st.n then o else st.t.at q:=by
  refine E1_2 (zaL st.n o st.t _ h) λt' h' e=>?_
  exact ⟨t',zbj _ _ h',e⟩
theorem St.sym_spec {st:St} {k:Nat->St->Bool} (h:st.sym k=true):k st.m ⟨st.t,st.n,st.m + 1,st.k⟩=true:=h
theorem St.push_spec {st:St} {ms:Bs} {k:KS} (h:st.push ms k=true):k ⟨st.t,st.n.suc,st.m,(st.n,ms)::st.k⟩=true:=zbj _ _ h
theorem St.pop_spec {st:St} {k:KS} (h:st.pop k=true):∃x r,st.k=x::r/\k ⟨st.t,st.n,st.m,r⟩=true:=by
  obtain ⟨t,n,m,f⟩:=st
  cases f with
  | nil=>exact nb h
  | cons x r=>exact ⟨x,r,rfl,h⟩
theorem St.top_spec {st:St} {k:Bs->Bool} (h:st.top k=true):∃L ms r,st.k=(L,ms)::r/\k ms=true:=by
  obtain ⟨t,n,m,f⟩:=st
  cases f with
  | nil=>exact nb h
  | cons x r=>obtain ⟨L,ms⟩:=x;exact ⟨L,ms,r,rfl,h⟩
theorem St.retop_spec {st:St} {ms:Bs} {k:KS} (h:st.retop ms k=true):∃L ms₀ r,st.k=(L,ms₀)::r/\k ⟨st.t,st.n,st.m,(L,ms)::r⟩=true:=by
  obtain ⟨t,n,m,f⟩:=st
  cases f with
  | nil=>exact nb h
  | cons x r=>obtain ⟨L,ms₀⟩:=x;exact ⟨L,ms₀,r,rfl,h⟩
noncomputable def lk {α:Type}:List (Nat×α)->Nat->Option α
  | [],_=>none
  | (a,v)::r,x=>if a=x then some v else lk r x
theorem zaK {α:Type}:∀(l:List (Nat×α)) (x:Nat) (k:α->Bool) (z:Bool),zcJ l x k z=true->(∃v,lk l x=some v/\k v=true)\/(lk l x=none/\z=true)
  | [],x,k,z,h=>.inr ⟨rfl,h⟩
  | (a,v)::r,x,k,z,h=>by
    have h':bq (Nat.beq a x) (k v) (zcJ r x k z)=true:=h
    rcases bq_t h' with ⟨e,h'⟩ | ⟨e,h'⟩
    · rw [Nat.beq_eq] at e;exact .inl ⟨v,by simp [lk,e],h'⟩
    · have e':a≠x:=λq=>by rw [q,Nat.beq_refl] at e;exact nf e
      simp only [lk,if_neg e']
      exact zaK r x k z h'
theorem zat {α:Type} {l:List (Nat×α)} {x:Nat} {k:α->Bool} (h:look l x k=true):∃v,lk l x=some v/\k v=true:=by
  rcases zaK l x k false h with h | ⟨_,h⟩
  · exact h
  · exact nb h
noncomputable def setF:Bs->Nat->V->Bs
  | [],x,v=>[(x,v)]
  | (a,w)::r,x,v=>if a=x then (a,v)::r else (a,w)::setF r x v
theorem zcK:∀(l:Bs) (x:Nat) (v:V) (y:Nat),lk (setF l x v) y=if y=x then some v else lk l y
  | [],x,v,y=>by simp [setF,lk,eq_comm]
  | (a,w)::r,x,v,y=>by
    unfold setF
    by_cases e:a=x
    · subst e
      by_cases q:y=a
      · simp [lk,q]
      · simp [lk,q,Ne.symm q]
    · rw [if_neg e]
      by_cases q:a=y
      · subst q;simp [lk,e]
      · simp [lk,q,zcK r x v y]
theorem zaN:∀(l:Bs) (x:Nat) (v:V) (k:KN),setL l x v k=true->k (setF l x v)=true
  | [],x,v,k,h=>h
  | (a,w)::r,x,v,k,h=>by
    have h':bq (Nat.beq a x) (k ((a,v)::r)) (setL r x v (zaD (a,w) k))=true:=h
    unfold setF
    rcases bq_t h' with ⟨e,h2⟩ | ⟨e,h2⟩
    · rw [Nat.beq_eq] at e;rw [if_pos e];exact h2
    · have e':a≠x:=λq=>by rw [q,Nat.beq_refl] at e;exact nf e
      rw [if_neg e'];exact zaN r x v _ h2
theorem zae {α:Type}:∀(l:List α) (n:Nat),zah l n=true->l.length<=n
  | [],n,h=>Nat.zero_le _
  | x::r,0,h=>by exact nb h
  | x::r,n + 1,h=>Nat.succ_le_succ (zae r n h)
theorem zaY {α:Type}:∀(l:List α) (i:Nat) (k:α->Bool),nth l i k=true->∃x,l[i]? =some x/\k x=true
  | [],i,k,h=>by exact nb h
  | x::r,0,k,h=>⟨x,rfl,h⟩
  | x::r,i + 1,k,h=>zaY r i k h
theorem zbV:∀(l:List V) (i:Nat) (v:V) (k:KLs),setN l i v k=true->i < l.length/\k (l.set i v)=true
  | [],i,v,k,h=>by exact nb h
  | x::r,0,v,k,h=>⟨Nat.succ_pos _,h⟩
  | x::r,i + 1,v,k,h=>⟨Nat.succ_lt_succ (zbV r i v _ h).1,(zbV r i v _ h).2⟩
theorem zaG {α:Type}:∀(l ys:List α) (k:List α->Bool),appL l ys k=true->k (l++ys)=true
  | [],ys,k,h=>h
  | x::r,ys,k,h=>zaG r ys _ h
theorem zal {α:Type}:∀(l:List α) (n:Nat) (k:Nat->Bool),lenL l n k=true->k (n + l.length)=true
  | [],n,k,h=>h
  | x::r,n,k,h=>by have:=zal r (n + 1) k h;rw [show n + (x::r).length=n + 1 + r.length by simp;omega];exact this
theorem zcv:∀(l:List V) (k:List V->V->Bool),zir l k=true->∃r x,l=r++[x]/\k r x=true
  | [],k,h=>by exact nb h
  | [x],k,h=>⟨[],x,rfl,h⟩
  | x::y::r,k,h=>by
    refine E2_2 (zcv (y::r) _ h) λs z e h'=>?_
    exact ⟨x::s,z,by rw [e];rfl,h'⟩
theorem zbh {α:Type}:∀(n:Nat) (xs:List α) (k:List α->Bool),zgc n xs k=true->k (xs.take n)=true
  | 0,xs,k,h=>by rw [List.take_zero];exact h
  | n + 1,[],k,h=>by rw [List.take_nil];exact h
  | n + 1,x::r,k,h=>zbh n r _ h
theorem zbp {α:Type}:∀(n:Nat) (xs:List α) (k:List α->Bool),zfW n xs k=true->k (xs.drop n)=true
  | 0,xs,k,h=>by rw [List.drop_zero];exact h
  | n + 1,[],k,h=>by rw [List.drop_nil];exact h
  | n + 1,x::r,k,h=>zbp n r _ h
noncomputable def zff:Nat->List V->List V
  | 0,_=>[]
  | n + 1,xs=>xs++zff n xs
theorem zbX:∀(n:Nat) (xs:List V) (k:KLs),repL n xs k=true->k (zff n xs)=true
  | 0,xs,k,h=>h
  | n + 1,xs,k,h=>zaG _ _ _ (zbX n xs _ h)
theorem ile_spec {a b:Int}:ile a b=true<->a<=b:=by
  cases a <;> cases b <;> simp only [ile,ileN,ileS,Nat.ble_eq] <;> first | omega | simp
  all_goals omega
theorem ieq_spec {a b:Int}:ieq a b=true<->a=b:=by
  cases a <;> cases b <;> simp [ieq,ieqN,ieqS,Nat.beq_eq]
  omega
theorem zdj {a b:Nat} {k:KI} (h:isub a b k=true):k ((a:Int) - b)=true:=by
  rcases bq_t h with ⟨e,h⟩ | ⟨e,h⟩
  · rw [Nat.ble_eq] at e
    rw [show (a:Int) - b=Int.ofNat (Nat.sub a b) by show _=((a - b:Nat):Int);omega];exact h
  · have e':¬ b<=a:=λq=>by rw [Nat.ble_eq.mpr q] at e;exact nf e
    rw [show (a:Int) - b=Int.negSucc (Nat.sub (Nat.sub b a) 1) by show _=Int.negSucc (b - a - 1);omega];exact h
theorem zaE {a b:Int} {k:KI} (h:iadd a b k=true):k (a + b)=true:=by
  cases a with
  | ofNat x=>
    cases b with
    | ofNat y=>exact h
    | negSucc y=>have:=zdj h;rw [show Int.ofNat x + Int.negSucc y=(x:Int) - (Nat.succ y:Nat) by show (x:Int) + _=_;omega];exact this
  | negSucc x=>
    cases b with
    | ofNat y=>have:=zdj h;rw [show Int.negSucc x + Int.ofNat y=(y:Int) - (Nat.succ x:Nat) by show _ + (y:Int)=_;omega];exact this
    | negSucc y=>rw [show Int.negSucc x + Int.negSucc y=Int.negSucc (Nat.succ (Nat.add x y)) by show _=Int.negSucc (x + y + 1);omega];exact h
theorem zb9 {a:Int} {k:KI} (h:ineg a k=true):k (-a)=true:=by
  cases a with
  | ofNat x=>cases x <;> exact h
  | negSucc x=>exact h
theorem zbl {a b:Int} {k:KI} (h:zdQ a b k=true):k (a - b)=true:=by
  have h':ineg b (zhr a k)=true:=h
  have:=zaE (a:=a) (b:=-b) (k:=k) (zb9 h');rwa [<- Int.sub_eq_add_neg] at this
end Mine
end
section
open PySem PySem.W PyProof.Rows PySem.Calls
namespace Mine
inductive All2 {α β:Type} (R:α->β->Prop):List α->List β->Prop
  | nil:All2 R [] []
  | cons {a b l m}:R a b->All2 R l m->All2 R (a::l) (b::m)
namespace All2
variable {α β:Type} {R:α->β->Prop}
theorem length {l:List α} {m:List β} (h:All2 R l m):l.length=m.length:=by induction h with | nil=>rfl | cons _ _ ih=>simp [ih]
theorem mono {S:α->β->Prop} (hi:∀a b,R a b->S a b) {l:List α} {m:List β} (h:All2 R l m):All2 S l m:=by induction h with | nil=>exact .nil | cons h _ ih=>exact .cons (hi _ _ h) ih
theorem append {l l':List α} {m m':List β} (h:All2 R l m) (h':All2 R l' m'):All2 R (l++l') (m++m'):=by induction h with | nil=>exact h' | cons h _ ih=>exact .cons h ih
theorem get:∀{l:List α} {m:List β} {i:Nat} {a:α},All2 R l m->l[i]? =some a->∃b,m[i]? =some b/\R a b
  | _,_,_,_,.nil,e=>by simp at e
  | _,_,0,_,.cons h _,e=>by simp at e;subst e;exact ⟨_,rfl,h⟩
  | _,_,i + 1,_,.cons _ h,e=>by simpa using get h (by simpa using e)
theorem take:∀{l:List α} {m:List β} (n:Nat),All2 R l m->All2 R (l.take n) (m.take n)
  | _,_,0,_=>by simpa using All2.nil
  | _,_,n + 1,.nil=>by simpa using All2.nil
  | _,_,n + 1,.cons h r=>.cons h (take n r)
theorem drop:∀{l:List α} {m:List β} (n:Nat),All2 R l m->All2 R (l.drop n) (m.drop n)
  | _,_,0,h=>h
  | _,_,n + 1,.nil=>.nil
  | _,_,n + 1,.cons h r=>drop n r
theorem set:∀{l:List α} {m:List β} (i:Nat) {a:α} {b:β},All2 R l m->R a b->All2 R (l.set i a) (m.set i b)
  | _,_,_,_,_,.nil,_=>.nil
  | _,_,0,_,_,.cons _ r,h=>.cons h r
  | _,_,i + 1,_,_,.cons h r,h'=>.cons h (set i r h')
end All2
structure Vl where
  ρ:P->Option Addr
  θ:Nat->Option Int
  χ:Nat->Option Value
  hx:Heap
structure Vl.Le (l l':Vl):Prop where
  ρ:∀i a,l.ρ i=some a->l'.ρ i=some a
  θ:∀j z,l.θ j=some z->l'.θ j=some z
  χ:∀j z u,l.θ j=some z->l.χ j=some u->l'.χ j=some u
  hx:∀b o,l.hx.get? b=some o->l'.hx.get? b=some o
theorem Vl.Le.refl (l:Vl):l.Le l:=⟨λ_ _ e=>e,λ_ _ e=>e,λ_ _ _ _ e=>e,λ_ _ e=>e⟩
theorem Vl.Le.trans {a b c:Vl} (x:a.Le b) (y:b.Le c):a.Le c:=⟨λi u e=>y.1 i u (x.1 i u e),λi u e=>y.2 i u (x.2 i u e),λj z u e f=>y.3 j z u (x.2 j z e) (x.3 j z u e f),λb o e=>y.4 b o (x.4 b o e)⟩
noncomputable def Leaf:Value->Prop
  | .int _ _ | .str _ _=>True
  | _=>False
noncomputable def NestV (h:Heap):Nat->Value->Prop
  | 0,u=>Leaf u
  | d + 1,u=>Leaf u\/∃a b w n vs m,u=.ref a/\h.get? a=some { cls:=.type "tuple",data:=.seq (List.toArray [w,.ref b]) n}/\Leaf w/\
      h.get? b=some { cls:=.type "tuple",data:=.seq (List.toArray vs) m}/\(vs.length=1\/vs.length=2\/vs.length=3)/\∀v∈vs,NestV h d v
theorem NestV.keeps {h h':Heap} (k:∀b o,h.get? b=some o->h'.get? b=some o):∀{d:Nat} {u:Value},NestV h d u->NestV h' d u
  | 0,_,x=>x
  | _ + 1,_,.inl x=>.inl x
  | _ + 1,_,.inr ⟨a,b,w,n,vs,m,e,g,q,g',r,z⟩=>.inr ⟨a,b,w,n,vs,m,e,k _ _ g,q,k _ _ g',r,λv i=>(z v i).keeps k⟩
structure Lam where
  params:Arguments
  body:Expr
  scope:Scope
  qual:PySem.Str
  pos:Pos
  pm:Value
  deriving Inhabited
structure Cn where
  prog:Program
  w:World
  h₀:Heap
  K:Frag
  nm:Nat->PySem.Str
  gv:P->Value
  cv:P->Addr
  fv:P->Addr
  plain:P->Bool
  l0:Vl
  lm:P->Lam
  xcl:P->Bool
  tc:P->Addr
  tq:P->PySem.Str
  os₀:OsState
noncomputable def DB (l:Vl):B->UInt8->Prop
  | .n x,u=>u.toNat=x
  | .s j c lo hi,u=>∃z,l.θ j=some z/\z + c=(u.toNat:Int)/\lo<=z + c/\z + c<=hi
noncomputable def DV (c:Cn) (l:Vl):V->Value->Prop
  | .non,v=>v=.none
  | .boo b,v=>v=.bool b
  | .int i,v=>∃t,v=.int i t
  | .str k,v=>∃t,v=.str (c.nm k) t
  | .byt bs,v=>∃us t,v=.bytes us t/\All2 (DB l) bs us.toList
  | .ref p,v=>∃a,l.ρ p=some a/\v=.ref a
  | .glo g,v=>v=c.gv g
  | .sym j k lo hi,v=>∃z t,l.θ j=some z/\v=.int (z + k) t/\lo<=z + k/\z + k<=hi
  | .ani,v=>∃i t,v=.int i t
  | .any,_=>True
  | .nes j d,v=>l.θ j=some 0/\l.χ j=some v/\NestV l.hx d v
noncomputable def DN (c:Cn) (l:Vl) (m:Bs) (f:PySem.Str->Option Value):Prop:=∀k,match lk m k with
  | some v=>∃x,f (c.nm k)=some x/\DV c l v x
  | none=>True
noncomputable def DE (c:Cn) (l:Vl) (p:Nat×V) (e:DictEntry):Prop:=e.hash=PyData.keyHash c.w.params (c.nm p.1)/\(∃t,e.key=.str (c.nm p.1) t)/\DV c l p.2 e.val
noncomputable abbrev DVs (c:Cn) (l:Vl):=All2 (DV c l)
noncomputable def DO (c:Cn) (l:Vl):O->Obj->Prop
  | .tup xs,o=>∃vs n,o={ cls:=.type "tuple",data:=.seq (List.toArray vs) n}/\DVs c l xs vs
  | .lst xs,o=>∃vs n,o={ cls:=.type "list",data:=.seq (List.toArray vs) n}/\DVs c l xs vs
  | .ns m,o=>∃es n,o=dictOf es n/\All2 (DE c l) m es
  | .inst k d,o=>∃dx,l.ρ d=some dx/\o=instObj (c.cv k) dx/\c.plain k=true
  | .cel v,o=>∃x,o.data=.cell (some x)/\DV c l v x
  | .cnil,o=>o.data=.cell none
  | .clo f cs q,o=>∃clos cv ctv,l.ρ q=some cv/\fnIn c.K (c.fv f)=false/\o={ cls:=.type "function",data:=.func (kla_fn "<lambda>" (c.lm f).qual (c.lm f).params (c.lm f).body (c.lm f).scope clos (c.lm f).pm (.ref cv) ctv)}/\
      ∀k p,lk cs k=some p->∃a,clos.lookup (c.nm k)=some a/\l.ρ p=some a
  | .bm f s,o=>∃a,l.ρ s=some a/\o=methodObj (.ref (c.fv f)) (.ref a)
  | .lit p i,o=>∃a,l.ρ p=some a/\o.cls=.type "list_iterator"/\o.data=.fields #[.ref a,.int i 0]
  | .tit p i,o=>∃a,l.ρ p=some a/\o.cls=.type "tuple_iterator"/\o.data=.fields #[.ref a,.int i 0]
  | .rng a b,o=>∃t u v,o={ cls:=.type "range",dict:=none,data:=.fields #[.int a t,.int b u,.int 1 v],slots:=#[]}
  | .rit a b,o=>∃n,o={ cls:=.type "range_iterator",dict:=none,data:=.fields #[rawInt a,rawInt n,rawInt 1],slots:=#[]}/\(n=b - a\/(n<=0/\b<=a))
  | .exc k d fl,o=>o.cls=.ref (c.cv k)/\c.xcl k=true/\(match d with | none=>o.dict=none | some d=>∃dx,l.ρ d=some dx/\o.dict=some dx)/\∃vs,o.data=.fields vs/\vs.size=6/\(fl=false->vs[1]? =some .none)
  | .tab f q,o=>match q with
    | none=>o=tabObj #[]
    | some q=>∃cv,l.ρ q=some cv/\o=tabObj #[rawInt (c.lm f).pos.line,rawInt (c.lm f).pos.col,.ref cv]
  | .cod f,o=>∃vs t,o.data=.fields vs/\vs[1]? =some (.str (c.lm f).qual t)
  | .junk,o=>False
theorem DB.le {l l':Vl} (x:l.Le l'):∀{b:B} {u:UInt8},DB l b u->DB l' b u
  | .n _,_,h=>h
  | .s _ _ _ _,_,⟨z,e,h⟩=>⟨z,x.2 _ _ e,h⟩
theorem DV.le {c:Cn} {l l':Vl} (x:l.Le l'):∀{v:V} {u:Value},DV c l v u->DV c l' v u
  | .non,_,h | .boo _,_,h | .int _,_,h | .str _,_,h | .glo _,_,h | .ani,_,h | .any,_,h=>h
  | .byt _,_,⟨us,t,e,h⟩=>⟨us,t,e,h.mono λ_ _=>DB.le x⟩
  | .ref _,_,⟨a,e,h⟩=>⟨a,x.1 _ _ e,h⟩
  | .sym _ _ _ _,_,⟨z,t,e,h⟩=>⟨z,t,x.2 _ _ e,h⟩
  | .nes _ _,_,⟨a,b,d⟩=>⟨x.2 _ _ a,x.3 _ _ _ a b,d.keeps x.4⟩
theorem DVs.le {c:Cn} {l l':Vl} (x:l.Le l') {vs:List V} {us:List Value} (h:DVs c l vs us):DVs c l' vs us:=h.mono λ_ _=>DV.le x
theorem DN.le {c:Cn} {l l':Vl} (x:l.Le l') {m:Bs} {f:PySem.Str->Option Value} (h:DN c l m f):DN c l' m f:=λk=>by
  have:=h k
  split <;> rename_i e <;> rw [e] at this
  · refine E1_2 this ?_;clear this;intro v a b;exact ⟨v,a,b.le x⟩
  · exact this
theorem DO.le {c:Cn} {l l':Vl} (x:l.Le l') {o:O} {u:Obj} (h:DO c l o u):DO c l' o u:=by
  cases o <;> unfold DO at h ⊢
  case tup=>(refine E2_2 h ?_;clear h;intro vs n e h);exact ⟨vs,n,e,h.le x⟩
  case lst=>(refine E2_2 h ?_;clear h;intro vs n e h);exact ⟨vs,n,e,h.le x⟩
  case ns=>(refine E2_2 h ?_;clear h;intro es n e h);exact ⟨es,n,e,h.mono λ_ _ ⟨a,b,d⟩=>⟨a,b,d.le x⟩⟩
  case inst=>(refine E1_2 h ?_;clear h;intro d e h);exact ⟨d,x.1 _ _ e,h⟩
  case cel=>(refine E1_2 h ?_;clear h;intro v e h);exact ⟨v,e,h.le x⟩
  case clo=>(refine E3_4 h ?_;clear h;intro a b d e ef h g);exact ⟨a,b,d,x.1 _ _ e,ef,h,λk p q=>let ⟨y,r,z⟩:=g k p q;⟨y,r,x.1 _ _ z⟩⟩
  case exc k d fl=>(refine E0_4 h ?_;clear h;intro a b e h);exact ⟨a,b,by cases d with | none=>exact e | some d=>exact let ⟨y,r,z⟩:=e;⟨y,x.1 _ _ r,z⟩,h⟩
  case tab f q=>cases q with | none=>exact h | some q=>exact let ⟨y,r,z⟩:=h;⟨y,x.1 _ _ r,z⟩
  case bm=>(refine E1_2 h ?_;clear h;intro a e h);exact ⟨a,x.1 _ _ e,h⟩
  case lit=>(refine E1_2 h ?_;clear h;intro a e h);exact ⟨a,x.1 _ _ e,h⟩
  case tit=>(refine E1_2 h ?_;clear h;intro a e h);exact ⟨a,x.1 _ _ e,h⟩
  all_goals exact h
noncomputable def O.mut:O->Bool
  | .tup _ | .clo _ _ _ | .bm _ _ | .rng _ _ | .cod _=>false
  | _=>true
noncomputable def St.mt (st:St) (ids:List P) (i:P):Prop:=(st.t.at i≠.junk/\(st.t.at i).mut=true)\/i∈ids
theorem St.mt.tr {st:St} {ids:List P} {i:P} (h:st.mt ids i):st.t.at i≠.junk\/i∈ids:=h.imp (·.1) id
structure Ok (c:Cn) (ids:List P) (l:Vl) (st:St) (s:Shared):Prop where
  bas:∀b o,c.h₀.get? b=some o->l.hx.get? b=some o
  kep:∀b o,l.hx.get? b=some o->s.heap.get? b=some o
  trk:∀i,st.t.at i=.junk\/∃a o,l.ρ i=some a/\s.heap.get? a=some o/\DO c l (st.t.at i) o/\((st.t.at i).mut=true->l.hx.get? a=none)
  frs:∀L m,(L,m)∈st.k->∃a f,l.ρ L=some a/\s.heap.Ns a f/\DN c l m f/\l.hx.get? a=none
  ids_:st.k.map (·.1)=ids
  nd:ids.Nodup
  fj:∀L∈ids,st.t.at L=.junk
  inj:∀i j a,st.mt ids i->(st.t.at j≠.junk\/j∈ids)->l.ρ i=some a->l.ρ j=some a->i=j
  fre:∀i,st.n.num<=i.num->l.ρ i=none
  frt:∀j,st.m<=j->l.θ j=none
  oss:s.os=c.os₀
  gns:s.gens=#[]
theorem Ok.keep {c:Cn} {ids:List P} {l:Vl} {st:St} {s:Shared} (ok:Ok c ids l st s):∀b o,c.h₀.get? b=some o->s.heap.get? b=some o:=λb o e=>ok.kep b o (ok.bas b o e)
theorem Ok.h0 {c:Cn} {ids:List P} {l:Vl} {st:St} {s:Shared} (ok:Ok c ids l st s) {a:Addr} (e:l.hx.get? a=none):c.h₀.get? a=none:=by
  cases q:c.h₀.get? a with
  | none=>rfl
  | some o=>rw [ok.bas _ _ q] at e;exact on e
structure Same (s s':Shared):Prop where
  os:s'.os=s.os
  gens:s'.gens=s.gens
theorem P.pos:∀p:P,0 < p.num
  | .h=>by simp [P.num]
  | .o p=>by have:=P.pos p;simp [P.num];omega
  | .i p=>by simp [P.num]
namespace Ok
variable {c:Cn} {ids:List P} {l:Vl} {st:St} {s s':Shared}
theorem at_ (ok:Ok c ids l st s) {i:P} {o:O} (e:st.t.at i=o) (hj:o≠.junk):∃a ob,l.ρ i=some a/\s.heap.get? a=some ob/\DO c l o ob/\(o.mut=true->l.hx.get? a=none):=by
  subst e;rcases ok.trk i with h | ⟨a,o,h⟩
  · exact absurd h hj
  · exact ⟨a,o,h⟩
theorem quiet (ok:Ok c ids l st s) (hk:∀b o,s.heap.get? b=some o->s'.heap.get? b=some o) (hz:Same s s':=by exact ⟨rfl,rfl⟩):Ok c ids l st s' where
  oss:=hz.os.trans ok.oss
  gns:=hz.gens.trans ok.gns
  bas:=ok.bas
  kep b o e:=hk _ _ (ok.kep b o e)
  trk i:=(ok.trk i).imp id λ⟨a,o,h1,h2,h3⟩=>⟨a,o,h1,hk _ _ h2,h3⟩
  frs L m h:=let ⟨a,f,h1,h2,h3⟩:=ok.frs L m h;⟨a,f,h1,h2.keeps hk,h3⟩
  ids_:=ok.ids_
  nd:=ok.nd
  fj:=ok.fj
  inj:=ok.inj
  fre:=ok.fre
  frt:=ok.frt
theorem tok (ok:Ok c ids l st s) {t:Nat}:Ok c ids l st { s with toks:=t}:=ok.quiet λ_ _ e=>e
noncomputable def _root_.Mine.Vl.put (l:Vl) (n:P) (a:Addr):Vl:=⟨λi=>if i=n then some a else l.ρ i,l.θ,l.χ,l.hx⟩
theorem ext (ok:Ok c ids l st s) (a:Addr):l.Le (l.put st.n a):=⟨λi b e=>by
  have:i≠st.n:=λq=>by have:=ok.fre i (by rw [q];exact Nat.le_refl _);rw [this] at e;exact no e
  simp [Vl.put,this,e],λ_ _ e=>e,λ_ _ _ _ e=>e,λ_ _ e=>e⟩
theorem used (ok:Ok c ids l st s) {i:P} {a:Addr} (e:l.ρ i=some a):i≠st.n:=λq=>by have:=ok.fre i (by rw [q];exact Nat.le_refl _);rw [this] at e;exact no e
theorem old (ok:Ok c ids l st s) {a:Addr} (hn:s.heap.get? a=none):l.hx.get? a=none:=by
  cases q:l.hx.get? a with
  | none=>rfl
  | some o=>have:=ok.kep _ _ q;rw [hn] at this;exact no this
theorem frame_id (ok:Ok c ids l st s) {L:P} (h:L∈ids):∃m,(L,m)∈st.k:=by
  have h':=h
  rw [<- ok.ids_] at h'
  refine E1_2 (List.mem_map.mp h') λp hp e=>?_
  exact ⟨p.2,by rw [<- e];exact hp⟩
theorem has (ok:Ok c ids l st s) {i:P} (h:st.t.at i≠.junk\/i∈ids):∃a o,l.ρ i=some a/\s.heap.get? a=some o:=by
  rcases h with h | h
  · refine E2_3 (ok.at_ rfl h) λa o h1 h2 _=>?_;exact ⟨a,o,h1,h2⟩
  · refine E1_1 (ok.frame_id h) λm hm=>?_
    refine E2_3 (ok.frs _ _ hm) ?_;rintro a f h1 ⟨o,_,_,h2,_⟩ _
    exact ⟨a,o,h1,h2⟩
theorem zba {l:Vl} {n i:P} {a:Addr} (h:i≠n):(l.put n a).ρ i=l.ρ i:=by simp [Vl.put,h]
theorem put_self {l:Vl} {n:P} {a:Addr}:(l.put n a).ρ n=some a:=by simp [Vl.put]
theorem alloc (ok:Ok c ids l st s) {a:Addr} {o:O} {ob:Obj} {t':TO} (hn:s.heap.get? a=none) (hk:∀b o,s.heap.get? b=some o->s'.heap.get? b=some o)
    (ha:s'.heap.get? a=some ob) (hd:DO c (l.put st.n a) o ob) (ht:∀q,t'.at q=if q=st.n then o else st.t.at q) (hz:Same s s':=by exact ⟨rfl,rfl⟩):
    Ok c ids (l.put st.n a) ⟨t',st.n.suc,st.m,st.k⟩ s' where
  oss:=hz.os.trans ok.oss
  gns:=hz.gens.trans ok.gns
  bas:=ok.bas
  kep b o e:=hk _ _ (ok.kep b o e)
  trk i:=by
    show t'.at i=.junk\/_
    rw [ht]
    split
    · rename_i e;subst e;exact .inr ⟨a,ob,put_self,ha,hd,λ_=>ok.old hn⟩
    · rename_i e
      refine (ok.trk i).imp id λ⟨b,u,h1,h2,h3,h4⟩=>⟨b,u,by rw [zba e];exact h1,hk _ _ h2,h3.le (ok.ext a),h4⟩
  frs L m h:=by
    refine E2_4 (ok.frs L m h) λb f h1 h2 h3 h4=>?_
    exact ⟨b,f,(ok.ext a).1 _ _ h1,h2.keeps hk,h3.le (ok.ext a),h4⟩
  ids_:=ok.ids_
  nd:=ok.nd
  fj L h:=by
    show t'.at L=.junk
    rw [ht,if_neg,ok.fj L h]
    rintro rfl
    refine E1_1 (ok.frame_id h) λm hm=>?_
    refine E2_2 (ok.frs _ _ hm) λb f h1 _=>?_
    exact ok.used h1 rfl
  inj i j b hi hj ei ej:=by
    have mt:i≠st.n->st.mt ids i:=λe=>hi.imp (λ(h:t'.at i≠.junk/\(t'.at i).mut=true)=>by rw [ht,if_neg e] at h;exact h) id
    have hi:=hi.tr
    have key:∀i,(t'.at i≠.junk\/i∈ids)->i≠st.n->(l.put st.n a).ρ i=some b->(∃o,s.heap.get? b=some o)/\(st.t.at i≠.junk\/i∈ids)/\l.ρ i=some b:=by
      intro i hi e ei
      rw [ht,if_neg e] at hi
      rw [zba e] at ei
      refine E2_2 (ok.has hi) λb' o h1 h2=>?_
      rw [ei] at h1;(replace h1:=si h1;subst h1)
      exact ⟨⟨o,h2⟩,hi,ei⟩
    by_cases e:i=st.n <;> by_cases e':j=st.n
    · rw [e,e']
    · refine E0_2 (key j hj e' ej) ?_;rintro ⟨o,h⟩ _
      rw [e,put_self] at ei;(replace ei:=si ei;subst ei)
      rw [hn] at h;exact no h
    · refine E0_2 (key i hi e ei) ?_;rintro ⟨o,h⟩ _
      rw [e',put_self] at ej;(replace ej:=si ej;subst ej)
      rw [hn] at h;exact no h
    · refine E0_3 (key i hi e ei) λ_ h1 h2=>?_
      refine E0_3 (key j hj e' ej) λ_ h3 h4=>?_
      exact ok.inj i j b (mt e) h3 h2 h4
  fre i h:=by
    have h':st.n.num + 1<=i.num:=by rw [<- P.suc_num];exact h
    rw [zba (λq=>by rw [q] at h';omega)]
    exact ok.fre i (by omega)
  frt:=ok.frt
theorem upd (ok:Ok c ids l st s) {i:P} {o o':O} {a:Addr} {t':TO} (e:st.t.at i=o) (hm:o.mut=true) (hj:o≠.junk) (hr:l.ρ i=some a)
    (hk:∀b u,b≠a->s.heap.get? b=some u->s'.heap.get? b=some u) (hd:o'=.junk\/∃ob,s'.heap.get? a=some ob/\DO c l o' ob)
    (ht:∀q,t'.at q=if q=i then o' else st.t.at q) (hz:Same s s':=by exact ⟨rfl,rfl⟩):Ok c ids l ⟨t',st.n,st.m,st.k⟩ s':=by
  refine E2_4 (ok.at_ e hj) λa' ob h1 h2 h3 h4=>?_
  rw [hr] at h1;(replace h1:=si h1;subst h1)
  have ti:st.t.at i≠.junk\/i∈ids:=.inl (by rw [e];exact hj)
  have mi:st.mt ids i:=.inl (by rw [e];exact ⟨hj,hm⟩)
  have ii:i∉ids:=λh=>hj (e▸ok.fj i h)
  refine ⟨ok.bas,λb o q=>hk b o ?_ (ok.kep b o q),λj=>?_,λL m h=>?_,ok.ids_,ok.nd,λL h=>?_,λx y b hx hy ex ey=>?_,ok.fre,ok.frt,hz.os.trans ok.oss,hz.gens.trans ok.gns⟩
  · rintro rfl;rw [h4 hm] at q;exact no q
  · show t'.at j=.junk\/_
    rw [ht]
    split
    · rename_i q;subst q
      exact hd.imp id λ⟨ob,g1,g2⟩=>⟨a,ob,hr,g1,g2,λ_=>h4 hm⟩
    · rename_i q
      by_cases hjj:st.t.at j=.junk
      · exact .inl hjj
      · refine E2_4 (ok.at_ rfl hjj) λb u g1 g2 g3 g4=>?_
        refine .inr ⟨b,u,g1,hk _ _ ?_ g2,g3,g4⟩
        rintro rfl;exact q (ok.inj i j _ mi (.inl hjj) hr g1).symm
  · refine E2_4 (ok.frs L m h) λb f g1 g2 g3 g4=>?_
    refine ⟨b,f,g1,?_,g3,g4⟩
    refine g2.extBut (b:=a) hk ?_
    rintro rfl
    have hL:L∈ids:=by rw [<- ok.ids_];exact List.mem_map_of_mem h
    exact ii (ok.inj L i _ (.inr hL) ti g1 hr▸hL)
  · show t'.at L=.junk
    rw [ht,if_neg (λ(q:L=i)=>ii (q▸h)),ok.fj L h]
  · have key:∀x,(t'.at x≠.junk\/x∈ids)->st.t.at x≠.junk\/x∈ids:=λx hx=>by
      rw [ht] at hx
      by_cases q:x=i
      · subst q;exact ti
      · rw [if_neg q] at hx;exact hx
    have mt:st.mt ids x:=by
      by_cases q:x=i
      · subst q;exact mi
      · exact hx.imp (λ(h:t'.at x≠.junk/\(t'.at x).mut=true)=>by rw [ht,if_neg q] at h;exact h) id
    exact ok.inj x y b mt (key y hy) ex ey
theorem retop (ok:Ok c ids l st s) {L:P} {ms ms':Bs} {r:List (P×Bs)} {a:Addr} {f':PySem.Str->Option Value} (e:st.k=(L,ms)::r) (hr:l.ρ L=some a)
    (hk:∀b u,b≠a->s.heap.get? b=some u->s'.heap.get? b=some u) (hn:s'.heap.Ns a f') (hd:DN c l ms' f') (hz:Same s s':=by exact ⟨rfl,rfl⟩):Ok c ids l ⟨st.t,st.n,st.m,(L,ms')::r⟩ s':=by
  have hL:L∈ids:=by rw [<- ok.ids_,e];exact .head _
  refine E2_4 (ok.frs L ms (by rw [e];exact .head _)) λa' f h1 h2 h3 h4=>?_
  rw [hr] at h1;(replace h1:=si h1;subst h1)
  have nd:=ok.nd
  rw [<- ok.ids_,e] at nd
  have nd':=List.nodup_cons.mp nd
  refine ⟨ok.bas,λb o q=>hk b o ?_ (ok.kep b o q),λj=>?_,λM m h=>?_,?_,ok.nd,ok.fj,ok.inj,ok.fre,ok.frt,hz.os.trans ok.oss,hz.gens.trans ok.gns⟩
  · rintro rfl;rw [h4] at q;exact no q
  · by_cases hjj:st.t.at j=.junk
    · exact .inl hjj
    · refine E2_4 (ok.at_ rfl hjj) λb u g1 g2 g3 g4=>?_
      refine .inr ⟨b,u,g1,hk _ _ ?_ g2,g3,g4⟩
      rintro rfl
      exact hjj (ok.fj j (ok.inj L j _ (.inr hL) (.inl hjj) hr g1▸hL))
  · rcases List.mem_cons.mp h with q | hh
    · (refine E0_2 (Prod.mk.inj q) λq1 q2=>?_;subst q1;subst q2);exact ⟨a,f',hr,hn,hd,h4⟩
    · refine E2_4 (ok.frs M m (by rw [e];exact .tail _ hh)) λb f g1 g2 g3 g4=>?_
      refine ⟨b,f,g1,g2.extBut (b:=a) hk ?_,g3,g4⟩
      rintro rfl
      have hM:M∈ids:=by rw [<- ok.ids_,e];exact .tail _ (List.mem_map_of_mem (f:=(·.1)) hh)
      have:=ok.inj M L _ (.inr hM) (.inr hL) g1 hr
      subst this
      exact nd'.1 (List.mem_map_of_mem (f:=(·.1)) hh)
  · rw [<- ok.ids_,e];rfl
theorem push (ok:Ok c ids l st s) {a:Addr} {ms:Bs} {f:PySem.Str->Option Value} (hn:s.heap.get? a=none) (hk:∀b o,s.heap.get? b=some o->s'.heap.get? b=some o)
    (ha:s'.heap.Ns a f) (hd:DN c l ms f) (hz:Same s s':=by exact ⟨rfl,rfl⟩):Ok c (st.n::ids) (l.put st.n a) ⟨st.t,st.n.suc,st.m,(st.n,ms)::st.k⟩ s':=by
  have hf:st.n∉ids:=λh=>by
    refine E1_1 (ok.frame_id h) λm hm=>?_
    refine E2_2 (ok.frs _ _ hm) λb f h1 _=>?_
    exact ok.used h1 rfl
  have hj:st.t.at st.n=.junk:=by
    by_cases h:st.t.at st.n=.junk
    · exact h
    · refine E2_2 (ok.at_ rfl h) λb u g1 _=>?_;exact absurd rfl (ok.used g1)
  refine ⟨ok.bas,λb o q=>hk b o (ok.kep b o q),λj=>?_,λM m h=>?_,?_,?_,λM h=>?_,λi j b hi hj' ei ej=>?_,λi h=>?_,ok.frt,hz.os.trans ok.oss,hz.gens.trans ok.gns⟩
  · refine (ok.trk j).imp id λ⟨b,u,g1,g2,g3,g4⟩=>⟨b,u,(ok.ext a).1 _ _ g1,hk _ _ g2,g3.le (ok.ext a),g4⟩
  · rcases List.mem_cons.mp h with q | h
    · (refine E0_2 (Prod.mk.inj q) λq1 q2=>?_;subst q1;subst q2);exact ⟨a,f,put_self,ha,hd.le (ok.ext a),ok.old hn⟩
    · refine E2_4 (ok.frs M m h) λb f g1 g2 g3 g4=>?_
      exact ⟨b,f,(ok.ext a).1 _ _ g1,g2.keeps hk,g3.le (ok.ext a),g4⟩
  · show st.n::st.k.map (·.1)=_;rw [ok.ids_]
  · exact List.nodup_cons.mpr ⟨hf,ok.nd⟩
  · rcases List.mem_cons.mp h with q | h
    · rw [q];exact hj
    · exact ok.fj M h
  · have mt:i≠st.n->st.mt ids i:=λe=>hi.imp id λh=>(List.mem_cons.mp h).resolve_left e
    have hi:=hi.tr
    have key:∀i,(st.t.at i≠.junk\/i∈st.n::ids)->i≠st.n->(l.put st.n a).ρ i=some b->(∃o,s.heap.get? b=some o)/\(st.t.at i≠.junk\/i∈ids)/\l.ρ i=some b:=by
      intro i hi e ei
      have hi':st.t.at i≠.junk\/i∈ids:=hi.imp id λh=>(List.mem_cons.mp h).resolve_left e
      rw [zba e] at ei
      refine E2_2 (ok.has hi') λb' o h1 h2=>?_
      rw [ei] at h1;(replace h1:=si h1;subst h1)
      exact ⟨⟨o,h2⟩,hi',ei⟩
    by_cases e:i=st.n <;> by_cases e':j=st.n
    · rw [e,e']
    · refine E0_2 (key j hj' e' ej) ?_;rintro ⟨o,h⟩ _
      rw [e,put_self] at ei;(replace ei:=si ei;subst ei)
      rw [hn] at h;exact no h
    · refine E0_2 (key i hi e ei) ?_;rintro ⟨o,h⟩ _
      rw [e',put_self] at ej;(replace ej:=si ej;subst ej)
      rw [hn] at h;exact no h
    · refine E0_3 (key i hi e ei) λ_ h1 h2=>?_
      refine E0_3 (key j hj' e' ej) λ_ h3 h4=>?_
      exact ok.inj i j b (mt e) h3 h2 h4
  · have h':st.n.num + 1<=i.num:=by rw [<- P.suc_num];exact h
    rw [zba (λq=>by rw [q] at h';omega)]
    exact ok.fre i (by omega)
theorem pop (ok:Ok c ids l st s) {x:P×Bs} {r:List (P×Bs)} {L:P} {ids':List P} (e:st.k=x::r) (ei:ids=L::ids'):Ok c ids' l ⟨st.t,st.n,st.m,r⟩ s:=by
  have hi:r.map (·.1)=ids':=by
    have:=ok.ids_;rw [e,ei] at this;exact (List.cons.inj this).2
  subst ei
  exact ⟨ok.bas,ok.kep,ok.trk,λM m h=>ok.frs M m (by rw [e];exact .tail _ h),hi,(List.nodup_cons.mp ok.nd).2,λM h=>ok.fj M (.tail _ h),
    λi j b hi hj=>ok.inj i j b (hi.imp id λh=>.tail _ h) (hj.imp id λh=>.tail _ h),ok.fre,ok.frt,ok.oss,ok.gns⟩
theorem sym (ok:Ok c ids l st s) (z:Int):Ok c ids ⟨l.ρ,λj=>if j=st.m then some z else l.θ j,l.χ,l.hx⟩ ⟨st.t,st.n,st.m + 1,st.k⟩ s/\l.Le ⟨l.ρ,λj=>if j=st.m then some z else l.θ j,l.χ,l.hx⟩:=by
  have le:l.Le ⟨l.ρ,λj=>if j=st.m then some z else l.θ j,l.χ,l.hx⟩:=⟨λ_ _ e=>e,λj u e=>by
    have:j≠st.m:=λq=>by have:=ok.frt j (by rw [q];exact Nat.le_refl _);rw [this] at e;exact no e
    simp [this,e],λ_ _ _ _ e=>e,λ_ _ e=>e⟩
  refine ⟨⟨ok.bas,ok.kep,λi=>(ok.trk i).imp id λ⟨b,u,g1,g2,g3,g4⟩=>⟨b,u,g1,g2,g3.le le,g4⟩,λL m h=>?_,ok.ids_,ok.nd,ok.fj,ok.inj,ok.fre,λj h=>?_,ok.oss,ok.gns⟩,le⟩
  · refine E2_4 (ok.frs L m h) λb f g1 g2 g3 g4=>?_;exact ⟨b,f,g1,g2,g3.le le,g4⟩
  · have h':st.m + 1<=j:=h
    show (if j=st.m then some z else l.θ j)=none
    rw [if_neg (by omega)];exact ok.frt j (by omega)
theorem bump (ok:Ok c ids l st s) (a:Addr):Ok c ids (l.put st.n a) ⟨st.t,st.n.suc,st.m,st.k⟩ s where
  bas:=ok.bas
  kep:=ok.kep
  trk i:=(ok.trk i).imp id λ⟨b,u,h1,h2,h3,h4⟩=>⟨b,u,(ok.ext a).1 _ _ h1,h2,h3.le (ok.ext a),h4⟩
  frs L m h:=let ⟨b,f,h1,h2,h3,h4⟩:=ok.frs L m h;⟨b,f,(ok.ext a).1 _ _ h1,h2,h3.le (ok.ext a),h4⟩
  ids_:=ok.ids_
  nd:=ok.nd
  fj:=ok.fj
  inj i j b hi hj ei ej:=by
    have key:∀i,(st.t.at i≠.junk\/i∈ids)->(l.put st.n a).ρ i=some b->l.ρ i=some b:=λi hi e=>by
      refine E2_2 (ok.has hi) λb' o h1 _=>?_
      rwa [zba (ok.used h1)] at e
    exact ok.inj i j b hi hj (key i hi.tr ei) (key j hj ej)
  fre i h:=by
    have h':st.n.num + 1<=i.num:=by rw [<- P.suc_num];exact h
    rw [zba (λq=>by rw [q] at h';omega)]
    exact ok.fre i (by omega)
  frt:=ok.frt
  oss:=ok.oss
  gns:=ok.gns
theorem fresh_junk (ok:Ok c ids l st s):st.t.at st.n=.junk/\st.n∉ids:=by
  refine ⟨?_,λh=>?_⟩
  · by_cases h:st.t.at st.n=.junk
    · exact h
    · refine E2_2 (ok.at_ rfl h) λb u g1 _=>?_;exact absurd rfl (ok.used g1)
  · refine E1_1 (ok.frame_id h) λm hm=>?_
    refine E2_2 (ok.frs _ _ hm) λb f h1 _=>?_
    exact ok.used h1 rfl
theorem retrack (ok:Ok c ids l st s) {i:P} {a:Addr} {o:O} {ob:Obj} {t':TO} (hi:i∉ids) (hr:l.ρ i=some a) (ho:s.heap.get? a=some ob) (hd:DO c l o ob) (hm:o.mut=true->l.hx.get? a=none)
    (hu:∀j,(st.t.at j≠.junk\/j∈ids)->(o.mut=true\/st.mt ids j)->l.ρ j≠some a) (ht:∀q,t'.at q=if q=i then o else st.t.at q):Ok c ids l ⟨t',st.n,st.m,st.k⟩ s where
  bas:=ok.bas
  kep:=ok.kep
  trk j:=by
    show t'.at j=.junk\/_
    rw [ht]
    split
    · rename_i e;subst e;exact .inr ⟨a,ob,hr,ho,hd,hm⟩
    · exact ok.trk j
  frs:=ok.frs
  ids_:=ok.ids_
  nd:=ok.nd
  fj L h:=by
    show t'.at L=.junk
    rw [ht,if_neg (λ(q:L=i)=>hi (q▸h)),ok.fj L h]
  inj j k b hj hk ej ek:=by
    have key:∀j,(t'.at j≠.junk\/j∈ids)->j≠i->(st.t.at j≠.junk\/j∈ids):=λj hj e=>by rw [ht,if_neg e] at hj;exact hj
    have mt:j≠i->st.mt ids j:=λe=>hj.imp (λ(h:t'.at j≠.junk/\(t'.at j).mut=true)=>by rw [ht,if_neg e] at h;exact h) id
    by_cases e:j=i <;> by_cases e':k=i
    · rw [e,e']
    · rw [e,hr] at ej;(replace ej:=si ej;subst ej)
      refine absurd ek (hu k (key k hk e') (.inl ?_))
      rcases hj with ⟨_,hj⟩ | hj
      · have hj:(t'.at j).mut=true:=hj
        rw [ht,if_pos e] at hj;exact hj
      · exact absurd (e▸hj) hi
    · rw [e',hr] at ek;(replace ek:=si ek;subst ek);exact absurd ej (hu j (mt e).tr (.inr (mt e)))
    · exact ok.inj j k b (mt e) (key k hk e') ej ek
  fre:=ok.fre
  frt:=ok.frt
  oss:=ok.oss
  gns:=ok.gns
theorem alloc_upd (ok:Ok c ids l st s) {q:P} {a dx:Addr} {o o1 o2:O} {ob1 ob2:Obj} {t1 t':TO} (e:st.t.at q=o) (hm:o.mut=true) (hj:o≠.junk) (hr:l.ρ q=some a) (hn:s.heap.get? dx=none)
    (hk:∀b u,b≠a->s.heap.get? b=some u->s'.heap.get? b=some u) (h1:s'.heap.get? a=some ob1) (d1:DO c (l.put st.n dx) o1 ob1) (h2:s'.heap.get? dx=some ob2) (d2:DO c (l.put st.n dx) o2 ob2)
    (ht1:∀i,t1.at i=if i=q then o1 else st.t.at i) (ht:∀i,t'.at i=if i=st.n then o2 else t1.at i) (hz:Same s s':=by exact ⟨rfl,rfl⟩):Ok c ids (l.put st.n dx) ⟨t',st.n.suc,st.m,st.k⟩ s':=by
  have hq:q≠st.n:=ok.used hr
  have ok2:=(ok.bump dx).upd (o':=o1) (t':=t1) e hm hj ((ok.ext dx).1 _ _ hr) hk (.inr ⟨ob1,h1,d1⟩) ht1 hz
  refine E0_2 ok.fresh_junk λfj fi=>?_
  refine ok2.retrack fi put_self h2 d2 (λ_=>ok.old hn) (λj hj _ e=>?_) ht
  by_cases ej:j=st.n
  · subst ej
    rcases hj with hj | hj
    · exact hj (by show t1.at st.n=.junk;rw [ht1,if_neg hq.symm,fj])
    · exact fi hj
  · rw [zba ej] at e
    have:st.t.at j≠.junk\/j∈ids:=by
      rcases hj with hj | hj
      · replace hj:t1.at j≠.junk:=hj
        rw [ht1] at hj
        split at hj
        · rename_i ee;subst ee;exact .inl (by rw [‹st.t.at j=o›];exact ‹o≠.junk›)
        · exact .inl hj
      · exact .inr hj
    refine E2_2 (ok.has this) λb u g1 g2=>?_
    rw [e] at g1;(replace g1:=si g1;subst g1);rw [hn] at g2;exact no g2
end Ok
theorem zaU:∀(p:P) (x:O) (t:TO) (k:TO->Bool),(∀t,k t=true)->tput p x t k=true
  | .h,x,.nil,k,h=>h _
  | .h,x,.node _ _ _,k,h=>h _
  | .o p,x,.nil,k,h=>zaU p x .nil _ λ_=>h _
  | .o p,x,.node _ l _,k,h=>zaU p x l _ λ_=>h _
  | .i p,x,.nil,k,h=>zaU p x .nil _ λ_=>h _
  | .i p,x,.node _ _ r,k,h=>zaU p x r _ λ_=>h _
theorem zg5 (t:TO) (p:P) (x:O):∃t':TO,∀q,t'.at q=if q=p then x else t.at q:=let ⟨t',_,e⟩:=zaL p x t (λ_=>true) (zaU _ _ _ _ λ_=>rfl);⟨t',e⟩
end Mine
end
section
open PySem PySem.W PyProof.Rows PySem.Calls
namespace Mine
section
variable {c:Cn} {ids:List P} {l:Vl} {st:St} {s:Shared} {f:SbF}
noncomputable def SbOk (c:Cn) (l:Vl) (f:SbF):Prop:=∀v k,f v k=true->∃v',k v'=true/\∀u,DV c l v u->DV c l v' u
theorem zfb (hf:SbOk c l f):∀(xs:List V) (k:List V->Bool),sbL f xs k=true->∃ys,k ys=true/\∀us,DVs c l xs us->DVs c l ys us
  | [],k,h=>⟨[],h,λ_ d=>d⟩
  | x::r,k,h=>by
    refine E1_2 (hf x _ (show f x (λy=>sbL f r (zaD y k))=true from h)) λy h1 d1=>?_
    refine E1_2 (zfb hf r _ h1) λys h2 d2=>?_
    exact ⟨y::ys,h2,λus d=>by cases d with | cons a b=>exact .cons (d1 _ a) (d2 _ b)⟩
noncomputable def SbP (c:Cn) (l:Vl) (p q:Nat×V):Prop:=p.1=q.1/\∀u,DV c l p.2 u->DV c l q.2 u
theorem zfa (hf:SbOk c l f):∀(m:Bs) (k:Bs->Bool),sbM f m k=true->∃m',k m'=true/\All2 (SbP c l) m m'
  | [],k,h=>⟨[],h,.nil⟩
  | (a,x)::r,k,h=>by
    refine E1_2 (hf x _ (show f x (λy=>sbM f r (zaD (a,y) k))=true from h)) λy h1 d1=>?_
    refine E1_2 (zfa hf r _ h1) λys h2 d2=>?_
    exact ⟨(a,y)::ys,h2,.cons ⟨rfl,d1⟩ d2⟩
theorem SbP.es {m m':Bs} (h:All2 (SbP c l) m m'):∀es,All2 (DE c l) m es->All2 (DE c l) m' es:=by
  induction h with
  | nil=>exact λes d=>d
  | cons a _ ih=>
    intro es d
    cases d with
    | cons d ds=>
    refine .cons ?_ (ih _ ds)
    refine ⟨?_,?_,a.2 _ d.2.2⟩
    · rw [<- a.1];exact d.1
    · rw [<- a.1];exact d.2.1
theorem SbP.lk {m m':Bs} (h:All2 (SbP c l) m m'):∀x,match lk m' x with | some v'=>∃v,lk m x=some v/\∀u,DV c l v u->DV c l v' u | none=>True:=by
  induction h with
  | nil=>exact λx=>trivial
  | @cons p q r r' a _ ih=>
    intro x
    show match (if q.1=x then some q.2 else Mine.lk r' x) with | some v'=>∃v,(if p.1=x then some p.2 else Mine.lk r x)=some v/\_ | none=>True
    rw [a.1]
    by_cases e:q.1=x
    · rw [if_pos e,if_pos e];exact ⟨_,rfl,a.2⟩
    · rw [if_neg e,if_neg e];exact ih x
theorem SbP.dn {m m':Bs} (h:All2 (SbP c l) m m') {g:PySem.Str->Option Value} (d:DN c l m g):DN c l m' g:=λk=>by
  have q:=SbP.lk h k
  cases e:Mine.lk m' k with
  | none=>trivial
  | some v'=>
    rw [e] at q
    refine E1_2 q λv e1 e2=>?_
    have:=d k;rw [e1] at this
    exact let ⟨x,a,b⟩:=this;⟨x,a,e2 _ b⟩
noncomputable def SbR (c:Cn) (l:Vl) (o o':O):Prop:=(o'=.junk<->o=.junk)/\o'.mut=o.mut/\∀ob,DO c l o ob->DO c l o' ob
theorem SbR.refl (o:O):SbR c l o o:=⟨Iff.rfl,rfl,λ_ d=>d⟩
theorem zjh (hf:SbOk c l f) (o:O) (k:O->Bool) (h:sbO f o k=true):∃o',k o'=true/\SbR c l o o':=by
  cases o with
  | tup xs=>exact E1_2 (zfb hf xs _ h) λys h1 d=>⟨.tup ys,h1,⟨nofun,nofun⟩,rfl,λob ⟨vs,n,e,z⟩=>⟨vs,n,e,d _ z⟩⟩
  | lst xs=>exact E1_2 (zfb hf xs _ h) λys h1 d=>⟨.lst ys,h1,⟨nofun,nofun⟩,rfl,λob ⟨vs,n,e,z⟩=>⟨vs,n,e,d _ z⟩⟩
  | ns m=>exact E1_2 (zfa hf m _ h) λm' h1 d=>⟨.ns m',h1,⟨nofun,nofun⟩,rfl,λob ⟨es,n,e,z⟩=>⟨es,n,e,SbP.es d _ z⟩⟩
  | cel v=>exact E1_2 (hf v _ h) λv' h1 d=>⟨.cel v',h1,⟨nofun,nofun⟩,rfl,λob ⟨x,e,z⟩=>⟨x,e,d _ z⟩⟩
  | _=>exact ⟨_,h,.refl _⟩
theorem ze9 (hf:SbOk c l f):∀(t:TO) (k:TO->Bool),sbT f t k=true->∃t',k t'=true/\∀p,SbR c l (t.at p) (t'.at p)
  | .nil,k,h=>⟨.nil,h,λp=>.refl _⟩
  | .node o a b,k,h=>by
    refine E1_2 (ze9 hf a _ (show sbT f a (sbT1 f o (sbT f b) k)=true from h)) λa' h1 d1=>?_
    refine E1_2 (ze9 hf b _ (show sbT f b (λr=>sbO f o (sbT2 f k a' r))=true from h1)) λb' h2 d2=>?_
    refine E1_2 (zjh hf o _ h2) λo' h3 d3=>?_
    exact ⟨.node o' a' b',h3,λp=>by cases p with | h=>exact d3 | o p=>exact d1 p | i p=>exact d2 p⟩
theorem zg4 (hf:SbOk c l f):∀(fr:List (P×Bs)) (k:List (P×Bs)->Bool),sbF f fr k=true->∃fr',k fr'=true/\fr'.map (·.1)=fr.map (·.1)/\∀L m',(L,m')∈fr'->∃m,(L,m)∈fr/\∀g,DN c l m g->DN c l m' g
  | [],k,h=>⟨[],h,rfl,λL m' q=>by cases q⟩
  | (L,m)::r,k,h=>by
    refine E1_2 (zfa hf m _ (show sbM f m (λm'=>sbF f r (zaD (L,m') k))=true from h)) λm' h1 d1=>?_
    refine E1_3 (zg4 hf r _ h1) λr' h2 e d2=>?_
    refine ⟨(L,m')::r',h2,by rw [List.map_cons,List.map_cons,e],λL1 m1 q=>?_⟩
    rcases List.mem_cons.mp q with q | q
    · cases q;exact ⟨m,.head _,λg d=>SbP.dn d1 d⟩
    · exact let ⟨m2,a,b⟩:=d2 L1 m1 q;⟨m2,.tail _ a,b⟩
theorem zdA (ok:Ok c ids l st s) (hf:SbOk c l f) {k:KS} (h:subS f st k=true):∃st',k st'=true/\Ok c ids l st' s/\st'.n=st.n/\st'.m=st.m:=by
  obtain ⟨t,n,m,fr⟩:=st
  refine E1_2 (ze9 hf t _ (show sbT f t (sbS1 f k n m fr)=true from h)) λt' h1 d1=>?_
  refine E1_3 (zg4 hf fr _ (show sbF f fr (sbS2 k n m t')=true from h1)) λfr' h2 e2 d2=>?_
  refine ⟨⟨t',n,m,fr'⟩,h2,⟨ok.bas,ok.kep,λi=>?_,λL ms q=>?_,e2.trans ok.ids_,ok.nd,λL hL=>(d1 L).1.mpr (ok.fj L hL),λi j a hi hj ei ej=>?_,ok.fre,ok.frt,ok.oss,ok.gns⟩,rfl,rfl⟩
  · refine (ok.trk i).imp (d1 i).1.mpr λ⟨a,o,g1,g2,g3,g4⟩=>⟨a,o,g1,g2,(d1 i).2.2 _ g3,λz=>g4 ?_⟩
    rw [<- (d1 i).2.1];exact z
  · refine E1_2 (d2 L ms q) λm0 q0 q1=>?_
    exact let ⟨a,g,g1,g2,g3,g4⟩:=ok.frs L m0 q0;⟨a,g,g1,g2,q1 _ g3,g4⟩
  · refine ok.inj i j a (hi.imp (λ(z:t'.at i≠.junk/\(t'.at i).mut=true)=>⟨λq=>z.1 ((d1 i).1.mpr q),by rw [<- (d1 i).2.1];exact z.2⟩) id) (hj.imp (λ(z:t'.at j≠.junk) q=>z ((d1 j).1.mpr q)) id) ei ej
theorem zji {j:Nat} {x:Int} (h:l.θ j=some x):SbOk c l (sbI j x):=λv k hk=>by
  cases v with
  | sym j' c' lo hi=>
    rcases bq_t (show bq (Nat.beq j j') (iadd x c' (sbIx k)) (k (.sym j' c' lo hi))=true from hk) with ⟨e,h9⟩ | ⟨_,h9⟩
    · rw [Nat.beq_eq] at e;subst e
      have h8:k (.int (x + c'))=true:=zaE h9
      exact ⟨_,h8,λu ⟨z,t,e1,e2,_⟩=>by rw [h] at e1;rw [si e1];exact ⟨t,e2⟩⟩
    · exact ⟨_,h9,λu d=>d⟩
  | _=>exact ⟨_,hk,λu d=>d⟩
theorem zg3 {j:Nat} {r:V} (h:∀d u,DV c l (.nes j d) u->DV c l r u):SbOk c l (sbN j r):=λv k hk=>by
  cases v with
  | nes j' d=>
    rcases bq_t (show bq (Nat.beq j j') (k r) (k (.nes j' d))=true from hk) with ⟨e,h9⟩ | ⟨_,h9⟩
    · rw [Nat.beq_eq] at e;subst e
      exact ⟨_,h9,λu x=>h d u x⟩
    · exact ⟨_,h9,λu d=>d⟩
  | _=>exact ⟨_,hk,λu d=>d⟩
theorem zer (ok:Ok c ids l st s) {j:Nat} {c0 lo z:Int} {k:Int->St->Bool} (hz:l.θ j=some z):∀n,zgL j c0 lo st k n=true->lo<=z + c0->z + c0 < lo + n->∃st',k (z + c0) st'=true/\Ok c ids l st' s/\st'.n=st.n/\st'.m=st.m
  | 0,_,h1,h2=>by exfalso;omega
  | n + 1,h,h1,h2=>by
    refine E0_2 (zac (show bq (iadd lo (.ofNat n) (zk1 j c0 st k)) (zgL j c0 lo st k n) false=true from h)) λh3 h4=>?_
    by_cases e:z + c0=lo + n
    · have h3:zdQ (lo + .ofNat n) c0 (ziI j st k (lo + .ofNat n))=true:=zaE h3
      have h3:ziI j st k (lo + .ofNat n) (lo + .ofNat n - c0)=true:=zbl h3
      have e1:lo + Int.ofNat n=z + c0:=e.symm
      rw [e1,show z + c0 - c0=z by omega] at h3
      exact zdA ok (zji hz) h3
    · exact zer ok hz n h4 h1 (by omega)
theorem zcR (ok:Ok c ids l st s) {j:Nat} {c0 lo hi z:Int} {k:Int->St->Bool} (hz:l.θ j=some z) (h1:lo<=z + c0) (h2:z + c0<=hi) (h:conc j c0 lo hi st k=true):∃st',k (z + c0) st'=true/\Ok c ids l st' s/\st'.n=st.n/\st'.m=st.m:=by
  have h:zk2 j c0 lo st k (hi - lo)=true:=zbl h
  cases e:hi - lo with
  | negSucc n=>rw [e] at h;exact nb h
  | ofNat d=>
    rw [e] at h
    have h:=(zac (show bq (Nat.ble d 40) (zgL j c0 lo st k (Nat.succ d)) false=true from h)).2
    have e:hi - lo=(d:Int):=e
    exact zer ok hz _ h h1 (by show z + c0 < lo + ((d + 1:Nat):Int);omega)
theorem Ok.symN (ok:Ok c ids l st s) (u:Value):Ok c ids ⟨l.ρ,λj=>if j=st.m then some 0 else l.θ j,λj=>if j=st.m then some u else l.χ j,l.hx⟩ ⟨st.t,st.n,st.m + 1,st.k⟩ s/\l.Le ⟨l.ρ,λj=>if j=st.m then some 0 else l.θ j,λj=>if j=st.m then some u else l.χ j,l.hx⟩:=by
  have ne:∀j z,l.θ j=some z->j≠st.m:=λj z e q=>by have:=ok.frt j (by rw [q];exact Nat.le_refl _);rw [this] at e;exact no e
  have le:l.Le ⟨l.ρ,λj=>if j=st.m then some 0 else l.θ j,λj=>if j=st.m then some u else l.χ j,l.hx⟩:=⟨λ_ _ e=>e,λj z e=>(if_neg (ne j z e)).trans e,λj z v e f=>(if_neg (ne j z e)).trans f,λ_ _ e=>e⟩
  refine ⟨⟨ok.bas,ok.kep,λi=>(ok.trk i).imp id λ⟨b,o,g1,g2,g3,g4⟩=>⟨b,o,g1,g2,g3.le le,g4⟩,λL m h=>?_,ok.ids_,ok.nd,ok.fj,ok.inj,ok.fre,λj h=>?_,ok.oss,ok.gns⟩,le⟩
  · exact let ⟨b,f,g1,g2,g3,g4⟩:=ok.frs L m h;⟨b,f,g1,g2,g3.le le,g4⟩
  · have h':st.m + 1<=j:=h
    show (if j=st.m then some 0 else l.θ j)=none
    rw [if_neg (by omega)];exact ok.frt j (by omega)
theorem zfv {d:Nat}:∀(vs:List Value) {l:Vl} {st:St} {k:List V->St->Bool},Ok c ids l st s->(∀v∈vs,NestV l.hx d v)->mkCh d vs.length st k=true->∃l' st' cs,l.Le l'/\Ok c ids l' st' s/\k cs st'=true/\DVs c l' cs vs
  | [],l,st,k,ok,_,h=>⟨l,st,[],.refl _,ok,h,.nil⟩
  | v::vs,l,st,k,ok,hn,h=>by
    have h:mkCh d vs.length ⟨st.t,st.n,st.m + 1,st.k⟩ (kCh1 st.m d k)=true:=h
    refine E0_2 (ok.symN v) λok1 le1=>?_
    refine E3_4 (zfv vs ok1 (λw hw=>(hn w (.tail _ hw)).keeps le1.4) h) λl' st' cs le2 ok2 h2 d2=>?_
    refine ⟨l',st',.nes st.m d::cs,le1.trans le2,ok2,h2,.cons (DV.le le2 ?_) d2⟩
    exact ⟨if_pos rfl,if_pos rfl,hn v (.head _)⟩
theorem Ok.take (ok:Ok c ids l st s) {a:Addr} {ob:Obj} {o:O} {k:KP} (hg:l.hx.get? a=some ob) (hd:DO c (l.put st.n a) o ob) (hm:o.mut=false) (h:st.add o k=true):∃st',Ok c ids (l.put st.n a) st' s/\l.Le (l.put st.n a)/\k st.n st'=true:=by
  refine E1_2 (St.add_spec h) λt' h1 ht=>?_
  refine ⟨_,(ok.bump a).retrack (t':=t') (i:=st.n) ok.fresh_junk.2 put_self (ok.kep _ _ hg) hd (λz=>by rw [hm] at z;exact nb z) (λj hj mj e=>?_) ht,ok.ext a,h1⟩
  rcases mj with z | mj
  · rw [hm] at z;exact nb z
  · have e':l.ρ j=some a:=by
      by_cases q:j=st.n
      · subst q
        rcases hj with hj | hj
        · exact absurd ok.fresh_junk.1 hj
        · exact absurd hj ok.fresh_junk.2
      · rwa [zba q] at e
    rcases mj with ⟨q1,q2⟩ | q
    · refine E2_4 (ok.at_ (i:=j) rfl q1) λb u g1 _ _ g4=>?_
      rw [e'] at g1;(replace g1:=si g1;subst g1)
      rw [g4 q2] at hg;exact no hg
    · refine E1_1 (ok.frame_id q) λm hm=>?_
      refine E2_4 (ok.frs _ _ hm) λb f g1 _ _ g4=>?_
      rw [e'] at g1;(replace g1:=si g1;subst g1)
      rw [g4] at hg;exact no hg
theorem zjW (ok:Ok c ids l st s) {j d n m:Nat} {a b:Addr} {w:Value} {vs:List Value} {k:KV} (hc:l.χ j=some (.ref a)) (hj:l.θ j=some 0) (ha:l.hx.get? a=some { cls:=.type "tuple",data:=.seq (List.toArray [w,.ref b]) n}) (hw:Leaf w)
    (hb:l.hx.get? b=some { cls:=.type "tuple",data:=.seq (List.toArray vs) m}) (hv:∀v∈vs,NestV l.hx d v) (h:matM j d vs.length st k=true):∃l' st',l.Le l'/\Ok c ids l' st' s/\k (.boo true) st'=true:=by
  have h:mkCh d vs.length ⟨st.t,st.n,st.m + 1,st.k⟩ (matC j st.m k)=true:=h
  refine E0_2 (ok.symN w) λok1 le1=>?_
  refine E3_4 (zfv vs ok1 (λv i=>(hv v i).keeps le1.4) h) λl2 st2 cs le2 ok2 h2 d2=>?_
  have le12:=le1.trans le2
  have dw:DV c l2 (.nes st.m 0) w:=DV.le le2 ⟨if_pos rfl,if_pos rfl,hw⟩
  refine E1_3 (ok2.take (le12.4 _ _ hb) (o:=.tup cs) ⟨vs,m,rfl,d2.le (ok2.ext _)⟩ rfl (show st2.add (.tup cs) (matD j st.m k)=true from h2)) λst3 ok3 le3 h3=>?_
  have le13:=le12.trans le3
  have db:DV c (l2.put st2.n b) (.ref st2.n) (.ref b):=⟨b,Ok.put_self,rfl⟩
  refine E1_3 (ok3.take (le13.4 _ _ ha) (o:=.tup [.nes st.m 0,.ref st2.n]) ⟨[w,.ref b],n,rfl,.cons ((dw.le le3).le (ok3.ext _)) (.cons (db.le (ok3.ext _)) .nil)⟩ rfl (show st3.add (.tup [.nes st.m 0,.ref st2.n]) (matE j k)=true from h3)) λst4 ok4 le4 h4=>?_
  have le14:=le13.trans le4
  refine E1_4 (zdA ok4 (zg3 λd' u x=>?_) (show subS (sbN j (.ref st3.n)) st4 (kBo k true)=true from h4)) λst5 h5 ok5 _ _=>⟨_,st5,le14,ok5,h5⟩
  have e1:=le14.3 _ _ _ hj hc
  have e2:=x.2.1
  rw [e1] at e2
  exact ⟨a,Ok.put_self,(si e2).symm⟩
end
end Mine
end
section
open PySem PySem.W PyProof.Rows PySem.Calls
namespace Mine
structure EOk (c:Cn) (l:Vl) (ids:List P) (cs:Cs) (kd:PySem.Str->Option NameKind) (env:Env):Prop where
  kind:env.scope.kind=.function
  names:∀x,env.kindOf x=kd x
  loc:∃L r,ids=L::r/\l.ρ L=some env.locals
  glo:env.globals=mainGlobals
  blt:env.builtins=builtinsNs
  cel:∀k p,lk cs k=some p->∃a,env.cells.lookup (c.nm k)=some a/\l.ρ p=some a
theorem EOk.le {c:Cn} {l l':Vl} {ids cs kd env} (x:l.Le l') (e:EOk c l ids cs kd env):EOk c l' ids cs kd env:=
  ⟨e.kind,e.names,let ⟨L,r,a,b⟩:=e.loc;⟨L,r,a,x.1 _ _ b⟩,e.glo,e.blt,λk p h=>let ⟨a,b,d⟩:=e.cel k p h;⟨a,b,x.1 _ _ d⟩⟩
noncomputable def Fo (ids:List P) (l:Vl) (A:Around):Prop:=∃es,A.frames=some es/\∀env∈es,env.scope.kind≠.module/\∃L∈ids,∃a,l.ρ L=some a/\env.frame=some a
theorem Fo.le {ids:List P} {l l':Vl} {A:Around} (x:l.Le l'):Fo ids l A->Fo ids l' A:=λ⟨es,a,b⟩=>⟨es,a,λe h=>let ⟨q,L,i,y,r,z⟩:=b e h;⟨q,L,i,y,x.1 _ _ r,z⟩⟩
theorem Fo.cons {ids:List P} {l:Vl} {A:Around} (L:P):Fo ids l A->Fo (L::ids) l A:=λ⟨es,a,b⟩=>⟨es,a,λe h=>let ⟨q,L,i,y,z⟩:=b e h;⟨q,L,.tail _ i,y,z⟩⟩
structure Rm (ids:List P) (l:Vl) (A:Around) (dp:Nat):Prop where
  depth:A.depth<=100 + 10 * dp
  units:A.units<=200 + 30 * dp
  low:dp<=40
  fo:Fo ids l A
structure Rc (ids:List P) (l:Vl) (A:Around) (dp:Nat):Prop where
  depth:A.depth<=105 + 10 * dp
  units:A.units<=215 + 30 * dp
  free:A.handled=none
  fo:Fo ids l A
theorem Rm.le {ids:List P} {l l':Vl} {A:Around} {dp:Nat} (x:l.Le l') (h:Rm ids l A dp):Rm ids l' A dp:=⟨h.depth,h.units,h.low,h.fo.le x⟩
theorem Rc.le {ids:List P} {l l':Vl} {A:Around} {dp:Nat} (x:l.Le l') (h:Rc ids l A dp):Rc ids l' A dp:=⟨h.depth,h.units,h.free,h.fo.le x⟩
theorem Rm.call {ids:List P} {l:Vl} {A:Around} {dp:Nat} (h:Rm ids l A dp) (hf:A.handled=none):Rc ids l A dp:=⟨by have:=h.depth;omega,by have:=h.units;omega,hf,h.fo⟩
structure Nms (c:Cn):Prop where
  inj:∀a b,c.nm a=c.nm b->a=b
  dbg:∀k,(c.nm k==("__debug__":PySem.Str))=false
  cld:∀k,(c.nm k==("__classdict__":PySem.Str))=false
  lim:c.h₀.NoLimit
noncomputable abbrev Md (c:Cn):Model:=model c.prog c.w
noncomputable def PV (c:Cn) (ids:List P) (l:Vl) (k:KV) (Q:Value->Shared->Prop):Prop:=∀l' v st u s,k v st=true->l.Le l'->Ok c ids l' st s->DV c l' v u->Q u s
noncomputable def PB (c:Cn) (ids:List P) (l:Vl) (k:KB) (Q:Bool->Shared->Prop):Prop:=∀l' b st s,k b st=true->l.Le l'->Ok c ids l' st s->Q b s
noncomputable def PL (c:Cn) (ids:List P) (l:Vl) (n:Nat) (k:KL) (Q:List Value->Shared->Prop):Prop:=∀l' v st u s,k v st=true->l.Le l'->Ok c ids l' st s->DVs c l' v u->u.length=n->Q u s
noncomputable def PSk (c:Cn) (ids:List P) (l:Vl) (k:KS) (Q:Shared->Prop):Prop:=∀l' st s,k st=true->l.Le l'->Ok c ids l' st s->Q s
noncomputable def DFl (c:Cn) (l:Vl):Fl->Flow->Prop
  | .next,f=>f=.next
  | .brk,f=>f=.brk
  | .cont,f=>f=.cont
  | .ret v,f=>∃u,f=.ret u/\DV c l v u
noncomputable def PF (c:Cn) (ids:List P) (l:Vl) (k:KF) (Q:Flow->Shared->Prop):Prop:=∀l' v st u s,k v st=true->l.Le l'->Ok c ids l' st s->DFl c l' v u->Q u s
noncomputable def Fly (c:Cn) (ids:List P) (l:Vl) (st:St) (v:V) (u:Value) (s:Shared):Prop:=∃q e k d oe vs,v=.ref q/\u=.ref e/\l.ρ q=some e/\st.t.at q=.exc k d true/\s.heap.get? e=some oe/\oe.data=.fields vs/\
  (vs[1]? =some .none\/∃T oT ts,vs[1]? =some (.ref T)/\(∀i,(st.t.at i≠.junk\/i∈ids)->l.ρ i≠some T)/\l.hx.get? T=none/\s.heap.get? T=some oT/\oT.data=.fields ts/\ts[3]? =some .none)
noncomputable def PX (c:Cn) (ids:List P) (l:Vl) (k:KV) (E:Value->Shared->Prop):Prop:=∀l' v st u s,k v st=true->l.Le l'->Ok c ids l' st s->Fly c ids l' st v u s->E u s
theorem PX.le {c ids l l' k Q} (x:l.Le l') (h:PX c ids l k Q):PX c ids l' k Q:=λ_ _ _ _ _ z y=>h _ _ _ _ _ z (x.trans y)
theorem PV.le {c ids l l' k Q} (x:l.Le l') (h:PV c ids l k Q):PV c ids l' k Q:=λ_ _ _ _ _ z y=>h _ _ _ _ _ z (x.trans y)
theorem PB.le {c ids l l' k Q} (x:l.Le l') (h:PB c ids l k Q):PB c ids l' k Q:=λ_ _ _ _ z y=>h _ _ _ _ z (x.trans y)
theorem PSk.le {c ids l l' k Q} (x:l.Le l') (h:PSk c ids l k Q):PSk c ids l' k Q:=λ_ _ _ z y=>h _ _ _ z (x.trans y)
theorem PF.le {c ids l l' k Q} (x:l.Le l') (h:PF c ids l k Q):PF c ids l' k Q:=λ_ _ _ _ _ z y=>h _ _ _ _ _ z (x.trans y)
noncomputable def RetP (Q E:Value->Shared->Prop) (r:Result) (s:Shared):Prop:=match r with
  | .ok (.ret v)=>Q v s
  | .ok _=>False
  | .error e=>E e s
structure CallOk (c:Cn) (r:CF):Prop where
  fn:∀f args dp ids l st s k kx A vals Q E,fnIn c.K (c.fv f)=true->r f args [] dp st k kx=true->Ok c ids l st s->DVs c l args vals->Rc ids l A dp->c.l0.Le l->
    PV c ids l k Q->PX c ids l kx E->codeAny (Md c) A (.call (.ref (c.fv f)) ⟨vals,[]⟩) (RetP Q E) s
  lam:∀f args cs q g a dp ids l st s k kx A vals Q E,r f args cs dp st k kx=true->Ok c ids l st s->st.t.at q=.clo f cs g->st.t.at g=.cod f->l.ρ q=some a->DVs c l args vals->Rc ids l A dp->c.l0.Le l->
    PV c ids l k Q->PX c ids l kx E->codeAny (Md c) A (.call (.ref a) ⟨vals,[]⟩) (RetP Q E) s
structure Amb (c:Cn) (p:Pg) (kd:PySem.Str->Option NameKind) (x:Cx) (ids:List P) (l:Vl) (A:Around) (env:Env) (E:Value->Shared->Prop):Prop where
  pg:x.p=p
  call:CallOk c x.r
  room:Rm ids l A x.dp
  free:x.hd=false->A.handled=none
  code:∀t,x.tb=some (some t)->env.code=.ref (c.tc t)/\env.qual=c.tq t
  top:∀o,x.tb=some o->∃outer La,A.frames=some (env::outer)/\env.frame=some La
  env:EOk c l ids x.cs kd env
  exc:PX c ids l x.kx E
  base:c.l0.Le l
theorem Amb.le {c p kd x ids l l' A env E} (y:l.Le l') (h:Amb c p kd x ids l A env E):Amb c p kd x ids l' A env E:=⟨h.pg,h.call,h.room.le y,h.free,h.code,h.top,h.env.le y,h.exc.le y,h.base.trans y⟩
noncomputable def SEv (c:Cn) (p:Pg) (kd:PySem.Str->Option NameKind) (e:Ev) (ex:Expr):Prop:=∀x ids l st s k A env Q E,
  Amb c p kd x ids l A env E->e x st k=true->Ok c ids l st s->PV c ids l k Q->wpAny (Md c) A (eval ex env) Q E s
noncomputable def SEvs (c:Cn) (p:Pg) (kd:PySem.Str->Option NameKind) (e:Evs) (es:List Expr):Prop:=∀x ids l st s k A env Q E pos,
  Amb c p kd x ids l A env E->e x st k=true->Ok c ids l st s->PL c ids l es.length k Q->wpAny (Md c) A (spliced (backTo pos (starEach es env))) Q E s
noncomputable def STst (c:Cn) (p:Pg) (kd:PySem.Str->Option NameKind) (e:Tst) (ex:Expr):Prop:=∀x ids l st s k A env Q E,
  Amb c p kd x ids l A env E->e x st k=true->Ok c ids l st s->PB c ids l k Q->wpAny (Md c) A (isTrue ex env (eval ex env)) Q E s
noncomputable def SEx (c:Cn) (p:Pg) (kd:PySem.Str->Option NameKind) (e:Ex) (ex:Stmt):Prop:=∀x ids l st s k A env Q E,
  Amb c p kd x ids l A env E->e x st k=true->Ok c ids l st s->PF c ids l k Q->wpAny (Md c) A (exec ex env) Q E s
noncomputable def SExs (c:Cn) (p:Pg) (kd:PySem.Str->Option NameKind) (e:Ex) (ex:List Stmt):Prop:=∀x ids l st s k A env Q E,
  Amb c p kd x ids l A env E->e x st k=true->Ok c ids l st s->PF c ids l k Q->wpAny (Md c) A (execs ex env) Q E s
noncomputable def SAs (c:Cn) (p:Pg) (kd:PySem.Str->Option NameKind) (e:As) (ex:Expr):Prop:=∀x ids l v u st s k A env Q E,
  Amb c p kd x ids l A env E->e v x st k=true->Ok c ids l st s->DV c l v u->PSk c ids l k Q->wpAny (Md c) A (assign ex env u) (λ_=>Q) E s
section
variable {c:Cn} {p:Pg} {kd:PySem.Str->Option NameKind} {pos:Pos} {n:Nat}
noncomputable def cval (nm:Nat->PySem.Str):V->Option Const
  | .non=>some .none
  | .boo b=>some (.bool b)
  | .int i=>some (.int i)
  | .str k=>some (.str (nm k))
  | _=>none
theorem zeB {v:V} {k:Const} (e:cval c.nm v=some k):SEv c p kd (xCst v) (.Constant k n pos):=by
  intro x ids l st s k A env Q E am h ok hk
  have h:k v st=true:=h
  cases v <;> simp only [cval,reduceCtorEq] at e <;> (replace e:=si e;subst e)
  · exact wpAny_Constant_none (hk _ _ _ _ _ h (.refl _) ok rfl)
  · exact wpAny_Constant_bool (hk _ _ _ _ _ h (.refl _) ok rfl)
  · exact wpAny_Constant_int (hk _ _ _ _ _ h (.refl _) ok.tok ⟨_,rfl⟩)
  · exact wpAny_Constant_str (hk _ _ _ _ _ h (.refl _) ok.tok ⟨_,rfl⟩)
noncomputable def zn2:List B->List UInt8->Prop:=All2 λb u=>∃x,b=.n x/\u.toNat=x
theorem zl8 {bs:List B} {us:List UInt8} (e:zn2 bs us):SEv c p kd (xCst (.byt bs)) (.Constant (.bytes us) n pos):=by
  intro x ids l st s k A env Q E am h ok hk
  have h:k (.byt bs) st=true:=h
  show wpAny _ _ (mkTextBytes us.toArray) _ _ _
  refine wpAny_bind (wpAny_fresh (wpAny_pure ?_))
  exact hk _ _ _ _ _ h (.refl _) ok.tok ⟨_,_,rfl,by simpa using e.mono λb u ⟨x,a,b⟩=>a▸b⟩
theorem zh6 (N:Nms c) {k:Nat} (e:kd (c.nm k)=some .local):SEv c p kd (xLoc k) (.Name (c.nm k) pos):=by
  intro x ids l st s k' A env Q E am h ok hk
  refine E3_2 (St.top_spec h) λL ms r e1 h=>?_
  refine E1_2 (zat h) λv e2 h=>?_
  refine E2_4 (ok.frs L ms (by rw [e1];exact .head _)) λa f g1 g2 g3 g4=>?_
  have hl:env.locals=a:=by
    refine E2_2 am.env.loc λL' r' q1 q2=>?_
    have:=ok.ids_;rw [e1,q1] at this
    have:=(List.cons.inj this).1
    dsimp only at this
    rw [this,q2] at g1;exact Option.some.inj g1
  have:=g3 k;rw [e2] at this
  refine E1_2 this ?_;clear this;intro u q1 q2
  exact wpAny_Name (wpAny_loadName_local am.env.kind ((am.env.names _).trans e) (hl▸g2) q1 (hk _ _ _ _ _ h (.refl _) ok q2)) (N.dbg k)
theorem zgM {x:Cx} {ids:List P} {l:Vl} {A:Around} {env:Env} {E:Value->Shared->Prop} (am:Amb c p kd x ids l A env E) {k:Nat} {q:P} (e:lk x.cs k=some q) {st:St} {s:Shared} (ok:Ok c ids l st s)
    {v:V} (ho:st.t.at q=.cel v):∃a u,env.cells.lookup (c.nm k)=some a/\s.heap.IsCell a (some u)/\DV c l v u:=by
  refine E1_2 (am.env.cel k q e) λa h1 h2=>?_
  refine E2_4 (ok.at_ ho (by rintro ⟨⟩)) ?_;rintro a' ob g1 g2 ⟨u,g3,g4⟩ _
  rw [h2] at g1;(replace g1:=si g1;subst g1)
  exact ⟨a,u,h1,⟨ob,g2,g3⟩,g4⟩
theorem zc7 {o:O} {k:V->Bool} (h:oCel o k=true):∃v,o=.cel v/\k v=true:=by cases o <;> first | exact ⟨_,rfl,h⟩ | exact nb h
theorem zl6 (N:Nms c) {k:Nat} (e:kd (c.nm k)=some .cell\/kd (c.nm k)=some .free):SEv c p kd (xCel k) (.Name (c.nm k) pos):=by
  intro x ids l st s k' A env Q E am h ok hk
  refine E1_2 (zat h) λq e2 h=>?_
  refine E1_2 (zc7 (St.get_spec h)) λv ho h=>?_
  refine E2_3 (zgM am e2 ok ho) λa u h1 h2 h3=>?_
  rcases e with e | e
  · exact wpAny_Name (wpAny_loadName_cell am.env.kind ((am.env.names _).trans e) h1 h2 (hk _ _ _ _ _ h (.refl _) ok h3)) (N.dbg k)
  · exact wpAny_Name (wpAny_loadName_free am.env.kind ((am.env.names _).trans e) h1 h2 (hk _ _ _ _ _ h (.refl _) ok h3) (N.cld k)) (N.dbg k)
theorem zh5:SEvs c p kd xNil []:=by
  intro x ids l st s k A env Q E pos am h ok hk
  exact wpAny_items_nil (hk _ _ _ _ _ h (.refl _) ok .nil rfl)
noncomputable def zdZ (e:Expr):Prop:=∀rest env,starEach (e::rest) env=(false,eval e env)::starEach rest env
theorem zfc {e:Ev} {es:Evs} {ex:Expr} {exs:List Expr} (hs:zdZ ex) (h1:SEv c p kd e ex) (h2:SEvs c p kd es exs):SEvs c p kd (zaa e es) (ex::exs):=by
  intro x ids l st s k A env Q E pos am h ok hk
  refine wpAny_items_cons (h1 _ _ _ _ _ _ _ _ _ _ am h ok ?_) (hs _ _)
  intro l1 v st1 u s1 g1 le1 ok1 d1
  refine h2 _ _ _ _ _ _ _ _ _ _ _ (am.le le1) g1 ok1 ?_
  intro l2 vs st2 us s2 g2 le2 ok2 d2 e2
  exact hk _ _ _ _ _ g2 (le1.trans le2) ok2 (.cons (d1.le le2) d2) (by simp [e2])
theorem zgj {h:Heap} {o:Obj}:h.get? h.objs.size=none:=Heap.get?_none_of_le (Nat.le_refl _)
theorem zaz {ids:List P} {l:Vl} {st:St} {s s':Shared} {o:O} {k:KP} (ok:Ok c ids l st s) (h:st.add o k=true) {ob:Obj} (hs:s'.heap=s.heap.push ob) (hf:ob.isFreed=false)
    (hd:DO c (l.put st.n s.heap.objs.size) o ob) (hz:Same s s':=by exact ⟨rfl,rfl⟩):
    ∃st',Ok c ids (l.put st.n s.heap.objs.size) st' s'/\l.Le (l.put st.n s.heap.objs.size)/\DV c (l.put st.n s.heap.objs.size) (.ref st.n) (.ref s.heap.objs.size)/\k st.n st'=true:=by
  refine E1_2 (St.add_spec h) λt' h' e=>?_
  exact ⟨_,ok.alloc (zgj (o:=ob)) (λb u q=>by rw [hs];exact Heap.get?_push_of_some _ q) (by rw [hs];exact Heap.get?_push_size _ hf) hd e hz,ok.ext _,⟨_,Ok.put_self,rfl⟩,h'⟩
theorem zlU {es:Evs} {exs:List Expr} (h1:SEvs c p kd es exs) (hz:exs.length<=sizeLine):SEv c p kd (xTup es) (.Tuple exs n pos):=by
  intro x ids l st s k A env Q E am h ok hk
  refine wpAny_Tuple (h1 _ _ _ _ _ _ _ _ _ _ _ am h ok ?_)
  intro l1 vs st1 us s1 g1 le1 ok1 d1 e1
  refine ⟨by omega,?_⟩
  refine E1_4 (zaz (s':={ s1 with heap:=s1.heap.push { cls:=.type "tuple",data:=.seq us.toArray}}) ok1 g1 rfl rfl ⟨us,0,rfl,d1.le (ok1.ext _)⟩) λst2 ok2 le2 d2 g2=>?_
  exact hk _ _ _ _ _ g2 (le1.trans le2) ok2 d2
theorem zlZ {es:Evs} {exs:List Expr} (h1:SEvs c p kd es exs) (hz:exs.length<=sizeLine):SEv c p kd (xLst es) (.List exs pos):=by
  intro x ids l st s k A env Q E am h ok hk
  refine wpAny_List (h1 _ _ _ _ _ _ _ _ _ _ _ am h ok ?_)
  intro l1 vs st1 us s1 g1 le1 ok1 d1 e1
  refine ⟨by omega,?_⟩
  refine E1_4 (zaz (s':={ s1 with heap:=s1.heap.push { cls:=.type "list",data:=.seq us.toArray}}) ok1 g1 rfl rfl ⟨us,0,rfl,d1.le (ok1.ext _)⟩) λst2 ok2 le2 d2 g2=>?_
  exact hk _ _ _ _ _ g2 (le1.trans le2) ok2 d2
theorem zb7 {k:KB} {st:St} {b:Bool} (h:kSt k st b=true):k b st=true:=by cases b <;> exact h
theorem zdO {k:KB} {st:St} {b:Bool} (h:kStN k st b=true):k (!b) st=true:=by cases b <;> exact h
noncomputable def zd0 (e:Expr):Prop:=∀env whole,isTrue e env whole=(do let v <- whole;standAt e.pos;holding [v] (truthy v))
theorem zbM {v:V} {u:Value} {st:St} {s:Shared} {k:KB} {ids:List P} {l:Vl} {A:Around} {Q:Bool->Shared->Prop} {E:Value->Shared->Prop}
    (h:zeV v st k=true) (d:DV c l v u) (ok:Ok c ids l st s) (hk:PB c ids l k Q):wpAny (Md c) A (truthy u) Q E s:=by
  cases v <;> first | exact nb h | skip
  · cases d;exact wpAny_pure (hk _ _ _ _ h (.refl _) ok)
  · rename_i b
    cases d
    have h:bq b (k true st) (k false st)=true:=h
    exact wpAny_truthy_bool (hk _ _ _ _ (by cases b <;> exact h) (.refl _) ok)
  · rename_i i
    refine E1_1 d ?_;clear d;rintro t rfl
    have h:bq (ieq i (.ofNat 0)) (k false st) (k true st)=true:=h
    refine P.truthy_int ?_
    rcases bq_t h with ⟨e,h⟩ | ⟨e,h⟩
    · have:i=0:=ieq_spec.mp e
      subst this;exact hk _ _ _ _ h (.refl _) ok
    · have:i≠0:=λq=>by subst q;exact nf e
      rw [show (i !=0)=true by simpa using this];exact hk _ _ _ _ h (.refl _) ok
theorem zeY {e:Ev} {ex:Expr} (hp:zd0 ex) (h1:SEv c p kd e ex):STst c p kd (zaQ e) ex:=by
  intro x ids l st s k A env Q E am h ok hk
  refine wpAny_isTrue_value (h1 _ _ _ _ _ _ _ _ _ _ am h ok ?_) (hp _ _)
  intro l1 v st1 u s1 g1 le1 ok1 d1
  exact zbM g1 d1 ok1 (hk.le le1)
theorem zlM {t:Tst} {ex:Expr} (h1:STst c p kd t ex):STst c p kd (tNot t) (.UnaryOp .Not ex pos):=by
  intro x ids l st s k A env Q E am h ok hk
  refine wpAny_isTrue_Not (h1 _ _ _ _ _ _ _ _ _ _ am h ok ?_)
  intro l1 b st1 s1 g1 le1 ok1
  have g1:bq b (k false st1) (k true st1)=true:=g1
  exact hk _ _ _ _ (by cases b <;> exact g1) le1 ok1
noncomputable def SAll (c:Cn) (p:Pg) (kd:PySem.Str->Option NameKind) (op:BoolOp) (e:Tst) (es:List Expr):Prop:=∀x ids l st s k A env Q E,
  Amb c p kd x ids l A env E->e x st k=true->Ok c ids l st s->PB c ids l k Q->wpAny (Md c) A (allTrue op es env) Q E s
theorem zlL:SAll c p kd .And tYes []:=by
  intro x ids l st s k A env Q E am h ok hk
  exact wpAny_allTrue_And_nil (hk _ _ _ _ h (.refl _) ok)
theorem t_no:SAll c p kd .Or tNo []:=by
  intro x ids l st s k A env Q E am h ok hk
  exact wpAny_allTrue_Or_nil (hk _ _ _ _ h (.refl _) ok)
theorem zlN {t ts:Tst} {ex:Expr} {exs:List Expr} (h1:STst c p kd t ex) (h2:SAll c p kd .And ts exs):SAll c p kd .And (tAnd t ts) (ex::exs):=by
  intro x ids l st s k A env Q E am h ok hk
  refine wpAny_allTrue_And_cons (h1 _ _ _ _ _ _ _ _ _ _ am h ok ?_)
  intro l1 b st1 s1 g1 le1 ok1
  have g1:bq b (ts x st1 k) (k false st1)=true:=g1
  cases b
  · exact hk _ _ _ _ g1 le1 ok1
  · exact h2 _ _ _ _ _ _ _ _ _ _ (am.le le1) g1 ok1 (hk.le le1)
theorem t_or {t ts:Tst} {ex:Expr} {exs:List Expr} (h1:STst c p kd t ex) (h2:SAll c p kd .Or ts exs):SAll c p kd .Or (tOr t ts) (ex::exs):=by
  intro x ids l st s k A env Q E am h ok hk
  refine wpAny_allTrue_Or_cons (h1 _ _ _ _ _ _ _ _ _ _ am h ok ?_)
  intro l1 b st1 s1 g1 le1 ok1
  have g1:bq b (k true st1) (ts x st1 k)=true:=g1
  cases b
  · exact h2 _ _ _ _ _ _ _ _ _ _ (am.le le1) g1 ok1 (hk.le le1)
  · exact hk _ _ _ _ g1 le1 ok1
theorem zi6 {op:BoolOp} {t:Tst} {exs:List Expr} (h1:SAll c p kd op t exs):STst c p kd t (.BoolOp op exs pos):=by
  intro x ids l st s k A env Q E am h ok hk
  exact wpAny_isTrue_BoolOp (h1 _ _ _ _ _ _ _ _ _ _ am h ok hk)
theorem t_if {t a b:Tst} {et ea eb:Expr} (h1:STst c p kd t et) (h2:STst c p kd a ea) (h3:STst c p kd b eb):STst c p kd (tIf t a b) (.IfExp et ea eb pos):=by
  intro x ids l st s k A env Q E am h ok hk
  show wpAny _ _ (do if <- isTrue et env (eval et env) then isTrue ea env (eval ea env) else isTrue eb env (eval eb env)) _ _ _
  refine wpAny_bind (h1 _ _ _ _ _ _ _ _ _ _ am h ok ?_)
  intro l1 w st1 s1 g1 le1 ok1
  have g1:bq w (a x st1 k) (b x st1 k)=true:=g1
  cases w
  · exact h3 _ _ _ _ _ _ _ _ _ _ (am.le le1) g1 ok1 (hk.le le1)
  · exact h2 _ _ _ _ _ _ _ _ _ _ (am.le le1) g1 ok1 (hk.le le1)
theorem zjj {t:Tst} {a b:Ev} {et ea eb:Expr} (h1:STst c p kd t et) (h2:SEv c p kd a ea) (h3:SEv c p kd b eb):SEv c p kd (xIfe t a b) (.IfExp et ea eb pos):=by
  intro x ids l st s k A env Q E am h ok hk
  refine wpAny_IfExp (h1 _ _ _ _ _ _ _ _ _ _ am h ok ?_)
  intro l1 w st1 s1 g1 le1 ok1
  have g1:bq w (a x st1 k) (b x st1 k)=true:=g1
  cases w
  · exact h3 _ _ _ _ _ _ _ _ _ _ (am.le le1) g1 ok1 (hk.le le1)
  · exact h2 _ _ _ _ _ _ _ _ _ _ (am.le le1) g1 ok1 (hk.le le1)
theorem zlW {e:Ev} {ex:Expr} (h1:SEv c p kd e ex):SEv c p kd (xNot e) (.UnaryOp .Not ex pos):=by
  intro x ids l st s k A env Q E am h ok hk
  refine wpAny_UnaryOp (h1 _ _ _ _ _ _ _ _ _ _ am h ok ?_)
  intro l1 v st1 u s1 g1 le1 ok1 d1
  refine not_value (zbM g1 d1 ok1 ?_)
  intro l2 b st2 s2 g2 le2 ok2
  have g2:bq b (k (.boo false) st2) (k (.boo true) st2)=true:=g2
  cases b
  · exact hk _ _ _ _ _ g2 (le1.trans le2) ok2 rfl
  · exact hk _ _ _ _ _ g2 (le1.trans le2) ok2 rfl
theorem zam {v:V} {k:Int->Bool} (h:vInt v k=true):∃i,v=.int i/\k i=true:=by cases v <;> first | exact ⟨_,rfl,h⟩ | exact nb h
theorem zak {v:V} {k:P->Bool} (h:vRef v k=true):∃i,v=.ref i/\k i=true:=by cases v <;> first | exact ⟨_,rfl,h⟩ | exact nb h
theorem zcX {v:V} {k:Nat->Bool} (h:vStr v k=true):∃i,v=.str i/\k i=true:=by cases v <;> first | exact ⟨_,rfl,h⟩ | exact nb h
theorem zbR {v:V} {k:P->Bool} (h:vGlo v k=true):∃i,v=.glo i/\k i=true:=by cases v <;> first | exact ⟨_,rfl,h⟩ | exact nb h
theorem za8 {v:V} {k:List B->Bool} (h:vByt v k=true):∃i,v=.byt i/\k i=true:=by cases v <;> first | exact ⟨_,rfl,h⟩ | exact nb h
theorem zlX {e:Ev} {ex:Expr} (h1:SEv c p kd e ex):SEv c p kd (xNeg e) (.UnaryOp .USub ex pos):=by
  intro x ids l st s k A env Q E am h ok hk
  refine wpAny_UnaryOp (h1 _ _ _ _ _ _ _ _ _ _ am h ok ?_)
  intro l1 v st1 u s1 g1 le1 ok1 d1
  refine E1_2 (zam g1) ?_;rintro i rfl g1
  refine E1_1 d1 ?_;clear d1;rintro t rfl
  have g1:k (.int (-i)) st1=true:=zb9 g1
  exact P.neg_int (hk _ _ _ _ _ g1 le1 ok1.tok ⟨_,rfl⟩)
noncomputable def SBo (c:Cn) (p:Pg) (kd:PySem.Str->Option NameKind) (op:BoolOp) (e:Ev) (es:List Expr):Prop:=∀x ids l st s k A env Q E pos,
  Amb c p kd x ids l A env E->e x st k=true->Ok c ids l st s->PV c ids l k Q->wpAny (Md c) A (boolOp pos op (evalEach es env)) Q E s
theorem znU {op:BoolOp} {e:Ev} {ex:Expr} (h1:SEv c p kd e ex):SBo c p kd op e [ex]:=λx ids l st s k A env Q E pos am h ok hk=>h1 _ _ _ _ _ _ _ _ _ _ am h ok hk
theorem znV {e es:Ev} {ex y:Expr} {ys:List Expr} (h1:SEv c p kd e ex) (h2:SBo c p kd .And es (y::ys)):SBo c p kd .And (xAnd e es) (ex::y::ys):=by
  intro x ids l st s k A env Q E pos am h ok hk
  show wpAny _ _ (do
    let v <- eval ex env
    standAt pos
    let t <- holding [v] (truthy v)
    match BoolOp.And,t with
    | .And,false | .Or,true=>pure v
    | _,_=>boolOp pos .And (evalEach (y::ys) env)) _ _ _
  refine wpAny_bind (h1 _ _ _ _ _ _ _ _ _ _ am h ok ?_)
  intro l1 v st1 u s1 g1 le1 ok1 d1
  refine wpAny_bind (wpAny_standAt (wpAny_bind (wpAny_holding (zbM g1 d1 ok1 ?_))))
  intro l2 b st2 s2 g2 le2 ok2
  have g2:bq b (es x st2 k) (k v st2)=true:=g2
  cases b
  · exact wpAny_pure (hk _ _ _ _ _ g2 (le1.trans le2) ok2 (d1.le le2))
  · exact h2 _ _ _ _ _ _ _ _ _ _ _ (am.le (le1.trans le2)) g2 ok2 (hk.le (le1.trans le2))
theorem b_or {e es:Ev} {ex y:Expr} {ys:List Expr} (h1:SEv c p kd e ex) (h2:SBo c p kd .Or es (y::ys)):SBo c p kd .Or (xOr e es) (ex::y::ys):=by
  intro x ids l st s k A env Q E pos am h ok hk
  show wpAny _ _ (do
    let v <- eval ex env
    standAt pos
    let t <- holding [v] (truthy v)
    match BoolOp.Or,t with
    | .And,false | .Or,true=>pure v
    | _,_=>boolOp pos .Or (evalEach (y::ys) env)) _ _ _
  refine wpAny_bind (h1 _ _ _ _ _ _ _ _ _ _ am h ok ?_)
  intro l1 v st1 u s1 g1 le1 ok1 d1
  refine wpAny_bind (wpAny_standAt (wpAny_bind (wpAny_holding (zbM g1 d1 ok1 ?_))))
  intro l2 b st2 s2 g2 le2 ok2
  have g2:bq b (k v st2) (es x st2 k)=true:=g2
  cases b
  · exact h2 _ _ _ _ _ _ _ _ _ _ _ (am.le (le1.trans le2)) g2 ok2 (hk.le (le1.trans le2))
  · exact wpAny_pure (hk _ _ _ _ _ g2 (le1.trans le2) ok2 (d1.le le2))
theorem zjk {op:BoolOp} {e:Ev} {exs:List Expr} (h1:SBo c p kd op e exs):SEv c p kd e (.BoolOp op exs pos):=λx ids l st s k A env Q E am h ok hk=>h1 _ _ _ _ _ _ _ _ _ _ _ am h ok hk
end
end Mine
end
section
open PySem PySem.W PyProof.Rows PySem.Calls
namespace Mine
section
variable {c:Cn} {p:Pg} {kd:PySem.Str->Option NameKind} {pos:Pos} {n:Nat}
theorem zeW {x:Cx} {ids:List P} {l:Vl} {A:Around} {env:Env} {E:Value->Shared->Prop} (am:Amb c p kd x ids l A env E) {st:St} {s:Shared} (ok:Ok c ids l st s) {L:P} {ms:Bs} {r:List (P×Bs)}
    (e:st.k=(L,ms)::r):l.ρ L=some env.locals/\∃f,s.heap.Ns env.locals f/\DN c l ms f:=by
  refine E2_4 (ok.frs L ms (by rw [e];exact .head _)) λa f g1 g2 g3 g4=>?_
  refine E2_2 am.env.loc λL' r' q1 q2=>?_
  have:=ok.ids_;rw [e,q1] at this
  have:=(List.cons.inj this).1
  dsimp only at this
  rw [this] at g1
  rw [q2] at g1;(replace g1:=si g1;subst g1)
  exact ⟨this▸q2,f,g2,g3⟩
theorem DN.set {l:Vl} (N:Nms c) {ms ms':Bs} {f:PySem.Str->Option Value} {x:Nat} {v:V} {u:Value} (h:DN c l ms f) (d:DV c l v u) (e:∀y,lk ms' y=if y=x then some v else lk ms y):
    DN c l ms' (λy=>if y=c.nm x then some u else f y):=λk=>by
  rw [e]
  by_cases q:k=x
  · subst q;simp only [if_true];exact ⟨u,rfl,d⟩
  · rw [if_neg q]
    have q':c.nm k≠c.nm x:=λz=>q (N.inj _ _ z)
    have:=h k
    dsimp only
    rw [if_neg q'];exact this
theorem znY (N:Nms c) {k:Nat} (e:kd (c.nm k)=some .local):SAs c p kd (aLoc k) (.Name (c.nm k) pos):=by
  intro x ids l v u st s k' A env Q E am h ok d hk
  refine E3_2 (St.top_spec h) λL ms r e1 h=>?_
  refine E3_2 (St.retop_spec (zaN _ _ _ _ h)) λL' ms₀ r' e3 h=>?_
  rw [e1] at e3;(refine E0_3 (ci e3) λq1 q2 q3=>?_;subst q1;subst q2;subst q3)
  obtain ⟨g1,f,g2,g3⟩:=zeW am ok e1
  refine wpAny_assign_Name (wpAny_storeName_local ((am.env.names _).trans e) g2 (λh' hn hs=>?_) (by rw [am.env.kind];rfl))
  refine hk _ _ _ h (.refl _) (ok.retop (s':={ s with heap:=h',toks:=s.toks + 1}) e1 g1 (λb w q=>(hs.2 b q).trans) hn (g3.set N d (zcK _ _ _)))
theorem zc8 {o:O} {k:Bool} (h:zfo o k=true):((∃v,o=.cel v)\/o=.cnil)/\k=true:=by cases o <;> first | exact ⟨.inl ⟨_,rfl⟩,h⟩ | exact ⟨.inr rfl,h⟩ | exact nb h
theorem zn0 {k:Nat} (e:kd (c.nm k)=some .cell):SAs c p kd (aCel k) (.Name (c.nm k) pos):=by
  intro x ids l v u st s k' A env Q E am h ok d hk
  refine E1_2 (zat h) λq e2 h=>?_
  have h:=St.get_spec h
  refine E0_2 (zc8 h) λho h=>?_
  refine E1_2 (St.put_spec h) λt' h e3=>?_
  refine E1_2 (am.env.cel k q e2) λa h1 h2=>?_
  have cell:∃w,s.heap.IsCell a w/\(st.t.at q).mut=true/\st.t.at q≠.junk:=by
    rcases ho with ⟨v',ho⟩ | ho
    · refine E2_4 (ok.at_ ho (by rintro ⟨⟩)) ?_;rintro a' ob g1 g2 ⟨w,g3,g4⟩ _
      rw [h2] at g1;(replace g1:=si g1;subst g1)
      exact ⟨_,⟨ob,g2,g3⟩,by rw [ho];rfl,by rw [ho];rintro ⟨⟩⟩
    · refine E2_4 (ok.at_ ho (by rintro ⟨⟩)) λa' ob g1 g2 g3 _=>?_
      rw [h2] at g1;(replace g1:=si g1;subst g1)
      exact ⟨_,⟨ob,g2,g3⟩,by rw [ho];rfl,by rw [ho];rintro ⟨⟩⟩
  refine E1_3 cell ?_;clear cell;intro w hc hm hj
  refine wpAny_assign_Name (wpAny_storeName_cell am.env.kind ((am.env.names _).trans e) h1 hc λh' hv hs=>?_)
  refine E1_2 hv ?_;clear hv;intro ob q1 q2
  exact hk _ _ _ h (.refl _) (ok.upd (o':=.cel v) (s':={ s with heap:=h'}) rfl hm hj h2 (λb w z=>(hs.2 b z).trans) (.inr ⟨ob,q1,_,q2,d⟩) e3)
noncomputable def zga (e:Expr):Prop:=∀t line env,swapsWith e t line env=pure false
theorem znC {e:Ev} {ex:Expr} (h1:SEv c p kd e ex):SEx c p kd (sRet e) (.Return (some ex) pos):=by
  intro x ids l st s k A env Q E am h ok hk
  refine wpAny_Return_some (h1 _ _ _ _ _ _ _ _ _ _ am h ok ?_)
  intro l1 v st1 u s1 g1 le1 ok1 d1
  exact hk _ _ _ _ _ g1 le1 ok1 ⟨u,rfl,d1⟩
theorem znD:SEx c p kd sReN (.Return none pos):=by
  intro x ids l st s k A env Q E am h ok hk
  exact wpAny_Return_none (hk _ _ _ _ _ h (.refl _) ok ⟨.none,rfl,rfl⟩)
theorem f_if {t:Tst} {a b:Ex} {et:Expr} {ea eb:List Stmt} (h1:STst c p kd t et) (h2:SExs c p kd a ea) (h3:SExs c p kd b eb):SEx c p kd (sIf t a b) (.If et ea eb pos):=by
  intro x ids l st s k A env Q E am h ok hk
  refine wpAny_If (h1 _ _ _ _ _ _ _ _ _ _ am h ok ?_)
  intro l1 w st1 s1 g1 le1 ok1
  have g1:bq w (a x st1 k) (b x st1 k)=true:=g1
  cases w
  · exact h3 _ _ _ _ _ _ _ _ _ _ (am.le le1) g1 ok1 (hk.le le1)
  · exact h2 _ _ _ _ _ _ _ _ _ _ (am.le le1) g1 ok1 (hk.le le1)
theorem zgH:SExs c p kd sNil []:=by
  intro x ids l st s k A env Q E am h ok hk
  exact wpAny_execs_nil (hk _ _ _ _ _ h (.refl _) ok rfl)
theorem zcf {a b:Ex} {e:Stmt} {es:List Stmt} (h1:SEx c p kd a e) (h2:SExs c p kd b es):SExs c p kd (zab a b) (e::es):=by
  intro x ids l st s k A env Q E am h ok hk
  refine wpAny_execs_cons (h1 x ids l st s _ A env _ _ am h ok ?_)
  intro l1 fl st1 u s1 g1 le1 ok1 d1
  cases fl <;> simp only [DFl] at d1
  · subst d1;exact h2 _ _ _ _ _ _ _ _ _ _ (am.le le1) g1 ok1 (hk.le le1)
  · subst d1;exact hk _ .brk _ _ _ g1 le1 ok1 rfl
  · subst d1;exact hk _ .cont _ _ _ g1 le1 ok1 rfl
  · refine E1_2 d1 ?_;clear d1;rintro w rfl d1;exact hk _ (.ret _) _ _ _ g1 le1 ok1 ⟨w,rfl,d1⟩
theorem znE {e:Ev} {ex:Expr} (h1:SEv c p kd e ex) (hl:zga ex) (hn:∀u s A Q (E:Value->Shared->Prop),Q Flow.next s->wpAny (Md c) A (dropValue ex pos u) Q E s):SEx c p kd (sExp e) (.Expr ex pos):=by
  intro x ids l st s k A env Q E am h ok hk
  rw [exec_Expr env ex pos (by unfold interactive;rw [am.env.kind];rfl) (hl _ _ _)]
  refine wpAny_bind (wpAny_standAt (wpAny_bind (h1 _ _ _ _ _ _ _ _ _ _ am h ok ?_)))
  intro l1 v st1 u s1 g1 le1 ok1 d1
  exact hn _ _ _ _ _ (hk _ _ _ _ _ g1 le1 ok1 rfl)
theorem zkJ {t:As} {e:Ev} {ex:Expr} {y:PySem.Str} {pt:Pos} (h1:SEv c p kd e ex) (h2:SAs c p kd t (.Name y pt)) (hl:zga ex):SEx c p kd (sAsg t e) (.Assign [.Name y pt] ex pos):=by
  intro x ids l st s k A env Q E am h ok hk
  rw [exec_Assign_Name env y pt ex pos (hl _ _ _)]
  refine wpAny_bind (wpAny_standAt (wpAny_bind (h1 _ _ _ _ _ _ _ _ _ _ am h ok ?_)))
  intro l1 v st1 u s1 g1 le1 ok1 d1
  refine wpAny_bind (m:=assign (.Name y pt) env u) (h2 _ _ _ _ _ _ _ _ _ _ _ _ (am.le le1) g1 ok1 d1 ?_)
  intro l2 st2 s2 g2 le2 ok2
  exact wpAny_pure (hk _ _ _ _ _ g2 (le1.trans le2) ok2 rfl)
noncomputable def OneT (e:Expr):Prop:=∀env,assignEach [e] env=[(false,assign e env)]
theorem ziF {t:As} {e:Ev} {ex tx:Expr} (h1:SEv c p kd e ex) (h2:SAs c p kd t tx) (hl:zga ex) (ho:OneT tx) (hs:∀env,env.scope.kind=.function->(∀y,env.kindOf y=kd y)->swappedStores [tx] ex env=pure none):SEx c p kd (sAsg t e) (.Assign [tx] ex pos):=by
  intro x ids l st s k A env Q E am h ok hk
  rw [exec_Assign]
  refine wpAny_bind (wpAny_standAt ?_)
  rw [show swapsWithSole [tx] ex pos.line env=pure false from hl _ _ _]
  refine wpAny_bind (wpAny_pure ?_)
  rw [if_neg (by decide)]
  refine wpAny_bind (h1 _ _ _ _ _ _ _ _ _ _ am h ok ?_)
  intro l1 v st1 u s1 g1 le1 ok1 d1
  rw [hs env am.env.kind am.env.names]
  refine wpAny_bind (wpAny_pure ?_)
  rw [ho]
  show wpAny (Md c) A (assign tx env u >>=λ_=>pure Flow.next) Q E s1
  refine wpAny_bind (h2 _ _ _ _ _ _ _ _ _ _ _ _ (am.le le1) g1 ok1 d1 ?_)
  intro l2 st2 s2 g2 le2 ok2
  exact wpAny_pure (hk _ _ _ _ _ g2 (le1.trans le2) ok2 rfl)
theorem zie {l:Vl} {m:Bs} {es:List DictEntry} (h:All2 (DE c l) m es):es.any (·.refKey)=false:=by
  induction h with
  | nil=>rfl
  | cons h _ ih=>(refine E0_3 h ?_;clear h;rintro _ ⟨t,e⟩ _);rw [List.any_cons,ih,Bool.or_false];simp [DictEntry.refKey,e]
theorem zdS (N:Nms c) {l:Vl} {m:Bs} {es:List DictEntry} (h:All2 (DE c l) m es) (x:Nat):match lk m x with
    | some v=>∃u,getL (c.nm x) es=some (some u)/\DV c l v u
    | none=>getL (c.nm x) es=some none:=by
  have hr:=zie h
  have key:match lk m x with
    | some v=>∃e,es.find? (·.key.isStr (c.nm x))=some e/\DV c l v e.val
    | none=>es.find? (·.key.isStr (c.nm x))=none:=by
    clear hr
    induction h with
    | nil=>rfl
    | @cons p e m es h _ ih=>
      refine E0_3 h ?_;clear h;rintro _ ⟨t,e'⟩ d
      obtain ⟨a,v⟩:=p
      by_cases q:a=x
      · subst q
        simp only [lk,if_true,List.find?_cons,e',Value.isStr,beq_self_eq_true]
        exact ⟨e,rfl,d⟩
      · have q':(c.nm a==c.nm x)=false:=by simpa using λz=>q (N.inj _ _ z)
        simp only [lk,if_neg q,List.find?_cons,e',Value.isStr,q']
        exact ih
  unfold getL
  split <;> rename_i w <;> rw [w] at key
  · refine E1_2 key ?_;clear key;intro e a b;rw [a];exact ⟨_,rfl,b⟩
  · rw [key];simp [hr]
theorem zfg (N:Nms c) {l:Vl} {m:Bs} {es:List DictEntry} (h:All2 (DE c l) m es) {x:Nat} {v:V} {u:Value} {t:Tok} (d:DV c l v u):
    All2 (DE c l) (setF m x v) (putL (c.nm x) (PyData.keyHash c.w.params (c.nm x)) (.str (c.nm x) t) u es):=by
  induction h with
  | nil=>exact .cons ⟨rfl,⟨t,rfl⟩,d⟩ .nil
  | @cons p e m es h r ih=>
    refine E0_3 h ?_;clear h;rintro hh ⟨t',e'⟩ d'
    obtain ⟨a,w⟩:=p
    unfold setF putL
    by_cases q:a=x
    · subst q
      rw [if_pos rfl,if_pos (by rw [e'];simp [Value.isStr])]
      exact .cons ⟨hh,⟨t',e'⟩,d⟩ r
    · have q':¬ (e.key.isStr (c.nm x)=true):=by rw [e'];simpa [Value.isStr] using λz=>q (N.inj _ _ z)
      rw [if_neg q,if_neg q']
      exact .cons ⟨hh,⟨t',e'⟩,d'⟩ ih
theorem za4 (name:PySem.Str) (hs:Int) (key v:Value):∀es:List DictEntry,(putL name hs key v es).length<=es.length + 1
  | []=>Nat.le_refl _
  | e::r=>by unfold putL;split <;> simp;exact za4 name hs key v r
structure ClsOk (c:Cn) (C:Addr):Prop where
  get:plainGet c.K C ""=true
  set:findIn c.K (.ref C) "__setattr__"=some (some (.builtin "object.__setattr__"))
  over:plainOver c.K C=true
  dict:hasDictIn c.K C=true
noncomputable def Free (c:Cn) (C:Addr) (x:Nat):Prop:=findIn c.K (.ref C) (c.nm x)=some none
theorem zaC {o:O} {k:Bs->Bool} (h:oNs o k=true):∃m,o=.ns m/\k m=true:=by cases o <;> first | exact ⟨_,rfl,h⟩ | exact nb h
theorem zcN {ids:List P} {l:Vl} {st:St} {s:Shared} (ok:Ok c ids l st s) {i ci d:P} {m:Bs} (h1:st.t.at i=.inst ci d) (h2:st.t.at d=.ns m):
    ∃x dx es n,l.ρ i=some x/\l.ρ d=some dx/\s.heap.get? dx=some (dictOf es n)/\All2 (DE c l) m es/\InstAt s.heap x (instObj (c.cv ci) dx) (c.cv ci) (some (dictOf es n))/\l.hx.get? dx=none/\c.plain ci=true:=by
  refine E2_4 (ok.at_ h1 (by rintro ⟨⟩)) ?_;rintro x ob g1 g2 ⟨dx,g3,rfl,pl⟩ _
  refine E2_4 (ok.at_ h2 (by rintro ⟨⟩)) ?_;rintro dx' ob' q1 q2 ⟨es,n,rfl,q3⟩ q4
  rw [g3] at q1;(replace q1:=si q1;subst q1)
  exact ⟨x,dx,es,n,g1,g3,q2,q3,⟨g2,rfl,rfl,q2⟩,q4 rfl,pl⟩
theorem zbb {l:Vl} {v:V} {u:Value} (h:zec v=true) (d:DV c l v u):handedIn u=true:=by
  cases v <;> first | cases h | skip
  · cases d;rfl
  · cases d;rfl
  · refine E1_1 d ?_;clear d;rintro t rfl;rfl
  · refine E1_1 d ?_;clear d;rintro t rfl;rfl
  · refine E2_2 d ?_;clear d;rintro us t rfl _;rfl
  · refine E1_2 d ?_;clear d;rintro a _ rfl;rfl
  · refine E2_3 d ?_;clear d;rintro z t _ rfl _;rfl
  · refine E2_1 d ?_;clear d;rintro i t rfl;rfl
end
end Mine
end
section
open PySem PySem.W PyProof.Rows PySem.Calls Builtin Builtin.ObjectAttr
namespace Mine
noncomputable def T.at {α:Type}:T α->P->Option α
  | .nil,_=>none
  | .node o _ _,.h=>o
  | .node _ l _,.o p=>l.at p
  | .node _ _ r,.i p=>r.at p
theorem zap {α:Type}:∀(p:P) (t:T α) (k:α->Bool),tget p t k=true->∃x,t.at p=some x/\k x=true
  | .h,.nil,k,h=>by exact nb h
  | .h,.node o l r,k,h=>by cases o with
    | none=>exact nb h
    | some x=>exact ⟨x,rfl,h⟩
  | .o p,.nil,k,h=>by exact nb h
  | .o p,.node o l r,k,h=>zap p l k h
  | .i p,.nil,k,h=>by exact nb h
  | .i p,.node o l r,k,h=>zap p r k h
structure MethOk (c:Cn) (C:Addr) (x:Nat) (f:P):Prop where
  find:findIn c.K (.ref C) (c.nm x)=some (some (.ref (c.fv f)))
  fn:typeIn c.K (.ref (c.fv f))=some (.type "function")
  get:specialIn c.K (.ref (c.fv f)) "__get__"=some (some (.builtin "function.__get__"))
  take:takesIn c.K (.ref (c.fv f))=some false
  copy:copiedNames.contains (c.nm x)=false
  isf:fnIn c.K (c.fv f)=true
structure XaOk (c:Cn) (atts:List Nat):Prop where
  get:∀x∈atts,∀(A:Around) (s:Shared) (kk:P) (a dx:Addr) (o:Obj) (es:List DictEntry) (n:Nat) (u:Value) (Q E:Value->Shared->Prop) (expr:Bool),c.K.In s.heap->c.xcl kk=true->s.heap.get? a=some o->o.cls=.ref (c.cv kk)->
    (∃vs,o.data=.fields vs)->o.dict=some dx->s.heap.get? dx=some (dictOf es n)->lookIn (c.nm x) (dictOf es n)=some (some u)->handedIn u=true->Q u { s with toks:=s.toks + 1}->wpAny (Md c) A (getAttr (.ref a) (c.nm x) expr) Q E s
  set:∀x∈atts,∀(A:Around) (s:Shared) (kk:P) (a dx:Addr) (o:Obj) (es:List DictEntry) (n:Nat) (u:Value) (Q:Unit->Shared->Prop) (E:Value->Shared->Prop),c.K.In s.heap->c.xcl kk=true->s.heap.get? a=some o->o.cls=.ref (c.cv kk)->
    (∃vs,o.data=.fields vs)->o.dict=some dx->s.heap.get? dx=some (dictOf es n)->es.any (·.refKey)=false->(putL (c.nm x) (PyData.keyHash c.w.params (c.nm x)) (.str (c.nm x) (s.toks + 1)) u es).length<=1000->
    (∀h',h'.get? dx=some (dictOf (putL (c.nm x) (PyData.keyHash c.w.params (c.nm x)) (.str (c.nm x) (s.toks + 1)) u es) (putN (c.nm x) es n))->(∀b v,b≠dx->s.heap.get? b=some v->h'.get? b=some v)->Q () { s with heap:=h',toks:=s.toks + 1 + 1})->
    wpAny (Md c) A (setAttr (.ref a) (c.nm x) u) Q E s
  new:∀x∈atts,∀(A:Around) (s:Shared) (kk:P) (a:Addr) (o:Obj) (u:Value) (Q:Unit->Shared->Prop) (E:Value->Shared->Prop),c.K.In s.heap->c.xcl kk=true->s.heap.get? a=some o->o.cls=.ref (c.cv kk)->
    (∃vs,o.data=.fields vs)->o.dict=none->o.isFreed=false->
    (∀h' dx tk tk' n,s.heap.get? dx=none->h'.get? dx=some (dictOf [⟨PyData.keyHash c.w.params (c.nm x),.str (c.nm x) tk,u⟩] n)->h'.get? a=some { o with dict:=some dx}->(∀b v,b≠a->s.heap.get? b=some v->h'.get? b=some v)->Q () { s with heap:=h',toks:=tk'})->
    wpAny (Md c) A (setAttr (.ref a) (c.nm x) u) Q E s
structure Fx (c:Cn) (p:Pg) (atts:List Nat):Prop where
  nms:Nms c
  kin:c.K.In c.h₀
  tab:∀i,c.plain i=true->∃C,p.c.at i=some C/\C.ex=false
  pls:∀i C,p.c.at i=some C->C.ex=false->c.plain i=true
  cls:∀i,c.plain i=true->ClsOk c (c.cv i)
  meth:∀i C x f,c.plain i=true->p.c.at i=some C->lk C.mt x=some f->MethOk c (c.cv i) x f
  att:∀i C x,c.plain i=true->p.c.at i=some C->x∈atts->lk C.mt x=none->Free c (c.cv i) x
  gfn:∀g i,p.g.at g=some (.fn i)->c.gv g=.ref (c.fv i)/\fnIn c.K (c.fv i)=true
  gcl:∀g i,p.g.at g=some (.cl i)->c.gv g=.ref (c.cv i)
  makes:∀i,c.plain i=true->makesIn c.K (c.cv i)=true/\keepIn c.K (.ref (c.cv i))=true
  xa:XaOk c atts
  ini:∀i C f,c.plain i=true->p.c.at i=some C->C.ini=some f->findIn c.K (.ref (c.cv i)) "__init__"=some (some (.ref (c.fv f)))/\typeIn c.K (.ref (c.fv f))=some (.type "function")/\fnIn c.K (c.fv f)=true
section
variable {c:Cn} {p:Pg} {kd:PySem.Str->Option NameKind} {pos:Pos} {n:Nat} {atts:List Nat}
theorem zbB {K:Frag} {C:Addr} {od:Obj} {name:PySem.Str} {v:Value} {attr:Option Value} (hh:hasDictIn K C=true) (ha:findIn K (.ref C) name=some attr)
    (hn:∀a,attr=some a->∃g,specialIn K a "__get__"=some (some g)/\takesIn K a=some false) (hl:lookIn name od=some (some v)):findObj K C (some od) name=some (.value v):=by
  refine E1_2 (any_some hh) λcd hc hd=>?_
  unfold findObj
  rw [hc,Option.bind_some,ha,Option.bind_some]
  have ho:W.ownOf cd (some od) name=some (some v):=by unfold W.ownOf;rw [if_pos hd];exact hl
  cases attr with
  | none=>simp [ho]
  | some a=>(refine E1_2 (hn a rfl) λg g1 g2=>?_);simp [g1,g2,ho]
theorem zlw (F:Fx c p atts) {x:Nat} (hx:x∈atts) {ids:List P} {l:Vl} {st:St} {s:Shared} {A:Around} {k:KV} {q:P} {a:Addr} {Q E:Value->Shared->Prop} {expr:Bool}
    (h:st.get q (atO p x q st k)=true) (ok:Ok c ids l st s) (ha:l.ρ q=some a) (hk:PV c ids l k Q):wpAny (Md c) A (getAttr (.ref a) (c.nm x) expr) Q E s:=by
  have h:=St.get_spec h
  cases ho:st.t.at q <;> rw [ho] at h <;> first | exact nb h | skip
  · rename_i ci d
    have h:st.get d (atNs p x q ci st k)=true:=h
    refine E1_2 (zaC (St.get_spec h)) λm hm h=>?_
    refine E4_7 (zcN ok ho hm) λx' dx es n g1 g2 g3 g4 I g6 pl=>?_
    rw [ha] at g1;(replace g1:=si g1;subst g1)
    have X:=F.kin.keeps ok.keep
    have gl:=zdS F.nms g4 x
    have K1:=F.cls ci pl
    refine E1_2 (F.tab ci pl) λC hC _=>?_
    rcases zaK _ _ _ _ h with ⟨v,e,h⟩ | ⟨e,h⟩
    · rw [e] at gl
      refine E1_2 gl ?_;clear gl;intro u e1 d1
      refine E0_2 (zac (show bq (zec v) (k v st) false=true from h)) λhp h=>?_
      refine get_value X I (plainGet_of K1.get).1 (v:=u) ?_ (zbb hp d1) (hk _ _ _ _ _ h (.refl _) ok.tok d1)
      cases hf:lk C.mt x with
      | none=>exact zbB K1.dict (F.att ci C x pl hC hx hf) (by rintro _ ⟨⟩) e1
      | some f=>
        have M:=F.meth ci C x f pl hC hf
        exact zbB K1.dict M.find (by rintro _ ⟨⟩;exact ⟨_,M.get,M.take⟩) e1
    · rw [e] at gl
      refine E1_2 (zap _ _ _ h) λC' hC' h=>?_
      rw [hC] at hC';(replace hC':=si hC';subst hC')
      refine E1_2 (zat h) λf hf h=>?_
      have M:=F.meth ci C x f pl hC hf
      refine get_bind X I (plainGet_of K1.get).1 (findObj_fn K1.dict M.find M.get M.take M.copy gl) (plainGet_of K1.get).2 (wpAny_call (fn_get (s:={ s with toks:=s.toks + 1}) X M.fn (handed_on rfl ?_)))
      refine E1_4 (zaz (s':={ s with heap:=s.heap.push (methodObj (.ref (c.fv f)) (.ref a)),toks:=s.toks + 1}) ok h rfl rfl ⟨a,(ok.ext _).1 _ _ ha,rfl⟩) λst2 ok2 le2 d2 h=>?_
      exact hk _ _ _ _ _ h le2 ok2 d2
  · rename_i kk dd fl
    refine E2_4 (ok.at_ ho (by rintro ⟨⟩)) ?_;rintro x' ob g1 g2 ⟨g3,g4,g5,vs,g6,g7,_⟩ _
    rw [ha] at g1;(replace g1:=si g1;subst g1)
    cases dd with
    | none=>exact nb h
    | some dd=>
      refine E1_2 g5 ?_;clear g5;intro dx e1 e2
      refine E1_2 (zaC (St.get_spec (show st.get dd (atXN x st k)=true from h))) λm hm h=>?_
      refine E1_2 (zat (show look m x (kPl k st)=true from h)) λv e h=>?_
      refine E0_2 (zac (show bq (zec v) (k v st) false=true from h)) λhp h=>?_
      refine E2_4 (ok.at_ hm (by rintro ⟨⟩)) ?_;rintro dx' od q1 q2 ⟨es,n,rfl,q3⟩ _
      rw [e1] at q1;(replace q1:=si q1;subst q1)
      have gl:=zdS F.nms q3 x
      rw [e] at gl
      refine E1_2 gl ?_;clear gl;intro u w1 d1
      exact F.xa.get x hx A s kk a dx ob es n u Q E expr (F.kin.keeps ok.keep) g4 g2 g3 ⟨vs,g6⟩ e2 q2 w1 (zbb hp d1) (hk _ _ _ _ _ h (.refl _) ok.tok d1)
noncomputable def zbf (e:Expr):Prop:=∀attr env,attributeBase e attr env (eval e env)=eval e env
theorem zma (F:Fx c p atts) {x:Nat} (hx:x∈atts) {e:Ev} {ex:Expr} (h1:SEv c p kd e ex) (hs:zbf ex):SEv c p kd (xAtt e x) (.Attribute ex (c.nm x) pos):=by
  have hb:∀env,eval (.Attribute ex (c.nm x) pos) env=(do
      let o <- eval ex env
      standAt pos.atName
      let r <- holding [o] (getAttr o (c.nm x) true)
      letTemporaryGo ex o r
      pure r):=λenv=>by
    show (do
      let o <- attributeBase ex (c.nm x) env (eval ex env)
      standAt pos.atName
      let r <- holding [o] (getAttr o (c.nm x) true)
      letTemporaryGo ex o r
      pure r)=_
    rw [hs]
  intro y ids l st s k A env Q E am h ok hk
  refine Attribute_any_ (h1 _ _ _ _ _ _ _ _ _ _ am h ok ?_) (hb env)
  intro l1 v st1 u s1 g1 le1 ok1 d1
  refine E1_2 (zak g1) ?_;rintro q rfl g1
  refine E1_2 d1 ?_;clear d1;rintro a ha rfl
  exact zlw F hx (by rw [am.pg] at g1;exact g1) ok1 ha (hk.le le1)
theorem zdB {K:Frag} {A A':Around} {s:Shared} {R:Result->Shared->Prop} {x C dx:Addr} {es:List DictEntry} {n:Nat} {name:PySem.Str} {tk:Tok} {v:Value} {prog:Program} {w:World} {b:Bool}
    (X:K.In s.heap) (I:InstAt s.heap x (instObj C dx) C (some (dictOf es n))) (hh:hasDictIn K C=true) (hr:es.any (·.refKey)=false)
    (hz:(putL name (PyData.keyHash w.params name) (.str name s.toks) v es).length<=1000)
    (h:∀h',h'.get? dx=some (dictOf (putL name (PyData.keyHash w.params name) (.str name s.toks) v es) (putN name es n))->(∀b u,b≠dx->s.heap.get? b=some u->h'.get? b=some u)->R (.ok (.ret .none)) { s with heap:=h',toks:=s.toks + 1}):
    wpAny (model prog w) A' (storeInOwnDict (.ref x) (.ref C) (.str name tk) name v b) (λfin s'=>match fin with | .done f=>R (.ok f) s' | .again c'=>c'.quiet=true/\codeAny (model prog w) A c' R s') (λe s'=>R (.error e) s') s:=by
  refine E1_2 (any_some hh) λcd hc hd'=>?_
  obtain ⟨hx,hcl,hn,D⟩:=I
  dsimp only at D
  have D':(s.heap.update dx (Obj.putName name (PyData.keyHash w.params name) (.str name s.toks) v)).get? dx=some (dictOf (putL name (PyData.keyHash w.params name) (.str name s.toks) v es) (putN name es n)):=by
    rw [<- putName_dict]
    exact Heap.get?_update_self _ D (by rw [putName_dict];rfl)
  refine wpAny_bind (wpAny_pure (wpAny_bind (wpAny_bind (wpAny_loadPart hx (wpAny_bind ((looks_clsIn X hc).here ?_))))))
  rw [hd']
  refine wpAny_pure (a:=some dx) (wpAny_bind (wpAny_pure (wpAny_bind ?_)))
  unfold nsSet
  refine wpAny_bind (wpAny_bind (wpAny_askSetting (wpAny_pure (wpAny_bind (wpAny_mkText (wpAny_bind (wpAny_loadPart D ?_)))))))
  dsimp only
  have cc:(!es.toArray.any (·.key.isStr name)&&es.toArray.any (·.refKey))=false:=by
    have:es.toArray.any (·.refKey)=false:=by rw [<- Array.any_toList];exact hr
    rw [this,Bool.and_false]
  rw [aRefKeyMayBeTheName_at,cc]
  refine wpAny_updatePart D ?_
  refine wpAny_bind (wpAny_lookBehind D' (pastItsLine_dict (by rw [List.size_toArray,sizeLine_eq];omega)) ?_)
  exact wpAny_pure (h _ D' λb u q e=>(Heap.get?_update_other _ _ (Ne.symm q)).trans e)
theorem Ok.upd_ns {ids:List P} {l:Vl} {st:St} {s s':Shared} (ok:Ok c ids l st s) {d:P} {m m':Bs} {dx:Addr} {es:List DictEntry} {n:Nat} {t':TO} (e:st.t.at d=.ns m) (hr:l.ρ d=some dx)
    (hk:∀b u,b≠dx->s.heap.get? b=some u->s'.heap.get? b=some u) (ho:s'.heap.get? dx=some (dictOf es n)) (h:All2 (DE c l) m' es) (ht:∀q,t'.at q=if q=d then .ns m' else st.t.at q) (hz:Same s s':=by exact ⟨rfl,rfl⟩):
    Ok c ids l ⟨t',st.n,st.m,st.k⟩ s':=ok.upd (o':=.ns m') e rfl (by rintro ⟨⟩) hr hk (.inr ⟨_,ho,es,n,rfl,h⟩) ht hz
theorem zjf (F:Fx c p atts) {x:Nat} (hx:x∈atts) {ids:List P} {l:Vl} {st:St} {s:Shared} {A:Around} {k:KS} {q:P} {a:Addr} {v:V} {u:Value} {Q:Shared->Prop} {E:Value->Shared->Prop}
    (h:st.get q (asO x v q st k)=true) (ok:Ok c ids l st s) (ha:l.ρ q=some a) (d:DV c l v u) (hk:PSk c ids l k Q):wpAny (Md c) A (setAttr (.ref a) (c.nm x) u) (λ_=>Q) E s:=by
  have h:=St.get_spec h
  cases ho:st.t.at q <;> rw [ho] at h <;> first | exact nb h | skip
  · rename_i ci dd
    have h:st.get dd (asNs x v dd st k)=true:=h
    refine E1_2 (zaC (St.get_spec h)) λm hm h=>?_
    refine E0_2 (zac (show bq (zah m 200) (setL m x v (zfK dd st k)) false=true from h)) λhz h=>?_
    have h:st.put dd (.ns (setF m x v)) k=true:=zaN _ _ _ _ h
    refine E1_2 (St.put_spec h) λt' h ht=>?_
    refine E4_7 (zcN ok ho hm) λx' dx es n g1 g2 g3 g4 I g6 pl=>?_
    rw [ha] at g1;(replace g1:=si g1;subst g1)
    have X:=F.kin.keeps ok.keep
    have K1:=F.cls ci pl
    refine E1_2 (F.tab ci pl) λC hC _=>?_
    have hl:es.length<=200:=by rw [<- g4.length];exact zae _ _ hz
    have ht0:takerIn c.K (c.cv ci) (c.nm x)=some none:=by
      unfold takerIn
      cases hf:lk C.mt x with
      | none=>rw [show findIn c.K (.ref (c.cv ci)) (c.nm x)=some none from F.att ci C x pl hC hx hf];rfl
      | some f=>have M:=F.meth ci C x f pl hC hf;rw [M.find];simp [M.take]
    have hv:=zfg F.nms g4 (x:=x) (t:=s.toks + 1) d
    refine set_plain X I K1.set ?_
    refine osa_open X I K1.over ht0 λb=>?_
    refine zdB (A:=A) (A':=A.in1) (R:=λr s'=>match r with | .ok (.ret v)=>Q s' | .ok _=>False | .error e=>E e s') (name:=c.nm x) (tk:=s.toks) (v:=u) (b:=b) (prog:=c.prog) (w:=c.w) (s:={ s with toks:=s.toks + 1}) X I K1.dict (zie g4) (Nat.le_trans (za4 _ _ _ _ es) (by omega)) λh' ho' hk'=>?_
    exact hk _ _ _ h (.refl _) (ok.upd_ns hm g2 hk' ho' hv ht)
  · rename_i kk dd fl
    refine E2_4 (ok.at_ ho (by rintro ⟨⟩)) ?_;rintro x' ob g1 g2 ⟨g3,g4,g5,vs,g6,g7,g8⟩ gm
    rw [ha] at g1;(replace g1:=si g1;subst g1)
    have X:=F.kin.keeps ok.keep
    have nc:∃vs,ob.data=.fields vs:=⟨vs,g6⟩
    have nf:∀d,({ ob with dict:=d}:Obj).isFreed=false:=λd=>Obj.isFreed_of_fields (o:={ ob with dict:=d}) g6
    cases dd with
    | none=>
      refine E1_2 (St.add_spec (show st.add (.ns [(x,v)]) (asXn q kk k fl)=true from h)) λt1 h ht1=>?_
      refine E1_2 (St.put_spec (show St.put ⟨t1,st.n.suc,st.m,st.k⟩ q (.exc kk (some st.n) fl) k=true from h)) λt2 h ht2=>?_
      refine F.xa.new x hx A s kk a ob u _ E X g4 g2 g3 nc g5 (nf ob.dict) λh' dx tk tk' n w1 w2 w3 w4=>?_
      have ndx:dx≠a:=λe=>by rw [e,g2] at w1;exact on w1
      refine E1_1 (zg5 st.t q (.exc kk (some st.n) fl)) λt0 ht0=>?_
      have hq:q≠st.n:=ok.used ha
      refine hk _ _ _ h (ok.ext dx) (ok.alloc_upd (s':={ s with heap:=h',toks:=tk'}) (o:=.exc kk none fl) (o1:=.exc kk (some st.n) fl) (o2:=.ns [(x,v)]) (t1:=t0) ho rfl (by rintro ⟨⟩) ha w1 w4 w3
        ⟨g3,g4,⟨dx,Ok.put_self,rfl⟩,vs,g6,g7,g8⟩ w2 ⟨_,n,rfl,.cons ⟨rfl,⟨_,rfl⟩,d.le (ok.ext dx)⟩ .nil⟩ ht0 (λi=>?_))
      rw [ht2,ht1,ht0]
      by_cases e1:i=q
      · rw [if_pos e1,if_neg (λe2=>hq (e1▸e2)),if_pos e1]
      · rw [if_neg e1,if_neg e1]
    | some dd=>
      refine E1_2 g5 ?_;clear g5;intro dx e1 e2
      refine E1_2 (zaC (St.get_spec (show st.get dd (asNs x v dd st k)=true from h))) λm hm h=>?_
      refine E0_2 (zac (show bq (zah m 200) (setL m x v (zfK dd st k)) false=true from h)) λhz h=>?_
      have h:st.put dd (.ns (setF m x v)) k=true:=zaN _ _ _ _ h
      refine E1_2 (St.put_spec h) λt' h ht=>?_
      refine E2_4 (ok.at_ hm (by rintro ⟨⟩)) ?_;rintro dx' od q1 q2 ⟨es,n,rfl,q3⟩ _
      rw [e1] at q1;(replace q1:=si q1;subst q1)
      have hl:es.length<=200:=by rw [<- q3.length];exact zae _ _ hz
      refine F.xa.set x hx A s kk a dx ob es n u _ E X g4 g2 g3 nc e2 q2 (zie q3) (Nat.le_trans (za4 _ _ _ _ es) (by omega)) λh' ho' hk'=>?_
      exact hk _ _ _ h (.refl _) (ok.upd_ns hm e1 hk' ho' (zfg F.nms q3 (x:=x) (t:=s.toks + 1) d) ht)
theorem zn1 (F:Fx c p atts) {x:Nat} (hx:x∈atts) {e:Ev} {ex:Expr} (h1:SEv c p kd e ex):SAs c p kd (aAtt e x) (.Attribute ex (c.nm x) pos):=by
  intro y ids l v u st s k A env Q E am h ok d hk
  rw [assign_Attribute]
  refine wpAny_bind (wpAny_holding (h1 _ _ _ _ _ _ _ _ _ _ am h ok ?_))
  intro l1 o st1 ov s1 g1 le1 ok1 d1
  refine E1_2 (zak g1) ?_;rintro q rfl g1
  refine E1_2 d1 ?_;clear d1;rintro a ha rfl
  refine wpAny_bind (wpAny_standAt (wpAny_bind (wpAny_holding (zjf F hx g1 ok1 ha (d.le le1) ?_))))
  intro l2 st2 s2 g2 le2 ok2
  exact wpAny_release' (hk _ _ _ g2 (le1.trans le2) ok2)
end
end Mine
end
section
open PySem PySem.W PyProof.Rows PySem.Calls Builtin Builtin.ObjectAttr
namespace Mine
section
variable {c:Cn} {p:Pg} {kd:PySem.Str->Option NameKind} {pos:Pos} {n:Nat} {atts:List Nat}
inductive NS:List Expr->Prop
  | nil:NS []
  | cons {e es}:zdZ e->NS es->NS (e::es)
theorem NS.plain {es:List Expr} (h:NS es) (pos:Pos) (env:Env):(backTo pos (starEach es env)).any (·.1)=false:=by
  induction h with
  | nil=>rfl
  | cons a _ ih=>rw [a];simpa [backTo] using ih
noncomputable def zbg (M:Model) (h:Heap) (f:Value):Prop:=∃k,(k=Keeper.frame\/k=Keeper.machine\/k=Keeper.boundFrame)/\Looks M h (keeperOf f) k
theorem zgN {es:Evs} {exs:List Expr} (ns:NS exs) (h1:SEvs c p kd es exs) {x:Cx} {ids:List P} {l:Vl} {st:St} {s:Shared} {k:KL} {A:Around} {env:Env} {f:Value} {first:List Value} {Q E:Value->Shared->Prop}
    (am:Amb c p kd x ids l A env E) (h:es x st k=true) (ok:Ok c ids l st s)
    (hk:∀l' vs st1 us s1,k vs st1=true->l.Le l'->Ok c ids l' st1 s1->DVs c l' vs us->us.length=exs.length->zbg (Md c) s1.heap f/\wpAny (Md c) A (call f (first++us)) Q E s1):
    wpAny (Md c) A (callWith pos f first (backTo pos (starEach exs env)) []) Q E s:=by
  refine callWith_of (P:=λh=>zbg (Md c) h f) (by rw [ns.plain];rfl) (λ_ h=>h) ?_
  have h':wpAny (Md c) A (spliced (backTo pos (starEach exs env))) (λus s1=>zbg (Md c) s1.heap f/\wpAny (Md c) A (call f (first++us)) Q E s1) E s:=
    h1 _ _ _ _ _ _ _ _ _ _ _ am h ok λl1 vs st1 us s1 g1 le1 ok1 d1 e1=>hk l1 vs st1 us s1 g1 le1 ok1 d1 e1
  cases ns with
  | nil=>
    unfold evalArgs
    show wpAny (Md c) A (spliced (backTo pos (starEach ([]:List Expr) env)) >>=_) _ E s
    refine wpAny_bind (wpAny_mono h' (λus s1 hq=>?_) λ_ _ z=>z)
    refine wpAny_bind (wpAny_pure (wpAny_holding ?_))
    exact wpAny_bind (wpAny_pure (wpAny_bind (wpAny_pure (wpAny_pure hq))))
  | cons a b=>
    rw [a] at h' ⊢
    exact evalArgs_plain h'
end
end Mine
end
section
open PySem PySem.W PyProof.Rows PySem.Calls Builtin Builtin.ObjectAttr
namespace Mine
theorem mem_spec {l:List Nat} {x:Nat}:mem l x=true<->x∈l:=by
  induction l with
  | nil=>simp [mem]
  | cons a r ih=>
    have e:mem (a::r) x=bq (Nat.beq a x) true (mem r x):=rfl
    rw [e,List.mem_cons]
    cases h:Nat.beq a x with
    | true=>rw [Nat.beq_eq] at h;simp [bq,h]
    | false=>
      have:x≠a:=λq=>by rw [q,Nat.beq_refl] at h;exact nf h
      simp only [bq,this,false_or];exact ih
theorem zaJ:∀(ps:List Nat) (vs ds:List V) (k:KN),Mine.bindArgs ps vs ds k=true->
    vs.length<=ps.length/\ps.length<=vs.length + ds.length/\k (ps.zip (vs++ds.drop (vs.length + ds.length - ps.length)))=true
  | [],[],ds,k,h=>⟨Nat.le_refl _,Nat.zero_le _,by have h:k []=true:=h;simpa using h⟩
  | [],v::vs,ds,k,h=>by exact nb h
  | p::r,v::vs,ds,k,h=>by
    refine E0_3 (zaJ r vs ds _ h) λa b h=>?_
    refine ⟨by simpa using a,by simp;omega,?_⟩
    rw [show (v::vs).length + ds.length - (p::r).length=vs.length + ds.length - r.length by simp;omega]
    exact h
  | p::r,[],ds,k,h=>by
    have h1:=zal r 1 _ h
    have h2:=zal ds 0 _ h1
    refine E0_2 (zac h2) λh3 h4=>?_
    rw [Nat.ble_eq] at h3
    refine E1_2 (zaY _ _ _ h4) λv h5 h6=>?_
    refine E0_3 (zaJ r [] ds _ h6) λa b h7=>?_
    refine ⟨Nat.zero_le _,by simp at h3 ⊢;omega,?_⟩
    have e:ds.drop (([]:List V).length + ds.length - (p::r).length)=v::ds.drop (([]:List V).length + ds.length - r.length):=by
      have h5':ds[ds.length - (r.length + 1)]? =some v:=by
        rw [<- h5];congr 1;show _=Nat.sub (0 + ds.length) (1 + r.length);rw [Nat.zero_add,Nat.add_comm 1];rfl
      refine E1_1 (List.getElem?_eq_some_iff.mp h5') λhlt hv=>?_
      simp only [List.length_nil,Nat.zero_add,List.length_cons]
      rw [List.drop_eq_getElem_cons hlt,hv]
      congr 2
      omega
    rw [e];exact h7
theorem zbd (cl:List Nat):∀(b:Bs) (k:KN),locs cl b k=true->k (b.filter λh=>!mem cl h.1)=true
  | [],k,h=>h
  | (a,v)::r,k,h=>by
    have h:bq (mem cl a) (locs cl r k) (locs cl r (zaD (a,v) k))=true:=h
    rcases bq_t h with ⟨e,h⟩ | ⟨e,h⟩
    · simp only [List.filter_cons,e];exact zbd cl r _ h
    · simp only [List.filter_cons,e];exact zbd cl r _ h
section
variable {c:Cn} {p:Pg} {pos:Pos} {n:Nat} {atts:List Nat}
noncomputable abbrev zaj (c:Cn) (ps:List Nat) (us:List Value):List (PySem.Str×Value):=(ps.map c.nm).zip us
theorem zcy (N:Nms c) (ko:PySem.Str->Option NameKind) (k:Nat):∀(ps:List Nat) (us:List Value) (m:PySem.Str->Option Value),(k∉ps\/ko (c.nm k)≠some .local)->bindL ko (zaj c ps us) m (c.nm k)=m (c.nm k)
  | [],us,m,_=>by cases us <;> rfl
  | a::r,[],m,_=>rfl
  | a::r,u::us,m,h=>by
    show bindL ko (zaj c r us) _ _=_
    rw [zcy N ko k r us _ (h.imp (λh q=>h (.tail _ q)) id)]
    split
    · rename_i w
      have:c.nm k≠c.nm a:=λq=>by
        have e:=N.inj _ _ q
        rcases h with h | h
        · exact h (by rw [e];exact .head _)
        · exact h (by rw [q];exact w)
      show (if c.nm k=c.nm a then some u else m _)=_
      rw [if_neg this]
    · rfl
theorem zbs (N:Nms c) (ko:PySem.Str->Option NameKind) (k:Nat):∀(ps:List Nat) (us:List Value) (m:PySem.Str->Option Value),(k∉ps\/ko (c.nm k)=some .local)->bindC ko (zaj c ps us) m (c.nm k)=m (c.nm k)
  | [],us,m,_=>by cases us <;> rfl
  | a::r,[],m,_=>rfl
  | a::r,u::us,m,h=>by
    show bindC ko (zaj c r us) _ _=_
    rw [zbs N ko k r us _ (h.imp (λh q=>h (.tail _ q)) id)]
    split
    · rfl
    · rename_i w
      have:c.nm k≠c.nm a:=λq=>by
        have e:=N.inj _ _ q
        rcases h with h | h
        · exact h (by rw [e];exact .head _)
        · exact w (by rw [<- q];exact h)
      show (if c.nm k=c.nm a then some u else m _)=_
      rw [if_neg this]
theorem zd1 (N:Nms c) {l:Vl} (k:Nat):∀(ps:List Nat) (ws:List V) (us:List Value) (v:V),ps.Nodup->DVs c l ws us->ps.length=ws.length->lk (ps.zip ws) k=some v->
    k∈ps/\∃u,DV c l v u/\(∀ko m,ko (c.nm k)=some .local->bindL ko (zaj c ps us) m (c.nm k)=some u)/\(∀ko m,ko (c.nm k)≠some .local->bindC ko (zaj c ps us) m (c.nm k)=some u):=by
  intro ps
  induction ps with
  | nil=>intro ws us v _ _ _ h;simp [lk] at h
  | cons a r ih=>
    intro ws us v nd D e h
    cases D with
    | nil=>simp at e
    | @cons w u ws us d ds=>
    have nd':=List.nodup_cons.mp nd
    by_cases q:a=k
    · subst q
      simp only [List.zip_cons_cons,lk,if_true] at h
      (replace h:=si h;subst h)
      refine ⟨.head _,u,d,λko m hl=>?_,λko m hl=>?_⟩
      · show bindL ko (zaj c r us) _ _=_
        rw [zcy N ko a r us _ (.inl nd'.1),if_pos hl,if_pos rfl]
      · show bindC ko (zaj c r us) _ _=_
        rw [zbs N ko a r us _ (.inl nd'.1),if_neg hl,if_pos rfl]
    · simp only [List.zip_cons_cons,lk,if_neg q] at h
      obtain ⟨i,u',d',b1,b2⟩:=ih ws us v nd'.2 ds (by simpa using e) h
      exact ⟨.tail _ i,u',d',λko m hl=>b1 ko _ hl,λko m hl=>b2 ko _ hl⟩
theorem zb4 (cl:List Nat):∀(b:Bs) (k:Nat),lk (b.filter λh=>!mem cl h.1) k=if k∈cl then none else lk b k
  | [],k=>by simp [lk]
  | (a,v)::r,k=>by
    rw [List.filter_cons]
    by_cases q:a∈cl
    · rw [mem_spec.mpr q]
      simp only [Bool.not_true,Bool.false_eq_true,if_false]
      rw [zb4 cl r k]
      by_cases w:a=k
      · subst w;simp [q]
      · simp [lk,w]
    · have:mem cl a=false:=by cases h:mem cl a with | false=>rfl | true=>exact absurd (mem_spec.mp h) q
      rw [this]
      simp only [Bool.not_false,if_true,lk]
      by_cases w:a=k
      · subst w;simp [q]
      · simp only [if_neg w];exact zb4 cl r k
theorem zeS:∀{ps:List Nat} {ws:List V} {k:Nat},ps.length=ws.length->k∈ps->lk (ps.zip ws) k≠none
  | a::r,w::ws,k,e,h=>by
    by_cases q:a=k
    · simp [lk,q]
    · rcases List.mem_cons.mp h with rfl | h
      · exact absurd rfl q
      · simpa [lk,q] using zeS (by simpa using e) h
  | _::_,[],_,e,_=>by simp at e
  | [],_,_,_,h=>by cases h
theorem zdk {h:Heap} {a:Addr} {r:List Addr} {b:Addr} {o:Obj} (e:(hideAll h (a::r)).get? b=some o):(hideAll h r).get? b=some o:=by
  have h1:=of_hideAll _ e
  refine hideAll_get _ h1 λq=>?_
  have:=hideAll_none (h:=h) (a::r) (.tail _ q)
  rw [this] at e;exact no e
theorem zeE (N:Nms c) {ids:List P} {cells:List (PySem.Str×Addr)} (bs:Bs) {h:Heap} {l₀:Vl} {val:Nat->Option Value}:
    ∀(cl:List Nat) (l:Vl) (st:St) (s:Shared) (k:KC) (as:List Addr),l₀.Le l->zcI cl bs st k=true->cl.Nodup->
      All2 (λx a=>cells.lookup (c.nm x)=some a/\h.IsCell a (val x)/\(match lk bs x with | some v=>∃u,val x=some u/\DV c l₀ v u | none=>val x=none)) cl as->
      as.Nodup->s.heap=hideAll h as->Ok c ids l st s->
      ∃l' cs st',l.Le l'/\Ok c ids l' st' { s with heap:=h}/\k cs st'=true/\(∀x q,lk cs x=some q->∃a,cells.lookup (c.nm x)=some a/\l'.ρ q=some a)/\(cs=[]->cl=[]):=by
  intro cl
  induction cl with
  | nil=>
    intro l st s k as le hk nd hA na hs ok
    cases hA with
    | nil=>
    refine ⟨l,[],st,.refl _,ok.quiet (s':={ s with heap:=h}) (λb o e=>by rw [hs] at e;exact e),hk,λx q e=>by simp [lk] at e,λ_=>rfl⟩
  | cons x r ih=>
    intro l st s k as le hk nd hA na hs ok
    cases hA with
    | @cons _ a _ as hh rest=>
    refine E0_3 hh ?_;clear hh;intro h1 h2 h3
    have nd':=List.nodup_cons.mp nd
    have na':=List.nodup_cons.mp na
    refine E1_2 h2 ?_;clear h2;intro ob o1 o2
    have step:∀o:O,(∀l',l.Le l'->DO c l' o ob)->st.add o (mkV x (zcI r bs) k)=true->
        ∃l' cs st',l.Le l'/\Ok c ids l' st' { s with heap:=h}/\k cs st'=true/\(∀x q,lk cs x=some q->∃a,cells.lookup (c.nm x)=some a/\l'.ρ q=some a)/\(cs=[]->x::r=[]):=by
      intro o hd hk
      refine E1_2 (St.add_spec hk) λt' hk ht=>?_
      have ok1:=ok.alloc (a:=a) (o:=o) (ob:=ob) (s':={ s with heap:=hideAll h as}) (t':=t') (by rw [hs];exact hideAll_none _ (.head _)) (λb u e=>by rw [hs] at e;exact zdk e)
        (hideAll_get _ o1 na'.1) (hd _ (ok.ext a)) ht
      refine E3_5 (ih _ _ { s with heap:=hideAll h as} (zkb x st.n k) as (le.trans (ok.ext a)) hk nd'.2 rest na'.2 rfl ok1) λl' cs st' e1 e2 e3 e4 e5=>?_
      refine ⟨l',(x,st.n)::cs,st',(ok.ext a).trans e1,e2,e3,λy q e=>?_,λq=>by cases q⟩
      by_cases w:x=y
      · subst w
        simp only [lk,if_true] at e;(replace e:=si e;subst e)
        exact ⟨a,h1,e1.1 _ _ Ok.put_self⟩
      · simp only [lk,if_neg w] at e;exact e4 y q e
    rcases zaK bs x _ _ hk with ⟨v,e,hk⟩ | ⟨e,hk⟩
    · rw [e] at h3
      refine E1_2 h3 ?_;clear h3;intro u w1 w2
      exact step (.cel v) (λl' le'=>⟨u,by rw [o2,w1],(w2.le le).le le'⟩) hk
    · rw [e] at h3
      exact step .cnil (λl' le'=>by show ob.data=_;rw [o2,h3]) hk
end
end Mine
end
section
open PySem PySem.W PyProof.Rows PySem.Calls Builtin Builtin.ObjectAttr
namespace Mine
theorem zgp {h h':Heap} {a:Addr} {m:PySem.Str->Option Value} (k:∀o,h.get? a=some o->∃sl,h'.get? a=some { o with slots:=sl}) (x:h.Ns a m):h'.Ns a m:=by
  refine E3_3 x ?_;clear x;intro o es ep e hd r
  refine E1_1 (k o e) λsl hs=>?_
  exact ⟨_,es,ep,hs,hd,r⟩
section
variable {c:Cn} {ids:List P} {l:Vl} {st:St} {s:Shared}
theorem Ok.flown (ok:Ok c ids l st s) {q k:P} {d:Option P} {e T:Addr} {oe oe':Obj} {vs:Array Value} {S:List Addr} {h':Heap} (ho:st.t.at q=.exc k d true) (he:l.ρ q=some e) (hg:s.heap.get? e=some oe)
    (hS:∀b∈S,∃L∈ids,l.ρ L=some b) (hT:∀i,(st.t.at i≠.junk\/i∈ids)->l.ρ i≠some T) (hT0:l.hx.get? T=none)
    (hk:∀b o,b≠e->b≠T->b∉S->s.heap.get? b=some o->h'.get? b=some o) (hsl:∀b∈S,∀o,s.heap.get? b=some o->∃sl,h'.get? b=some { o with slots:=sl})
    (h1:h'.get? e=some oe') (h2:oe'.cls=oe.cls) (h3:oe'.dict=oe.dict) (h4:oe'.data=.fields vs) (h5:vs.size=6):Ok c ids l st { s with heap:=h'}:=by
  refine E2_4 (ok.at_ ho (by rintro ⟨⟩)) ?_;rintro e' ob g1 g2 ⟨g3,g4,g5,ws,g6,g7,_⟩ g8
  rw [he] at g1;(replace g1:=si g1;subst g1)
  rw [hg] at g2;(replace g2:=si g2;subst g2)
  have e0:=g8 rfl
  have tq:st.t.at q≠.junk\/q∈ids:=.inl (by rw [ho];rintro ⟨⟩)
  have S0:∀b∈S,l.hx.get? b=none:=λb hb=>by
    refine E1_2 (hS b hb) λL hL e1=>?_
    refine E1_1 (ok.frame_id hL) λm hm=>?_
    refine E2_4 (ok.frs _ _ hm) λa f r1 _ _ r4=>?_
    rw [e1] at r1;(replace r1:=si r1;subst r1);exact r4
  have mq:st.mt ids q:=.inl (by rw [ho];exact ⟨by rintro ⟨⟩,rfl⟩)
  refine ⟨ok.bas,λb o h=>hk b o (λz=>by rw [z,e0] at h;exact no h) (λz=>by rw [z,hT0] at h;exact no h) (λz=>by rw [S0 b z] at h;exact no h) (ok.kep b o h),λi=>?_,λL m h=>?_,ok.ids_,ok.nd,ok.fj,ok.inj,ok.fre,ok.frt,ok.oss,ok.gns⟩
  · by_cases hj:st.t.at i=.junk
    · exact .inl hj
    · by_cases hi:i=q
      · subst hi;exact .inr ⟨e,oe',he,h1,by rw [ho];exact ⟨h2.trans g3,g4,by rw [h3];exact g5,vs,h4,h5,by rintro ⟨⟩⟩,λ_=>e0⟩
      · refine E2_4 (ok.at_ rfl hj) λa o r1 r2 r3 r4=>?_
        refine .inr ⟨a,o,r1,hk a o (λz=>hi (ok.inj q i a mq (.inl hj) (z▸he) r1).symm) (λz=>hT i (.inl hj) (z▸r1)) (λz=>?_) r2,r3,r4⟩
        refine E1_2 (hS a z) λL hL e1=>?_
        exact hj (ok.inj L i a (.inr hL) (.inl hj) e1 r1▸ok.fj L hL)
  · refine E2_4 (ok.frs L m h) λa f r1 r2 r3 r4=>?_
    have hL:L∈ids:=by rw [<- ok.ids_];exact List.mem_map_of_mem (f:=(·.1)) h
    refine ⟨a,f,r1,zgp (λo r=>?_) r2,r3,r4⟩
    by_cases z:a∈S
    · exact hsl a z o r
    · exact ⟨o.slots,hk a o (λy=>by
        have:=ok.inj L q a (.inr hL) tq r1 (y▸he)
        subst this
        rcases tq with tq | _
        · exact tq (ok.fj _ hL)
        · rw [ok.fj _ hL] at ho;cases ho) (λy=>hT L (.inr hL) (y▸r1)) z r⟩
noncomputable def ziY (c:Cn) (ids:List P) (l:Vl) (st:St) (v:V) (u:Value) (s:Shared) (fl:Value):Prop:=∃q e k d oe vs T oT ts,v=.ref q/\u=.ref e/\l.ρ q=some e/\st.t.at q=.exc k d true/\s.heap.get? e=some oe/\oe.data=.fields vs/\
  vs[1]? =some (.ref T)/\(∀i,(st.t.at i≠.junk\/i∈ids)->l.ρ i≠some T)/\l.hx.get? T=none/\s.heap.get? T=some oT/\oT.data=.fields ts/\ts[3]? =some fl
theorem zbA {o:Obj} {vs:Array Value} (f:Array Value->Array Value) (h:o.data=.fields vs):(o.mapFields f).cls=o.cls/\(o.mapFields f).dict=o.dict/\(o.mapFields f).data=.fields (f vs):=by
  obtain ⟨a,b,d,e⟩:=o
  dsimp only at h;subst h
  exact ⟨rfl,rfl,rfl⟩
theorem zc0 {M:Model} {A:Around} {Q:Unit->Shared->Prop} {E:Value->Shared->Prop} {v:V} {u fl:Value} (ok:Ok c ids l st s) (x:ziY c ids l st v u s fl)
    (h:∀h',Ok c ids l st { s with heap:=h'}->Fly c ids l st v u { s with heap:=h'}->Q () { s with heap:=h'}):wpAny M A (setFlight u none) Q E s:=by
  obtain ⟨q,e,k,d,oe,vs,T,oT,ts,rfl,rfl,a3,a4,a5,a6,a7,a8,a9,b1,b2,b3⟩:=x
  have hTe:T≠e:=λz=>a8 q (.inl (by rw [a4];rintro ⟨⟩)) (z▸a3)
  refine E2_4 (ok.at_ a4 (by rintro ⟨⟩)) ?_;rintro e' ob g1 g2 ⟨g3,g4,g5,ws,g6,g7,_⟩ g8
  rw [a3] at g1;(replace g1:=si g1;subst g1)
  rw [a5] at g2;(replace g2:=si g2;subst g2)
  rw [a6] at g6;cases g6
  unfold setFlight
  refine wpAny_bind (wpAny_field a5 a6 a7 ?_)
  rw [if_pos (show (Value.ref T !=Value.none)=true from by simp)]
  refine wpAny_setField b1 b2 (Array.getElem?_eq_some_iff.mp b3).1 ?_
  refine E0_3 (zbA (λws=>ws.setIfInBounds 3 ((none:Option Addr).elim Value.none λf=>rawInt f)) b2) λm1 m2 m3=>?_
  have e1:(s.heap.update T (Obj.mapFields λws=>ws.setIfInBounds 3 ((none:Option Addr).elim Value.none λf=>rawInt f))).get? e=some oe:=(Heap.get?_update_other _ _ hTe).trans a5
  refine h _ (ok.flown (S:=[]) a4 a3 a5 (λb hb=>nomatch hb) a8 a9 (λb o _ z _ y=>(Heap.get?_update_other _ _ (Ne.symm z)).trans y) (λb hb=>nomatch hb) e1 rfl rfl a6 g7)
    ⟨q,e,k,d,oe,vs,rfl,rfl,a3,a4,e1,a6,.inr ⟨T,_,_,a7,a8,a9,Heap.get?_update_self _ b1 (Obj.isFreed_of_fields m3),m3,by
      have:=(Array.getElem?_eq_some_iff.mp b3).1
      simp [this]⟩⟩
theorem zib {M:Model} {A:Around} {Q:Unit->Shared->Prop} {E:Value->Shared->Prop} {v:V} {u:Value} {env:Env} {outer:List Env} {La:Addr} (ok:Ok c ids l st s) (x:Fly c ids l st v u s) (hfr:A.frames=some (env::outer)) (hf:env.frame=some La)
    (hF:Fo ids l A) (h:∀h',Ok c ids l st { s with heap:=h'}->ziY c ids l st v u { s with heap:=h'} (rawInt La)->Q () { s with heap:=h'}):wpAny M A (noteFrame u env) Q E s:=by
  refine E1_2 hF ?_;clear hF;intro es hes hF
  rw [hfr] at hes;(replace hes:=si hes;subst hes)
  have hS:∀b∈(env::outer).filterMap (·.frame),∃L∈ids,l.ρ L=some b:=λb hb=>by
    refine E1_2 (List.mem_filterMap.mp hb) λe1 h1 h2=>?_
    obtain ⟨_,L,hL,a,ha,hb'⟩:=hF e1 h1
    rw [h2] at hb';(replace hb':=si hb';subst hb')
    exact ⟨L,hL,ha⟩
  have ff:∀(s:Shared),Ok c ids l st s->∀es:List Env,(∀env∈es,env.scope.kind≠.module/\∃L∈ids,∃a,l.ρ L=some a/\env.frame=some a)->s.heap.FunFrames (⟨#[],s.heap.life⟩:Heap) es:=λs ok es=>by
    induction es with
    | nil=>intro _;trivial
    | cons e1 r ih=>
      intro H
      obtain ⟨k1,L,hL,a,ha,hb⟩:=H e1 (.head _)
      refine E1_1 (ok.frame_id hL) λm hm=>?_
      refine E2_3 (ok.frs _ _ hm) ?_;rintro a' f r1 ⟨o,es,ep,r2,r3,_⟩ _
      rw [ha] at r1;(replace r1:=si r1;subst r1)
      exact ⟨k1,⟨a,o,hb,by simp [Heap.get?],r2,λvs z=>by rw [r3] at z;cases z⟩,ih λe2 h2=>H e2 (.tail _ h2)⟩
  refine E6_7 x ?_;clear x;rintro q e k d oe vs rfl rfl a3 a4 a5 a6 a7
  refine E2_4 (ok.at_ a4 (by rintro ⟨⟩)) ?_;rintro e' ob g1 g2 ⟨g3,g4,g5,ws,g6,g7,_⟩ g8
  rw [a3] at g1;(replace g1:=si g1;subst g1)
  rw [a5] at g2;(replace g2:=si g2;subst g2)
  rw [a6] at g6;cases g6
  have tq:st.t.at q≠.junk\/q∈ids:=.inl (by rw [a4];rintro ⟨⟩)
  have heS:∀b∈(env::outer).filterMap (·.frame),b≠e:=λb hb z=>by
    refine E1_2 (hS b hb) λL hL e1=>?_
    have:=ok.inj L q b (.inr hL) tq e1 (z▸a3)
    rw [<- this,ok.fj L hL] at a4;cases a4
  have go:∀(s:Shared) (head:Value) (hn:Bool),Ok c ids l st s->s.heap.get? e=some oe->
      (∀h',Ok c ids l st { s with heap:=h'}->ziY c ids l st (.ref q) (.ref e) { s with heap:=h'} (rawInt La)->Q () { s with heap:=h'})->
      wpAny M A (do let a <- frameOf env;let pl <- entryPlaceOf La hn;let b <- EntryCells.newEntry head a .none (rawInt La) .none pl;setField (.ref e) 1 b) Q E s:=by
    intro s head hn ok he h
    refine wpAny_bind (wpAny_frameOf_fun hfr (ff s ok _ hF) hf λh₁ hs₁=>?_)
    refine wpAny_bind (wpAny_entryPlaceOf λpl hpl=>?_)
    unfold EntryCells.newEntry newFields
    refine wpAny_bind (wpAny_newObj_type ?_ (hpl.sizeOk5 _ _ _ _ _))
    have he₁:h₁.get? e=some oe:=(hs₁.2.1 e λz=>heS e z rfl).trans he
    generalize hts:([head,.ref La,.none,rawInt La,.none]++(if pl.isEmpty then List.replicate 6 Value.none else pl)).toArray=ts
    have h3:ts[3]? =some (rawInt La):=by subst hts;simp
    have he₂:=Heap.get?_push_of_some (h:=h₁) { cls:=.type "traceback",dict:=none,data:=.fields ts} he₁
    have hTe:h₁.objs.size≠e:=Nat.ne_of_gt (Heap.lt_size he₁)
    refine wpAny_setField he₂ a6 (by omega) ?_
    refine E0_3 (zbA (λws=>ws.setIfInBounds 1 (Value.ref h₁.objs.size)) a6) λm1 m2 m3=>?_
    have he₃:=Heap.get?_update_self (Obj.mapFields λws=>ws.setIfInBounds 1 (Value.ref h₁.objs.size)) he₂ (Obj.isFreed_of_fields m3)
    have hT₃:=(Heap.get?_update_other (h₁.push { cls:=.type "traceback",dict:=none,data:=.fields ts}) (Obj.mapFields λws=>ws.setIfInBounds 1 (Value.ref h₁.objs.size)) (Ne.symm hTe)).trans (Heap.get?_push_size h₁ rfl)
    have keep:∀b o,b≠e->h₁.get? b=some o->((h₁.push { cls:=.type "traceback",dict:=none,data:=.fields ts}).update e (Obj.mapFields λws=>ws.setIfInBounds 1 (Value.ref h₁.objs.size))).get? b=some o:=λb o hb e1=>by
      rw [Heap.get?_update_other _ _ (Ne.symm hb)];exact Heap.get?_push_of_some _ e1
    have newT:s.heap.get? h₁.objs.size=none:=Heap.get?_none_of_le (Nat.le_of_eq hs₁.1.symm)
    have untr:∀i,(st.t.at i≠.junk\/i∈ids)->l.ρ i≠some h₁.objs.size:=λi hi z=>by
      refine E2_2 (ok.has hi) λa o r1 r2=>?_
      rw [z] at r1;(replace r1:=si r1;subst r1);rw [newT] at r2;exact no r2
    refine h _ (ok.flown (T:=h₁.objs.size) a4 a3 he hS untr (ok.old newT) (λb o z1 _ z3 y=>keep b o z1 ((hs₁.2.1 b z3).trans y)) (λb hb o y=>?_) he₃ m1 m2 m3 (by simp [g7])) ⟨q,e,k,d,_,_,h₁.objs.size,_,ts,rfl,rfl,a3,a4,he₃,m3,by simp [g7],untr,ok.old newT,hT₃,rfl,h3⟩
    refine E1_1 (hs₁.2.2 b o y) λsl hs=>?_
    exact ⟨sl,keep b _ (heS b hb) hs⟩
  unfold noteFrame
  simp only [hf]
  rcases a7 with a7 | ⟨T,oT,ts,b1,b2,b3,b4,b5,b6⟩
  · refine wpAny_bind (wpAny_field a5 a6 a7 ?_)
    rw [if_neg (by decide)]
    exact go s _ _ ok a5 h
  · have hTe:T≠e:=λz=>b2 q tq (z▸a3)
    refine wpAny_bind (wpAny_field a5 a6 b1 ?_)
    rw [if_pos (show (Value.ref T !=Value.none)=true from by simp)]
    refine wpAny_bind (wpAny_field b4 b5 b6 ?_)
    rw [if_neg (show ¬ ((Value.none==rawInt La)=true) from by simp [rawInt])]
    refine wpAny_bind (wpAny_setField b4 b5 (Array.getElem?_eq_some_iff.mp b6).1 ?_)
    have e1:(s.heap.update T (Obj.mapFields λws=>ws.setIfInBounds 3 Value.none)).get? e=some oe:=(Heap.get?_update_other _ _ hTe).trans a5
    exact go { s with heap:=s.heap.update T (Obj.mapFields λws=>ws.setIfInBounds 3 Value.none)} _ _ (ok.flown (S:=[]) a4 a3 a5 (λb hb=>nomatch hb) b2 b3 (λb o _ z _ y=>(Heap.get?_update_other _ _ (Ne.symm z)).trans y) (λb hb=>nomatch hb) e1 rfl rfl a6 g7) e1 h
theorem zek {M:Model} {A:Around} {Q:Unit->Shared->Prop} {E:Value->Shared->Prop} {v:V} {u:Value} {env:Env} {outer:List Env} {La:Addr} (ok:Ok c ids l st s) (x:Fly c ids l st v u s) (hfr:A.frames=some (env::outer)) (hf:env.frame=some La)
    (hF:Fo ids l A) (h:∀h',Ok c ids l st { s with heap:=h'}->Fly c ids l st v u { s with heap:=h'}->Q () { s with heap:=h'}):wpAny M A (leaving env u) Q E s:=by
  unfold leaving
  exact wpAny_bind (zib ok x hfr hf hF λh' ok' x'=>zc0 ok' x' h)
theorem Fly.pop {L:P} {v:V} {u:Value} {k':List (P×Bs)} (x:Fly c (L::ids) l st v u s):Fly c ids l ⟨st.t,st.n,st.m,k'⟩ v u s:=by
  refine E6_7 x ?_;clear x;intro q e k d oe vs a1 a2 a3 a4 a5 a6 a7
  exact ⟨q,e,k,d,oe,vs,a1,a2,a3,a4,a5,a6,a7.imp id λ⟨T,oT,ts,b1,b2,b3⟩=>⟨T,oT,ts,b1,λi hi=>b2 i (hi.imp id λz=>.tail _ z),b3⟩⟩
end
end Mine
end
section
open PySem PySem.W PyProof.Rows PySem.Calls Builtin Builtin.ObjectAttr
namespace Mine
section
variable {c:Cn} {p:Pg} {pos:Pos} {n:Nat} {atts:List Nat}
noncomputable abbrev kdOf (sc:Scope):PySem.Str->Option NameKind:=λx=>sc.names.lookup x
structure FnAt (c:Cn) (p:Pg) (f:P) (F:Fn) (o:Obj) (fd:FuncData) (body:List Stmt) (dvals:List Value):Prop where
  look:c.K.lookup (c.fv f)=some o
  data:o.data=.func fd
  bod:fd.body=.stmts body
  clo:fd.closure=[]
  glo:fd.globals=mainGlobals
  blt:fd.builtins=builtinsNs
  code:codeIn c.K fd.code fd.qualname=true
  kind:fd.scope.kind=.function
  cor:fd.scope.isCoroutine=false
  gen:fd.scope.isGenerator=false
  cells:∀x∈F.cl,kdOf fd.scope (c.nm x)=some .cell/\∀n,((cellsFrom n fd.scope.names []).lookup (c.nm x)).isSome=true
  locs:∀x∈F.ps,x∉F.cl->kdOf fd.scope (c.nm x)=some .local
  ndp:F.ps.Nodup
  ndc:F.cl.Nodup
  dfl:∀l,DVs c l F.ds dvals
  bind:∀(vals:List Value) (s:Shared),c.K.In s.heap->vals.length<=F.ps.length->F.ps.length<=vals.length + F.ds.length->
    BindsTo s fd ⟨vals,[]⟩ (zaj c F.ps (vals++dvals.drop (vals.length + F.ds.length - F.ps.length)))
  body:SExs c p (kdOf fd.scope) F.bd body
  tab:∀t,F.tb=some t->fd.code=.ref (c.tc t)/\fd.qualname++".<locals>."=c.tq t
theorem All2.choose {α β:Type} {R:α->β->Prop}:∀{l:List α},(∀x∈l,∃y,R x y)->∃m,All2 R l m
  | [],_=>⟨[],.nil⟩
  | x::r,h=>by
    refine E1_1 (h x (.head _)) λy hy=>?_
    refine E1_1 (All2.choose (l:=r) λz hz=>h z (.tail _ hz)) λm hm=>?_
    exact ⟨y::m,.cons hy hm⟩
theorem All2.mem_r {α β:Type} {R:α->β->Prop} {l:List α} {m:List β} (h:All2 R l m):∀y∈m,∃x∈l,R x y:=by
  induction h with
  | nil=>intro y h;cases h
  | cons a _ ih=>
    intro y h
    rcases List.mem_cons.mp h with rfl | h
    · exact ⟨_,.head _,a⟩
    · refine E1_2 (ih y h) λx hx r=>?_;exact ⟨x,.tail _ hx,r⟩
theorem zgq {cl:List Nat} {as:List Addr} {R:Nat->Addr->Prop} (h:All2 R cl as) (hi:∀x y a,R x a->R y a->x=y) (nd:cl.Nodup):as.Nodup:=by
  induction h with
  | nil=>exact .nil
  | @cons x a l m r h ih=>
    have nd':=List.nodup_cons.mp nd
    refine List.nodup_cons.mpr ⟨λq=>?_,ih nd'.2⟩
    refine E1_2 (h.mem_r a q) λy hy ry=>?_
    exact nd'.1 (hi x y a r ry▸hy)
theorem zdU (N:Nms c) (X:c.K.In c.h₀) {f:P} {F:Fn} {o:Obj} {fd:FuncData} {body:List Stmt} {dvals:List Value} (T:FnAt c p f F o fd body dvals) {r:CF} (hr:CallOk c r)
    {args:List V} {dp:Nat} {ids:List P} {l:Vl} {st:St} {s:Shared} {k kx:KV} {A:Around} {vals:List Value} {Q E:Value->Shared->Prop}
    (h:cfF r p args [] dp st k kx F=true) (hdp:dp < 40) (ok:Ok c ids l st s) (hv:DVs c l args vals) (hA:Rc ids l A dp) (h0:c.l0.Le l) (hk:PV c ids l k Q) (hx:PX c ids l kx E):
    codeAny (Md c) A (.call (.ref (c.fv f)) ⟨vals,[]⟩) (RetP Q E) s:=by
  refine E0_3 (zaJ _ _ _ _ h) λb1 b2 h=>?_
  have h:=zbd _ _ _ h
  have h:=St.push_spec h
  have Xs:=X.keeps ok.keep
  have hlen:vals.length=args.length:=hv.length.symm
  have hus:DVs c l (args++F.ds.drop (args.length + F.ds.length - F.ps.length)) (vals++dvals.drop (vals.length + F.ds.length - F.ps.length)):=by
    rw [hlen];exact hv.append ((T.dfl l).drop _)
  generalize hws:args++F.ds.drop (args.length + F.ds.length - F.ps.length)=ws at h hus
  generalize husd:vals++dvals.drop (vals.length + F.ds.length - F.ps.length)=us at hus
  have hwl:F.ps.length=ws.length:=by rw [<- hws];simp;omega
  refine codeAny_call_function (by have:=hA.depth;show A.depth < 1000;omega) (Xs _ _ T.look) T.data T.cor T.gen T.bod (codeRec_of Xs T.code) ?_
  refine T.bind vals s Xs (by omega) (by omega) _ _ _ _ ?_
  rw [husd,T.clo]
  have hkind:∀x∈zaj c F.ps us,fd.scope.names.lookup x.1=some .local\/(fd.scope.names.lookup x.1=some .cell/\((cellsFrom (s.heap.objs.size + 1) fd.scope.names []).lookup x.1).isSome=true):=by
    intro x hx
    have hx1:x.1∈F.ps.map c.nm:=(List.of_mem_zip hx).1
    refine E1_2 (List.mem_map.mp hx1) λy hy e=>?_
    rw [<- e]
    by_cases q:y∈F.cl
    · exact .inr ⟨(T.cells y q).1,(T.cells y q).2 _⟩
    · exact .inl (T.locs y hy q)
  refine wpAny_newFunctionEnv_cells T.kind hkind λenv he s' x=>?_
  have ek:env.kindOf=kdOf fd.scope:=by rw [he];rfl
  have eL:env.locals=s.heap.objs.size:=by rw [he];rfl
  have ec:env.cells=cellsFrom (s.heap.objs.size + 1) fd.scope.names []:=by rw [he];rfl
  refine ⟨(N.lim.keeps ok.keep).keeps x.toInCall.keep,?_⟩
  let val:Nat->Option Value:=λy=>bindC env.kindOf (zaj c F.ps us) (λ_=>none) (c.nm y)
  obtain ⟨as,has⟩:=All2.choose (R:=λy a=>env.cells.lookup (c.nm y)=some a/\s'.heap.IsCell a (val y)/\(match lk (F.ps.zip ws) y with | some v=>∃u,val y=some u/\DV c l v u | none=>val y=none)) (l:=F.cl) (λy hy=>by
    refine E1_1 (Option.isSome_iff_exists.mp (ec▸(T.cells y hy).2 (s.heap.objs.size + 1))) λa ha=>?_
    refine ⟨a,ha,x.cell _ _ ha,?_⟩
    have hc:env.kindOf (c.nm y)≠some .local:=by rw [ek,(T.cells y hy).1];decide
    cases e:lk (F.ps.zip ws) y with
    | some v=>obtain ⟨_,u,d,_,b⟩:=zd1 N y _ _ _ v T.ndp hus hwl e;exact ⟨u,b _ _ hc,d⟩
    | none=>exact zbs N _ y _ _ _ (.inl λq=>zeS hwl q e))
  have nda:as.Nodup:=zgq has (λx₁ y₁ a r1 r2=>N.inj _ _ (name_of_addr x.apart (mem_of_lookup r1.1) (mem_of_lookup r2.1))) T.ndc
  have above:∀a∈as,s.heap.objs.size < a:=λa ha=>by
    refine E1_2 (has.mem_r a ha) λy _ r1=>?_
    have:=x.above _ _ (mem_of_lookup r1.1)
    rw [eL] at this;exact this
  have hL:s.heap.objs.size∉as:=λq=>Nat.lt_irrefl _ (above _ q)
  have ok0:Ok c ids l st { s with heap:=hideAll s'.heap (s.heap.objs.size::as)}:=ok.quiet (λb u e=>by
    refine hideAll_get _ (x.toInCall.keep b u e) λq=>?_
    have hb:b < s.heap.objs.size:=Heap.lt_size e
    rcases List.mem_cons.mp q with q | q
    · exact Nat.lt_irrefl _ (q▸hb)
    · exact Nat.lt_irrefl _ (Nat.lt_trans hb (above _ q)))
  have hns:(hideAll s'.heap as).Ns s.heap.objs.size (bindL env.kindOf (zaj c F.ps us) λ_=>none):=by
    refine E3_2 (eL▸x.toInCall.ns) λob es ep g1 g2=>?_
    exact ⟨ob,es,ep,hideAll_get _ g1 hL,g2⟩
  have hdn:DN c l ((F.ps.zip ws).filter λh=>!mem F.cl h.1) (bindL env.kindOf (zaj c F.ps us) λ_=>none):=λy=>by
    rw [zb4]
    by_cases q:y∈F.cl
    · rw [if_pos q];trivial
    · rw [if_neg q]
      cases e:lk (F.ps.zip ws) y with
      | some v=>
        obtain ⟨i,u,d,b,_⟩:=zd1 N y _ _ _ v T.ndp hus hwl e
        exact ⟨u,b _ _ (by rw [ek];exact T.locs y i q),d⟩
      | none=>trivial
  have ok1:=ok0.push (s':={ s with heap:=hideAll s'.heap as}) (a:=s.heap.objs.size) (hideAll_none _ (.head _)) (λb u e=>zdk e) hns hdn
  refine E3_5 (zeE N (F.ps.zip ws) (cells:=env.cells) (h:=s'.heap) (l₀:=l) (val:=val) F.cl _ _ _ _ as (ok.ext _) h T.ndc has nda rfl ok1) λl' cs st' le' ok2 h hcs _=>?_
  have h:cfGo r p F.bd F.tb cs st' k kx (dp + 1)=true:=h
  have ok3:Ok c (st.n::ids) l' st' s':=ok2.quiet (λb u e=>e) (by (refine E2_1 x.toInCall.same λhh tk e=>?_);rw [e];exact ⟨rfl,rfl⟩)
  have hro:l'.ρ st.n=some s.heap.objs.size:=le'.1 _ _ Ok.put_self
  have efr:env.frame=some s.heap.objs.size:=by rw [he];rfl
  have hfo:Fo (st.n::ids) l' (A.deeper env):=by
    refine E1_2 (((hA.fo.le (ok.ext _)).le le').cons st.n) λes e1 e2=>?_
    refine ⟨_,Around.frames_deeper e1,λy hy=>?_⟩
    rcases List.mem_cons.mp hy with rfl | hy
    · exact ⟨by rw [show y.scope=fd.scope from by rw [he];rfl,T.kind];decide,st.n,.head _,_,hro,efr⟩
    · exact e2 y hy
  refine codeAny_func ?_
  refine T.body ⟨r,cs,dp + 1,cfX kx,p,false,some F.tb⟩ (st.n::ids) l' st' s' (ziM k) (A.deeper env) env _ _ ⟨rfl,hr,?_,λ_=>hA.free,λt ht=>?_,λ_ _=>?_,?_,?_,h0.trans ((ok.ext _).trans le')⟩ h ok3 ?_
  · have h1:=hA.depth
    have h2:=hA.units
    exact ⟨show A.depth + 1<=100 + 10 * (dp + 1) by omega,show A.units + 3<=200 + 30 * (dp + 1) by omega,hdp,hfo⟩
  · rw [show env.code=fd.code from by rw [he];rfl,show env.qual=fd.qualname++".<locals>." from by rw [he];rfl];exact T.tab t (Option.some.inj ht)
  · refine E1_2 hA.fo λes e2 _=>?_
    exact ⟨es,_,Around.frames_deeper e2,efr⟩
  · refine ⟨by rw [he];exact T.kind,λy=>by rw [ek],⟨st.n,ids,rfl,?_⟩,by rw [he];exact T.glo,by rw [he];exact T.blt,λy q e=>hcs y q e⟩
    rw [eL];exact hro
  · intro l2 v st2 u s2 g le2 ok4 fly
    refine E2_2 (St.pop_spec (show st2.pop (kx v)=true from g)) λz rr e1 g=>?_
    refine E1_2 hA.fo λes e2 _=>?_
    exact zek ok4 fly (Around.frames_deeper e2) efr (hfo.le le2) λh' ok5 fly5=>hx _ _ _ _ _ g ((ok.ext _).trans (le'.trans le2)) (ok5.pop e1 rfl) fly5.pop
  · intro l2 fl st2 g s2 g1 le2 ok4 d
    cases fl with
    | next=>
      refine E2_2 (St.pop_spec (show st2.pop (k .non)=true from g1)) λz rr e1 g1=>?_
      cases (show g=.next from d)
      exact hk _ _ _ _ _ g1 ((ok.ext _).trans (le'.trans le2)) (ok4.pop e1 rfl) rfl
    | brk=>exact nb g1
    | cont=>exact nb g1
    | ret v=>
      refine E2_2 (St.pop_spec (show st2.pop (k v)=true from g1)) λz rr e1 g1=>?_
      refine E1_2 d ?_;clear d;rintro u rfl d
      exact hk _ _ _ _ _ g1 ((ok.ext _).trans (le'.trans le2)) (ok4.pop e1 rfl) d
structure LamAt (c:Cn) (p:Pg) (f:P) (F:Fn) (e:Ev):Prop where
  ps:F.ps=[]
  cl:F.cl=[]
  tb:F.tb=none
  nof:fnIn c.K (c.fv f)=false
  bd:F.bd=zab (sRet e) sNil
  bind:∀clos cv ctv,PySem.bindArgs (kla_fn "<lambda>" (c.lm f).qual (c.lm f).params (c.lm f).body (c.lm f).scope clos (c.lm f).pm cv ctv) ⟨[],[]⟩=pure []
  kind:(c.lm f).scope.kind=.function
  cor:(c.lm f).scope.isCoroutine=false
  gen:(c.lm f).scope.isGenerator=false
  cells:∀x∈(c.lm f).scope.names,x.2≠.cell
  body:SEv c p (kdOf (c.lm f).scope) e (c.lm f).body
theorem zel (N:Nms c) (X:c.K.In c.h₀) {f:P} {F:Fn} {ev:Ev} (T:LamAt c p f F ev) {r:CF} (hr:CallOk c r)
    {args:List V} {cs:Cs} {q g:P} {a:Addr} {dp:Nat} {ids:List P} {l:Vl} {st:St} {s:Shared} {k kx:KV} {A:Around} {vals:List Value} {Q E:Value->Shared->Prop}
    (h:cfF r p args cs dp st k kx F=true) (hdp:dp < 40) (ok:Ok c ids l st s) (hq:st.t.at q=.clo f cs g) (hg:st.t.at g=.cod f) (ha:l.ρ q=some a) (hv:DVs c l args vals) (hA:Rc ids l A dp) (h0:c.l0.Le l) (hk:PV c ids l k Q) (hx:PX c ids l kx E):
    codeAny (Md c) A (.call (.ref a) ⟨vals,[]⟩) (RetP Q E) s:=by
  refine E0_3 (zaJ _ _ _ _ h) λb1 _ h=>?_
  rw [T.ps] at b1
  cases hv with
  | cons _ _=>simp at b1
  | nil=>
  have h:=zbd _ _ _ h
  rw [T.ps,T.cl] at h
  have h:=St.push_spec h
  have h:cfCs r p F.bd F.tb cs dp k kx [] ⟨st.t,st.n.suc,st.m,(st.n,[])::st.k⟩=true:=by
    have h:zcI F.cl [] _ (cfCs r p F.bd F.tb cs dp k kx)=true:=h
    rw [T.cl] at h;exact h
  have h:cfGo r p F.bd F.tb cs ⟨st.t,st.n.suc,st.m,(st.n,[])::st.k⟩ k kx (dp + 1)=true:=by cases cs <;> exact h
  refine E2_4 (ok.at_ hq (by rintro ⟨⟩)) ?_;rintro a' ob r1 r2 ⟨clos,cv,ctv,r3,_,rfl,r4⟩ _
  rw [ha] at r1;(replace r1:=si r1;subst r1)
  refine E2_4 (ok.at_ hg (by rintro ⟨⟩)) ?_;rintro cv' oc w1 w2 ⟨vs,t,w3,w4⟩ _
  rw [r3] at w1;(replace w1:=si w1;subst w1)
  refine kla_callFunE (by have:=hA.depth;show A.depth < 1000;omega) r2 rfl T.cor T.gen rfl ⟨cv,oc,vs,t,rfl,w2,w3,w4⟩ ?_
  rw [T.bind]
  refine wpAny_pure (wpAny_newFunctionEnv T.cells (λx hx=>nomatch hx) (λh₁ hns hsb=>⟨(N.lim.keeps ok.keep).fresh _ hsb,?_⟩) T.kind)
  show codeAny _ _ (.expr (c.lm f).body (envX (c.lm f).qual (c.lm f).scope s.heap.objs.size a (.ref cv) clos)) _ _
  generalize he:envX (c.lm f).qual (c.lm f).scope s.heap.objs.size a (.ref cv) clos=env
  have hk₁:∀b o,s.heap.get? b=some o->h₁.get? b=some o:=λb o e=>hsb.extBut b o (Nat.ne_of_lt (Heap.lt_size e)) (Heap.get?_push_of_some _ e)
  have ok1:=ok.push (s':={ s with heap:=h₁,toks:=s.toks + 0}) (a:=s.heap.objs.size) (ms:=[]) (f:=λx=>([]:List (PySem.Str×Value)).reverse.lookup x) (Heap.get?_none_of_le (Nat.le_refl _)) hk₁ hns (λy=>trivial)
  have le1:=ok.ext s.heap.objs.size
  have hro:(l.put st.n s.heap.objs.size).ρ st.n=some s.heap.objs.size:=Ok.put_self
  have efr:env.frame=some s.heap.objs.size:=by rw [<- he]
  have hfo:Fo (st.n::ids) (l.put st.n s.heap.objs.size) (A.deeper env):=by
    refine E1_2 ((hA.fo.le le1).cons st.n) λes e1 e2=>?_
    refine ⟨_,Around.frames_deeper e1,λy hy=>?_⟩
    rcases List.mem_cons.mp hy with rfl | hy
    · exact ⟨by rw [show y.scope=(c.lm f).scope from by rw [<- he],T.kind];decide,st.n,.head _,_,hro,efr⟩
    · exact e2 y hy
  rw [T.bd,T.tb] at h
  refine kla_codeExpr (T.body ⟨r,cs,dp + 1,cfX kx,p,false,some none⟩ (st.n::ids) _ _ _ (kRet (kSeq sNil ⟨r,cs,dp + 1,cfX kx,p,false,some none⟩ (ziM k))) (A.deeper env) env _ _ ⟨rfl,hr,?_,λ_=>hA.free,(by rintro _ ⟨⟩),λ_ _=>?_,?_,?_,h0.trans le1⟩ h ok1 ?_)
  · have h1:=hA.depth
    have h2:=hA.units
    exact ⟨show A.depth + 1<=100 + 10 * (dp + 1) by omega,show A.units + 3<=200 + 30 * (dp + 1) by omega,hdp,hfo⟩
  · refine E1_2 hA.fo λes e2 _=>?_
    exact ⟨es,_,Around.frames_deeper e2,efr⟩
  · subst he
    exact ⟨T.kind,λy=>rfl,⟨st.n,ids,rfl,hro⟩,rfl,rfl,λy q e=>let ⟨b,e1,e2⟩:=r4 y q e;⟨b,e1,le1.1 _ _ e2⟩⟩
  · intro l2 v st2 u s2 g le2 ok4 fly
    refine E2_2 (St.pop_spec (show st2.pop (kx v)=true from g)) λz rr e1 g=>?_
    refine E1_2 hA.fo λes e2 _=>?_
    exact zek ok4 fly (Around.frames_deeper e2) efr (hfo.le le2) λh' ok5 fly5=>hx _ _ _ _ _ g (le1.trans le2) (ok5.pop e1 rfl) fly5.pop
  · intro l2 v st2 u s2 g le2 ok4 d
    refine E2_2 (St.pop_spec (show st2.pop (k v)=true from g)) λz rr e1 g1=>?_
    exact hk _ _ _ _ _ g1 (le1.trans le2) (ok4.pop e1 rfl) d
theorem FnAt.isf {f:P} {F:Fn} {o:Obj} {fd:FuncData} {body:List Stmt} {dvals:List Value} (T:FnAt c p f F o fd body dvals):fnIn c.K (c.fv f)=true:=by
  have h1:=T.look
  have h2:=T.data
  obtain ⟨x1,x2,x3,x4⟩:=o
  dsimp only at h2;subst h2
  unfold fnIn;rw [h1]
theorem ziA (N:Nms c) (X:c.K.In c.h₀) {fs:T Fn} (hf:∀f F,fs.at f=some F->(∃o fd body dvals,FnAt c p f F o fd body dvals)\/∃e,LamAt c p f F e):∀n,CallOk c (go p fs n)
  | 0=>⟨(λf args dp ids l st s k kx A vals Q E _ h=>by exact nb h),(λf args cs q g a dp ids l st s k kx A vals Q E h=>by exact nb h)⟩
  | n + 1=>by
    refine ⟨λf args dp ids l st s k kx A vals Q E hi h ok hv hA h0 hk hx=>?_,λf args cs q g a dp ids l st s k kx A vals Q E h ok hq hg ha hv hA h0 hk hx=>?_⟩
    · have h:bq (Nat.blt dp 40) (tget f fs (cfF (go p fs n) p args [] dp st k kx)) false=true:=h
      refine E0_2 (zac h) λh1 h2=>?_
      refine E1_2 (zap _ _ _ h2) λF h3 h4=>?_
      rcases hf f F h3 with ⟨o,fd,body,dvals,T⟩ | ⟨e,T⟩
      · exact zdU N X T (ziA N X hf n) h4 (by simpa [Nat.blt_eq] using h1) ok hv hA h0 hk hx
      · rw [T.nof] at hi;exact nb hi
    · have h:bq (Nat.blt dp 40) (tget f fs (cfF (go p fs n) p args cs dp st k kx)) false=true:=h
      refine E0_2 (zac h) λh1 h2=>?_
      refine E1_2 (zap _ _ _ h2) λF h3 h4=>?_
      rcases hf f F h3 with ⟨o,fd,body,dvals,T⟩ | ⟨e,T⟩
      · refine E2_4 (ok.at_ hq (by rintro ⟨⟩)) ?_;rintro _ _ _ _ ⟨_,_,_,_,z,_⟩ _
        rw [T.isf] at z;exact nf z
      · exact zel N X T (ziA N X hf n) h4 (by simpa [Nat.blt_eq] using h1) ok hq hg ha hv hA h0 hk hx
end
end Mine
end
section
open PySem PySem.W PyProof.Rows PySem.Calls Builtin Builtin.ObjectAttr PySem.MeetsSeq PySem.MeetsSeq2 PySem.MeetsSeq3
namespace Mine
structure Gx (c:Cn) (mg mb:PySem.Str->Option Value):Prop where
  g:c.h₀.Ns mainGlobals mg
  b:c.h₀.Ns builtinsNs mb
noncomputable def GIs (c:Cn) (p:Pg) (g:P) (u:Value):Prop:=match p.g.at g with
  | some (.val v)=>∀l,c.l0.Le l->DV c l v u
  | some _=>u=c.gv g
  | none=>True
section
variable {c:Cn} {p:Pg} {kd:PySem.Str->Option NameKind} {pos:Pos} {n:Nat} {atts:List Nat} {mg mb:PySem.Str->Option Value}
theorem zbn {g:G} {a b:P->Bool} {d:Nat->Bool} {e:V->Bool} {f:Bool} (h:zgF g a b d e f=true):
    (∃i,g=.fn i/\a i=true)\/(∃i,g=.cl i/\b i=true)\/(∃i,g=.bi i/\d i=true)\/(∃v,g=.val v/\e v=true)\/(g=.drw/\f=true):=by
  cases g
  · exact .inl ⟨_,rfl,h⟩
  · exact .inr (.inl ⟨_,rfl,h⟩)
  · exact .inr (.inr (.inl ⟨_,rfl,h⟩))
  · exact .inr (.inr (.inr (.inl ⟨_,rfl,h⟩)))
  · exact .inr (.inr (.inr (.inr ⟨rfl,h⟩)))
theorem zl2 (N:Nms c) (X:Gx c mg mb) {g:P} {x:PySem.Str} {u:Value} (e:kd x=some .globalImplicit) (hd:(x==("__debug__":PySem.Str))=false) (hu:mg x=some u\/(mg x=none/\mb x=some u)) (hg:GIs c p g u):
    SEv c p kd (xGlo g) (.Name x pos):=by
  intro y ids l st s k A env Q E am h ok hk
  refine E1_2 (zap _ _ _ (show tget g y.p.g (gl1 g st k)=true from h)) λo h1 h2=>?_
  rw [am.pg] at h1
  have fin:Q u s:=by
    unfold GIs at hg
    rw [h1] at hg
    rcases zbn h2 with ⟨i,rfl,h⟩ | ⟨i,rfl,h⟩ | ⟨i,rfl,h⟩ | ⟨v,rfl,h⟩ | ⟨rfl,h⟩
    · exact hk _ (.glo g) _ _ _ h (.refl _) ok hg
    · exact hk _ (.glo g) _ _ _ h (.refl _) ok hg
    · exact hk _ (.glo g) _ _ _ h (.refl _) ok hg
    · exact hk _ v _ _ _ h (.refl _) ok (hg l am.base)
    · exact hk _ (.glo g) _ _ _ h (.refl _) ok hg
  refine Name_function_global am.env.kind ((am.env.names _).trans e) ?_ hd
  rcases hu with hu | ⟨hu,hb⟩
  · exact loadGlobal_global (by rw [am.env.glo];exact X.g.keeps ok.keep) hu fin
  · exact loadGlobal_builtin (by rw [am.env.glo];exact X.g.keeps ok.keep) hu (by rw [am.env.blt];exact X.b.keeps ok.keep) hb fin
theorem zf4 {r:CF} (hr:CallOk c r) {f:P} {args:List V} {dp:Nat} {ids:List P} {l:Vl} {st:St} {s:Shared} {k kx:KV} {A:Around} {vals:List Value} {Q E:Value->Shared->Prop}
    (hi:fnIn c.K (c.fv f)=true) (h:r f args [] dp st k kx=true) (ok:Ok c ids l st s) (hv:DVs c l args vals) (hA:Rc ids l A dp) (h0:c.l0.Le l) (hk:PV c ids l k Q) (hx:PX c ids l kx E):wpAny (Md c) A (call (.ref (c.fv f)) vals) Q E s:=
  wpAny_call (codeAny_mono (hr.fn _ _ _ _ _ _ _ _ _ _ _ _ _ hi h ok hv hA h0 hk hx) λr s z=>by
    rcases r with e | (_ | _ | _ | v) <;> exact z)
theorem zbS (C:Addr) (args:List Value):(Code.builtin "type.__call__" ⟨.ref C::args,[]⟩).weight<=1/\(Code.builtin "type.__call__" ⟨.ref C::args,[]⟩).cUnits<=10:=
  ⟨Nat.le_of_ble_eq_true rfl,Nat.le_of_ble_eq_true rfl⟩
theorem ziP (F:Fx c p atts) {r:CF} (hr:CallOk c r) {i:P} {args:List V} {dp:Nat} {ids:List P} {l:Vl} {st:St} {s:Shared} {k kx:KV} {A:Around} {vals:List Value} {Q E:Value->Shared->Prop}
    (h:zhC p r args dp st k kx i=true) (hpl:c.plain i=true) (ok:Ok c ids l st s) (hv:DVs c l args vals) (hA:Rm ids l A dp) (hf:A.handled=none) (h0:c.l0.Le l) (hk:PV c ids l k Q) (hx:PX c ids l kx E):wpAny (Md c) A (call (.ref (c.cv i)) vals) Q E s:=by
  refine E1_2 (zap _ _ _ h) λC hC h=>?_
  have X:=F.kin.keeps ok.keep
  have K1:=F.cls i hpl
  have M1:=F.makes i hpl
  obtain ⟨hh,gg,dd,tk,os⟩:=s
  rcases bq_t (show bq C.ex (bq (zah args 30) (st.add (.exc i none false) (zf2 r C args dp k kx)) false) (st.add (.ns []) (zf1 r i C args dp k kx))=true from h) with ⟨hex,h⟩ | ⟨hex,h⟩
  · refine E1_2 (F.tab i hpl) λC' hC' hx'=>?_
    rw [hC] at hC';(replace hC':=si hC';subst hC')
    rw [hx'] at hex;exact nb hex
  · refine E1_4 (zaz (s':=⟨hh.push emptyDict,gg,dd,tk,os⟩) ok (show st.add (.ns []) (zf1 r i C args dp k kx)=true from h) (ob:=emptyDict) rfl rfl ⟨[],0,rfl,.nil⟩) λst1 ok1 le1 d1 h=>?_
    refine E1_2 d1 ?_;clear d1;intro a1 q1 q2
    cases q2
    refine E1_4 (zaz (s':=⟨(hh.push emptyDict).push (instObj (c.cv i) hh.objs.size),gg,dd,tk,os⟩) ok1 h (ob:=instObj (c.cv i) hh.objs.size) rfl rfl
      ⟨hh.objs.size,(ok1.ext _).1 _ _ q1,rfl,hpl⟩) λst2 ok2 le2 d2 h=>?_
    have h:Option.rec false (inF r args dp k kx st1.n st2) C.ini=true:=h
    cases hi:C.ini with
    | none=>rw [hi] at h;exact nb h
    | some f=>
      rw [hi] at h
      have I:=F.ini i C f hpl hC hi
      have le12:=le1.trans le2
      have hsz:(hh.push emptyDict).objs.size=hh.objs.size + 1:=Heap.size_push ..
      refine wpAny_call (make_core (makes_of X M1.1) (looks_findIn X I.1) (λself=>bind_fn X self I.2.1) (.inl rfl) ?_)
      have W:=zbS (c.cv i) vals
      refine codeAny_mono (hr.fn f (.ref st1.n::args) dp ids _ st2 _ (zj6 st1.n k) kx _ (.ref (hh.objs.size + 1)::vals) (λu s'=>u=.none/\Q (.ref (hh.objs.size + 1)) s') E I.2.2 h ok2 (.cons (hsz▸d2) (hv.le le12)) ?_ (h0.trans le12) ?_ (hx.le le12)) λr s z=>?_
      · have h1:=hA.depth
        have h2:=hA.units
        exact ⟨show A.depth + _<=_ by omega,show A.units + _<=_ by omega,hf,hA.fo.le le12⟩
      · intro l3 v st3 u s3 g3 le3 ok3 d3
        cases v <;> first | exact nb g3 | skip
        cases d3
        exact ⟨rfl,hk _ _ _ _ _ g3 (le12.trans le3) ok3 (hsz▸d2.le le3)⟩
      · rcases r with e | (_ | _ | _ | v) <;> exact z
structure BiOk (c:Cn) (p:Pg):Prop where
  keep:∀g b,p.g.at g=some (.bi b)->∀h,zbg (Md c) h (c.gv g)
  call:∀g b,p.g.at g=some (.bi b)->∀args dp ids l st s k A vals Q E,zhK p args st k b=true->Ok c ids l st s->DVs c l args vals->Rm ids l A dp->A.handled=none->c.l0.Le l->PV c ids l k Q->wpAny (Md c) A (call (c.gv g) vals) Q E s
structure DrOk (c:Cn) (p:Pg):Prop where
  keep:∀g,p.g.at g=some .drw->∀h,c.K.In h->zbg (Md c) h (c.gv g)
  call:∀g,p.g.at g=some .drw->∀args dp ids l st s k A vals Q E,draw args st k=true->dp < 40->Ok c ids l st s->DVs c l args vals->Rm ids l A dp->A.handled=none->c.l0.Le l->PV c ids l k Q->wpAny (Md c) A (call (c.gv g) vals) Q E s
structure XcOk (c:Cn) (p:Pg):Prop where
  keep:∀g i C,p.g.at g=some (.cl i)->c.plain i=false->p.c.at i=some C->∀h,c.K.In h->zbg (Md c) h (c.gv g)
  call:∀g i C,p.g.at g=some (.cl i)->c.plain i=false->p.c.at i=some C->∀r args dp ids l st s k kx A vals Q E,CallOk c r->zhD r i args dp st k kx C=true->Ok c ids l st s->DVs c l args vals->Rm ids l A dp->A.handled=none->c.l0.Le l->PV c ids l k Q->PX c ids l kx E->wpAny (Md c) A (call (c.gv g) vals) Q E s
theorem zdT {K:Frag} {f:Addr} (h:fnIn K f=true):keepIn K (.ref f)=true:=by
  unfold fnIn at h
  unfold keepIn
  split at h
  · rename_i e;simp only [e]
  · exact nb h
theorem zl7 (F:Fx c p atts) (B:BiOk c p) (D:DrOk c p) (XC:XcOk c p) {f:Ev} {es:Evs} {x:PySem.Str} {px:Pos} {exs:List Expr} (h1:SEv c p kd f (.Name x px)) (ns:NS exs) (h2:SEvs c p kd es exs):
    SEv c p kd (xCal f es) (.Call (.Name x px) exs [] pos):=by
  intro y ids l st s k A env Q E am h ok hk
  rw [arm_eval_Call_Name']
  refine wpAny_bind (h1 _ _ _ _ _ _ _ _ _ _ am h ok ?_)
  intro l1 v st1 u s1 g1 le1 ok1 d1
  refine zgN ns h2 (am.le le1) (show es y st1 (zkk y k v)=true from g1) ok1 ?_
  intro l2 vs st2 us s2 g2 le2 ok2 d2 e2
  have am2:=am.le (le1.trans le2)
  refine E0_2 (za2 (show bq y.hd false (zld y.p y.r v vs y.dp st2 k y.kx)=true from g2)) λhd0 g3=>?_
  clear g2
  have g2:=g3
  clear g3
  have fr:=am.free hd0
  have X:=F.kin.keeps ok2.keep
  rw [am.pg] at g2
  have d1':=d1.le le2
  cases v <;> first | exact nb g2 | skip
  · rename_i q
    replace g2:st2.get q (zle y.r vs y.dp st2 k y.kx)=true:=g2
    replace g2:=St.get_spec g2
    cases ho:st2.t.at q <;> rw [ho] at g2 <;> first | exact nb g2 | skip
    rename_i f cs g
    replace g2:=St.get_spec (show st2.get g (caC y.r vs y.dp st2 k y.kx f cs)=true from g2)
    cases hg:st2.t.at g <;> rw [hg] at g2 <;> first | exact nb g2 | skip
    rename_i f'
    refine E0_2 (zac (show bq (peq f f') (y.r f vs cs y.dp st2 k y.kx) false=true from g2)) λe1 g5=>?_
    have e1:=(zag _ _).mp e1
    subst e1
    refine E2_4 (ok2.at_ ho (by rintro ⟨⟩)) ?_;rintro a ob q1 q2 ⟨clos,cv,ctv,_,_,rfl,_⟩ _
    refine E1_2 d1' ?_;clear d1';rintro a' q3 rfl
    rw [q1] at q3;(replace q3:=si q3;subst q3)
    rw [List.nil_append]
    refine ⟨⟨.frame,.inl rfl,(Looks.ld (part:=none) q2).andThen .now⟩,wpAny_call (codeAny_mono (am.call.lam f vs cs q g a y.dp ids _ st2 s2 k y.kx A us Q E g5 ok2 ho hg q1 d2 (am2.room.call fr) am2.base (hk.le (le1.trans le2)) am2.exc) λr s z=>?_)⟩
    rcases r with e | (_ | _ | _ | v) <;> exact z
  · rename_i g
    cases d1'
    refine E1_2 (zap _ _ _ (show tget g p.g (zlg p y.r vs y.dp st2 k y.kx)=true from g2)) λG hG g2=>?_
    rw [List.nil_append]
    rcases zbn g2 with ⟨i,rfl,h⟩ | ⟨i,rfl,h⟩ | ⟨i,rfl,h⟩ | ⟨v,rfl,h⟩ | ⟨rfl,h⟩
    · have G1:=F.gfn g i hG
      rw [G1.1]
      exact ⟨keeps_K (zdT G1.2) _ X,zf4 am.call G1.2 h ok2 d2 (am2.room.call fr) am2.base (hk.le (le1.trans le2)) am2.exc⟩
    · have G1:=F.gcl g i hG
      by_cases hp:c.plain i=true
      · rw [G1]
        exact ⟨keeps_K (F.makes i hp).2 _ X,ziP F am.call h hp ok2 d2 am2.room fr am2.base (hk.le (le1.trans le2)) am2.exc⟩
      · have hp':c.plain i=false:=by simpa using hp
        refine E1_2 (zap _ _ _ h) λC hC h=>?_
        exact ⟨XC.keep g i C hG hp' hC _ X,XC.call g i C hG hp' hC _ _ _ _ _ _ _ _ _ _ _ _ _ am.call h ok2 d2 am2.room fr am2.base (hk.le (le1.trans le2)) am2.exc⟩
    · exact ⟨B.keep g i hG _,B.call g i hG _ _ _ _ _ _ _ _ _ _ _ h ok2 d2 am2.room fr am2.base (hk.le (le1.trans le2))⟩
    · exact nb h
    · refine E0_2 (zac (show bq (Nat.blt y.dp 40) (draw vs st2 k) false=true from h)) λhdp h=>?_
      exact ⟨D.keep g hG _ X,D.call g hG _ _ _ _ _ _ _ _ _ _ _ h (by simpa [Nat.blt_eq] using hdp) ok2 d2 am2.room fr am2.base (hk.le (le1.trans le2))⟩
theorem zfw (F:Fx c p atts) {x:Nat} {ids:List P} {l:Vl} {st:St} {s:Shared} (ok:Ok c ids l st s) {q ci d f:P} {m:Bs} {C:Cl} {a:Addr} (ho:st.t.at q=.inst ci d) (hm:st.t.at d=.ns m) (hx:lk m x=none) (hC:p.c.at ci=some C) (hf:lk C.mt x=some f)
    (ha:l.ρ q=some a) {pl:Sem Bool} {A:Around} {Q:Value×List Value->Shared->Prop} {E:Value->Shared->Prop} (h:Q (.ref (c.fv f),[.ref a]) s):wpAny (Md c) A (getMethod (.ref a) (c.nm x) pl) Q E s:=by
  refine E4_7 (zcN ok ho hm) λx' dx es n g1 g2 g3 g4 I g6 pl'=>?_
  rw [ha] at g1;(replace g1:=si g1;subst g1)
  have X:=F.kin.keeps ok.keep
  have K1:=F.cls ci pl'
  have M:=F.meth ci C x f pl' hC hf
  have gl:=zdS F.nms g4 x
  rw [hx] at gl
  exact method_fn X I (plainGet_of K1.get).1 (plainGet_of K1.get).2 M.find M.fn (by show (lookIn (c.nm x) (dictOf es n)).map _=_;rw [lookIn_dict,gl];rfl) h
theorem zch {es:List Expr} (ns:NS es) (pos:Pos) (env:Env):(backTo pos (starEach es env)).all (λx=>!x.1)=true:=by
  induction ns with
  | nil=>rfl
  | cons a _ ih=>rw [a];simpa [backTo] using ih
theorem zaV (id:String) (h:Heap):zbg (Md c) h (.builtin id):=⟨.machine,.inr (.inl rfl),.now⟩
theorem zas {o:O} {k:List V->Bool} (h:oLst o k=true):∃m,o=.lst m/\k m=true:=by cases o <;> first | exact ⟨_,rfl,h⟩ | exact nb h
theorem zaO {o:O} {k:List V->Bool} (h:oTup o k=true):∃m,o=.tup m/\k m=true:=by cases o <;> first | exact ⟨_,rfl,h⟩ | exact nb h
theorem zar {o:O} {k k':List V->Bool} (h:oSeq o k k'=true):(∃m,o=.tup m/\k m=true)\/∃m,o=.lst m/\k' m=true:=by cases o <;> first | exact .inl ⟨_,rfl,h⟩ | exact .inr ⟨_,rfl,h⟩ | exact nb h
theorem zaq {ids:List P} {l:Vl} {st:St} {s:Shared} (ok:Ok c ids l st s) {q:P} {xs:List V} {a:Addr} (h:st.t.at q=.lst xs) (ha:l.ρ q=some a):
    ∃vs n,s.heap.get? a=some { cls:=.type "list",data:=.seq (List.toArray vs) n}/\DVs c l xs vs/\l.hx.get? a=none:=by
  refine E2_4 (ok.at_ h (by rintro ⟨⟩)) ?_;rintro a' ob q1 q2 ⟨vs,n,rfl,h3⟩ h4
  rw [ha] at q1;(replace q1:=si q1;subst q1)
  exact ⟨vs,n,q2,h3,h4 rfl⟩
theorem zbk {ids:List P} {l:Vl} {st:St} {s s':Shared} (ok:Ok c ids l st s) {q:P} {xs ys:List V} {a:Addr} {us:List Value} {n:Nat} {t':TO} (h:st.t.at q=.lst xs) (ha:l.ρ q=some a)
    (hk:∀b u,b≠a->s.heap.get? b=some u->s'.heap.get? b=some u) (ho:s'.heap.get? a=some { cls:=.type "list",data:=.seq (List.toArray us) n}) (d:DVs c l ys us) (ht:∀x,t'.at x=if x=q then .lst ys else st.t.at x) (hz:Same s s':=by exact ⟨rfl,rfl⟩):
    Ok c ids l ⟨t',st.n,st.m,st.k⟩ s':=ok.upd (o':=.lst ys) h rfl (by rintro ⟨⟩) ha hk (.inr ⟨_,ho,us,n,rfl,d⟩) ht hz
theorem zkX {l:Vl} {q:P} {u:Value} (h:DV c l (.ref q) u):∃a,l.ρ q=some a/\u=.ref a:=h
theorem zcs (f:Array Value->Array Value) (xs:Array Value) (n:Nat):∃m,Obj.mapSeq f { cls:=.type "list",data:=.seq xs n}={ cls:=.type "list",data:=.seq (f xs) m}:=by
  unfold Obj.mapSeq;exact ⟨_,rfl⟩
theorem All2.snoc {α β:Type} {R:α->β->Prop}:∀{l:List α} {x:α} {m:List β},All2 R (l++[x]) m->∃r y,m=r++[y]/\All2 R l r/\R x y
  | [],x,_,.cons h .nil=>⟨[],_,rfl,.nil,h⟩
  | a::l,x,_,.cons h r=>by
    refine E2_3 (All2.snoc r) λs y e h1 h2=>?_
    exact ⟨_::s,y,by rw [e];rfl,.cons h h1,h2⟩
theorem zdq (l:List Value) (i:Nat):l.toArray.eraseIdxIfInBounds i=(l.eraseIdx i).toArray:=by
  unfold Array.eraseIdxIfInBounds
  split
  · simp
  · rename_i h
    have h:l.length<=i:=by simpa using h
    rw [List.eraseIdx_of_length_le h]
theorem zc5:∀(xs:List V) (i:Nat) (k:List V->V->Bool),outN xs i k=true->∃y,xs[i]? =some y/\k (xs.eraseIdx i) y=true
  | [],i,k,h=>by exact nb h
  | x::r,0,k,h=>⟨x,rfl,h⟩
  | x::r,i + 1,k,h=>zc5 r i (outP x k) h
theorem All2.eraseIdx {α β:Type} {R:α->β->Prop} {l:List α} {m:List β} (h:All2 R l m):∀i,All2 R (l.eraseIdx i) (m.eraseIdx i):=by
  induction h with
  | nil=>exact λi=>.nil
  | cons a b ih=>exact λi=>match i with | 0=>b | i + 1=>.cons a (ih i)
theorem zgB {i:Nat} (h:i < 400):Builtin.List.listFitsIndex (.ofNat i)=true:=by
  unfold Builtin.List.listFitsIndex
  rw [Bool.and_eq_true,decide_eq_true_eq,decide_eq_true_eq]
  constructor
  · show (-(2 ^ 63):Int)<=(i:Int);omega
  · show (i:Int) < 2 ^ 63;omega
theorem zc1 {i n:Nat} (h:i < n):seqIndex? (.ofNat i) n=some i:=by
  unfold seqIndex?
  rw [if_neg (show ¬ (Int.ofNat i < 0) from Int.not_lt.mpr (Int.natCast_nonneg i)),if_pos]
  · rfl
  · rw [Bool.and_eq_true,decide_eq_true_eq,decide_eq_true_eq]
    exact ⟨Int.natCast_nonneg i,Int.ofNat_lt.mpr h⟩
theorem zgt (q:P) (x:Nat) (args:List V) {ids:List P} {l:Vl} {st:St} {s:Shared} {k:KV} {A:Around} {vals:List Value} {Q E:Value->Shared->Prop} {a:Addr} {id:String}
    (h:st.get q (mcL2 q x args st k)=true) (ha:l.ρ q=some a) (ok:Ok c ids l st s) (hv:DVs c l args vals) (hk:PV c ids l k Q) (hid:(x=0/\id="list.append")\/(x=1/\id="list.pop")\/(x=2/\id="list.extend")):
    wpAny (Md c) A (call (.builtin id) (.ref a::vals)) Q E s:=by
  refine E1_2 (zas (St.get_spec h)) λxs hx h=>?_
  refine E0_2 (zac (show bq (zah xs 300) _ false=true from h)) λhz h=>?_
  have hz:=zae _ _ hz
  refine E2_3 (zaq ok hx ha) λvs n g1 g2 g3=>?_
  have hl:vs.length<=300:=by rw [<- g2.length];exact hz
  have upd:∀(f:Array Value->Array Value) (ys:List V) (us:List Value) (r:V) (rv:Value) (w:St->Bool),st.put q (.lst ys) w=true->(∀st',w st'=true->k r st'=true)->f vs.toArray=us.toArray->DVs c l ys us->DV c l r rv->Q rv { s with heap:=s.heap.update a (Obj.mapSeq f)}:=by
    intro f ys us r rv w hw hwk hf hd hr
    refine E1_2 (St.put_spec hw) λt' h1 h2=>?_
    refine E1_1 (zcs f vs.toArray n) λm hm=>?_
    refine hk _ _ _ _ _ (hwk _ h1) (.refl _) (zbk (n:=m) ok hx ha (λb u e z=>(Heap.get?_update_other _ _ (Ne.symm e)).trans z) ?_ hd h2) hr
    rw [Heap.get?_update_self _ g1 (by rw [hm];rfl),hm,hf]
  cases hv with
  | nil=>
    refine E0_2 (zac (show bq (Nat.beq x 1) (zir xs (kPop q st k)) false=true from h)) λe h=>?_
    rw [Nat.beq_eq] at e
    refine E2_2 (zcv _ _ h) ?_;rintro r y rfl h5
    rcases hid with ⟨e',rfl⟩ | ⟨e',rfl⟩ | ⟨e',rfl⟩
    · exfalso;omega
    · refine E2_3 g2.snoc ?_;rintro ws u rfl w1 w2
      refine call_meets PySem.F.slot_list_pop ⟨_,g1,rfl⟩ PySem.F.entry_list_pop (PySem.F.args_list_pop_1 _) (list_pop_last a (ws++[u]).toArray n u (by simp) (by rw [List.size_toArray,sizeLine_eq];omega)) ⟨g1,?_⟩
      exact upd (λxs=>xs.eraseIdxIfInBounds ((ws++[u]).toArray.size - 1)) r ws y u (kVS k y) h5 (λst' z=>z) (by rw [zdq,show (ws++[u]).toArray.size - 1=ws.length by simp,List.eraseIdx_append_of_length_le (Nat.le_refl _)];simp) w1 w2
    · exfalso;omega
  | @cons v u vs' us' d ds=>
    cases ds with
    | cons _ _=>exact nb h
    | nil=>
      have h:lst1 q xs x st k v=true:=h
      rcases hid with ⟨rfl,rfl⟩ | ⟨rfl,rfl⟩ | ⟨rfl,rfl⟩
      · have h:=zaG _ _ _ (show appL xs [v] (zis q st k)=true from h)
        refine append_at g1 (λh' hs ho=>?_) (by rw [List.size_toArray,sizeLine_eq];omega)
        refine E1_2 (St.put_spec (show st.put q (.lst (xs++[v])) (zke k)=true from h)) λt' h1 h2=>?_
        refine hk _ .non _ _ _ h1 (.refl _) (zbk (us:=vs++[u]) (n:=n + 1) ok hx ha (λb w e z=>(hs.2 b e).trans z) ?_ (g2.append (.cons d .nil)) h2) rfl
        rw [ho];simp
      · refine E1_2 (zam (show vInt v (pop0 q xs st k)=true from h)) ?_;rintro i rfl h
        cases i with
        | negSucc=>exact nb h
        | ofNat i=>
        refine E1_2 (zc5 xs i _ (show outN xs i (kPop q st k)=true from h)) λy hy h=>?_
        refine E1_1 d ?_;clear d;rintro t rfl
        refine E1_2 (g2.get hy) λu hu w1=>?_
        have hi:i < vs.length:=(List.getElem?_eq_some_iff.mp hu).1
        have hf:=zgB (i:=i) (by omega)
        have hs:seqIndex? (.ofNat i) vs.toArray.size=some i:=by rw [List.size_toArray];exact zc1 hi
        have hy':vs.toArray[i]? =some u:=by simpa using hu
        have hz':vs.toArray.size<=sizeLine:=by rw [List.size_toArray,sizeLine_eq];omega
        generalize Int.ofNat i=ii at hf hs
        have M:=list_pop_at a vs.toArray n ii t i u hf hs hy' hz'
        refine call_meets PySem.F.slot_list_pop ⟨_,g1,rfl⟩ PySem.F.entry_list_pop (PySem.F.args_list_pop_2 _ _) M ⟨g1,?_⟩
        exact upd (λxs=>xs.eraseIdxIfInBounds i) (xs.eraseIdx i) (vs.eraseIdx i) y u (kVS k y) h (λst' z=>z) (zdq _ _) (g2.eraseIdx i) w1
      · refine E1_2 (zak (show vRef v (extR q xs st k)=true from h)) ?_;rintro b rfl h
        refine E1_2 (zas (St.get_spec (show st.get b (extO q xs st k)=true from h))) λys hy h=>?_
        refine E0_2 (zac (show bq (zah ys 300) _ false=true from h)) λhz2 h=>?_
        have hz2:=zae _ _ hz2
        have h:=zaG _ _ _ h
        refine E1_2 (zkX d) ?_;rintro ab hb rfl
        refine E2_3 (zaq ok hy hb) λws n2 w1 w2 w3=>?_
        have hl2:ws.length<=300:=by rw [<- w2.length];exact hz2
        refine call_meets PySem.F.slot_list_extend ⟨_,g1,rfl⟩ PySem.F.entry_list_extend (PySem.F.args_list_extend_2 _ _) (AutoSeq1.list_extend_list_list_0 a vs.toArray n ab ws.toArray n2 (by simp [Builtin.List.listTooLong,sizeLine_eq];omega) (by rw [List.size_toArray,sizeLine_eq];omega) (by rw [List.size_toArray,List.size_toArray,sizeLine_eq];omega)) ⟨g1,w1,?_⟩
        exact upd (λxs=>xs++ws.toArray) _ (vs++ws) .non .none _ h (λst' z=>z) (by simp) (g2.append w2) rfl
theorem zlY (F:Fx c p atts) (hn:c.nm 0="append"/\c.nm 1="pop"/\c.nm 2="extend") {o:Ev} {eo:Expr} {x:Nat} {es:Evs} {exs:List Expr} {apos:Pos} (h1:SEv c p kd o eo) (hs:zbf eo) (ns:NS exs) (h2:SEvs c p kd es exs) (hz:exs.length < 30)
    (hline:(apos.endLine==pos.line)=true):SEv c p kd (xMca o x es) (.Call (.Attribute eo (c.nm x) apos) exs [] pos):=by
  intro y ids l st s k A env Q E am h ok hk
  rw [arm_eval_Call,hs]
  refine wpAny_bind (h1 _ _ _ _ _ _ _ _ _ _ am h ok ?_)
  intro l1 v st1 u s1 g1 le1 ok1 d1
  refine wpAny_bind (wpAny_standAt ?_)
  have hform:methodCallForm (exs.length + ([]:List Keyword).length) (backTo pos (starEach exs env)) (backToKw pos (keywordEach [] env))=true:=by
    unfold methodCallForm
    rw [zch ns]
    simpa [backToKw,keywordEach] using hz
  have hpos:methodCallPos true eo env apos pos=pure pos:=by unfold methodCallPos;simp [hline]
  have am1:=am.le le1
  have go:∀(f:Value) (first:List Value),(∀Q':Value×List Value->Shared->Prop,Q' (f,first) s1->wpAny (Md c) A (getMethod u (c.nm x) (do return (<- importBound eo env).getD true)) Q' E s1)->∀kL,es y st1 kL=true->
      (∀l' vs st2 us s2,kL vs st2=true->l1.Le l'->Ok c ids l' st2 s2->DVs c l' vs us->us.length=exs.length->zbg (Md c) s2.heap f/\wpAny (Md c) A (call f (first++us)) Q E s2)->
      wpAny (Md c) A (methodCall eo (c.nm x) apos pos env u (exs.length + ([]:List Keyword).length) (backTo pos (starEach exs env)) (backToKw pos (keywordEach [] env))) Q E s1:=by
    intro f first hg kL hL hc
    unfold methodCall
    rw [hform]
    refine wpAny_bind (wpAny_holding (hg _ ?_))
    exact wpAny_bind (wpAny_of_eq hpos (zgN ns h2 am1 hL ok1 hc))
  refine E1_2 (zak (show vRef v (mcR x es y st1 k)=true from g1)) ?_;rintro q rfl g1
  · refine E1_2 d1 ?_;clear d1;rintro a ha rfl
    have g2:mcO q x es y st1 k (st1.t.at q)=true:=St.get_spec (show st1.get q (mcO q x es y st1 k)=true from g1)
    cases ho:st1.t.at q <;> rw [ho] at g2 <;> first | exact nb g2 | skip
    · rename_i xs
      refine E2_3 (zaq ok1 ho ha) λvs0 n0 q2 _ _=>?_
      refine E0_2 (zac (show bq (Nat.ble x 2) (es y st1 (mcL1 q x k)) false=true from g2)) λe0 g5=>?_
      rw [Nat.ble_eq] at e0
      have fin:∀id,(x=0/\id="list.append")\/(x=1/\id="list.pop")\/(x=2/\id="list.extend")->Slot "list" (c.nm x) id->typeOf (.builtin id)=pure (.type "method_descriptor")->
          wpAny (Md c) A (methodCall eo (c.nm x) apos pos env (.ref a) (exs.length + ([]:List Keyword).length) (backTo pos (starEach exs env)) (backToKw pos (keywordEach [] env))) Q E s1:=by
        intro id hid sl ty
        refine go (.builtin id) [.ref a] (λQ' hq=>getMethod_builtin (T:="list") ⟨_,q2,rfl⟩ PySem.F.plainAttrs_list sl ty (λb hb=>by cases hb;exact ⟨_,q2,rfl⟩) hq) _ g5 ?_
        intro l2 vs st2 us s2 g4 le2 ok2 d2 e2
        exact ⟨zaV _ _,zgt q x vs g4 (le2.1 _ _ ha) ok2 d2 (hk.le (le1.trans le2)) hid⟩
      have e3:x=0\/x=1\/x=2:=by omega
      rcases e3 with rfl | rfl | rfl
      · exact fin _ (.inl ⟨rfl,rfl⟩) (hn.1▸PySem.F.slot_list_append) PySem.F.type_list_append
      · exact fin _ (.inr (.inl ⟨rfl,rfl⟩)) (hn.2.1▸PySem.F.slot_list_pop) PySem.F.type_list_pop
      · exact fin _ (.inr (.inr ⟨rfl,rfl⟩)) (hn.2.2▸PySem.F.slot_list_extend) PySem.F.type_list_extend
    · rename_i ci d
      have g3:st1.get d (mcN q x es y st1 k ci)=true:=g2
      refine E1_2 (zaC (St.get_spec g3)) λm hm g3=>?_
      rcases zaK _ _ _ _ (show zcJ m x f1 (tget ci y.p.c (mcC q x es y st1 k))=true from g3) with ⟨_,_,z⟩ | ⟨hx,g3⟩
      · exact nb z
      · refine E1_2 (zap _ _ _ g3) λC hC g3=>?_
        rw [am.pg] at hC
        refine E1_2 (zat g3) λf hf g3=>?_
        refine go (.ref (c.fv f)) [.ref a] (λQ' hq=>zfw F ok1 ho hm hx hC hf ha hq) _ (show es y st1 (mcF q f y k)=true from g3) ?_
        intro l2 vs st2 us s2 g4 le2 ok2 d2 e2
        have am2:=am1.le le2
        refine E0_2 (za2 (show bq y.hd false (y.r f (.ref q::vs) [] y.dp st2 k y.kx)=true from g4)) λhd0 g4=>?_
        have fr:=am.free hd0
        have pl:c.plain ci=true:=by (refine E4_7 (zcN ok1 ho hm) λ_ _ _ _ _ _ _ _ _ _ pl=>?_);exact pl
        have M:=F.meth ci C x f pl hC hf
        exact ⟨keeps_K (zdT M.isf) _ (F.kin.keeps ok2.keep),zf4 am.call M.isf g4 ok2 (.cons ⟨a,le2.1 _ _ ha,rfl⟩ d2) (am2.room.call fr) am2.base (hk.le (le1.trans le2)) am2.exc⟩
end
end Mine
end
section
open PySem PySem.W PyProof.Rows PySem.Calls Builtin Builtin.ObjectAttr
namespace Mine
section
variable {c:Cn} {p:Pg} {kd:PySem.Str->Option NameKind} {pos:Pos} {n:Nat} {atts:List Nat}
theorem zaw {x:Int} (h:zan x=true):-1000000000000000001<=x/\x<=1000000000000000000:=by
  cases x with
  | ofNat n=>
    have:=Nat.ble_eq.mp (show Nat.ble n 1000000000000000000=true from h)
    constructor
    · show _<=(n:Int);omega
    · show (n:Int)<=_;omega
  | negSucc n=>
    have:=Nat.ble_eq.mp (show Nat.ble n 1000000000000000000=true from h)
    omega
theorem zeF {q:P} {st:St} {k:KP} {o:O} (h:ziv q st k o=true):(∃xs,o=.tup xs/\st.add (.tit q 0) k=true)\/(∃xs,o=.lst xs/\st.add (.lit q 0) k=true)\/∃a b,o=.rng a b/\zks st k a b=true:=by
  cases o <;> first | exact .inl ⟨_,rfl,h⟩ | exact .inr (.inl ⟨_,rfl,h⟩) | exact .inr (.inr ⟨_,_,rfl,h⟩) | exact nb h
theorem zax {ids:List P} {l:Vl} {st:St} {s:Shared} (ok:Ok c ids l st s) {q:P} {xs:List V} {a:Addr} (h:st.t.at q=.tup xs) (ha:l.ρ q=some a):
    ∃vs n,s.heap.get? a=some { cls:=.type "tuple",data:=.seq (List.toArray vs) n}/\DVs c l xs vs:=by
  refine E2_4 (ok.at_ h (by rintro ⟨⟩)) ?_;rintro a' ob q1 q2 ⟨vs,n,rfl,h3⟩ h4
  rw [ha] at q1;(replace q1:=si q1;subst q1)
  exact ⟨vs,n,q2,h3⟩
theorem zb8 {v:V} {u:Value} {ids:List P} {l:Vl} {st:St} {s:Shared} {k:KP} {A:Around} {Q E:Value->Shared->Prop} (h:za1 v st k=true) (d:DV c l v u) (ok:Ok c ids l st s)
    (hk:∀l' i st' a s',k i st'=true->l.Le l'->Ok c ids l' st' s'->l'.ρ i=some a->Q (.ref a) s'):wpAny (Md c) A (pyIter u) Q E s:=by
  refine E1_2 (zak h) ?_;rintro q rfl h
  refine E1_2 d ?_;clear d;rintro a ha rfl
  rcases zeF (St.get_spec (show st.get q (ziv q st k)=true from h)) with ⟨xs,ho,h⟩ | ⟨xs,ho,h⟩ | ⟨x,y,ho,h⟩
  · refine E2_2 (zax ok ho ha) λvs n g1 g2=>?_
    refine iter_tuple (items:=vs.toArray) ⟨_,g1,rfl,n,rfl⟩ ?_
    refine E1_4 (zaz (s':={ s with heap:=s.heap.push { cls:=.type "tuple_iterator",data:=.fields #[.ref a,.int 0 0]}}) ok h rfl rfl ⟨a,(ok.ext _).1 _ _ ha,rfl,rfl⟩) λst2 ok2 le2 d2 h=>?_
    exact hk _ _ _ _ _ h le2 ok2 Ok.put_self
  · refine E2_3 (zaq ok ho ha) λvs n g1 g2 _=>?_
    refine wpAny_pyIter_list (items:=vs.toArray) ⟨_,g1,rfl,n,rfl⟩ ?_
    refine E1_4 (zaz (s':={ s with heap:=s.heap.push { cls:=.type "list_iterator",data:=.fields #[.ref a,.int 0 0]}}) ok h rfl rfl ⟨a,(ok.ext _).1 _ _ ha,rfl,rfl⟩) λst2 ok2 le2 d2 h=>?_
    exact hk _ _ _ _ _ h le2 ok2 Ok.put_self
  · refine E0_2 (zac h) λh1 h=>?_
    refine E0_2 (zac h) λh2 h=>?_
    have h1:=zaw h1
    have h2:=zaw h2
    refine E2_4 (ok.at_ ho (by rintro ⟨⟩)) ?_;rintro a' ob q1 q2 ⟨t,u,v,rfl⟩ _
    rw [ha] at q1;(replace q1:=si q1;subst q1)
    have hsz:Builtin.Range.rangeSize x y 1=if x < y then y - x else 0:=by
      unfold Builtin.Range.rangeSize
      rw [if_pos (by decide)]
      split
      · rw [Int.ediv_one];omega
      · rfl
    refine wpAny_pyIter_range q2 ?_ ?_
    · unfold Builtin.Range.small
      rw [hsz]
      simp only [Builtin.Range.rangeFitsLong]
      split <;> simp <;> omega
    · refine E1_4 (zaz (s':={ s with heap:=s.heap.push { cls:=.type "range_iterator",data:=.fields #[rawInt x,rawInt (Builtin.Range.rangeSize x y 1),rawInt 1]}}) ok h rfl rfl
        ⟨_,rfl,by rw [hsz];split <;> omega⟩) λst2 ok2 le2 d2 h=>?_
      exact hk _ _ _ _ _ h le2 ok2 Ok.put_self
theorem zcr {it:P} {st:St} {k:KO} {o:O} (h:zjT it st k o=true):(∃q i,o=.lit q i/\st.get q (nxLo it q i st k)=true)\/(∃q i,o=.tit q i/\st.get q (nxTo it q i st k)=true)\/∃a b,o=.rit a b/\nxR it st k a b=true:=by
  cases o <;> first | exact .inl ⟨_,_,rfl,h⟩ | exact .inr (.inl ⟨_,_,rfl,h⟩) | exact .inr (.inr ⟨_,_,rfl,h⟩) | exact nb h
noncomputable def zhU (h:Heap) (a:Addr):Prop:=∃o T vs,h.get? a=some o/\o.cls=.type T/\o.data=.fields vs/\(["enumerate","zip","dict_itemiterator","dict_reverseitemiterator","odict_iterator","itertools.zip_longest","itertools.pairwise"].contains T)=false
theorem zfl {t:Expr} {a:Addr} {u:Value} {s:Shared} {A:Around} {Q:Unit->Shared->Prop} {E:Value->Shared->Prop} (I:zhU s.heap a) (h:Q () s):wpAny (Md c) A (letOwnedTupleGo t (.ref a) u) Q E s:=by
  refine E3_4 I ?_;clear I;intro o T vs h1 h2 h3 h4
  have key:∀b:Addr,wpAny (Md c) A (do
      let o <- load a
      match o.cls,o.data with
      | .type n,.fields vs=>
        if ["enumerate","zip","dict_itemiterator","dict_reverseitemiterator","odict_iterator","itertools.zip_longest","itertools.pairwise"].contains n&&vs[0]? ==some (rawInt b) then
          rule "for.unpacks-the-owned-tuple"
          updateField a 0 .none
      | _,_=>pure ()) Q E s:=λb=>by
    refine wpAny_bind (wpAny_load h1 ?_)
    rw [h2,h3]
    dsimp only
    rw [h4,Bool.false_and,if_neg Bool.false_ne_true]
    exact wpAny_pure h
  unfold letOwnedTupleGo
  cases t <;> first | exact wpAny_pure h | skip
  all_goals (cases u <;> first | exact wpAny_pure h | exact key _)
noncomputable def zn3 (c:Cn) (ids:List P) (l:Vl) (a:Addr) (k:KO) (Q:Option Value->Shared->Prop):Prop:=
  (∀st s,k none st=true->Ok c ids l st s->Q none s)/\∀v u st s,k (some v) st=true->Ok c ids l st s->DV c l v u->zhU s.heap a->Q (some u) s
theorem zd8 {it q:P} {i:Nat} {mk:P->Nat->O} {xs:List V} {st:St} {k:KO} (h:nxS it q i mk st k xs=true):
    (∃v t',xs[i]? =some v/\k (some v) ⟨t',st.n,st.m,st.k⟩=true/\∀x,t'.at x=if x=it then mk q (i + 1) else st.t.at x)\/
    (xs[i]? =none/\∃t',k none ⟨t',st.n,st.m,st.k⟩=true/\∀x,t'.at x=if x=it then .junk else st.t.at x):=by
  have h:=zal _ _ _ (show lenL xs 0 (nxN it q i mk xs st k)=true from h)
  rcases bq_t (show bq (Nat.blt i (0 + xs.length)) _ _=true from h) with ⟨e,h⟩ | ⟨e,h⟩
  · refine E1_2 (zaY _ _ _ h) λv h1 h2=>?_
    refine E1_2 (St.put_spec (show st.put it (mk q (i + 1)) (zgw k v)=true from h2)) λt' h3 h4=>?_
    exact .inl ⟨v,t',h1,h3,h4⟩
  · refine E1_2 (St.put_spec h) λt' h3 h4=>?_
    refine .inr ⟨?_,t',h3,h4⟩
    rw [List.getElem?_eq_none_iff]
    have:¬ i < 0 + xs.length:=λq=>by rw [Nat.blt_eq.mpr q] at e;exact nf e
    omega
theorem zdH {i:P} {a:Addr} {ids:List P} {l:Vl} {st:St} {s:Shared} {k:KO} {A:Around} {Q:Option Value->Shared->Prop} {E:Value->Shared->Prop} (h:zby i st k=true) (ha:l.ρ i=some a) (ok:Ok c ids l st s)
    (hh:A.handled=none) (hk:zn3 c ids l a k Q):wpAny (Md c) A (pyNext (.ref a)) Q E s:=by
  rcases zcr (St.get_spec h) with ⟨q,j,ho,h⟩ | ⟨q,j,ho,h⟩ | ⟨x,y,ho,h⟩
  · refine E2_4 (ok.at_ ho (by rintro ⟨⟩)) ?_;rintro a' ob q1 q2 ⟨b,hb,c1,c2⟩ _
    rw [ha] at q1;(replace q1:=si q1;subst q1)
    refine E1_2 (zas (St.get_spec h)) λxs hx h=>?_
    refine E2_3 (zaq ok hx hb) λvs n g1 g2 _=>?_
    have L:s.heap.IsList b vs.toArray:=⟨_,g1,rfl,n,rfl⟩
    have I:s.heap.IsListIter a b j:=⟨ob,q2,c1,c2⟩
    rcases zd8 h with ⟨v,t',e,h1,h2⟩ | ⟨e,t',h1,h2⟩
    · refine E1_2 (g2.get e) λu e' d=>?_
      refine wpAny_pyNext_list_item I L (by simpa using e') λh' it' hs=>?_
      refine E1_3 it' ?_;clear it';intro o' w1 w2 w3
      exact hk.2 v u _ _ h1 (ok.upd (o':=.lit q (j + 1)) (s':={ s with heap:=h'}) ho rfl (by rintro ⟨⟩) ha (λb u z=>(hs.2 b z).trans) (.inr ⟨o',w1,b,hb,w2,w3⟩) h2) d ⟨o',_,_,w1,w2,w3,by decide⟩
    · refine wpAny_pyNext_list_end hh I L (by rw [List.getElem?_toArray,List.getElem?_eq_none_iff,<- g2.length];simpa using e) λh' he=>?_
      exact hk.1 _ _ h1 (ok.upd (o':=.junk) (s':={ s with heap:=h'}) ho rfl (by rintro ⟨⟩) ha he (.inl rfl) h2)
  · refine E2_4 (ok.at_ ho (by rintro ⟨⟩)) ?_;rintro a' ob q1 q2 ⟨b,hb,c1,c2⟩ _
    rw [ha] at q1;(replace q1:=si q1;subst q1)
    refine E1_2 (zaO (St.get_spec h)) λxs hx h=>?_
    refine E2_2 (zax ok hx hb) λvs n g1 g2=>?_
    have L:IsTup s.heap b vs.toArray:=⟨_,g1,rfl,n,rfl⟩
    have I:IsTupIter s.heap a b j:=⟨ob,q2,c1,c2⟩
    rcases zd8 h with ⟨v,t',e,h1,h2⟩ | ⟨e,t',h1,h2⟩
    · refine E1_2 (g2.get e) λu e' d=>?_
      refine next_tuple_item I L (by simpa using e') λh' it' hs=>?_
      refine E1_3 it' ?_;clear it';intro o' w1 w2 w3
      exact hk.2 v u _ _ h1 (ok.upd (o':=.tit q (j + 1)) (s':={ s with heap:=h'}) ho rfl (by rintro ⟨⟩) ha (λb u z=>(hs.2 b z).trans) (.inr ⟨o',w1,b,hb,w2,w3⟩) h2) d ⟨o',_,_,w1,w2,w3,by decide⟩
    · refine next_tuple_end hh I L (by rw [List.getElem?_toArray,List.getElem?_eq_none_iff,<- g2.length];simpa using e) λh' he=>?_
      exact hk.1 _ _ h1 (ok.upd (o':=.junk) (s':={ s with heap:=h'}) ho rfl (by rintro ⟨⟩) ha he (.inl rfl) h2)
  · refine E2_4 (ok.at_ ho (by rintro ⟨⟩)) ?_;rintro a' ob q1 q2 ⟨m,rfl,hm⟩ _
    rw [ha] at q1;(replace q1:=si q1;subst q1)
    rcases bq_t (show bq (ile y x) _ _=true from h) with ⟨e,h⟩ | ⟨e,h⟩
    · have e:=ile_spec.mp e
      refine E1_2 (St.put_spec h) λt' h1 h2=>?_
      refine wpAny_pyNext_range_end hh q2 (by omega) λh' he=>?_
      exact hk.1 _ _ h1 (ok.upd (o':=.junk) (s':={ s with heap:=h'}) ho rfl (by rintro ⟨⟩) ha he (.inl rfl) h2)
    · have e:¬ y<=x:=λq=>by rw [ile_spec.mpr q] at e;exact nf e
      have h:=zaE h
      refine E1_2 (St.put_spec (show st.put i (.rit (x + 1) y) (zgw k (.int x))=true from h)) λt' h1 h2=>?_
      refine wpAny_pyNext_range_item q2 (by omega) λh' it' hs=>?_
      exact hk.2 (.int x) _ _ _ h1 (ok.upd (o':=.rit (x + 1) y) (s':={ s with heap:=h',toks:=s.toks + 1}) ho rfl (by rintro ⟨⟩) ha (λb u z=>(hs.2 b z).trans) (.inr ⟨_,it',_,rfl,by omega⟩) h2) ⟨_,rfl⟩ ⟨_,_,_,it',rfl,rfl,by decide⟩
end
end Mine
end
section
open PySem PySem.W PyProof.Rows PySem.Calls Builtin Builtin.ObjectAttr
namespace Mine
section
variable {c:Cn} {p:Pg} {kd:PySem.Str->Option NameKind} {pos:Pos} {n:Nat} {atts:List Nat}
theorem zaT {ids:List P} {l:Vl} {E:Value->Shared->Prop}:PX c ids l noX E:=λ_ _ _ _ _ h=>by exact nb h
theorem Amb.noC {x:Cx} {ids:List P} {l:Vl} {A:Around} {env:Env} {E E':Value->Shared->Prop} (am:Amb c p kd x ids l A env E) (hf:A.handled=none):Amb c p kd (noC x) ids l A env E':=
  ⟨am.pg,am.call,am.room,λ_=>hf,am.code,am.top,am.env,zaT,am.base⟩
theorem zhW {t:Tst} {b:Ex} {et:Expr} {eb:List Stmt} (h1:STst c p kd t et) (h2:SExs c p kd b eb) {x:Cx} {ids:List P} {A:Around} {env:Env} {Q:Flow->Shared->Prop} {R:Result->Shared->Prop} {k:KF}
    (hR:∀f s,Q f s->R (.ok f) s):∀(m:Nat) l st s,Amb c p kd x ids l A env (notedBy (Md c) A env λe s'=>R (.error e) s')->zcW t b x m st k=true->Ok c ids l st s->PF c ids l k Q->
      codeAny (Md c) A (.whileLoop et eb [] env) R s
  | 0,l,st,s,am,h,ok,hk=>by exact nb h
  | m + 1,l,st,s,am,h,ok,hk=>by
    refine codeAny_of_tree ?_
    show wpAny (Md c) A ((whileTurn et eb [] env).onRaise (λx=>do noteFrame x env;theTreesLotGoes x)) _ _ s
    refine wpAny_noted ?_
    unfold whileTurn
    refine wpAny_bind (h1 _ _ _ _ _ _ _ _ _ _ am (show t x st (kWhl b x (zcW t b x m) k)=true from h) ok ?_)
    intro l1 w st1 s1 g1 le1 ok1
    have g1:bq w (b x st1 (zfJ (zcW t b x m) k)) (k .next st1)=true:=g1
    cases w with
    | false=>
      rw [if_neg Bool.false_ne_true]
      exact wpAny_bind (wpAny_execs_nil (wpAny_pure (hR _ _ (hk _ .next _ _ _ g1 le1 ok1 rfl))))
    | true=>
      rw [if_pos rfl]
      refine wpAny_bind (h2 _ _ _ _ _ _ _ _ _ _ (am.le le1) g1 ok1 ?_)
      intro l2 fl st2 u s2 g2 le2 ok2 d2
      have am2:=am.le (le1.trans le2)
      cases fl <;> simp only [DFl] at d2
      · subst d2;exact wpAny_pure ⟨rfl,zhW h1 h2 hR m _ _ _ am2 g2 ok2 (hk.le (le1.trans le2))⟩
      · subst d2;exact wpAny_pure (hR _ _ (hk _ .next _ _ _ g2 (le1.trans le2) ok2 rfl))
      · subst d2;exact wpAny_pure ⟨rfl,zhW h1 h2 hR m _ _ _ am2 g2 ok2 (hk.le (le1.trans le2))⟩
      · refine E1_2 d2 ?_;clear d2;rintro w rfl d2
        exact wpAny_pure (hR _ _ (hk _ (.ret _) _ _ _ g2 (le1.trans le2) ok2 ⟨w,rfl,d2⟩))
theorem znA {t:Tst} {b:Ex} {et:Expr} {eb:List Stmt} (h1:STst c p kd t et) (h2:SExs c p kd b eb):SEx c p kd (sWhl t b) (.While et eb [] pos):=by
  intro x ids l st s k A env Q E am h ok hk
  refine E0_2 (za2 (show bq x.hd false (zcW t b (noC x) 200 st k)=true from h)) λhd0 h=>?_
  exact wpAny_While (zhW h1 h2 (Q:=Q) (λ_ _ z=>z) 200 l st s (am.noC (am.free hd0)) h ok hk)
theorem zgG {t:As} {b:Ex} {tx:Expr} {eb:List Stmt} (h1:SAs c p kd t tx) (h2:SExs c p kd b eb) {x:Cx} {ids:List P} {A:Around} {env:Env} {Q:Flow->Shared->Prop} {R:Result->Shared->Prop} {k:KF} {i:P} {a:Addr} (hf:A.handled=none)
    (hR:∀f s,Q f s->R (.ok f) s):∀(m:Nat) l st s,Amb c p kd x ids l A env (notedBy (Md c) A env λe s'=>R (.error e) s')->zce t b x i m st k=true->Ok c ids l st s->l.ρ i=some a->PF c ids l k Q->
      codeAny (Md c) A (.forLoop tx (.ref a) eb [] env) R s
  | 0,l,st,s,am,h,ok,ha,hk=>by exact nb h
  | m + 1,l,st,s,am,h,ok,ha,hk=>by
    refine codeAny_of_tree ?_
    show wpAny (Md c) A ((forTurn tx (.ref a) eb [] env).onRaise (λx=>do noteFrame x env;theTreesLotGoes x)) _ _ s
    refine wpAny_noted ?_
    unfold forTurn
    refine wpAny_bind (wpAny_standAt (wpAny_bind (wpAny_onRaise (wpAny_mono (zdH (Q:=λr s1=>wpAny (Md c) A (match r with
      | none=>again (.block [] env)
      | some v=>do
        letOwnedTupleGo tx (.ref a) v
        assign tx env v
        match <- execs eb env with
        | .next | .cont=>again (.forLoop tx (.ref a) eb [] env)
        | .brk=>pure (.done .next)
        | .ret v=>pure (.done (.ret v))) (λfin s'=>match fin with
          | .done f=>R (.ok f) s'
          | .again c'=>c'.quiet=true/\codeAny (Md c) A c' R s') (notedBy (Md c) A env λe s'=>R (.error e) s') s1)
      (E:=notedBy (Md c) A env λe s'=>R (.error e) s')
      (show zby i st (kLop t b x (zce t b x i m) k)=true from h) ha ok hf ⟨?_,?_⟩) (λr s1 h1=>h1) λ_ _ h'=>wpAny_standAt h'))))
    · intro st1 s1 g1 ok1
      exact wpAny_pure ⟨rfl,codeAny_block (wpAny_execs_nil (hR _ _ (hk _ .next _ _ _ g1 (.refl _) ok1 rfl)))⟩
    · intro v u st1 s1 g1 ok1 d1 I1
      refine wpAny_bind (zfl I1 (wpAny_bind ?_))
      refine h1 _ _ _ _ _ _ _ _ _ _ _ _ am (show t v x st1 (zit b x (zce t b x i m) k)=true from g1) ok1 d1 ?_
      intro l2 st2 s2 g2 le2 ok2
      refine wpAny_bind (h2 _ _ _ _ _ _ _ _ _ _ (am.le le2) (show b x st2 (zfJ (zce t b x i m) k)=true from g2) ok2 ?_)
      intro l3 fl st3 u3 s3 g3 le3 ok3 d3
      have le:=le2.trans le3
      have am2:=am.le le
      cases fl <;> simp only [DFl] at d3
      · subst d3;exact wpAny_pure ⟨rfl,zgG h1 h2 hf hR m _ _ _ am2 g3 ok3 (le.1 _ _ ha) (hk.le le)⟩
      · subst d3;exact wpAny_pure (hR _ _ (hk _ .next _ _ _ g3 le ok3 rfl))
      · subst d3;exact wpAny_pure ⟨rfl,zgG h1 h2 hf hR m _ _ _ am2 g3 ok3 (le.1 _ _ ha) (hk.le le)⟩
      · refine E1_2 d3 ?_;clear d3;rintro w rfl d3
        exact wpAny_pure (hR _ _ (hk _ (.ret _) _ _ _ g3 le ok3 ⟨w,rfl,d3⟩))
noncomputable def zbF (e:Expr):Prop:=∀env x,foldedSetIterable e env x=pure x
theorem zkI {t:As} {e:Ev} {b:Ex} {tx ex:Expr} {eb:List Stmt} (h0:SEv c p kd e ex) (hs:zbF ex) (h1:SAs c p kd t tx) (h2:SExs c p kd b eb):SEx c p kd (sFor t e b) (.For tx ex eb [] pos):=by
  intro x ids l st s k A env Q E am h ok hk
  refine wpAny_For (h0 _ _ _ _ _ _ _ _ _ _ am h ok ?_) (hs env)
  intro l1 v st1 u s1 g1 le1 ok1 d1
  refine zb8 (show za1 v st1 (zkj t b x k)=true from g1) d1 ok1 ?_
  intro l2 i st2 a s2 g2 le2 ok2 ha
  have le:=le1.trans le2
  refine E0_2 (za2 (show bq x.hd false (zce t b (noC x) i 200 st2 k)=true from g2)) λhd0 g2=>?_
  exact zgG h1 h2 (am.free hd0) (Q:=Q) (λ_ _ z=>z) 200 l2 st2 s2 ((am.le le).noC (am.free hd0)) g2 ok2 ha (hk.le le)
end
end Mine
end
section
open PySem PySem.W PyProof.Rows PySem.Calls Builtin Builtin.ObjectAttr
namespace Mine
theorem Ok.popBut {c:Cn} {ids:List P} {l:Vl} {st:St} {s:Shared} {x:P×Bs} {r:List (P×Bs)} {L:P} {C:Addr} {h':Heap} {t:Nat} (ok:Ok c (L::ids) l st s) (e:st.k=x::r) (hL:l.ρ L=some C) (hs:Heap.SameBut C s.heap h'):
    Ok c ids l ⟨st.t,st.n,st.m,r⟩ { s with heap:=h',toks:=t}:=by
  have hi:x.1::r.map (·.1)=L::ids:=by have:=ok.ids_;rw [e] at this;exact this
  refine E0_2 (List.cons.inj hi) λh1 h2=>?_
  refine E2_4 (ok.frs L x.2 (by rw [e,<- h1];exact .head _)) λa' f g1 g2 g3 g4=>?_
  rw [hL] at g1;(replace g1:=si g1;subst g1)
  have up:∀b u,b≠C->s.heap.get? b=some u->h'.get? b=some u:=λb u q z=>hs.extBut b u q z
  refine ⟨ok.bas,λb o q=>up b o ?_ (ok.kep b o q),λj=>?_,λM m h=>?_,h2,(List.nodup_cons.mp ok.nd).2,λM h=>ok.fj M (.tail _ h),λi j b hi hj=>ok.inj i j b (hi.imp id λh=>.tail _ h) (hj.imp id λh=>.tail _ h),ok.fre,ok.frt,ok.oss,ok.gns⟩
  · rintro rfl;rw [g4] at q;exact no q
  · by_cases hjj:st.t.at j=.junk
    · exact .inl hjj
    · refine E2_4 (ok.at_ rfl hjj) λb u w1 w2 w3 w4=>?_
      refine .inr ⟨b,u,w1,up _ _ ?_ w2,w3,w4⟩
      rintro rfl
      exact hjj (ok.fj j (ok.inj L j _ (.inr (.head _)) (.inl hjj) hL w1▸.head _))
  · refine E2_4 (ok.frs M m (by rw [e];exact .tail _ h)) λb f w1 w2 w3 w4=>?_
    refine ⟨b,f,w1,w2.extBut (b:=C) (λd u q z=>up d u q z) ?_,w3,w4⟩
    rintro rfl
    have hM:M∈ids:=by rw [<- h2];exact List.mem_map_of_mem (f:=(·.1)) h
    have:=ok.inj M L _ (.inr (.tail _ hM)) (.inr (.head _)) w1 hL
    subst this
    exact (List.nodup_cons.mp ok.nd).1 hM
theorem zbU:∀(fr:List Nat) (cs:Cs) (k:Cs->Bool),subL fr cs k=true->∃cs',k cs'=true/\(∀x q,lk cs' x=some q->x∈fr/\lk cs x=some q)/\∀x∈fr,∃q,lk cs x=some q
  | [],cs,k,h=>⟨[],h,λx q e=>by simp [lk] at e,λx h=>by cases h⟩
  | y::r,cs,k,h=>by
    refine E1_2 (zat (show look cs y (kSub y (subL r cs) k)=true from h)) λq e h=>?_
    refine E1_3 (zbU r cs _ h) λcs' h1 h2 h3=>?_
    refine ⟨(y,q)::cs',h1,λx p hx=>?_,λx hx=>?_⟩
    · simp only [lk] at hx
      by_cases z:y=x
      · rw [if_pos z] at hx;(replace hx:=si hx;subst hx);subst z;exact ⟨.head _,e⟩
      · rw [if_neg z] at hx;(refine E0_2 (h2 x p hx) λa b=>?_);exact ⟨.tail _ a,b⟩
    · rcases List.mem_cons.mp hx with rfl | hx
      · exact ⟨q,e⟩
      · exact h3 x hx
theorem zeO (sc:Scope) (env:Env) (h:∀y∈sc.names,y.2=.free->∃a,env.cells.lookup y.1=some a):
    ∃cl,closureFor sc env=pure cl/\∀y∈sc.names,y.2=.free->cl.lookup y.1=env.cells.lookup y.1:=by
  have key:∀(ns:List (PySem.Str×NameKind)) (cs:List (PySem.Str×Addr)),(∀y∈ns,y.2=.free->∃a,env.cells.lookup y.1=some a)->(∀y a,cs.lookup y=some a->env.cells.lookup y=some a)->
      ∃cl,(forIn ns cs λ(x:PySem.Str×NameKind) (cs:List (PySem.Str×Addr))=>match x with
        | (name,kind)=>if kind==NameKind.free then do let a <- cellOf env name;pure (ForInStep.yield ((name,a)::cs)) else pure (ForInStep.yield cs):Sem _)=pure cl/\(∀y∈ns,y.2=.free->cl.lookup y.1=env.cells.lookup y.1)/\∀y a,cs.lookup y=some a->cl.lookup y=some a:=by
    intro ns
    induction ns with
    | nil=>intro cs _ _;exact ⟨cs,rfl,λy h=>(by cases h),λ_ _ e=>e⟩
    | cons y r ih=>
      intro cs h1 h2
      obtain ⟨n,k⟩:=y
      rw [List.forIn_cons]
      by_cases hk:k=.free
      · subst hk
        refine E1_1 (h1 _ (.head _) rfl) λa ha=>?_
        have e:cellOf env n=pure a:=by unfold cellOf;rw [ha]
        simp only [beq_self_eq_true,if_true,e,pure_bind]
        obtain ⟨cl,c1,c2,c3⟩:=ih ((n,a)::cs) (λy h=>h1 y (.tail _ h)) (λz b hz=>by
          rw [List.lookup_cons] at hz
          cases q:z==n with
          | true=>rw [q] at hz;(replace hz:=si hz;subst hz);rw [beq_iff_eq.mp q];exact ha
          | false=>rw [q] at hz;exact h2 z b hz)
        have hn:cl.lookup n=some a:=c3 n a (by rw [List.lookup_cons,beq_self_eq_true])
        refine ⟨cl,c1,λz hz hf=>?_,λz b hz=>?_⟩
        · rcases List.mem_cons.mp hz with rfl | hz
          · rw [hn,ha]
          · exact c2 z hz hf
        · by_cases q:z=n
          · subst q;have:=h2 z b hz;rw [ha] at this;(replace this:=si this;subst this);exact hn
          · exact c3 z b (by rw [List.lookup_cons,beq_eq_false_iff_ne.mpr q];exact hz)
      · have hk':(k==NameKind.free)=false:=beq_eq_false_iff_ne.mpr hk
        simp only [hk',Bool.false_eq_true,if_false,pure_bind]
        refine E1_3 (ih cs (λy h=>h1 y (.tail _ h)) h2) λcl c1 c2 c3=>?_
        refine ⟨cl,c1,λz hz hf=>?_,c3⟩
        rcases List.mem_cons.mp hz with rfl | hz
        · exact absurd hf hk
        · exact c2 z hz hf
  refine E1_3 (key sc.names [] h (λy a e=>by simp at e)) λcl h1 h2 _=>?_
  refine ⟨cl,?_,h2⟩
  unfold closureFor
  simp only [bind_pure]
  exact h1
section
variable {c:Cn} {p:Pg} {kd:PySem.Str->Option NameKind} {pos:Pos} {n:Nat} {atts:List Nat}
noncomputable def kdC (kd:PySem.Str->Option NameKind) (sc:Scope):PySem.Str->Option NameKind:=
  λx=>(sc.names.map λ(n,k)=>if (k==.free&&true&&kd n==some .cell) then (n,NameKind.cell) else (n,k)).lookup x
theorem zfN {i:P} {a:Addr} {ids:List P} {l:Vl} {st:St} {s:Shared} {k:KO} {A:Around} {Q E:Value->Shared->Prop} (h:zby i st k=true) (ha:l.ρ i=some a) (ok:Ok c ids l st s) (hq:Q (.ref a) s):wpAny (Md c) A (pyIter (.ref a)) Q E s:=by
  rcases zcr (St.get_spec h) with ⟨q,j,ho,h⟩ | ⟨q,j,ho,h⟩ | ⟨x,y,ho,h⟩
  · refine E2_4 (ok.at_ ho (by rintro ⟨⟩)) ?_;rintro a' ob q1 q2 ⟨b,hb,c1,c2⟩ _
    rw [ha] at q1;(replace q1:=si q1;subst q1)
    exact wpAny_pyIter_listiter (l:=b) (i:=j) ⟨ob,q2,c1,c2⟩ hq
  · refine E2_4 (ok.at_ ho (by rintro ⟨⟩)) ?_;rintro a' ob q1 q2 ⟨b,hb,c1,c2⟩ _
    rw [ha] at q1;(replace q1:=si q1;subst q1)
    exact wpAny_pyIter_tupleiter (t:=b) (i:=j) ⟨ob,q2,c1,c2⟩ hq
  · refine E2_4 (ok.at_ ho (by rintro ⟨⟩)) ?_;rintro a' ob q1 q2 ⟨m,rfl,hm⟩ _
    rw [ha] at q1;(replace q1:=si q1;subst q1)
    exact wpAny_pyIter_rangeiter q2 hq
noncomputable def SIfs (c:Cn) (p:Pg) (kd:PySem.Str->Option NameKind) (e:Tst) (ifs:List Expr):Prop:=∀x ids l st s k A env Q E,
  Amb c p kd x ids l A env E->e x st k=true->Ok c ids l st s->PB c ids l k Q->
    wpAny (Md c) A (forIn ifs true λc r=>if r=true then do let ok <- isTrue c env (eval c env);pure (ForInStep.yield ok) else pure (ForInStep.yield r)) Q E s
theorem ziz:SIfs c p kd tYes []:=λx ids l st s k A env Q E am h ok hk=>wpAny_pure (hk _ _ _ _ h (.refl _) ok)
theorem zkz {ifs:List Expr} {env:Env}:(forIn ifs false λc r=>if r=true then do let ok <- isTrue c env (eval c env);pure (ForInStep.yield ok) else pure (ForInStep.yield r):Sem Bool)=pure false:=by
  induction ifs with
  | nil=>rfl
  | cons a r ih=>rw [List.forIn_cons];simp only [Bool.false_eq_true,if_false,pure_bind];simpa using ih
theorem zgA {t ts:Tst} {ex:Expr} {exs:List Expr} (h1:STst c p kd t ex) (h2:SIfs c p kd ts exs):SIfs c p kd (tAnd t ts) (ex::exs):=by
  intro x ids l st s k A env Q E am h ok hk
  rw [List.forIn_cons]
  simp only [if_true]
  refine wpAny_bind (wpAny_bind (h1 _ _ _ _ _ _ _ _ _ _ am h ok ?_))
  intro l1 b st1 s1 g1 le1 ok1
  have g1:bq b (ts x st1 k) (k false st1)=true:=g1
  refine wpAny_pure ?_
  cases b
  · exact wpAny_of_eq zkz (hk _ _ _ _ g1 le1 ok1)
  · exact h2 _ _ _ _ _ _ _ _ _ _ (am.le le1) g1 ok1 (hk.le le1)
theorem Amb.noE {x:Cx} {ids:List P} {l:Vl} {A:Around} {env:Env} {E E':Value->Shared->Prop} (hx:x.kx=noX/\x.hd=false) (am:Amb c p kd x ids l A env E):Amb c p kd x ids l A env E':=
  ⟨am.pg,am.call,am.room,am.free,am.code,am.top,am.env,by rw [hx.1];exact zaT,am.base⟩
noncomputable def zcY (elt:Expr) (gens:List Comprehension) (sc:Scope) (pos:Pos) (d:Nat) (acc:Value) (env:Env):Sem Unit:=match gens[d + 1]? with
  | some g'=>do
    let x <- eval g'.iter env
    standAt g'.iter.pos
    let x <- foldedSetIterable g'.iter env x
    let it <- holding [x] (pyIter x)
    let _ <- runOwn (.compStart (.ListComp elt gens sc pos) (d + 1) it acc env) env
    pure ()
  | none=>do
    let v <- eval elt env
    let _ <- call (.builtin "list.append") [acc,v]
    pure ()
theorem zdW (elt target iter:Expr) (ifs:List Expr) (gens:List Comprehension) (sc:Scope) (pos:Pos) (d:Nat) (it acc:Value) (env:Env) (hg:gens[d]? =some ⟨target,iter,ifs,0⟩) (ha:∀g,gens[d + 1]? =some g->g.is_async=0):
    compTurn (.ListComp elt gens sc pos) d it acc env=(do
      standAt iter.pos
      match <- pyNext it with
      | none=>pure (.done .next)
      | some v=>
        letOwnedTupleGo target it v
        assign target env v
        let ok <- forIn ifs true λc r=>if r=true then do let ok <- isTrue c env (eval c env);pure (ForInStep.yield ok) else pure (ForInStep.yield r)
        if ok then do
          zcY elt gens sc pos d acc env
          again (.compLoop (.ListComp elt gens sc pos) d it acc env)
        else again (.compLoop (.ListComp elt gens sc pos) d it acc env)):=by
  unfold compTurn zcY
  dsimp only
  rw [hg]
  cases h:gens[d + 1]? with
  | none=>simp only [bind_assoc,pure_bind];rfl
  | some g=>
    obtain ⟨t,i,f,a⟩:=g
    have:=ha _ h
    dsimp only at this
    subst this
    simp only [bind_assoc,pure_bind];rfl
noncomputable abbrev SCm (c:Cn) (p:Pg) (kd:PySem.Str->Option NameKind) (cm:Cmp) (elt:Expr) (gens:List Comprehension) (sc:Scope) (pos:Pos) (d:Nat):Prop:=∀x ids l st s k A env i acc a b R Q E,
  (x.kx=noX/\x.hd=false)->Amb c p kd x ids l A env E->cm i acc x st k=true->Ok c ids l st s->l.ρ i=some a->l.ρ acc=some b->(hR:∀s,Q s->R (.ok .next) s)->PSk c ids l k Q->
    codeAny (Md c) A (.compStart (.ListComp elt gens sc pos) d (.ref a) (.ref b) env) R s
noncomputable abbrev SIn (c:Cn) (p:Pg) (kd:PySem.Str->Option NameKind) (inn:zbL) (elt:Expr) (gens:List Comprehension) (sc:Scope) (pos:Pos) (d:Nat):Prop:=∀x ids l st s (rec:KR) k A env acc b Q E,
  Amb c p kd x ids l A env E->(x.kx=noX/\x.hd=false)->inn acc x st rec k=true->Ok c ids l st s->l.ρ acc=some b->PSk c ids l (λst=>rec st k) Q->
    wpAny (Md c) A (zcY elt gens sc pos d (.ref b) env) (λ_=>Q) E s
theorem znx {e:Ev} {elt:Expr} {gens:List Comprehension} {sc:Scope} {d:Nat} (h1:SEv c p kd e elt) (hg:gens[d + 1]? =none):SIn c p kd (zbm e) elt gens sc pos d:=by
  intro x ids l st s rec k A env acc b Q E am _ h ok hb hk
  unfold zcY
  rw [hg]
  refine wpAny_bind (h1 _ _ _ _ _ _ _ _ _ _ am (show e x st (zk6 acc rec k)=true from h) ok ?_)
  intro l1 v st1 u s1 g1 le1 ok1 d1
  refine E1_2 (zas (St.get_spec (show st1.get acc (zk8 acc rec k v st1)=true from g1))) λxs hx g1=>?_
  refine E0_2 (zac (show bq (zah xs 300) _ false=true from g1)) λhz g1=>?_
  have hz:=zae _ _ hz
  have g1:st1.put acc (.lst (xs++[v])) (λst=>rec st k)=true:=zaG _ _ _ g1
  refine E1_2 (St.put_spec g1) λt' g1 ht=>?_
  have hb1:=le1.1 _ _ hb
  refine E2_3 (zaq ok1 hx hb1) λvs m w1 w2 w3=>?_
  have hl:vs.length<=300:=by rw [<- w2.length];exact hz
  refine wpAny_bind (append_at w1 (λh' hs ho=>?_) (by rw [List.size_toArray,sizeLine_eq];omega))
  exact wpAny_pure (hk _ _ _ g1 le1 (zbk (us:=vs++[u]) (n:=m + 1) ok1 hx hb1 (λb w e z=>(hs.2 b e).trans z) (by rw [ho];simp) (w2.append (.cons d1 .nil)) ht))
theorem zkC {it:Ev} {cm:Cmp} {elt target iter:Expr} {ifs:List Expr} {gens:List Comprehension} {sc:Scope} {d:Nat} (h1:SEv c p kd it iter) (hs:zbF iter) (hg:gens[d + 1]? =some ⟨target,iter,ifs,0⟩) (h2:SCm c p kd cm elt gens sc pos (d + 1)):
    SIn c p kd (zhu it cm) elt gens sc pos d:=by
  intro x ids l st s rec k A env acc b Q E am hx h ok hb hk
  unfold zcY
  rw [hg]
  refine wpAny_bind (h1 _ _ _ _ _ _ _ _ _ _ am (show it x st (inL1 cm acc x rec k)=true from h) ok ?_)
  intro l1 v st1 u s1 g1 le1 ok1 d1
  refine wpAny_bind (wpAny_standAt (wpAny_bind (wpAny_of_eq (hs _ _) (wpAny_bind (wpAny_holding ?_)))))
  refine zb8 (show za1 v st1 (inL2 cm acc x rec k)=true from g1) d1 ok1 ?_
  intro l2 i st2 a s2 g2 le2 ok2 ha
  have le:=le1.trans le2
  have am2:=am.le le
  have am3:Amb c p kd x ids l2 A env (λ_ _=>False):=⟨am2.pg,am2.call,am2.room,am2.free,am2.code,am2.top,am2.env,by rw [hx.1];exact zaT,am2.base⟩
  refine wpAny_bind (wpAny_runOwn (h2 x ids l2 st2 s2 (zky rec k) A env i acc a b _ Q _ hx am3 g2 ok2 ha (le.1 _ _ hb) (λs3 hq=>?_) ?_))
  · exact wpAny_pure hq
  · exact λl3 st3 s3 g3 le3 ok3=>hk l3 st3 s3 g3 (le.trans le3) ok3
theorem ziJ {t:As} {ts:Tst} {inn:zbL} {elt target iter:Expr} {ifs:List Expr} {gens:List Comprehension} {sc:Scope} {d:Nat} (hg:gens[d]? =some ⟨target,iter,ifs,0⟩) (hg':∀g,gens[d + 1]? =some g->g.is_async=0) (h1:SAs c p kd t target) (h2:SIfs c p kd ts ifs)
    (h3:SIn c p kd inn elt gens sc pos d) {x:Cx} (hx:x.kx=noX/\x.hd=false) {ids:List P} {A:Around} {env:Env} {i acc:P} {a b:Addr} {R:Result->Shared->Prop} {k:KS} {Q:Shared->Prop} (hR:∀s,Q s->R (.ok .next) s):∀(m:Nat) l st s,
      Amb c p kd x ids l A env (notedBy (Md c) A env λe s'=>R (.error e) s')->zbC t ts inn i acc x m st k=true->Ok c ids l st s->l.ρ i=some a->l.ρ acc=some b->PSk c ids l k Q->codeAny (Md c) A (.compLoop (.ListComp elt gens sc pos) d (.ref a) (.ref b) env) R s
  | 0,l,st,s,am,h,ok,ha,hb,hk=>by exact nb h
  | m + 1,l,st,s,am,h,ok,ha,hb,hk=>by
    refine codeAny_of_tree ?_
    show wpAny (Md c) A ((compTurn (.ListComp elt gens sc pos) d (.ref a) (.ref b) env).onRaise (λx=>do noteFrame x env;theTreesLotGoes x)) _ _ s
    refine wpAny_noted ?_
    rw [zdW _ _ _ _ _ _ _ _ _ _ _ hg hg']
    refine wpAny_bind (wpAny_standAt (wpAny_bind (zdH (show zby i st (cmNx t ts inn acc x (zbC t ts inn i acc x m) k)=true from h) ha ok (am.free hx.2) ⟨?_,?_⟩)))
    · intro st1 s1 g1 ok1
      exact wpAny_pure (hR _ (hk _ _ _ g1 (.refl _) ok1))
    · intro v u st1 s1 g1 ok1 d1 I1
      refine wpAny_bind (zfl I1 (wpAny_bind ?_))
      refine h1 _ _ _ _ _ _ _ _ _ _ _ _ am (show t v x st1 (cmTs ts inn acc x (zbC t ts inn i acc x m) k)=true from g1) ok1 d1 ?_
      intro l2 st2 s2 g2 le2 ok2
      refine wpAny_bind (h2 _ _ _ _ _ _ _ _ _ _ (am.le le2) (show ts x st2 (cmIf inn acc x (zbC t ts inn i acc x m) k)=true from g2) ok2 ?_)
      intro l3 w st3 s3 g3 le3 ok3
      have le:=le2.trans le3
      have g3:bq w (inn acc x st3 (zbC t ts inn i acc x m) k) (zbC t ts inn i acc x m st3 k)=true:=g3
      cases w with
      | false=>exact wpAny_pure ⟨rfl,ziJ hg hg' h1 h2 h3 hx hR m _ _ _ (am.le le) g3 ok3 (le.1 _ _ ha) (le.1 _ _ hb) (hk.le le)⟩
      | true=>
        rw [if_pos rfl]
        refine wpAny_bind (h3 x ids l3 st3 s3 _ k A env acc b _ _ (am.le le) hx g3 ok3 (le.1 _ _ hb) ?_)
        intro l4 st4 s4 g4 le4 ok4
        have le':=le.trans le4
        exact wpAny_pure ⟨rfl,ziJ hg hg' h1 h2 h3 hx hR m _ _ _ (am.le le') g4 ok4 (le'.1 _ _ ha) (le'.1 _ _ hb) (hk.le le')⟩
theorem zgd {elt target iter:Expr} {ifs:List Expr} {gens:List Comprehension} {sc:Scope} {d:Nat} (hg:gens[d]? =some ⟨target,iter,ifs,0⟩) {a:Addr} {acc:Value} {env:Env} {A:Around} {R:Result->Shared->Prop} {s:Shared}
    (h0:codeAny (Md c) A (.compLoop (.ListComp elt gens sc pos) d (.ref a) acc env) R s)
    (h:∀Q E,Q (.ref a) s->wpAny (Md c) A (pyIter (.ref a)) Q E s):codeAny (Md c) A (.compStart (.ListComp elt gens sc pos) d (.ref a) acc env) R s:=by
  refine codeAny_of_tree ?_
  show wpAny _ _ ((compStart (.ListComp elt gens sc pos) d (.ref a) acc env).onRaise (λx=>do noteFrame x env;standAt theWindowsPlace)) _ _ s
  refine wpAny_notedAt ?_
  unfold compStart
  rw [show (clausesOf (.ListComp elt gens sc pos))[d]? =some ⟨target,iter,ifs,0⟩ from hg]
  show wpAny _ _ (ask >>=_) _ _ s
  refine wpAny_bind (wpAny_askSetting (wpAny_ite ?_))
  split
  · first
      | exact wpAny_bind (wpAny_pure (wpAny_pure (And.intro rfl h0)))
      | exact wpAny_pure (And.intro rfl h0)
  · exact wpAny_bind (wpAny_rule (wpAny_bind (wpAny_standAt (wpAny_bind (h _ _ (wpAny_pure (And.intro rfl h0)))))))
theorem s_cm {t:As} {ts:Tst} {inn:zbL} {elt target iter:Expr} {ifs:List Expr} {gens:List Comprehension} {sc:Scope} {d:Nat} (hg:gens[d]? =some ⟨target,iter,ifs,0⟩) (hg':∀g,gens[d + 1]? =some g->g.is_async=0) (h1:SAs c p kd t target) (h2:SIfs c p kd ts ifs)
    (h3:SIn c p kd inn elt gens sc pos d):SCm c p kd (xCm t ts inn) elt gens sc pos d:=by
  intro x ids l st s k A env i acc a b R Q E hx am h ok ha hb hR hk
  refine zgd hg (ziJ hg hg' h1 h2 h3 hx hR 200 l st s (am.noE hx) h ok ha hb hk) λQ' E' hq=>?_
  exact zfN (show zby i st (cmNx t ts inn acc x (zbC t ts inn i acc x 199) k)=true from h) ha ok hq
end
end Mine
end
section
open PySem PySem.W PyProof.Rows PySem.Calls Builtin Builtin.ObjectAttr
namespace Mine
theorem Ok.free_ {c:Cn} {ids:List P} {l:Vl} {st:St} {s:Shared} {C:Addr} {h':Heap} (ok:Ok c ids l st s) (hs:Heap.SameBut C s.heap h') (hno:∀i,(st.t.at i≠.junk\/i∈ids)->l.ρ i≠some C) (h0:l.hx.get? C=none):Ok c ids l st { s with heap:=h'}:=by
  have up:∀b u,b≠C->s.heap.get? b=some u->h'.get? b=some u:=λb u q z=>hs.extBut b u q z
  refine ⟨ok.bas,λb o q=>up b o ?_ (ok.kep b o q),λj=>?_,λM m h=>?_,ok.ids_,ok.nd,ok.fj,ok.inj,ok.fre,ok.frt,ok.oss,ok.gns⟩
  · rintro rfl;rw [h0] at q;exact no q
  · by_cases hjj:st.t.at j=.junk
    · exact .inl hjj
    · refine E2_4 (ok.at_ rfl hjj) λb u w1 w2 w3 w4=>?_
      exact .inr ⟨b,u,w1,up _ _ (λe=>hno j (.inl hjj) (e▸w1)) w2,w3,w4⟩
  · refine E2_4 (ok.frs M m h) λb f w1 w2 w3 w4=>?_
    refine ⟨b,f,w1,w2.extBut (b:=C) (λd u q z=>up d u q z) (λe=>hno M (.inr ?_) (e▸w1)),w3,w4⟩
    rw [<- ok.ids_];exact List.mem_map_of_mem (f:=(·.1)) h
section
variable {c:Cn} {p:Pg} {kd:PySem.Str->Option NameKind} {pos:Pos} {n:Nat} {atts:List Nat}
structure ScOk (c:Cn) (sc:Scope) (frees:List Nat):Prop where
  kind:sc.kind=.function
  cell:∀y∈sc.names,y.2≠.cell
  locs:∀y∈sc.names,y.2=.local->sc.names.lookup y.1=some .local
  fr:∀y∈sc.names,y.2=.free->∃k∈frees,c.nm k=y.1
  fr':∀k∈frees,(c.nm k,NameKind.free)∈sc.names
theorem zeC {env:Env} {sc:Scope} (h1:env.scope.kind=.function) (h2:∀x,env.kindOf x=kd x) (x:PySem.Str):(relabel sc env).names.lookup x=kdC kd sc x:=by
  unfold relabel kdC
  dsimp only
  congr 1
  refine List.map_congr_left λy hy=>?_
  rw [h1,h2]
  rfl
theorem zds {cm:Cmp} {elt:Expr} {gens:List Comprehension} {sc:Scope} {frees:List Nat} (S:ScOk c sc frees) (h1:SCm c p (kdC kd sc) cm elt gens sc pos 0) {x:Cx} {ids:List P} {l:Vl} {st:St} {s:Shared} {A:Around} {env:Env} {E E':Value->Shared->Prop} {k:KV} {i:P} {a:Addr} {cl:List (PySem.Str×Addr)} {cs':Cs}
    {R:Value->Addr->Result->Shared->Prop} (am:Amb c p kd x ids l A env E') (hcl:∀y∈sc.names,y.2=.free->cl.lookup y.1=env.cells.lookup y.1) (hc1:∀y q,lk cs' y=some q->y∈frees/\lk x.cs y=some q)
    (h:lc1 cm x k cs' i st=true) (ok:Ok c ids l st s) (ha:l.ρ i=some a)
    (hfin:∀l' st3 s3 q b C L,st3.pop (kRef k q)=true->l.Le l'->Ok c (L::ids) l' st3 s3->l'.ρ L=some C->l'.ρ q=some b->R (.ref b) C (.ok .next) s3):
    wpAny (Md c) A (newList []) (λacc s₃=>wpAny (Md c) A (newFunctionEnv sc env.globals cl [] env.qual none .none (some env)) (λcenv s₄=>
      codeAny (Md c) A (.compStart (.ListComp elt gens sc pos) 0 (.ref a) acc { cenv with scope:=relabel sc env}) (R acc cenv.locals) s₄) E s₃) E s:=by
  refine wpAny_newList ?_
  refine E1_4 (zaz (s':={ s with heap:=s.heap.push { cls:=.type "list",data:=.seq ([]:List Value).toArray}}) ok h rfl rfl ⟨[],0,rfl,.nil⟩) λst1 ok1 le1 d1 g1=>?_
  refine E1_2 d1 ?_;clear d1;intro b hb e1
  cases e1
  refine wpAny_newFunctionEnv S.cell (by intro y hy;cases hy) (λh₁ hns₁ hsb₁=>?_) S.kind
  have g1:=St.push_spec (show st1.push [] (lc3 cm x k cs' i st.n)=true from g1)
  have hnew:(s.heap.push { cls:=.type "list",data:=.seq ([]:List Value).toArray}).get? (s.heap.push { cls:=.type "list",data:=.seq ([]:List Value).toArray}).objs.size=none:=Heap.get?_none_of_le (Nat.le_refl _)
  have ok2:=ok1.push (s':={ s with heap:=h₁,toks:=s.toks + 0}) (f:=λx=>([]:List (PySem.Str×Value)).reverse.lookup x) (ms:=[]) hnew (λb o e=>hsb₁.extBut b o (λq=>by
    have:=Heap.lt_size e;rw [q] at this;exact Nat.lt_irrefl _ this) (Heap.get?_push_of_some _ e)) hns₁ (λk=>trivial)
  have le2:=ok1.ext (s.heap.push { cls:=.type "list",data:=.seq ([]:List Value).toArray}).objs.size
  have le:=le1.trans le2
  have am2:=am.le le
  refine E0_2 (za2 (show bq x.hd false (cm i st.n ⟨x.r,cs',x.dp,noX,x.p,false,none⟩ _ (zio (kRef k st.n)))=true from g1)) λhd0 g1=>?_
  have fr:=am.free hd0
  refine h1 ⟨x.r,cs',x.dp,noX,x.p,false,none⟩ (st1.n::ids) _ _ _ (zio (kRef k st.n)) A _ i st.n a s.heap.objs.size _ (λs3=>R (.ref s.heap.objs.size) (s.heap.push { cls:=.type "list",data:=.seq ([]:List Value).toArray}).objs.size (.ok .next) s3) (λ_ _=>False) ⟨rfl,rfl⟩
    ⟨am.pg,am.call,⟨am2.room.depth,am2.room.units,am2.room.low,am2.room.fo.cons _⟩,λ_=>fr,(by rintro _ ⟨⟩),(by rintro _ ⟨⟩),?_,zaT,am2.base⟩ g1 ok2 (le.1 _ _ ha) (le2.1 _ _ hb) (λ_ z=>z) ?_
  · refine ⟨S.kind,λy=>zeC am.env.kind am.env.names y,⟨_,_,rfl,Ok.put_self⟩,am.env.glo,am.env.blt,λk' q e=>?_⟩
    refine E0_2 (hc1 k' q e) λhk' hq=>?_
    refine E1_2 (am2.env.cel k' q hq) λa' w1 w2=>?_
    exact ⟨a',(hcl _ (S.fr' k' hk') rfl).trans w1,w2⟩
  · intro l3 st3 s3 g3 le3 ok3
    exact hfin l3 st3 s3 st.n _ _ _ g3 (le.trans le3) ok3 (le3.1 _ _ Ok.put_self) ((le2.trans le3).1 _ _ hb)
theorem zf0 {sc:Scope} {frees:List Nat} (S:ScOk c sc frees) {x:Cx} {ids:List P} {l:Vl} {A:Around} {env:Env} {E:Value->Shared->Prop} (am:Amb c p kd x ids l A env E) (h:∀y∈frees,∃q,lk x.cs y=some q):
    ∃cl,closureFor sc env=pure cl/\∀y∈sc.names,y.2=.free->cl.lookup y.1=env.cells.lookup y.1:=
  zeO sc env λy hy hf=>by
    refine E1_2 (S.fr y hy hf) λk hk e=>?_
    refine E1_1 (h k hk) λq hq=>?_
    refine E1_2 (am.env.cel k q hq) λa w1 _=>?_
    exact ⟨a,e▸w1⟩
theorem zl0 {it:Ev} {cm:Cmp} {elt target iter:Expr} {ifs:List Expr} {rest:List Comprehension} {sc:Scope} {frees:List Nat} (S:ScOk c sc frees) (h0:SEv c p kd it iter) (hs:zbF iter)
    (h1:SCm c p (kdC kd sc) cm elt (⟨target,iter,ifs,0⟩::rest) sc pos 0):SEv c p kd (xLcm it cm frees) (.ListComp elt (⟨target,iter,ifs,0⟩::rest) sc pos):=by
  intro x ids l st s k A env Q E am h ok hk
  rw [eval_ListComp]
  refine E1_3 (zbU _ _ _ (show subL frees x.cs (lcS it cm x st k)=true from h)) λcs' h hc1 hc2=>?_
  refine E1_2 (zf0 S am hc2) λcl hcl hcl2=>?_
  refine wpAny_comprehension_free (use:=none) rfl (hs env) hcl S.kind S.locs ?_
  show wpAny (Md c) A (eval iter env) _ E s
  refine h0 _ _ _ _ _ _ _ _ _ _ am (show it x st (lc0 cm x k cs')=true from h) ok ?_
  intro l1 v st1 u s1 g1 le1 ok1 d1
  refine zb8 (show za1 v st1 (lc1 cm x k cs')=true from g1) d1 ok1 ?_
  intro l2 i st2 a s2 g2 le2 ok2 ha
  have le:=le1.trans le2
  refine zds S h1 (am.le le) hcl2 hc1 g2 ok2 ha ?_
  intro l3 st3 s3 q b C L g3 le3 ok3 hL hb
  refine E2_2 (St.pop_spec g3) λz r e4 g4=>?_
  have hid:=ok3.ids_
  rw [e4] at hid
  refine E2_3 (ok3.frs L z.2 (by rw [e4,<- (List.cons.inj hid).1];exact .head _)) λa1 f1 w1 w2 _=>?_
  rw [hL] at w1;(replace w1:=si w1;subst w1)
  exact ⟨f1,w2,λh' hs'=>hk _ (.ref q) _ _ _ g4 (le.trans le3) (ok3.popBut (t:=s3.toks) e4 hL hs') ⟨b,hb,rfl⟩⟩
theorem ziE (N:Nms c) {it:Ev} {cm:Cmp} {elt target iter:Expr} {ifs:List Expr} {rest:List Comprehension} {sc:Scope} {frees:List Nat} {y:Nat} {lpos py:Pos} (S:ScOk c sc frees) (h0:SEv c p kd it iter) (hs:zbF iter)
    (h1:SCm c p (kdC kd sc) cm elt (⟨target,iter,ifs,0⟩::rest) sc lpos 0) (hy:kd (c.nm y)=some .local)
    (hsw:∀env,env.scope.kind=.function->(∀z,env.kindOf z=kd z)->swapsWith (.ListComp elt (⟨target,iter,ifs,0⟩::rest) sc lpos) (some (.Name (c.nm y) py)) pos.line env=pure true):
    SEx c p kd (sAsg (aLoc y) (xLcm it cm frees)) (.Assign [.Name (c.nm y) py] (.ListComp elt (⟨target,iter,ifs,0⟩::rest) sc lpos) pos):=by
  intro x ids l st s k A env Q E am h ok hk
  rw [exec_Assign_Name_used _ _ _ _ (hsw env am.env.kind am.env.names)]
  refine wpAny_bind (wpAny_standAt (wpAny_bind ?_))
  show wpAny _ A (do let _ <- comprehension (.ListComp elt (⟨target,iter,ifs,0⟩::rest) sc lpos) sc env _ (newList []) false (eval iter env) (some (assign (.Name (c.nm y) py) env))) _ _ s
  refine E1_3 (zbU _ _ _ (show subL frees x.cs (lcS it cm x st (kAsg (aLoc y) x k))=true from h)) λcs' h hc1 hc2=>?_
  refine E1_2 (zf0 S am hc2) λcl hcl hcl2=>?_
  refine wpAny_bind (wpAny_mono (wpAny_comprehension_free (use:=some (assign (.Name (c.nm y) py) env)) (Q:=λ_ s'=>Q .next s') rfl (hs env) hcl S.kind S.locs ?_) (λ_ s' hq=>wpAny_pure (wpAny_pure hq)) λ_ _ e=>e)
  refine h0 _ _ _ _ _ _ _ _ _ _ am (show it x st (lc0 cm x (kAsg (aLoc y) x k) cs')=true from h) ok ?_
  intro l1 v st1 u s1 g1 le1 ok1 d1
  refine zb8 (show za1 v st1 (lc1 cm x (kAsg (aLoc y) x k) cs')=true from g1) d1 ok1 ?_
  intro l2 i st2 a s2 g2 le2 ok2 ha
  have le:=le1.trans le2
  refine zds S h1 (am.le le) hcl2 hc1 g2 ok2 ha ?_
  intro l3 st3 s3 q b C L g3 le3 ok3 hL hb
  refine E2_2 (St.pop_spec g3) λz r e4 g4=>?_
  have hid:=ok3.ids_
  rw [e4] at hid
  refine E2_4 (ok3.frs L z.2 (by rw [e4,<- (List.cons.inj hid).1];exact .head _)) λa1 f1 w1 w2 _ w0=>?_
  rw [hL] at w1;(replace w1:=si w1;subst w1)
  show wpAny _ A (assign (.Name (c.nm y) py) env (.ref b)) _ _ _
  have le13:=le.trans le3
  have am3:=am.le le13
  have okp:=ok3.pop e4 rfl
  have g5:(⟨st3.t,st3.n,st3.m,r⟩:St).top (zh3 y (.ref q) ⟨st3.t,st3.n,st3.m,r⟩ (zgx k))=true:=g4
  refine E3_2 (St.top_spec g5) λL1 ms r1 e5 g6=>?_
  refine E3_2 (St.retop_spec (zaN _ _ _ _ g6)) λL2 ms₀ r2 e6 g7=>?_
  rw [e5] at e6;(refine E0_3 (ci e6) λq1 q2 q3=>?_;subst q1;subst q2;subst q3)
  obtain ⟨p1,f2,p2,p3⟩:=zeW am3 okp e5
  have hLC:env.locals≠C:=λq=>by
    have:=ok3.inj L1 L C (.inr (.tail _ ?_)) (.inr (.head _)) (q▸p1) hL
    · subst this
      have hid1:=okp.ids_
      rw [e5] at hid1
      exact (List.nodup_cons.mp ok3.nd).1 (hid1▸.head _)
    · have hid1:=okp.ids_
      rw [e5] at hid1
      exact hid1▸.head _
  refine wpAny_assign_Name (wpAny_storeName_local ((am3.env.names _).trans hy) p2 (λh' hn hs1=>?_) (by rw [am.env.kind];rfl))
  have w3:h'.Ns C f1:=w2.extBut (b:=env.locals) (λd u e z=>hs1.2 d e |>.trans z) (Ne.symm hLC)
  refine ⟨f1,w3,λh'' hs''=>?_⟩
  have hup:∀d u,d≠env.locals->s3.heap.get? d=some u->h'.get? d=some u:=λd u e z=>(hs1.2 d e).trans z
  have ok5:=okp.retop (s':={ s3 with heap:=h',toks:=s3.toks + 1}) (ms':=setF ms y (.ref q)) e5 p1 hup hn (p3.set N (v:=.ref q) (u:=.ref b) ⟨b,hb,rfl⟩ (zcK _ _ _))
  refine hk _ .next _ .next _ g7 le13 (ok5.free_ (C:=C) hs'' (λi hi e=>?_) w0) rfl
  have:=(ok3.inj L i C (.inr (.head _)) (hi.imp id λz=>.tail _ z) hL e).symm
  subst this
  rcases hi with hi | hi
  · exact hi (ok3.fj _ (.head _))
  · exact (List.nodup_cons.mp ok3.nd).1 hi
end
end Mine
end
section
open PySem PySem.W PyProof.Rows PySem.Calls Builtin Builtin.ObjectAttr
namespace Mine
section
variable {c:Cn} {p:Pg} {kd:PySem.Str->Option NameKind} {pos:Pos} {n:Nat} {atts:List Nat}
noncomputable def zcU (e:Expr):Prop:=∀rest env,assignEach (e::rest) env=(false,assign e env)::assignEach rest env
inductive NST:List Expr->Prop
  | nil:NST []
  | cons {e es}:zcU e->NST es->NST (e::es)
theorem NST.len {es:List Expr} (h:NST es) (env:Env):(assignEach es env).length=es.length/\(assignEach es env).findIdx? (·.1)=none:=by
  induction h with
  | nil=>exact ⟨rfl,rfl⟩
  | cons a _ ih=>rw [a];exact ⟨by simp [ih.1],by rw [List.findIdx?_cons];simp [ih.2]⟩
noncomputable def SAss (c:Cn) (p:Pg) (kd:PySem.Str->Option NameKind) (ts:Ass) (txs:List Expr):Prop:=∀x ids l vs us st s k A env Q E,
  Amb c p kd x ids l A env E->ts vs x st k=true->Ok c ids l st s->DVs c l vs us->PSk c ids l k Q->wpAny (Md c) A (assignInOrder ((assignEach txs env).map (·.2)) us) (λ_=>Q) E s
theorem zlz:SAss c p kd aNil []:=by
  intro x ids l vs us st s k A env Q E am h ok d hk
  cases d with
  | nil=>exact assignInOrder_nil (hk _ _ _ h (.refl _) ok)
  | cons=>exact nb h
theorem ziX {t:As} {ts:Ass} {tx:Expr} {txs:List Expr} (hs:zcU tx) (h1:SAs c p kd t tx) (h2:SAss c p kd ts txs):SAss c p kd (zai t ts) (tx::txs):=by
  intro x ids l vs us st s k A env Q E am h ok d hk
  cases d with
  | nil=>exact nb h
  | @cons v u vs us d ds=>
    rw [hs]
    refine assignInOrder_cons (h1 _ _ _ _ _ _ _ _ _ _ _ _ am (show t v x st (kAss ts vs x k)=true from h) ok d ?_)
    intro l1 st1 s1 g1 le1 ok1
    exact h2 _ _ _ _ _ _ _ _ _ _ _ _ (am.le le1) g1 ok1 (DVs.le le1 ds) (hk.le le1)
theorem znX {ts:Ass} {txs:List Expr} {m:Nat} {q:Nat} (hn:NST txs) (hm:txs.length=m) (h1:SAss c p kd ts txs):SAs c p kd (aTup m ts) (.Tuple txs n pos):=by
  intro x ids l v u st s k A env Q E am h ok d hk
  refine E0_2 (za2 (show bq x.hd false (vRef v (asTR m ts x st k))=true from h)) λhd0 h=>?_
  refine E1_2 (zak h) ?_;rintro q rfl h
  refine E1_2 d ?_;clear d;rintro a ha rfl
  refine E1_2 (zaO (St.get_spec (show st.get q (asTO m ts x st k)=true from h))) λxs hx h=>?_
  have h:=zal _ _ _ (show lenL xs 0 (asTn m ts x st k xs)=true from h)
  refine E0_2 (zac (show bq (Nat.beq (0 + xs.length) m) (ts xs x st k) false=true from h)) λe h=>?_
  rw [Nat.beq_eq] at e
  refine E2_2 (zax ok hx ha) λvs cn g1 g2=>?_
  have L:IsTup s.heap a vs.toArray:=⟨_,g1,rfl,cn,rfl⟩
  have hl:=hn.len env
  refine assign_Tuple_tuple (am.free hd0) L (by rw [hl.1,List.size_toArray,<- g2.length];omega) hl.2 λh' he=>?_
  refine h1 _ _ _ _ _ _ _ _ _ _ _ _ am h (ok.quiet (s':={ s with heap:=h'}) (λb o z=>he b o (Nat.ne_of_lt (Heap.lt_size z)) z)) (by simpa using g2) hk
theorem zc3 {α:Type}:∀(l acc:List α) (k:List α->Bool),revL l acc k=true->k (l.reverse++acc)=true
  | [],acc,k,h=>h
  | x::r,acc,k,h=>by
    have:=zc3 r (x::acc) k h
    simpa using this
theorem All2.rev {α β:Type} {R:α->β->Prop} {l:List α} {m:List β} (h:All2 R l m):All2 R l.reverse m.reverse:=by
  induction h with
  | nil=>exact .nil
  | cons a _ ih=>simp only [List.reverse_cons];exact ih.append (.cons a .nil)
noncomputable def SNms (c:Cn) (p:Pg) (kd:PySem.Str->Option NameKind) (ts:Ass) (ks:List Nat):Prop:=∀x ids l vs us st s k A env Q E,
  Amb c p kd x ids l A env E->ts vs x st k=true->Ok c ids l st s->DVs c l vs us->PSk c ids l k Q->wpAny (Md c) A (assignInOrder (ks.map λk=>bindName env (c.nm k)) us) (λ_=>Q) E s
theorem zna:SNms c p kd aNil []:=by
  intro x ids l vs us st s k A env Q E am h ok d hk
  cases d with
  | nil=>exact assignInOrder_nil (hk _ _ _ h (.refl _) ok)
  | cons=>exact nb h
theorem zjV (N:Nms c) {k:Nat} {ts:Ass} {ks:List Nat} (e:kd (c.nm k)=some .local) (h2:SNms c p kd ts ks):SNms c p kd (zai (aLoc k) ts) (k::ks):=by
  intro x ids l vs us st s k' A env Q E am h ok d hk
  cases d with
  | nil=>exact nb h
  | @cons v u vs us d ds=>
    refine E3_2 (St.top_spec (show st.top (zh3 k v st (kAss ts vs x k'))=true from h)) λL ms r e1 h=>?_
    refine E3_2 (St.retop_spec (zaN _ _ _ _ h)) λL' ms₀ r' e3 h=>?_
    rw [e1] at e3;(refine E0_3 (ci e3) λq1 q2 q3=>?_;subst q1;subst q2;subst q3)
    obtain ⟨g1,f,g2,g3⟩:=zeW am ok e1
    refine assignInOrder_cons (wpAny_bindName (wpAny_storeName_local ((am.env.names _).trans e) g2 (λh' hn hs=>?_) (by rw [am.env.kind];rfl)))
    exact h2 _ _ _ _ _ _ _ _ _ _ _ _ am h (ok.retop (s':={ s with heap:=h',toks:=s.toks + 1}) e1 g1 (λb w q=>(hs.2 b q).trans) hn (g3.set N d (zcK _ _ _))) ds hk
theorem znB {ts:Ass} {ks:List Nat} {txs:List Expr} {e:Ev} {ex:Expr} {m n':Nat} {pt:Pos} (h1:SEv c p kd e ex) (h2:SNms c p kd ts ks.reverse) (hm:ks.length=m)
    (hs:∀env,swapsWithSole [.Tuple txs n' pt] ex pos.line env=pure false) (hw:∀env,env.scope.kind=.function->(∀z,env.kindOf z=kd z)->swappedStores [.Tuple txs n' pt] ex env=pure (some (ks.map c.nm))):
    SEx c p kd (sSwp m ts e) (.Assign [.Tuple txs n' pt] ex pos):=by
  intro x ids l st s k A env Q E am h ok hk
  refine E0_2 (za2 (show bq x.hd false (e x st (kSwp m ts x k))=true from h)) λhd0 h=>?_
  refine Assign_Tuple_swapped (names:=ks.map c.nm) (h1 _ _ _ _ _ _ _ _ _ _ am h ok ?_) (hs env) (hw env am.env.kind am.env.names)
  intro l1 v st1 u s1 g1 le1 ok1 d1
  refine E1_2 (zak (show vRef v (swR m ts x st1 k)=true from g1)) ?_;rintro q rfl h
  refine E1_2 d1 ?_;clear d1;rintro a ha rfl
  refine E1_2 (zaO (St.get_spec (show st1.get q (swO m ts x st1 k)=true from h))) λxs hx h=>?_
  have h:=zal _ _ _ (show lenL xs 0 (swN m ts x st1 k xs)=true from h)
  refine E0_2 (zac (show bq (Nat.beq (0 + xs.length) m) (revL xs [] (swK ts x st1 k)) false=true from h)) λe h=>?_
  rw [Nat.beq_eq] at e
  have h:=zc3 _ _ _ h
  rw [List.append_nil] at h
  refine E2_2 (zax ok1 hx ha) λvs cn g1 g2=>?_
  have L:IsTup s1.heap a vs.toArray:=⟨_,g1,rfl,cn,rfl⟩
  rw [show (ks.map c.nm).length=vs.toArray.size by rw [List.length_map,hm,List.size_toArray,<- g2.length];omega]
  refine unpackItems_tuple (am.free hd0) L λh' he=>?_
  have ok2:Ok c ids l1 st1 { s1 with heap:=h'}:=ok1.quiet (λb o z=>he b o (Nat.ne_of_lt (Heap.lt_size z)) z)
  have:=h2 _ _ _ _ vs.reverse _ _ (zgx k) A env (Q .next) E (am.le le1) h ok2 g2.rev λl2 st2 s2 g le2 ok3=>hk _ .next _ .next _ g (le1.trans le2) ok3 rfl
  rw [<- List.map_reverse,List.map_map]
  simpa [Function.comp_def] using this
end
end Mine
end
section
open PySem PySem.W PyProof.Rows PySem.Calls Builtin Builtin.ObjectAttr
namespace Mine
section
variable {c:Cn} {p:Pg} {kd:PySem.Str->Option NameKind} {pos:Pos} {n:Nat} {atts:List Nat}
noncomputable def DP (c:Cn) (l:Vl) (a:Nat×V) (kv:PySem.Str×Value):Prop:=kv.1=c.nm a.1/\DV c l a.2 kv.2
noncomputable abbrev sk (c:Cn):=strKind c.prog c.w
theorem zeR {l:Vl} {m:Bs} {es:List DictEntry} (h:All2 (DE c l) m es):∃kvs,Pairs (sk c) es kvs/\All2 (DP c l) m kvs:=by
  induction h with
  | nil=>exact ⟨[],.nil,.nil⟩
  | @cons a e m es h _ ih=>
    refine E1_2 ih ?_;clear ih;intro kvs h1 h2
    refine E0_3 h ?_;clear h;rintro hh ⟨t,hk⟩ d
    exact ⟨(c.nm a.1,e.val)::kvs,.cons (by show Value.isStrOf (c.nm a.1) e.key=true;rw [hk];simp [Value.isStrOf]) rfl h1,.cons ⟨rfl,d⟩ h2⟩
theorem zb5 {l:Vl} {m:Bs} {es:List DictEntry} (h:All2 (DE c l) m es):KeysOf (sk c) es.toArray:=by
  intro e he
  rw [List.mem_toArray] at he
  refine E1_4 (h.mem_r e he) ?_;rintro a _ hh ⟨t,hk⟩ _
  exact ⟨c.nm a.1,by show Value.isStrOf (c.nm a.1) e.key=true;rw [hk];simp [Value.isStrOf],hh⟩
theorem zfx {l:Vl} {m:Bs} {kvs:List (PySem.Str×Value)} (h:All2 (DP c l) m kvs):kvs.map (·.1)=m.map λa=>c.nm a.1:=by
  induction h with
  | nil=>rfl
  | cons a _ ih=>simp [ih,a.1]
theorem zjU (N:Nms c) {l:Vl} {m:Bs} {kvs:List (PySem.Str×Value)} (h:All2 (DP c l) m kvs) (hn:(m.map (·.1)).Nodup):(kvs.map (·.1)).Nodup:=by
  rw [zfx h]
  rw [show (m.map λa=>c.nm a.1)=(m.map (·.1)).map c.nm by rw [List.map_map];rfl]
  exact List.Pairwise.map c.nm (λa b q e=>q (N.inj a b e)) hn
theorem zdc:∀(l:Bs) (x:Nat),memK x l=true<->x∈l.map (·.1)
  | [],x=>by simp [memK]
  | h::r,x=>by
    have e:memK x (h::r)=bq (Nat.beq h.1 x) true (memK x r):=rfl
    rw [e,List.map_cons,List.mem_cons]
    cases q:Nat.beq h.1 x with
    | true=>rw [Nat.beq_eq] at q;simp [bq,q]
    | false=>
      have:x≠h.1:=λz=>by rw [z,Nat.beq_refl] at q;exact nf q
      simp only [bq,this,false_or];exact zdc r x
theorem zcH:∀(l:Bs),ndL l=true->(l.map (·.1)).Nodup
  | [],_=>List.nodup_nil
  | h::r,e=>by
    have e:bq (memK h.1 r) false (ndL r)=true:=e
    rw [List.map_cons,List.nodup_cons]
    cases q:memK h.1 r with
    | true=>rw [q] at e;exact nb e
    | false=>
      rw [q] at e
      exact ⟨λz=>(by rw [(zdc r h.1).mpr z] at q;exact nf q),zcH r e⟩
theorem zfX (N:Nms c) {l:Vl} {s:Shared} {d:Addr} {m:Bs} {es:List DictEntry} {k:Nat} (h:s.heap.get? d=some (dictOf es k)) (hd:All2 (DE c l) m es) (hn:(m.map (·.1)).Nodup):
    ∃kvs,s.heap.DictOf (sk c) d kvs/\All2 (DP c l) m kvs:=by
  refine E1_2 (zeR hd) λkvs h1 h2=>?_
  exact ⟨kvs,⟨_,es.toArray,k,h,⟨rfl,rfl,rfl⟩,rfl,zb5 hd,h1,zjU N h2 hn⟩,h2⟩
theorem zep {l:Vl} {h:Heap} {d:Addr} {m:Bs} {kvs:List (PySem.Str×Value)} (hd:h.DictOf (sk c) d kvs) (h2:All2 (DP c l) m kvs):∃es k,h.get? d=some (dictOf es k)/\All2 (DE c l) m es:=by
  refine E3_6 hd ?_;clear hd;rintro o es ep ho ⟨e1,e2,e3⟩ e4 hk hp hnd
  clear hnd
  obtain ⟨cls,dict,data,slots⟩:=o
  dsimp only at e1 e2 e3 e4
  subst e1 e2 e3 e4
  refine ⟨es.toList,ep,by rw [ho],?_⟩
  have hk':∀e∈es.toList,∃k,(sk c).is k e.key=true/\e.hash=(sk c).hash k:=λe he=>hk e (Array.mem_def.mpr he)
  clear hk ho
  generalize es.toList=el at hp hk'
  induction hp generalizing m with
  | nil=>cases h2;exact .nil
  | @cons e kv es kvs w1 w2 _ ih=>
    cases h2 with
    | @cons a _ m _ z1 z2=>
      refine .cons ?_ (ih z2 (λe he=>hk' e (.tail _ he)))
      refine E1_2 (hk' e (.head _)) λk q1 q2=>?_
      have:k=kv.1:=(sk c).inj e.key k kv.1 q1 w1
      subst this
      refine E1_1 (Value.isStrOf_shape w1) λt ht=>?_
      refine ⟨?_,⟨t,?_⟩,?_⟩
      · rw [q2,z1.1];rfl
      · rw [ht,z1.1]
      · rw [w2];exact z1.2
theorem ze2 (N:Nms c) {l:Vl} {m:Bs} {kvs:List (PySem.Str×Value)} (h:All2 (DP c l) m kvs) (hn:(m.map (·.1)).Nodup) {x:Nat} {v:V} {u:Value} (d:DV c l v u):All2 (DP c l) (setF m x v) (stored kvs (c.nm x) u):=by
  induction h with
  | nil=>exact .cons ⟨rfl,d⟩ .nil
  | @cons a kv m kvs h1 h2 ih=>
    obtain ⟨y,w⟩:=a
    refine E0_2 h1 ?_;clear h1;intro e1 d1
    dsimp only at e1 d1
    rw [List.map_cons,List.nodup_cons] at hn
    unfold setF
    by_cases q:y=x
    · subst q
      rw [if_pos rfl]
      have hni:c.nm y∉kvs.map (·.1):=by
        rw [zfx h2]
        intro z
        refine E1_2 (List.mem_map.mp z) λb hb eb=>?_
        exact hn.1 (N.inj _ _ eb▸List.mem_map_of_mem (f:=(·.1)) hb)
      have:stored (kv::kvs) (c.nm y) u=(kv.1,u)::kvs:=by
        unfold stored
        rw [if_pos (by simp [e1])]
        rw [List.map_cons,if_pos e1,map_store_of_not_mem _ _ _ hni]
      rw [this]
      exact .cons ⟨e1,d⟩ h2
    · rw [if_neg q]
      have q':¬ kv.1=c.nm x:=λz=>q (N.inj _ _ (e1▸z))
      have:stored (kv::kvs) (c.nm x) u=kv::stored kvs (c.nm x) u:=by
        unfold stored
        simp only [List.any_cons,decide_eq_false q',Bool.false_or,List.map_cons,if_neg q']
        split <;> simp
      rw [this]
      exact .cons ⟨e1,d1⟩ (ih hn.2)
theorem zeq (N:Nms c) {l:Vl} {s:Shared} {d:Addr} {m:Bs} {es:List DictEntry} {k:Nat} (h:s.heap.get? d=some (dictOf es k)) (hd:All2 (DE c l) m es) (x:Nat):
    ∃f:PySem.Str->Option Value,s.heap.MapOf (sk c) d f/\match lk m x with
      | some v=>∃u,f (c.nm x)=some u/\DV c l v u
      | none=>f (c.nm x)=none:=by
  refine ⟨λk=>findBy (sk c).is es.toArray k,⟨_,es.toArray,k,h,⟨rfl,rfl,rfl⟩,rfl,zb5 hd,λ_=>rfl⟩,?_⟩
  have e0:findBy (sk c).is es.toArray (c.nm x)=(es.find? λe=>Value.isStrOf (c.nm x) e.key).map (·.val):=by
    unfold findBy;simp;rfl
  dsimp only
  rw [e0]
  clear h e0
  induction hd with
  | nil=>rfl
  | @cons a e m es h _ ih=>
    obtain ⟨y,w⟩:=a
    refine E0_3 h ?_;clear h;rintro hh ⟨t,hk⟩ d
    dsimp only at hk d
    by_cases q:y=x
    · subst q
      simp only [lk,if_true,List.find?_cons,hk,Value.isStrOf,beq_self_eq_true,Option.map_some]
      exact ⟨_,rfl,d⟩
    · have q':(c.nm y==c.nm x)=false:=beq_eq_false_iff_ne.mpr λz=>q (N.inj _ _ z)
      simp only [lk,if_neg q,List.find?_cons,hk,Value.isStrOf,q']
      exact ih
end
end Mine
end
section
open PySem PySem.W PyProof.Rows PySem.Calls Builtin Builtin.ObjectAttr
namespace Mine
section
variable {c:Cn} {p:Pg} {kd:PySem.Str->Option NameKind} {pos:Pos} {n:Nat} {atts:List Nat}
theorem zbt {n:Nat} {i:Int} {k:Nat->Bool} (h:zeP n i k=true):∃q,q < n/\k q=true/\seqIndex? i n=some q/\((0<=i/\i=(q:Int))\/(i < 0/\-(n:Int)<=i/\(i + n).toNat=q)):=by
  cases i with
  | ofNat a=>
    refine E0_2 (zac (show bq (Nat.blt a n) (k a) false=true from h)) λe h=>?_
    rw [Nat.blt_eq] at e
    exact ⟨a,e,h,by rw [seqIndex_of (k:=Int.ofNat a) (Int.natCast_nonneg a) (by show (a:Int) < n;omega)];rfl,.inl ⟨Int.natCast_nonneg a,rfl⟩⟩
  | negSucc a=>
    refine E0_2 (zac (show bq (Nat.blt a n) (frc (Nat.sub (Nat.pred n) a) k) false=true from h)) λe h=>?_
    rw [Nat.blt_eq] at e
    have h:k (n - 1 - a)=true:=h
    have e1:(Int.negSucc a + n).toNat=n - 1 - a:=by rw [Int.negSucc_eq];omega
    refine ⟨n - 1 - a,by omega,h,?_,.inr ⟨Int.negSucc_lt_zero a,by rw [Int.negSucc_eq];omega,e1⟩⟩
    rw [seqIndex_neg (Int.negSucc_lt_zero a) (by rw [Int.negSucc_eq];omega),e1]
noncomputable def zeu (e:Expr):Prop:=∀o i,subscripted e false o i=operate [o,i] (getItem o i)
theorem zkA (N:Nms c) {a i:V} {u w:Value} {ex ix:Expr} (hs:zeu ix) {ids:List P} {l:Vl} {st:St} {s:Shared} {k:KV} {A:Around} {Q E:Value->Shared->Prop} (h:idxV a i st k=true) (d:DV c l a u) (di:DV c l i w) (ok:Ok c ids l st s) (hk:PV c ids l k Q):
    wpAny (Md c) A (subscriptTail ex ix u w) Q E s:=by
  cases a <;> first | exact nb h | skip
  case byt bs=>
    refine E1_2 (zam (show vInt i (zkB bs st k)=true from h)) ?_;rintro j rfl h
    refine E0_2 (zac (show bq (zah bs 300) (zaP j (zkc bs st k)) false=true from h)) λhs3 h=>?_
    cases j with
    | negSucc=>exact nb h
    | ofNat j=>
    refine E1_1 di ?_;clear di;rintro t rfl
    obtain ⟨us,t1,rfl,dd⟩:=d
    refine E1_2 (zaY _ _ _ (show nth bs j (bV k st)=true from h)) λb hb h=>?_
    refine E1_2 (dd.get hb) λx e dx=>?_
    have hl:=dd.length
    have hs3:=zae _ _ hs3
    have hj:j < us.toList.length:=(List.getElem?_eq_some_iff.mp e).1
    have hx:us.toList.getD j 0=x:=by rw [List.getD_eq_getElem?_getD,e];rfl
    have hq:Q (.int ((us.toList.getD (Int.ofNat j).toNat 0).toNat) s.toks) { s with toks:=s.toks + 1}:=by
      show Q (.int ((us.toList.getD j 0).toNat) s.toks) _
      rw [hx]
      cases b with
      | n y=>
        have dx:x.toNat=y:=dx
        exact hk _ (.int (.ofNat y)) _ _ _ h (.refl _) ok.tok ⟨_,by rw [dx];rfl⟩
      | s j2 c2 lo hi=>
        refine E1_2 dx λz e1 e2=>?_
        exact hk _ (.sym j2 c2 lo hi) _ _ _ h (.refl _) ok.tok ⟨z,_,e1,by rw [e2.1],e2.2⟩
    exact tail_any (T:="bytes") (typeIs_bytes s us.toList.toArray t1) FB.slot_bytes_getitem.lookup (getItem_bytes (by omega) (Int.natCast_nonneg j) (by show (j:Int) < _;omega) hq) (hs _ _)
  case ref q=>
  refine E1_2 d ?_;clear d;rintro x hx rfl
  have hint:∀(i:Int) (t:Tok) (st:St),idxI st k q i=true->Ok c ids l st s->wpAny (Md c) A (subscriptTail ex ix (.ref x) (.int i t)) Q E s:=λi t st h ok=>by
    refine E0_2 (zac (show bq (zan i) (st.get q (idxO i st k)) false=true from h)) λhz h=>?_
    have hz:=zaw hz
    rcases zar (St.get_spec h) with ⟨xs,ho,h⟩ | ⟨xs,ho,h⟩
    · have h:=zal _ _ _ (show lenL xs 0 (kAt xs i st k)=true from h)
      refine E1_4 (zbt (show zeP (0 + xs.length) i (kNth xs st k)=true from h)) λj hj h hi _=>?_
      refine E1_2 (zaY _ _ _ (show nth xs j (kV k st)=true from h)) λv hv h=>?_
      refine E2_2 (zax ok ho hx) λvs m g1 g2=>?_
      refine E1_2 (g2.get hv) λuv e dv=>?_
      have L:IsTup s.heap x vs.toArray:=⟨_,g1,rfl,m,rfl⟩
      exact tail_any L.typeIs slot_tuple_getitem.lookup (getItem_tuple L (by omega) (by omega) (by rw [List.size_toArray,<- g2.length];simpa using hi) (by simpa using e) (hk _ v _ _ _ h (.refl _) ok dv)) (hs _ _)
    · have h:=zal _ _ _ (show lenL xs 0 (kAt xs i st k)=true from h)
      refine E1_4 (zbt (show zeP (0 + xs.length) i (kNth xs st k)=true from h)) λj hj h7 hi hc=>?_
      refine E1_2 (zaY _ _ _ (show nth xs j (kV k st)=true from h7)) λv hv h9=>?_
      refine E2_3 (zaq ok ho hx) λvs m g1 g2 _=>?_
      refine E1_2 (g2.get hv) λuv e dv=>?_
      have L:s.heap.IsList x vs.toArray:=⟨_,g1,rfl,m,rfl⟩
      have hl:vs.toArray.size=xs.length:=by rw [List.size_toArray,g2.length]
      rcases hc with ⟨h0,rfl⟩ | ⟨h0,h1,h2⟩
      · exact tail_any L.typeIs slot_list_getitem.lookup (wpAny_getItem_list L h0 (by omega) (by simpa using e) (hk _ v _ _ _ h9 (.refl _) ok dv)) (hs _ _)
      · rw [Nat.zero_add] at h1 h2
        exact tail_any L.typeIs slot_list_getitem.lookup (wpAny_getItem_list_neg L h0 (by rw [hl];exact h1) (by omega) (by rw [hl,h2];simpa using e) (hk _ v _ _ _ h9 (.refl _) ok dv)) (hs _ _)
  cases i <;> first | exact nb h | skip
  case int i=>
    refine E1_1 di ?_;clear di;rintro t rfl
    exact hint i t st h ok
  case sym j c0 lo hi=>
    refine E2_4 di ?_;clear di;rintro z t hz rfl h1 h2
    refine E1_4 (zcR ok hz h1 h2 (show conc j c0 lo hi st (idxC k q)=true from h)) λst' h ok' _ _=>?_
    exact hint _ t st' h ok'
  case str i=>
    refine E1_1 di ?_;clear di;rintro t rfl
    refine E1_2 (zaC (St.get_spec (show st.get q (idxN i st k)=true from h))) λm ho h=>?_
    refine E1_2 (zat (show look m i (kV k st)=true from h)) λv e h=>?_
    refine E2_4 (ok.at_ ho (by rintro ⟨⟩)) ?_;rintro x' ob q1 q2 ⟨es,cn,rfl,q3⟩ _
    rw [hx] at q1;(replace q1:=si q1;subst q1)
    refine E1_2 (zeq N q2 q3 i) λf M hf=>?_
    rw [e] at hf
    refine E1_2 hf ?_;clear hf;intro uv e1 dv
    exact tail_any (T:="dict") M.typeIs slot_dict_getitem.lookup (wpAny_getItem_of (knd:=sk c) (k:=c.nm i) (by show Value.isStrOf (c.nm i) (.str (c.nm i) t)=true;simp [Value.isStrOf]) M e1 (hk _ v _ _ _ h (.refl _) ok.tok dv)) (hs _ _)
theorem zl1 (N:Nms c) {e i:Ev} {ex ix:Expr} (h1:SEv c p kd e ex) (h2:SEv c p kd i ix) (hs:zeu ix):SEv c p kd (xIdx e i) (.Subscript ex ix pos):=by
  intro x ids l st s k A env Q E am h ok hk
  refine Subscript_ (h1 _ _ _ _ _ _ _ _ _ _ am h ok ?_)
  intro l1 v st1 u s1 g1 le1 ok1 d1
  refine h2 _ _ _ _ _ _ _ _ _ _ (am.le le1) (show i x st1 (zkh v k)=true from g1) ok1 ?_
  intro l2 w st2 u2 s2 g2 le2 ok2 d2
  exact zkA N hs g2 (d1.le le2) d2 ok2 (hk.le (le1.trans le2))
noncomputable def DOp (c:Cn) (l:Vl) (o:Option V) (u:Value):Prop:=match o with
  | none=>u=.none
  | some v=>DV c l v u
noncomputable def SOp (c:Cn) (p:Pg) (kd:PySem.Str->Option NameKind) (o:Opt) (ex:Option Expr):Prop:=∀x ids l st s k A env Q E,
  Amb c p kd x ids l A env E->o x st k=true->Ok c ids l st s->(∀l' w st' u s',k w st'=true->l.Le l'->Ok c ids l' st' s'->DOp c l' w u->Q u s')->wpAny (Md c) A (evalPart ex env) Q E s
theorem zjR:SOp c p kd zbH none:=λx ids l st s k A env Q E am h ok hk=>evalPart_none_step (hk _ none _ _ _ h (.refl _) ok rfl)
theorem zjQ {e:Ev} {ex:Expr} (h1:SEv c p kd e ex):SOp c p kd (zbG e) (some ex):=λx ids l st s k A env Q E am h ok hk=>
  evalPart_some_step (h1 _ _ _ _ _ _ _ _ _ _ am h ok λl' v st' u s' g le ok' d=>hk _ (some v) _ _ _ g le ok' d)
theorem zdt {n d:Nat} {o:Option V} {k:Nat->Bool} (h:clip n d o k=true):∃oi:Option Int,(o=oi.map V.int)/\k (oi.elim d (clipAt n))=true:=by
  cases o with
  | none=>exact ⟨none,rfl,h⟩
  | some v=>
    refine E1_2 (zam (show vInt v (zk9 n k)=true from h)) ?_;rintro i rfl h
    refine ⟨some i,rfl,?_⟩
    show k (clipAt n i)=true
    cases i with
    | ofNat a=>
      rw [show (Int.ofNat a:Int)=((a:Nat):Int) from rfl,clipAt_nat]
      rcases bq_t (show bq (Nat.ble a n) (k a) (k n)=true from h) with ⟨e,h⟩ | ⟨e,h⟩
      · rw [Nat.ble_eq] at e;rwa [Nat.min_eq_left e]
      · have:¬ a<=n:=λq=>by rw [Nat.ble_eq.mpr q] at e;exact nf e
        rwa [Nat.min_eq_right (by omega)]
    | negSucc a=>
      rw [show Int.negSucc a= -((a + 1:Nat):Int) from rfl,clipAt_neg _ _ (by omega)]
      rcases bq_t (show bq (Nat.blt a n) (frc (Nat.sub (Nat.pred n) a) k) (k 0)=true from h) with ⟨e,h⟩ | ⟨e,h⟩
      · rw [Nat.blt_eq] at e
        have h:k (n - 1 - a)=true:=h
        rwa [show n - (a + 1)=n - 1 - a by omega]
      · have:¬ a < n:=λq=>by rw [Nat.blt_eq.mpr q] at e;exact nf e
        rwa [show n - (a + 1)=0 by omega]
theorem ze7 {α:Type} {xs:List α} {lo hi:Option V} {k:List α->Bool} (h:slcL xs lo hi k=true):∃ol oh:Option Int,lo=ol.map V.int/\hi=oh.map V.int/\k ((xs.take (oh.elim xs.length (clipAt xs.length))).drop (ol.elim 0 (clipAt xs.length)))=true:=by
  have h:=zal _ _ _ (show lenL xs 0 (sl0 xs lo hi k)=true from h)
  rw [Nat.zero_add] at h
  refine E1_2 (zdt (show clip xs.length 0 lo (sl1 xs hi k xs.length)=true from h)) λol e1 h=>?_
  refine E1_2 (zdt (show clip xs.length xs.length hi (sl2 xs (ol.elim 0 (clipAt xs.length)) k)=true from h)) λoh e2 h=>?_
  have h:=zbp _ _ _ (show zfW _ _ k=true from zbh _ _ _ h)
  exact ⟨ol,oh,e1,e2,h⟩
theorem zco {l:Vl} {oi:Option Int} {u:Value} (h:DOp c l (oi.map V.int) u):IsPart u oi:=by
  cases oi with
  | none=>cases h;exact .none
  | some i=>(refine E1_1 h ?_;clear h;rintro t rfl);exact .int i t
theorem zgS (b n:Nat) (h:b<=n):Builtin.Slice.sliceAdjust none (some (b:Int)) 1 (n:Int)=(0,(b:Int)):=by
  unfold Builtin.Slice.sliceAdjust
  simp only [show ¬ ((1:Int) < 0) by omega,show ¬ ((b:Int) < 0) by omega,if_false]
  congr 1
  omega
theorem zdv {prog:Program} {w:World} {A:Around} {E:Value->Shared->Prop} {s:Shared} {sl:Addr} {b n:Nat} {u:Tok} {Q:Int×Int×Nat->Shared->Prop} (hs:s.heap.IsSliceOf sl .none (.int b u) .none) (hb:b<=n) (h:Q ((0:Int),1,b) s):
    wpAny (model prog w) A (Builtin.Slice.sliceApplied (.ref sl) (pure (n:Int))) Q E s:=by
  refine E1_3 (show ∃os,s.heap.get? sl=some os/\os.cls=.type "slice"/\os.data=.fields #[.none,.int b u,.none] from hs) λos o1 o2 o3=>?_
  unfold Builtin.Slice.sliceApplied Builtin.Slice.sliceFields
  refine wpAny_bind (wpAny_bind (wpAny_field o1 o3 (x:=.none) rfl (wpAny_bind (wpAny_field o1 o3 (x:=.int b u) rfl (wpAny_bind (wpAny_field o1 o3 (x:=.none) rfl (wpAny_pure ?_)))))))
  refine wpAny_bind (slicePart_none ?_)
  show wpAny _ _ (if ((1:Int)==0)=true then _ else _) _ _ s
  rw [if_neg (by decide)]
  refine wpAny_bind (slicePart_none (wpAny_bind (slicePart_int (wpAny_bind (wpAny_pure ?_)))))
  show wpAny _ _ (match Builtin.Slice.sliceAdjust none (some (b:Int)) 1 (n:Int) with | (lo,hi)=>pure (lo,(1:Int),Builtin.Slice.slicePlaces lo hi 1)) _ _ s
  rw [zgS b n hb]
  show wpAny _ _ (pure ((0:Int),(1:Int),Builtin.Slice.slicePlaces (0:Int) (b:Int) 1)) _ _ s
  rw [show Builtin.Slice.slicePlaces (0:Int) (b:Int) 1=b by have:=places_from 0 b (Nat.zero_le _);simpa using this]
  exact wpAny_pure h
theorem zfk (xs:Array Value) (b:Nat) (hb:b<=xs.size):((List.range b).filterMap λ(k:Nat)=>xs[((0:Int) + (k:Int) * 1).toNat]?).toArray=(xs.toList.take b).toArray:=by
  have e:(λ(k:Nat)=>xs[((0:Int) + (k:Int) * 1).toNat]?)=λk=>xs[0 + k]?:=by
    funext k
    rw [show ((0:Int) + (k:Int) * 1).toNat=0 + k by omega]
  rw [e]
  have:=pick_run xs 0 b
  rw [List.filterMap_map] at this
  exact congrArg List.toArray (this.trans (by simp))
theorem zev {prog:Program} {w:World} {A:Around} {E:Value->Shared->Prop} {s:Shared} {t sl:Addr} {items:Array Value} {b:Nat} {u:Tok} {Q:Value->Shared->Prop} (ht:IsTup s.heap t items) (hs:s.heap.IsSliceOf sl .none (.int b u) .none) (hb:b < items.size)
    (h:Q (.ref s.heap.objs.size) { s with heap:=s.heap.push { cls:=.type "tuple",data:=.seq (items.toList.take b).toArray}}) (hz:items.size<=sizeLine):wpAny (model prog w) A (getItem (.ref t) (.ref sl)) Q E s:=by
  have hok:sizeOk (.seq (items.toList.take b).toArray):=by
    show (items.toList.take b).toArray.size<=sizeLine
    rw [List.size_toArray,List.length_take]
    exact Nat.le_trans (Nat.min_le_left _ _) (Nat.le_trans (Nat.le_of_lt hb) hz)
  have hT:s.TypeIs (.ref sl) "slice":=let ⟨os,a,b,_⟩:=hs;⟨os,a,b⟩
  unfold getItem
  try with_reducible refine wpAny_holding ?_
  first | refine wpAny_bind (wpAny_pure ?_) | skip
  refine wpAny_bind (wpAny_sequenceKey ht.typeIs (by decide) ?_)
  refine wpAny_bind (wpAny_callSpecial?_slot (name:=PySem.Str.ofString "__getitem__") ht.typeIs slot_tuple_getitem (wpAny_call_entry slot_tuple_getitem ht.typeIs entry_tuple_getitem ?_ (args_tuple_getitem _ _)))
  show wpAny _ _ (Builtin.Tuple.tupleItemsOf (.ref t) >>=_) _ _ s
  refine wpAny_bind (tupleItemsOf_ ht ?_)
  refine wpAny_bind (wpAny_typeOf hT ?_)
  rw [if_pos (by decide)]
  refine wpAny_bind (zdv hs (Nat.le_of_lt hb) ?_)
  show wpAny _ _ (if ((0:Int)==0&&(1:Int)==1&&b==items.size)=true then _ else _) _ _ s
  rw [if_neg (by rw [show (b==items.size)=false from beq_eq_false_iff_ne.mpr (Nat.ne_of_lt hb)];decide),zfk items b (Nat.le_of_lt hb)]
  first
    | exact wpAny_bind (m:=Builtin.Tuple.tupleExact _) (wpAny_newObj_type (wpAny_pure ⟨_,rfl,wpAny_pure h⟩) hok)
    | exact wpAny_bind (m:=Builtin.Tuple.tupleExact _) (wpAny_newObj_type (wpAny_bind (wpAny_pure (wpAny_pure ⟨_,rfl,wpAny_pure h⟩))) hok)
    | exact wpAny_bind (wpAny_bind (m:=Builtin.Tuple.tupleExact _) (wpAny_newObj_type (wpAny_pure (wpAny_pure ⟨_,rfl,wpAny_pure h⟩)) hok))
    | exact wpAny_bind (wpAny_bind (m:=Builtin.Tuple.tupleExact _) (wpAny_newObj_type (wpAny_pure ⟨_,rfl,wpAny_pure h⟩) hok))
theorem zje {a:V} {lo hi:Option V} {u ul uh:Value} {ex sx:Expr} {ids:List P} {l:Vl} {st:St} {s:Shared} {k:KV} {A:Around} {Q E:Value->Shared->Prop} (hs:∀o i,subscripted sx false o i=operate [i,o] (getItem o i)) (h:slcV a lo hi st k=true)
    (d:DV c l a u) (dl:DOp c l lo ul) (dh:DOp c l hi uh) (ok:Ok c ids l st s) (hk:PV c ids l k Q):
    wpAny (Md c) A (subscriptTail ex sx u (.ref s.heap.objs.size)) Q E { s with heap:=s.heap.push { cls:=.type "slice",data:=.fields #[ul,uh,.none]}}:=by
  refine E1_2 (zak h) ?_;rintro q rfl h
  refine E1_2 d ?_;clear d;rintro x hx rfl
  have ok':Ok c ids l st { s with heap:=s.heap.push { cls:=.type "slice",data:=.fields #[ul,uh,.none]}}:=ok.quiet λb o e=>Heap.get?_push_of_some _ e
  rcases zar (St.get_spec (show st.get q (slcO lo hi st k)=true from h)) with ⟨xs,ho,h⟩ | ⟨xs,ho,h⟩
  · cases hi with
    | some v=>
      cases lo with
      | some _=>exact nb h
      | none=>
      refine E1_2 (zam (show vInt v (λi=>zaP i (slU2 xs st k))=true from h)) ?_;rintro i rfl h
      refine E1_1 dh ?_;clear dh;rintro t rfl
      cases dl
      cases i with
      | negSucc b=>exact nb h
      | ofNat b=>
        refine E0_2 (zac (show bq (zah xs 300) (lenL xs 0 (slU3 xs b st k)) false=true from h)) λe2 h=>?_
        have e2:=zae _ _ e2
        have h:=zal _ _ _ h
        refine E0_2 (zac (show bq (Nat.blt b (0 + xs.length)) (zgc b xs (zbJ k st)) false=true from h)) λe3 h=>?_
        rw [Nat.blt_eq,Nat.zero_add] at e3
        have h:=zbh _ _ _ h
        refine E2_2 (zax ok' ho hx) λvs m g1 g2=>?_
        have hl:vs.length=xs.length:=g2.length.symm
        have L:IsTup (s.heap.push { cls:=.type "slice",data:=.fields #[.none,.int (.ofNat b) t,.none]}) x vs.toArray:=⟨_,g1,rfl,m,rfl⟩
        refine tail_any (s:={ s with heap:=s.heap.push { cls:=.type "slice",data:=.fields #[.none,.int (.ofNat b) t,.none]}}) L.typeIs slot_tuple_getitem.lookup
          (zev (b:=b) L (Heap.IsSliceOf.new ..) (by rw [List.size_toArray];omega) ?_ (by rw [List.size_toArray,sizeLine_eq];omega)) (hs _ _)
        refine E1_4 (zaz (s':={ s with heap:=(s.heap.push { cls:=.type "slice",data:=.fields #[.none,.int (.ofNat b) t,.none]}).push { cls:=.type "tuple",data:=.seq (vs.take b).toArray}}) ok' (show st.add (.tup (xs.take b)) (kRef k)=true from h) rfl rfl
          ⟨vs.take b,0,rfl,(DVs.le (ok'.ext _) g2).take b⟩) λst2 ok2 le2 d2 g2'=>?_
        exact hk _ _ _ _ _ g2' le2 ok2 d2
    | none=>
      cases lo with
      | none=>exact nb h
      | some v=>
        refine E1_2 (zam (show vInt v (λi=>zaP i (slT2 xs st k))=true from h)) ?_;rintro i rfl h
        refine E1_1 dl ?_;clear dl;rintro t rfl
        cases dh
        cases i with
        | negSucc b=>exact nb h
        | ofNat b=>
          refine E0_2 (zac (show bq (Nat.ble 1 b) (bq (zah xs 300) (lenL xs 0 (slT3 xs b st k)) false) false=true from h)) λe1 h=>?_
          refine E0_2 (zac h) λe2 h=>?_
          rw [Nat.ble_eq] at e1
          have e2:=zae _ _ e2
          have h:=zal _ _ _ h
          refine E0_2 (zac (show bq (Nat.ble b (0 + xs.length)) (zfW b xs (zbJ k st)) false=true from h)) λe3 h=>?_
          rw [Nat.ble_eq,Nat.zero_add] at e3
          have h:=zbp _ _ _ h
          refine E2_2 (zax ok' ho hx) λvs m g1 g2=>?_
          have hl:vs.length=xs.length:=g2.length.symm
          have L:IsTup (s.heap.push { cls:=.type "slice",data:=.fields #[.int (.ofNat b) t,.none,.none]}) x vs.toArray:=⟨_,g1,rfl,m,rfl⟩
          refine tail_any (s:={ s with heap:=s.heap.push { cls:=.type "slice",data:=.fields #[.int (.ofNat b) t,.none,.none]}}) L.typeIs slot_tuple_getitem.lookup
            (getItem_tuple_from (a:=b) L (Heap.IsSliceOf.new ..) e1 (by rw [List.size_toArray];omega) ?_ (by rw [List.size_toArray,sizeLine_eq];omega)) (hs _ _)
          refine E1_4 (zaz (s':={ s with heap:=(s.heap.push { cls:=.type "slice",data:=.fields #[.int (.ofNat b) t,.none,.none]}).push { cls:=.type "tuple",data:=.seq (vs.drop b).toArray}}) ok' (show st.add (.tup (xs.drop b)) (kRef k)=true from h) rfl rfl
            ⟨vs.drop b,0,rfl,(DVs.le (ok'.ext _) g2).drop b⟩) λst2 ok2 le2 d2 g2'=>?_
          exact hk _ _ _ _ _ g2' le2 ok2 d2
  · refine E0_2 (zac (show bq (zah xs 300) (slcL xs lo hi (za5 k st)) false=true from h)) λe2 h=>?_
    have e2:=zae _ _ e2
    refine E2_3 (ze7 h) λol oh e4 e5 h5=>?_
    clear h
    subst e4 e5
    refine E2_3 (zaq ok' ho hx) λvs m g1 g2 _=>?_
    have hl:vs.length=xs.length:=g2.length.symm
    have L:(s.heap.push { cls:=.type "slice",data:=.fields #[ul,uh,.none]}).IsList x vs.toArray:=⟨_,g1,rfl,m,rfl⟩
    refine tail_any (s:={ s with heap:=s.heap.push { cls:=.type "slice",data:=.fields #[ul,uh,.none]}}) L.typeIs slot_list_getitem.lookup
      (wpAny_getItem_list_slice L (Heap.IsSliceOf.new ..) (zco dl) (zco dh) .none (by simp) ?_ (by rw [List.size_toArray,sizeLine_eq];omega)) (hs _ _)
    rw [slicePick_plain]
    refine E1_4 (zaz (s':={ s with heap:=(s.heap.push { cls:=.type "slice",data:=.fields #[ul,uh,.none]}).push { cls:=.type "list",data:=.seq ((vs.drop (ol.elim 0 (clipAt vs.toArray.size))).take (oh.elim vs.toArray.size (clipAt vs.toArray.size) - ol.elim 0 (clipAt vs.toArray.size))).toArray}}) ok' (show st.add (.lst ((xs.take (oh.elim xs.length (clipAt xs.length))).drop (ol.elim 0 (clipAt xs.length)))) (kRef k)=true from h5) rfl rfl
      ⟨_,0,rfl,by
        have hz:vs.toArray.size=xs.length:=by simp [hl]
        rw [<- List.drop_take,hz]
        exact ((DVs.le (ok'.ext _) g2).take _).drop _⟩) λst2 ok2 le2 d2 g2'=>?_
    exact hk _ _ _ _ _ g2' le2 ok2 d2
theorem zlV {e:Ev} {lo hi:Opt} {ex:Expr} {lx hx:Option Expr} {sp:Pos} (h1:SEv c p kd e ex) (h2:SOp c p kd lo lx) (h3:SOp c p kd hi hx):SEv c p kd (xSlc e lo hi) (.Subscript ex (.Slice lx hx none sp) pos):=by
  intro x ids l st s k A env Q E am h ok hk
  refine Subscript_ (h1 _ _ _ _ _ _ _ _ _ _ am h ok ?_)
  intro l1 v st1 u s1 g1 le1 ok1 d1
  refine wpAny_Slice (h2 _ _ _ _ _ _ _ _ _ _ (am.le le1) (show lo x st1 (zj9 hi x v k)=true from g1) ok1 ?_)
  intro l2 w st2 u2 s2 g2 le2 ok2 d2
  refine h3 _ _ _ _ _ _ _ _ _ _ (am.le (le1.trans le2)) (show hi x st2 (zj8 v w k)=true from g2) ok2 ?_
  intro l3 w3 st3 u3 s3 g3 le3 ok3 d3
  refine evalPart_none_step ?_
  have d2':DOp c l3 w u2:=by
    cases w with
    | none=>exact d2
    | some w=>exact DV.le le3 d2
  exact zje (λo i=>rfl) g3 (d1.le (le2.trans le3)) d2' d3 ok3 (hk.le (le1.trans (le2.trans le3)))
end
end Mine
end
section
open PySem PySem.W PyProof.Rows PySem.Calls Builtin Builtin.ObjectAttr
namespace Mine
section
variable {c:Cn} {p:Pg} {kd:PySem.Str->Option NameKind} {pos:Pos} {n:Nat} {atts:List Nat}
theorem zey {prog:Program} {w:World} {A:Around} {E:Value->Shared->Prop} {s:Shared} {l:Addr} {items:Array Value} {n:Nat} {k:Int} {t:Tok} {v:Value} {Q:Unit->Shared->Prop} (ho:s.heap.get? l=some { cls:=.type "list",data:=.seq items n})
    (h0:0<=k) (hfit:k < 2 ^ 63) (hn:k < items.size)
    (hQ:∀h' m,Heap.SameBut l s.heap h'->h'.get? l=some { cls:=.type "list",data:=.seq (items.setIfInBounds k.toNat v) m}->Q () { s with heap:=h'}):
    wpAny (model prog w) A (setItem (.ref l) (.int k t) v) Q E s:=by
  have hl:s.heap.IsList l items:=⟨_,ho,rfl,n,rfl⟩
  unfold setItem
  try with_reducible refine wpAny_holding ?_
  first | refine wpAny_bind (wpAny_pure ?_) | skip
  refine wpAny_bind (wpAny_sequenceKey hl.typeIs (by decide) ?_)
  refine wpAny_bind (wpAny_callSpecial?_slot (name:=Str.ofString "__setitem__") hl.typeIs slot_list_setitem
    (wpAny_call_entry slot_list_setitem hl.typeIs entry_list_setitem ?_ (args_list_setitem _ _ _)))
  show wpAny _ _ (Builtin.List.listSubscript? (.int k t) >>=_) _ _ s
  refine wpAny_bind (wpAny_listSubscript_int (fitsIndex_of h0 hfit) ?_)
  clear hfit
  refine E1_1 (Int.eq_ofNat_of_zero_le h0) ?_;rintro j rfl
  have hj:j < items.size:=by omega
  show wpAny _ _ ((seqItemAt l j >>=λr=>pure (r.map (j, ·))) >>=_) _ _ s
  refine wpAny_bind (wpAny_bind (wpAny_seqItemAt ho rfl (wpAny_pure ?_)))
  rw [show items[j]? =some items[j] from Array.getElem?_eq_getElem hj]
  show wpAny _ _ (setSeqItemAt l j v >>=_) _ _ s
  refine E1_1 (zcs (·.setIfInBounds j v) items n) λm hm=>?_
  have hfin:(s.heap.update l (Obj.mapSeq (·.setIfInBounds j v))).get? l=some { cls:=.type "list",data:=.seq (items.setIfInBounds j v) m}:=by
    rw [Heap.get?_update_self _ ho (by rw [hm];rfl),hm]
  refine wpAny_bind (wpAny_setSeqItemAt ho rfl ?_)
  first
    | exact wpAny_bind (wpAny_pure (wpAny_pure ⟨.none,rfl,wpAny_pure (hQ _ _ (Heap.SameBut.update ..) hfin)⟩))
    | exact wpAny_pure ⟨.none,rfl,wpAny_pure (hQ _ _ (Heap.SameBut.update ..) hfin)⟩
theorem ze8 (N:Nms c) {a i v:V} {u w z:Value} {ids:List P} {l:Vl} {st:St} {s:Shared} {k:KS} {A:Around} {Q:Shared->Prop} {E:Value->Shared->Prop} (h:zg0 a i v st k=true) (d:DV c l a u) (di:DV c l i w) (dv:DV c l v z) (ok:Ok c ids l st s) (hk:PSk c ids l k Q):
    wpAny (Md c) A (setItem u w z) (λ_=>Q) E s:=by
  refine E1_2 (zak h) ?_;rintro q rfl h1
  clear h
  refine E1_2 d ?_;clear d;rintro x hx rfl
  cases i <;> first | exact nb h1 | skip
  case int i=>
    refine E1_1 di ?_;clear di;rintro t rfl
    refine E0_2 (zac (show bq (ile (.ofNat 0) i) (bq (zan i) (st.get q (seO i v q st k)) false) false=true from h1)) λh0 h2=>?_
    refine E0_2 (zac h2) λhz h3=>?_
    have h0:=ile_spec.mp h0
    have hz:=zaw hz
    refine E1_2 (zas (St.get_spec h3)) λxs ho h4=>?_
    have h5:=zal _ _ _ (show lenL xs 0 (seA xs i v q st k)=true from h4)
    refine E1_4 (zbt (show zeP (0 + xs.length) i (seN xs v q st k)=true from h5)) λj hj h6 hi hc=>?_
    rcases hc with ⟨_,rfl⟩ | ⟨hn,_⟩
    · refine E0_2 (zbV _ _ _ _ (show setN xs j v (zka q st k)=true from h6)) λhl h7=>?_
      refine E1_2 (St.put_spec (show st.put q (.lst (xs.set j v)) k=true from h7)) λt' h8 ht=>?_
      refine E2_3 (zaq ok ho hx) λvs m g1 g2 g3=>?_
      have L:s.heap.IsList x vs.toArray:=⟨_,g1,rfl,m,rfl⟩
      have hv:vs.length=xs.length:=g2.length.symm
      refine zey g1 h0 (by omega) (by rw [List.size_toArray];omega) λh' m' hs ho'=>?_
      exact hk _ _ _ h8 (.refl _) (zbk (us:=vs.set j z) ok ho hx (λb u e z=>(hs.2 b e).trans z) (n:=m') (by rw [ho'];simp) (g2.set j dv) ht)
    · exact absurd h0 (Int.not_le.mpr hn)
  case str i=>
    refine E1_1 di ?_;clear di;rintro t rfl
    refine E1_2 (zaC (St.get_spec (show st.get q (seNs i v q st k)=true from h1))) λm ho h2=>?_
    refine E0_2 (zac (show bq (zah m 200) (bq (ndL m) (setL m i v (zfK q st k)) false) false=true from h2)) λhz h3=>?_
    refine E0_2 (zac h3) λhn h4=>?_
    have hz:=zae _ _ hz
    have hn:=zcH _ hn
    refine E1_2 (St.put_spec (show st.put q (.ns (setF m i v)) k=true from zaN _ _ _ _ h4)) λt' h5 ht=>?_
    refine E2_4 (ok.at_ ho (by rintro ⟨⟩)) ?_;rintro x' ob q1 q2 ⟨es,cn,rfl,q3⟩ _
    rw [hx] at q1;(replace q1:=si q1;subst q1)
    refine E1_2 (zfX N q2 q3 hn) λkvs M hm=>?_
    refine wpAny_setItem_pairs (knd:=sk c) (k:=c.nm i) (by show Value.isStrOf (c.nm i) (.str (c.nm i) t)=true;simp [Value.isStrOf]) M (λh' M' hs=>?_) (by rw [<- hm.length,sizeLine_eq];omega)
    refine E2_2 (zep M' (ze2 N hm hn dv)) λes' k' e1 e2=>?_
    exact hk _ _ _ h5 (.refl _) (ok.upd_ns (s':={ s with heap:=h',toks:=s.toks + 1}) ho hx (λb u e z=>(hs.2 b e).trans z) e1 e2 ht)
theorem znZ (N:Nms c) {e i:Ev} {ex ix:Expr} (h1:SEv c p kd e ex) (h2:SEv c p kd i ix):SAs c p kd (aIdx e i) (.Subscript ex ix pos):=by
  intro x ids l v u st s k A env Q E am h ok d hk
  rw [assign_Subscript]
  refine wpAny_bind (wpAny_holding (h1 _ _ _ _ _ _ _ _ _ _ am h ok ?_))
  intro l1 o st1 ov s1 g1 le1 ok1 d1
  refine wpAny_bind (wpAny_holding (h2 _ _ _ _ _ _ _ _ _ _ (am.le le1) (show i x st1 (zfM o v k)=true from g1) ok1 ?_))
  intro l2 iv st2 iu s2 g2 le2 ok2 d2
  refine wpAny_bind (wpAny_standAt (wpAny_bind (wpAny_holding (ze8 N g2 (d1.le le2) d2 (d.le (le1.trans le2)) ok2 ?_))))
  intro l3 st3 s3 g3 le3 ok3
  exact wpAny_release' (hk _ _ _ g3 (le1.trans (le2.trans le3)) ok3)
end
end Mine
end
section
open PySem PySem.W PyProof.Rows PySem.Calls Builtin Builtin.ObjectAttr
namespace Mine
section
variable {c:Cn} {p:Pg} {kd:PySem.Str->Option NameKind} {pos:Pos} {n:Nat} {atts:List Nat}
theorem zl4:SEv c p kd xDc0 (.Dict [] [] pos):=by
  intro x ids l st s k A env Q E am h ok hk
  refine wpAny_Dict_empty ?_
  refine E1_4 (zaz (s':={ s with heap:=s.heap.push { cls:=.type "dict",data:=.dict #[]}}) ok (show st.add (.ns []) (kRef k)=true from h) rfl rfl ⟨[],0,rfl,.nil⟩) λst2 ok2 le2 d2 g2=>?_
  exact hk _ _ _ _ _ g2 le2 ok2 d2
inductive DKeys (c:Cn):List Nat->List (Option Expr)->Prop
  | nil:DKeys c [] []
  | cons {k ks n pk es}:DKeys c ks es->DKeys c (k::ks) (some (.Constant (.str (c.nm k)) n pk)::es)
noncomputable def prs (pos:Pos) (env:Env):List (Option Expr)->List Expr->List (Sem Value×Sem Value)
  | some k::ks,v::vs=>(eval k env,do let x <- eval v env;standAt pos;pure x)::prs pos env ks vs
  | _,_=>[]
theorem zfi {env:Env} {ks:List Nat} {es:List (Option Expr)} (h:DKeys c ks es):∀{vs:List Expr},vs.length=ks.length->(evalEachOpt es env).zip ((evalEach vs env).map λv=>do let x <- v;standAt pos;pure x)=(prs pos env es vs).map (λp=>(some p.1,p.2))/\(prs pos env es vs).length=ks.length:=by
  induction h with
  | nil=>intro vs e;cases vs with
    | nil=>exact ⟨rfl,rfl⟩
    | cons=>cases e
  | @cons k ks n pk es h ih=>
    intro vs e
    cases vs with
    | nil=>cases e
    | cons v vs=>
      refine E0_2 (ih (vs:=vs) (by simpa using e)) λh1 h2=>?_
      refine ⟨?_,by simp [prs,h2]⟩
      show (eval (.Constant (.str (c.nm k)) n pk) env |> some,_)::((evalEachOpt es env).zip ((evalEach vs env).map λv=>do let x <- v;standAt pos;pure x))=_
      rw [h1];rfl
noncomputable def SPrs (c:Cn) (p:Pg) (kd:PySem.Str->Option NameKind) (pos:Pos) (e:Evs) (ks:List Nat) (keys:List (Option Expr)) (es:List Expr):Prop:=∀x ids l st s k A env Q E,
  Amb c p kd x ids l A env E->e x st k=true->Ok c ids l st s->
  (∀l' vs st' R s',k vs st'=true->l.Le l'->Ok c ids l' st' s'->All2 (λk (r:Value×Value)=>∃t,r.1=.str (c.nm k) t) ks R->All2 (λv (r:Value×Value)=>DV c l' v r.2) vs R->Q R s')->
  wpAny (Md c) A (evalPairs (prs pos env keys es)) Q E s
theorem zmi:SPrs c p kd pos xNil [] [] []:=λx ids l st s k A env Q E am h ok hk=>evalPairs_nil (hk _ _ _ _ _ h (.refl _) ok .nil .nil)
theorem zjv {e:Ev} {es:Evs} {k:Nat} {ks:List Nat} {keys:List (Option Expr)} {ex:Expr} {exs:List Expr} {pk:Pos} (h1:SEv c p kd e ex) (h2:SPrs c p kd pos es ks keys exs):SPrs c p kd pos (zaa e es) (k::ks) (some (.Constant (.str (c.nm k)) n pk)::keys) (ex::exs):=by
  intro x ids l st s kk A env Q E am h ok hk
  refine evalPairs_cons (wpAny_Constant_str ?_)
  refine wpAny_bind (h1 _ _ _ _ _ _ _ _ _ _ am (show e x st (kEvs es x kk)=true from h) ok.tok ?_)
  intro l1 v st1 u s1 g1 le1 ok1 d1
  refine wpAny_bind (wpAny_standAt (wpAny_pure ?_))
  refine h2 _ _ _ _ _ _ _ _ _ _ (am.le le1) g1 ok1 ?_
  intro l2 vs st2 R s2 g2 le2 ok2 d2 d3
  exact hk _ _ _ _ _ g2 (le1.trans le2) ok2 (.cons ⟨_,rfl⟩ d2) (.cons (d1.le le2) d3)
theorem zcV:∀(ks:List Nat) (vs:List V) (k:KN),zipN ks vs k=true->ks.length=vs.length/\k (ks.zip vs)=true
  | [],[],k,h=>⟨rfl,h⟩
  | [],_::_,k,h=>by exact nb h
  | _::_,[],k,h=>by exact nb h
  | a::ks,v::vs,k,h=>by
    refine E0_2 (zcV ks vs _ (show zipN ks vs (zaD (a,v) k)=true from h)) λh1 h2=>?_
    exact ⟨by simp [h1],h2⟩
theorem ziN {l:Vl}:∀{ks:List Nat} {vs:List V} {R:List (Value×Value)},All2 (λk (r:Value×Value)=>∃t,r.1=.str (c.nm k) t) ks R->All2 (λv (r:Value×Value)=>DV c l v r.2) vs R->
    ∃kvs,Carries (sk c) R kvs/\All2 (DP c l) (ks.zip vs) kvs/\kvs.length=ks.length:=by
  intro ks vs R A
  induction A generalizing vs with
  | nil=>intro B;cases B with | nil=>exact ⟨[],trivial,.nil,rfl⟩
  | @cons k r _ _ q h1 ih=>
    refine E1_1 q ?_;clear q;intro t e
    intro B
    cases B with
    | @cons v _ _ _ d h2=>
    refine E1_3 (ih h2) λkvs c1 c2 c3=>?_
    obtain ⟨a,b⟩:=r
    dsimp only at e
    subst e
    exact ⟨(c.nm k,b)::kvs,⟨by show Value.isStrOf (c.nm k) (.str (c.nm k) t)=true;simp [Value.isStrOf],rfl,c1⟩,.cons ⟨rfl,d⟩ c2,by simp [c3]⟩
theorem zbz {K:Type} [DecidableEq K]:∀(kvs acc:List (K×Value)),((acc++kvs).map (·.1)).Nodup->merged acc kvs=acc++kvs
  | [],acc,_=>by simp [merged]
  | kv::r,acc,h=>by
    have hn:kv.1∉acc.map (·.1):=by
      intro z
      rw [List.map_append,List.nodup_append] at h
      exact h.2.2 _ z _ (by simp) rfl
    have e:stored acc kv.1 kv.2=acc++[kv]:=by
      unfold stored
      rw [if_neg]
      intro q
      refine E1_2 (List.any_eq_true.mp q) λa ha ea=>?_
      exact hn (by rw [<- of_decide_eq_true ea];exact List.mem_map_of_mem (f:=(·.1)) ha)
    show merged (stored acc kv.1 kv.2) r=_
    rw [e,zbz r (acc++[kv]) (by simpa using h)]
    simp
theorem zl3 (N:Nms c) {es:Evs} {ks:List Nat} {keys:List (Option Expr)} {exs:List Expr} (hk0:DKeys c ks keys) (hl:exs.length=ks.length) (h0:ks≠[]) (hz:ks.length<=15) (h1:SPrs c p kd pos es ks keys exs):SEv c p kd (xDct ks es) (.Dict keys exs pos):=by
  intro x ids l st s k A env Q E am h ok hk
  refine E0_2 (zfi (pos:=pos) (env:=env) hk0 hl) λe1 e2=>?_
  refine wpAny_Dict_pairs (knd:=sk c) e1 (λq=>h0 (by rw [q] at e2;exact List.length_eq_zero_iff.mp e2.symm)) (by omega) ?_
  refine E1_4 (zaz (s':={ s with heap:=s.heap.push { cls:=.type "dict",data:=.dict #[]}}) ok (show st.add (.ns []) (zk0 ks es x k)=true from h) rfl rfl ⟨[],0,rfl,.nil⟩) λst1 ok1 le1 d1 g1=>?_
  refine E1_2 d1 ?_;clear d1;intro a ha ea
  cases ea
  refine h1 _ _ _ _ _ _ _ _ _ _ (am.le le1) (show es x st1 (kDct ks st.n k)=true from g1) ok1 ?_
  intro l2 vs st2 R s2 g2 le2 ok2 d2 d3
  refine E1_2 (zaC (St.get_spec (show st2.get st.n (dcNs ks st.n k vs st2)=true from g2))) λm ho g3=>?_
  cases m with
  | cons=>exact nb g3
  | nil=>
    refine E0_2 (zcV ks vs _ (show zipN ks vs (zkZ st.n k st2)=true from g3)) λhl2 g4=>?_
    refine E0_2 (zac (show bq (ndL (ks.zip vs)) (st2.put st.n (.ns (ks.zip vs)) (kRef k st.n)) false=true from g4)) λhn g5=>?_
    refine E1_2 (St.put_spec g5) λt' g6 ht=>?_
    have hn:=zcH _ hn
    refine E1_3 (ziN d2 d3) λkvs c1 c2 c3=>?_
    have hb:=le2.1 _ _ ha
    refine E2_4 (ok2.at_ ho (by rintro ⟨⟩)) ?_;rintro x' ob q1 q2 ⟨es',cn,rfl,q3⟩ _
    rw [hb] at q1;(replace q1:=si q1;subst q1)
    refine E1_2 (zfX N q2 q3 List.nodup_nil) λkvs0 M hm=>?_
    cases hm
    refine ⟨kvs,c1,M,λh' M' hs=>?_⟩
    rw [zbz kvs [] (by simpa using zjU N c2 hn),List.nil_append] at M'
    refine E2_2 (zep M' c2) λes2 k2 w1 w2=>?_
    exact hk _ (.ref st.n) _ _ _ g6 (le1.trans le2) (ok2.upd_ns (s':={ s2 with heap:=h',toks:=s2.toks + R.length}) ho hb (λb u e z=>(hs.2 b e).trans z) w1 w2 ht) ⟨_,hb,rfl⟩
end
end Mine
end
section
open PySem PySem.W PyProof.Rows PySem.Calls Builtin Builtin.ObjectAttr PySem.SeqAt
namespace Mine
noncomputable def EqF (s:Shared) (n:Nat) (u v:Value) (e:Bool):Prop:=∀A:Around,A.units + n < cLine->EqAt A s u v e
noncomputable def RcF (s:Shared) (n:Nat) (u v:Value) (e:Bool):Prop:=∀A:Around,A.units + n < cLine->RcAt A s u v e/\RcNeAt A s u v (!e)
theorem EqF.mono {s:Shared} {n m:Nat} {u v:Value} {e:Bool} (h:EqF s n u v e) (hm:n<=m):EqF s m u v e:=λA ha=>h A (by omega)
noncomputable def NoFl:Value->Prop
  | .float _ _=>False
  | _=>True
theorem EqF.of_rc {s:Shared} {n:Nat} {u v:Value} {e:Bool} (hF:NoFl u) (h:RcF s n u v e) (he:u=v->e=true):EqF s n u v e:=λA ha prog w E Q hq=>by
  unfold eqBool
  refine wpAny_holding ?_
  refine wpAny_ite_split (λhab=>?_) (λ_=>?_)
  · have:=he (eq_of_beq hab);subst this;exact wpAny_bind (wpAny_rule (wpAny_pure hq))
  · have key:=(h A ha).1 prog w E (λr s'=>wpAny (model prog w) A (truthOfDropped r) Q E s') (wpAny_truthy_bool hq)
    cases u <;> first | exact hF.elim | exact wpAny_bind key
noncomputable def Kf (k:Bool->Bool):Nat->Bool->Prop
  | 0,b=>k b=true
  | 1,_=>k false=true
  | _ + 2,b=>k b=true/\k false=true
theorem zeL {k:Bool->Bool} {fl:Nat} (h:zkT k fl=true):Kf k fl true:=by
  match fl,h with
  | 0,h=>exact h
  | 1,h=>exact h
  | n + 2,h=>exact zac (show bq (k true) (k false) false=true from h)
theorem Kf.f {k:Bool->Bool} {fl:Nat} {b:Bool} (h:Kf k 1 b):Kf k fl false:=by
  match fl with
  | 0=>exact h
  | 1=>exact h
  | n + 2=>exact ⟨h,h⟩
theorem Kf.u {k:Bool->Bool} {fl:Nat} {b e:Bool} (h:Kf k 2 b) (hf:fl≠1):Kf k fl (e&&b):=by
  cases e with
  | false=>exact Kf.f (b:=false) h.2
  | true=>
    match fl with
    | 0=>exact h.1
    | 1=>exact absurd rfl hf
    | n + 2=>exact h
noncomputable abbrev QQ:=List (Value×Value)
noncomputable def DPr (c:Cn) (l:Vl) (a:V×V) (q:Value×Value):Prop:=DV c l a.1 q.1/\DV c l a.2 q.2
section
variable {c:Cn} {ids:List P} {l:Vl} {st:St} {s:Shared}
noncomputable def EqG (s:Shared) (f:Nat) (q:Value×Value) (e:Bool):Prop:=EqF s f q.1 q.2 e/\(q.1=q.2->e=true)
noncomputable def za3 (c:Cn) (l:Vl) (st:St) (s:Shared) (ih:EqR) (f:Nat):Prop:=∀r fl k qs,ih r fl st k=true->All2 (DPr c l) r qs->∃es:List Bool,All2 (EqG s f) qs es/\Kf k fl (es.all id)
noncomputable def zck (s:Shared) (f:Nat) (e:P->P->Bool) (u v:Value) (qs:QQ) (k:Bool->Bool) (fl:Nat):Prop:=
  ∃(b:Bool) (es:List Bool),(RcF s (f + 1) u v b\/∃x y,e x y=true)/\((∀x,e x x=true)->EqG s (f + 1) (u,v) b)/\All2 (EqG s f) qs es/\Kf k fl (b&&es.all id)
variable {ih:EqR} {f fl:Nat} {k:Bool->Bool} {r:VV} {qs:QQ} {e:P->P->Bool} {u v:Value}
theorem st_t (hF:NoFl u) (S:za3 c l st s ih f) (h:ih r fl st k=true) (hq:All2 (DPr c l) r qs) (T:RcF s (f + 1) u v true):zck s f e u v qs k fl:=by
  refine E1_2 (S r fl k qs h hq) λes h1 h2=>?_
  exact ⟨true,es,.inl T,λ_=>⟨EqF.of_rc hF T λ_=>rfl,λ_=>rfl⟩,h1,by simpa using h2⟩
theorem st_f (hF:NoFl u) (S:za3 c l st s ih f) (h:ih r 1 st k=true) (hq:All2 (DPr c l) r qs) (T:RcF s (f + 1) u v false) (hn:u≠v):zck s f e u v qs k fl:=by
  refine E1_2 (S r 1 k qs h hq) λes h1 h2=>?_
  exact ⟨false,es,.inl T,λ_=>⟨EqF.of_rc hF T λq=>absurd q hn,λq=>absurd q hn⟩,h1,by rw [Bool.false_and];exact Kf.f h2⟩
theorem st_b (hF:NoFl u) (S:za3 c l st s ih f) {b b':Bool} (h:eqB ih r fl st k b=true) (hb:b=b') (hq:All2 (DPr c l) r qs) (T:RcF s (f + 1) u v b') (hn:u=v->b'=true):zck s f e u v qs k fl:=by
  subst hb
  cases b with
  | true=>exact st_t hF S h hq T
  | false=>exact st_f hF S h hq T λq=>by cases hn q
theorem st_u (hF:NoFl u) (S:za3 c l st s ih f) {b:Bool} (h:eqU ih r fl st k=true) (hq:All2 (DPr c l) r qs) (T:RcF s (f + 1) u v b) (hn:u=v->b=true):zck s f e u v qs k fl:=by
  rcases bq_t (show bq (Nat.beq fl 1) (ih r 1 st k) (ih r 2 st k)=true from h) with ⟨q,h⟩ | ⟨q,h⟩
  · rw [Nat.beq_eq] at q
    subst q
    refine E1_2 (S r 1 k qs h hq) λes h1 h2=>?_
    exact ⟨b,es,.inl T,λ_=>⟨EqF.of_rc hF T hn,hn⟩,h1,h2⟩
  · refine E1_2 (S r 2 k qs h hq) λes h1 h2=>?_
    exact ⟨b,es,.inl T,λ_=>⟨EqF.of_rc hF T hn,hn⟩,h1,Kf.u h2 λz=>by subst z;exact nf q⟩
theorem st_n (hF:NoFl u) (S:za3 c l st s ih f) {t:Nat} {b:Bool} (h:eqT ih r fl st k t=true) (h0:t=0->b=true) (h1:t=1->b=false) (hq:All2 (DPr c l) r qs) (T:RcF s (f + 1) u v b) (hn:u=v->b=true):zck s f e u v qs k fl:=by
  match t,h with
  | 0,h=>have:=h0 rfl;subst this;exact st_t hF S h hq T
  | 1,h=>have:=h1 rfl;subst this;exact st_f hF S h hq T λq=>by cases hn q
  | n + 2,h=>exact st_u hF S h hq T hn
theorem zg1 (ok:Ok c ids l st s) {x:P} {a:Addr} (ha:l.ρ x=some a) (h:zbo ih r st k x=true):ih r 1 st k=true/\((∃its,s.heap.IsTuple a its)\/∃its,s.heap.IsList a its):=by
  rcases zar (St.get_spec (show st.get x (seqO ih r st k)=true from h)) with ⟨xs,ho,h⟩ | ⟨xs,ho,h⟩
  · refine E2_2 (zax ok ho ha) λvs m g1 g2=>?_
    exact ⟨h,.inl ⟨_,_,g1,rfl,m,rfl⟩⟩
  · refine E2_3 (zaq ok ho ha) λvs m g1 g2 _=>?_
    exact ⟨h,.inr ⟨_,_,g1,rfl,m,rfl⟩⟩
theorem zao {A:Around} {n:Nat} (h:A.units + n < cLine):A.units < cLine:=by omega
inductive Atom:Value->Prop
  | none:Atom .none
  | bool (b):Atom (.bool b)
  | int (i t):Atom (.int i t)
  | str (x t):Atom (.str x t)
theorem zeA (ok:Ok c ids l st s) (S:za3 c l st s ih f) {x:P} {a:Addr} (ha:l.ρ x=some a) (h:zbo ih r st k x=true) (hq:All2 (DPr c l) r qs) (hv:Atom v):zck s f e (.ref a) v qs k fl:=by
  have hF:NoFl (.ref a):=trivial
  refine E0_2 (zg1 ok ha h) ?_;rintro h (⟨its,L⟩ | ⟨its,L⟩)
  · cases hv with
    | none=>exact st_f hF S h hq (λA q=>⟨RcAt.tuple_none L (zao q),RcNeAt.tuple_none L (zao q)⟩) nofun
    | bool b=>exact st_f hF S h hq (λA q=>⟨RcAt.tuple_bool b L (zao q),RcNeAt.tuple_bool b L (zao q)⟩) nofun
    | int i t=>exact st_f hF S h hq (λA q=>⟨RcAt.tuple_int i t L (zao q),RcNeAt.tuple_int i t L (zao q)⟩) nofun
    | str y t=>exact st_f hF S h hq (λA q=>⟨RcAt.tuple_str y t L (zao q),RcNeAt.tuple_str y t L (zao q)⟩) nofun
  · cases hv with
    | none=>exact st_f hF S h hq (λA q=>⟨RcAt.list_none L (zao q),RcNeAt.list_none L (zao q)⟩) nofun
    | bool b=>exact st_f hF S h hq (λA q=>⟨RcAt.list_bool b L (zao q),RcNeAt.list_bool b L (zao q)⟩) nofun
    | int i t=>exact st_f hF S h hq (λA q=>⟨RcAt.list_int i t L (zao q),RcNeAt.list_int i t L (zao q)⟩) nofun
    | str y t=>exact st_f hF S h hq (λA q=>⟨RcAt.list_str y t L (zao q),RcNeAt.list_str y t L (zao q)⟩) nofun
theorem zez (ok:Ok c ids l st s) (S:za3 c l st s ih f) {x:P} {a:Addr} (ha:l.ρ x=some a) (h:zbo ih r st k x=true) (hq:All2 (DPr c l) r qs) (hv:Atom u):zck s f e u (.ref a) qs k fl:=by
  have hF:NoFl u:=by cases hv <;> trivial
  refine E0_2 (zg1 ok ha h) ?_;rintro h (⟨its,L⟩ | ⟨its,L⟩)
  · cases hv with
    | none=>exact st_f hF S h hq (λA q=>⟨RcAt.none_tuple L (zao q),RcNeAt.none_tuple L (zao q)⟩) nofun
    | bool b=>exact st_f hF S h hq (λA q=>⟨RcAt.bool_tuple b L (zao q),RcNeAt.bool_tuple b L (zao q)⟩) nofun
    | int i t=>exact st_f hF S h hq (λA q=>⟨RcAt.int_tuple i t L (zao q),RcNeAt.int_tuple i t L (zao q)⟩) nofun
    | str y t=>exact st_f hF S h hq (λA q=>⟨RcAt.str_tuple y t L (zao q),RcNeAt.str_tuple y t L (zao q)⟩) nofun
  · cases hv with
    | none=>exact st_f hF S h hq (λA q=>⟨RcAt.none_list L (zao q),RcNeAt.none_list L (zao q)⟩) nofun
    | bool b=>exact st_f hF S h hq (λA q=>⟨RcAt.bool_list b L (zao q),RcNeAt.bool_list b L (zao q)⟩) nofun
    | int i t=>exact st_f hF S h hq (λA q=>⟨RcAt.int_list i t L (zao q),RcNeAt.int_list i t L (zao q)⟩) nofun
    | str y t=>exact st_f hF S h hq (λA q=>⟨RcAt.str_list y t L (zao q),RcNeAt.str_list y t L (zao q)⟩) nofun
theorem zbQ:∀(xs ys:List V) (r:VV) (k:KZ),zipT xs ys r k=true->k (xs.zip ys++r) (xs.length==ys.length)=true
  | [],[],r,k,h=>h
  | [],_::_,r,k,h=>h
  | _::_,[],r,k,h=>h
  | x::xs,y::ys,r,k,h=>by
    have:=zbQ xs ys r (kZip x y k) h
    simpa [kZip] using this
theorem zd2:∀{xs ys:List V} {us vs:List Value},DVs c l xs us->DVs c l ys vs->All2 (DPr c l) (xs.zip ys) (us.zip vs):=by
  intro xs ys us vs A
  induction A generalizing ys vs with
  | nil=>intro B;exact .nil
  | cons a b ih=>intro B;cases B with | nil=>exact .nil | cons d f=>exact .cons ⟨a,d⟩ (ih f)
theorem All2.split {α β:Type} {R:α->β->Prop}:∀{l l':List α} {m:List β},All2 R (l++l') m->∃m1 m2,m=m1++m2/\All2 R l m1/\All2 R l' m2
  | [],_,m,h=>⟨[],m,rfl,.nil,h⟩
  | _::l,l',_,.cons a b=>by
    refine E2_3 (All2.split b) λm1 m2 e h1 h2=>?_
    exact ⟨_::m1,m2,by rw [e];rfl,.cons a h1,h2⟩
theorem zbY:∀es:List Bool,(List.range es.length).all (λj=>es.getD j true)=es.all id
  | []=>rfl
  | a::r=>by
    rw [List.length_cons,List.range_succ_eq_map,List.all_cons,List.all_map,List.all_cons,<- zbY r]
    rfl
theorem zgC {us vs:List Value} {es:List Bool} (h:All2 (EqG s f) (us.zip vs) es) {A:Around} (hu:A.units + (f + 1) < cLine):
    ∀j (h1:j < us.toArray.size) (h2:j < vs.toArray.size),EqAt A.in1 s us.toArray[j] vs.toArray[j] (es.getD j true):=by
  intro j h1 h2
  have h1':j < us.length:=by simpa using h1
  have h2':j < vs.length:=by simpa using h2
  have hz:(us.zip vs)[j]? =some (us[j],vs[j]):=by
    rw [List.getElem?_eq_some_iff]
    exact ⟨by simp;omega,by simp⟩
  refine E1_2 (h.get hz) λb e1 e2=>?_
  have:es.getD j true=b:=by simp [e1]
  rw [this]
  exact e2.1 A.in1 (by show A.units + 1 + f < cLine;omega)
theorem zd9:∀{us:List Value} {es:List Bool},All2 (EqG s f) (us.zip us) es->es.all id=true
  | [],[],_=>rfl
  | _::us,e::es,.cons a b=>by rw [List.all_cons,zd9 b,show id e=true from a.2 rfl];rfl
theorem zjg (ok:Ok c ids l st s) (S:za3 c l st s ih f) (hN:(∀x,e x x=true)\/∀x y,e x y=false) {x y:P} {a b:Addr} (ha:l.ρ x=some a) (hb:l.ρ y=some b) (he:∀x y,e x y=true->x=y) (h:eqRR e ih r fl st k x y=true) (hq:All2 (DPr c l) r qs):zck s f e (.ref a) (.ref b) qs k fl:=by
  have hF:NoFl (.ref a):=trivial
  rcases bq_t (show bq (e x y) (ih r fl st k) (st.get x (eqO1 ih r fl st k y))=true from h) with ⟨q,h0⟩ | ⟨q,h0⟩
  · have:=he _ _ q
    subst this
    rw [ha] at hb;(replace hb:=si hb;subst hb)
    refine E1_2 (S r fl k qs h0 hq) λes h1 h2=>?_
    exact ⟨true,es,.inr ⟨_,_,q⟩,λ_=>⟨λA _=>EqAt.same _,λ_=>rfl⟩,h1,by simpa using h2⟩
  · have hne:(∀x,e x x=true)->(st.t.at x≠.junk/\(st.t.at x).mut=true)->st.t.at y≠.junk->a≠b:=λz jx jy w=>by
      subst w
      have:=ok.inj x y a (.inl jx) (.inl jy) ha hb
      subst this
      rw [z x] at q;exact nf q
    rcases zar (St.get_spec h0) with ⟨xs,ho,h⟩ | ⟨xs,ho,h⟩
    · refine E2_2 (zax ok ho ha) λus m g1 g2=>?_
      have L:s.heap.IsTuple a us.toArray:=⟨_,g1,rfl,m,rfl⟩
      rcases zar (St.get_spec (show st.get y (eqT2 ih r fl st k xs)=true from h)) with ⟨ys,ho',h⟩ | ⟨ys,ho',h⟩
      · refine E2_2 (zax ok ho' hb) λvs m' g3 g4=>?_
        have L':s.heap.IsTuple b vs.toArray:=⟨_,g3,rfl,m',rfl⟩
        have h:=zbQ _ _ _ _ (show zipT xs ys r (eqZt ih fl st k)=true from h)
        have hz:=zd2 g2 g4
        have hl:(xs.length==ys.length)=(us.toArray.size==vs.toArray.size):=by simp [g2.length,g4.length]
        have fin:∀es1:List Bool,All2 (EqG s f) (us.zip vs) es1->RcF s (f + 1) (.ref a) (.ref b) (es1.all id&&(xs.length==ys.length)):=λes1 h1 A hu=>by
          have e1:es1.length=min us.toArray.size vs.toArray.size:=by rw [<- h1.length];simp
          rw [<- zbY es1,e1,hl]
          exact ⟨RcAt.tuples L L' (zao hu) (zgC h1 hu),RcNeAt.tuples L L' (zao hu) (zgC h1 hu)⟩
        have same:Value.ref a=.ref b->us=vs:=λw=>by
          cases w
          rw [g1] at g3
          exact (by simpa using g3:us=vs/\m=m').1
        rcases bq_t (show bq (xs.length==ys.length) (ih (xs.zip ys++r) fl st k) (ih (xs.zip ys++r) 1 st k)=true from h) with ⟨w,h⟩ | ⟨w,h⟩
        · refine E1_2 (S _ fl k _ h (hz.append hq)) λes h1 h2=>?_
          refine E2_3 h1.split ?_;rintro es1 es2 rfl h3 h4
          have T:=fin es1 h3
          rw [w,Bool.and_true] at T
          have hn:Value.ref a=.ref b->es1.all id=true:=λq=>zd9 (same q▸h3)
          exact ⟨es1.all id,es2,.inl T,λz=>⟨EqF.of_rc hF T hn,hn⟩,h4,by rw [List.all_append] at h2;exact h2⟩
        · refine E1_2 (S _ 1 k _ h (hz.append hq)) λes h1 h2=>?_
          refine E2_3 h1.split ?_;rintro es1 es2 rfl h3 h4
          have T:=fin es1 h3
          rw [w,Bool.and_false] at T
          have hn:Value.ref a=.ref b->false=true:=λq=>by
            have:=same q
            rw [g2.length,g4.length,this,beq_self_eq_true] at w;exact w.symm
          exact ⟨false,es2,.inl T,λz=>⟨EqF.of_rc hF T hn,hn⟩,h4,by rw [Bool.false_and];exact Kf.f h2⟩
      · refine E2_3 (zaq ok ho' hb) λvs m' g3 g4 _=>?_
        have L':s.heap.IsList b vs.toArray:=⟨_,g3,rfl,m',rfl⟩
        exact st_f hF S h hq (λA q=>⟨RcAt.tuple_list L L' (zao q),RcNeAt.tuple_list L L' (zao q)⟩) λw=>ne_of_list_tuple L' L (by cases w;rfl)
    · refine E2_3 (zaq ok ho ha) λus m g1 g2 _=>?_
      have L:s.heap.IsList a us.toArray:=⟨_,g1,rfl,m,rfl⟩
      rcases zar (St.get_spec (show st.get y (eqL2 ih r fl st k xs)=true from h)) with ⟨ys,ho',h⟩ | ⟨ys,ho',h⟩
      · refine E2_2 (zax ok ho' hb) λvs m' g3 g4=>?_
        have L':s.heap.IsTuple b vs.toArray:=⟨_,g3,rfl,m',rfl⟩
        exact st_f hF S h hq (λA q=>⟨RcAt.list_tuple L L' (zao q),RcNeAt.list_tuple L L' (zao q)⟩) λw=>ne_of_list_tuple L L' (by cases w;rfl)
      · refine E2_3 (zaq ok ho' hb) λvs m' g3 g4 _=>?_
        have L':s.heap.IsList b vs.toArray:=⟨_,g3,rfl,m',rfl⟩
        have h:=zbQ _ _ _ _ (show zipT xs ys r (eqZl ih r fl st k)=true from h)
        have hz:=zd2 g2 g4
        have hne':(∀x,e x x=true)->Value.ref a≠.ref b:=λz w=>hne z (by rw [ho];exact ⟨nofun,rfl⟩) (by rw [ho'];nofun) (by cases w;rfl)
        rcases bq_t (show bq (xs.length==ys.length) (ih (xs.zip ys++r) fl st k) (ih r 1 st k)=true from h) with ⟨w,h⟩ | ⟨w,h⟩
        · have hs:us.toArray.size=vs.toArray.size:=by simpa [<- g2.length,<- g4.length] using w
          refine E1_2 (S _ fl k _ h (hz.append hq)) λes h1 h2=>?_
          refine E2_3 h1.split ?_;rintro es1 es2 rfl h3 h4
          have T:RcF s (f + 1) (.ref a) (.ref b) (es1.all id):=λA hu=>by
            have e1:es1.length=us.toArray.size:=by rw [<- h3.length];simp at hs ⊢;omega
            rw [<- zbY es1,e1]
            exact ⟨RcAt.lists L L' hs (zao hu) (zgC h3 hu),RcNeAt.lists L L' hs (zao hu) (zgC h3 hu)⟩
          exact ⟨es1.all id,es2,.inl T,λz=>⟨EqF.of_rc hF T λq=>absurd q (hne' z),λq=>absurd q (hne' z)⟩,h4,by rw [List.all_append] at h2;exact h2⟩
        · have hs:(us.toArray.size !=vs.toArray.size)=true:=by simpa [<- g2.length,<- g4.length] using w
          exact st_f hF S h hq (λA q=>⟨RcAt.lists_lengths L L' hs (zao q),RcNeAt.lists_lengths L L' hs (zao q)⟩) λw=>by
            cases w
            rw [g1] at g3
            have:vs=us:=(by simpa using g3.symm:vs=us/\m'=m).1
            subst this
            simp at hs
end
end Mine
end
section
open PySem PySem.W PyProof.Rows PySem.Calls Builtin Builtin.ObjectAttr PySem.SeqAt
namespace Mine
section
variable {c:Cn} {ids:List P} {l:Vl} {st:St} {s:Shared}
theorem db_n {x:Nat} {u v:UInt8} (h:DB l (.n x) u) (h':DB l (.n x) v):u=v:=UInt8.toNat_inj.mp (show u.toNat=v.toNat from (show u.toNat=x from h).trans (show v.toNat=x from h').symm)
theorem zf6:∀(xs ys:List B) (fl:Nat) (k:KBe),fl≠1->beqL xs ys fl k=true->∀us vs,All2 (DB l) xs us->All2 (DB l) ys vs->∃t,k t=true/\(t=0->us=vs)/\(t=1->us≠vs)/\(fl=2->t≠0):=by
  intro xs
  induction xs with
  | nil=>
    intro ys fl k hf h us vs A B
    cases A with
    | nil=>
    cases B with
    | nil=>exact ⟨fl,h,λ_=>rfl,λe=>absurd e hf,λe q=>by omega⟩
    | cons _ _=>exact ⟨1,h,nofun,λ_=>nofun,λ_=>nofun⟩
  | cons x xs ih=>
    intro ys fl k hf h us vs A B
    cases A with
    | @cons _ u _ us d ds=>
    cases B with
    | nil=>exact ⟨1,h,nofun,λ_=>nofun,λ_=>nofun⟩
    | @cons y v ys vs d' ds'=>
    have unk:beqL xs ys 2 k=true->∃t,k t=true/\(t=0->u::us=v::vs)/\(t=1->u::us≠v::vs)/\(fl=2->t≠0):=λh=>by
      refine E1_4 (ih ys 2 k (by decide) h us vs ds ds') λt h1 h2 h3 h4=>?_
      exact ⟨t,h1,λe=>absurd e (h4 rfl),λe q=>h3 e (List.cons.inj q).2,λ_=>h4 rfl⟩
    have same:u=v->beqL xs ys fl k=true->∃t,k t=true/\(t=0->u::us=v::vs)/\(t=1->u::us≠v::vs)/\(fl=2->t≠0):=λe h=>by
      refine E1_4 (ih ys fl k hf h us vs ds ds') λt h1 h2 h3 h4=>?_
      exact ⟨t,h1,λz=>by rw [e,h2 z],λz q=>h3 z (List.cons.inj q).2,h4⟩
    cases x with
    | n a=>
      cases y with
      | n b=>
        rcases bq_t (show bq (Nat.beq a b) (beqL xs ys fl k) (k 1)=true from h) with ⟨q,h5⟩ | ⟨q,h5⟩
        · rw [Nat.beq_eq] at q;subst q
          exact same (db_n d d') h5
        · refine ⟨1,h5,nofun,λ_ w=>?_,λ_=>nofun⟩
          have e:=(List.cons.inj w).1
          have:a=b:=by rw [<- (show u.toNat=a from d),<- (show v.toNat=b from d'),e]
          subst this;rw [Nat.beq_refl] at q;exact nf q
      | s j c lo hi=>exact unk h
    | s i c lo hi=>
      cases y with
      | n b=>exact unk h
      | s j c' lo' hi'=>
        rcases bq_t (show bq (Nat.beq i j) (bq (ieq c c') (beqL xs ys fl k) (beqL xs ys 2 k)) (beqL xs ys 2 k)=true from h) with ⟨q,h⟩ | ⟨q,h⟩
        · rcases bq_t h with ⟨q',h5⟩ | ⟨q',h5⟩
          · rw [Nat.beq_eq] at q
            have q':=ieq_spec.mp q'
            subst q q'
            refine E1_3 d ?_;clear d;intro z e1 e2 _
            refine E1_3 d' ?_;clear d';intro z' e3 e4 _
            rw [e1] at e3;(replace e3:=si e3;subst e3)
            refine same (UInt8.toNat_inj.mp ?_) h5
            have:((u.toNat:Nat):Int)=(v.toNat:Nat):=e2.symm.trans e4
            omega
          · exact unk h5
        · exact unk h
theorem zau {a:V} {u:Value} (d:DV c l a u) (h:(∃i,a=.int i)\/(∃j k lo hi,a=.sym j k lo hi)\/a=.ani):∃z t,u=.int z t:=by
  rcases h with ⟨i,rfl⟩ | ⟨j,k,lo,hi,rfl⟩ | rfl
  · refine E1_1 d ?_;clear d;rintro t rfl;exact ⟨_,_,rfl⟩
  · refine E2_3 d ?_;clear d;rintro z t _ rfl _;exact ⟨_,_,rfl⟩
  · refine E2_1 d ?_;clear d;rintro i t rfl;exact ⟨_,_,rfl⟩
theorem RcF.ints (f:Nat) (x y:Int) (t t':Tok):RcF s f (.int x t) (.int y t') (x==y):=λA _=>⟨RcAt.int_int x t y t',RcNeAt.int_int x t y t'⟩
theorem zaR {x y:Int} {t t':Tok} (h:Value.int x t=.int y t'):(x==y)=true:=by cases h;simp
theorem zfG {u:Value} (x:Leaf u):NoFl u:=by cases u <;> first | trivial | exact x
theorem zig {h:Heap} {d:Nat} {u:Value} (x:NestV h d u):NoFl u:=by
  cases d with
  | zero=>exact zfG x
  | succ d=>
    rcases x with x | ⟨_,_,_,_,_,_,rfl,_⟩
    · exact zfG x
    · trivial
theorem zdf {f:Nat} {u:Value} (x:Leaf u):RcF s (f + 1) u u true:=by
  cases u with
  | int i t=>have:=RcF.ints (s:=s) (f + 1) i i t t;rwa [beq_self_eq_true] at this
  | str y t=>exact λA _=>by have a:=RcAt.str_str (A:=A) (s:=s) y t y t;have b:=RcNeAt.str_str (A:=A) (s:=s) y t y t;rw [beq_self_eq_true] at a b;exact ⟨a,b⟩
  | _=>exact x.elim
theorem zft {d f:Nat} {u:Value} (x:NestV s.heap d u):RcF s (f + 1) u u true:=by
  cases d with
  | zero=>exact zdf x
  | succ d=>
  rcases x with x | ⟨a,b,w,n,vs,m,rfl,g,_⟩
  · exact zdf x
  · intro A hu
    have L:s.heap.IsTuple a (List.toArray [w,.ref b]):=⟨_,g,rfl,n,rfl⟩
    have he:∀j (h1:j < (List.toArray [w,.ref b]).size) (h2:j < (List.toArray [w,.ref b]).size),EqAt A.in1 s (List.toArray [w,.ref b])[j] (List.toArray [w,.ref b])[j] true:=λj _ _=>EqAt.same _
    exact ⟨RcAt.tuples (e:=λ_=>true) L L (zao hu) he,RcNeAt.tuples (e:=λ_=>true) L L (zao hu) he⟩
theorem zfS (N:Nms c) (ok:Ok c ids l st s) {ih:EqR} {f fl:Nat} {k:Bool->Bool} {r:VV} {qs:QQ} {e:P->P->Bool} {u v:Value} {a b:V} (S:za3 c l st s ih f) (hN:(∀x,e x x=true)\/∀x y,e x y=false) (he:∀x y,e x y=true->x=y)
    (h:zfU e ih r fl st k a b=true) (d:DV c l a u) (d':DV c l b v) (hq:All2 (DPr c l) r qs):zck s f e u v qs k fl:=by
  have key:∀{i:Int} {t:Tok},NoFl (.int i t):=trivial
  cases a with
  | non=>
    have h:zkQ ih r fl st k b=true:=h
    cases d
    cases b with
    | non=>cases d';exact st_t trivial S h hq λA _=>⟨RcAt.none_none,RcNeAt.none_none⟩
    | boo y=>cases d';exact st_f trivial S h hq (λA _=>⟨RcAt.none_bool y,RcNeAt.none_bool y⟩) nofun
    | int y=>(refine E1_1 d' ?_;clear d';rintro t rfl);exact st_f trivial S h hq (λA _=>⟨RcAt.none_int y t,RcNeAt.none_int y t⟩) nofun
    | str y=>(refine E1_1 d' ?_;clear d';rintro t rfl);exact st_f trivial S h hq (λA _=>⟨RcAt.none_str _ t,RcNeAt.none_str _ t⟩) nofun
    | byt=>exact nb h
    | ref y=>(refine E1_2 d' ?_;clear d';rintro x hx rfl);exact zez ok S hx h hq .none
    | glo=>exact nb h
    | sym=>(refine E2_1 (zau d' (.inr (.inl ⟨_,_,_,_,rfl⟩))) ?_;rintro z t rfl);exact st_f trivial S h hq (λA _=>⟨RcAt.none_int _ t,RcNeAt.none_int _ t⟩) nofun
    | ani=>(refine E2_1 (zau d' (.inr (.inr rfl))) ?_;rintro z t rfl);exact st_f trivial S h hq (λA _=>⟨RcAt.none_int _ t,RcNeAt.none_int _ t⟩) nofun
    | any=>exact nb h
    | nes=>exact nb h
  | boo x=>
    have h:zkU ih r fl st k b x=true:=h
    cases d
    cases b with
    | non=>cases d';exact st_f trivial S h hq (λA _=>⟨RcAt.bool_none x,RcNeAt.bool_none x⟩) nofun
    | boo y=>
      cases d'
      have h:bq x (eqB ih r fl st k y) (eqB ih r fl st k (bnot y))=true:=h
      refine st_b (b:=(x==y)) trivial S ?_ rfl hq (λA _=>⟨RcAt.bool_bool x y,RcNeAt.bool_bool x y⟩) (λw=>by cases w;simp)
      cases x <;> cases y <;> exact h
    | int y=>exact nb h
    | str y=>(refine E1_1 d' ?_;clear d';rintro t rfl);exact st_f trivial S h hq (λA _=>⟨RcAt.bool_str x _ t,RcNeAt.bool_str x _ t⟩) nofun
    | byt=>exact nb h
    | ref y=>(refine E1_2 d' ?_;clear d';rintro z hx rfl);exact zez ok S hx h hq (.bool x)
    | glo=>exact nb h
    | sym=>exact nb h
    | ani=>exact nb h
    | any=>exact nb h
    | nes=>exact nb h
  | int x=>
    have h:zkS ih r fl st k b x=true:=h
    refine E1_1 d ?_;clear d;rintro t rfl
    cases b with
    | non=>cases d';exact st_f trivial S h hq (λA _=>⟨RcAt.int_none x t,RcNeAt.int_none x t⟩) nofun
    | boo y=>exact nb h
    | int y=>
      refine E1_1 d' ?_;clear d';rintro t' rfl
      refine st_b (b:=ieq x y) (b':=(x==y)) trivial S h ?_ hq (RcF.ints _ _ _ _ _) zaR
      cases q:ieq x y with
      | true=>have:=ieq_spec.mp q;simp [this]
      | false=>have:x≠y:=λz=>(by rw [ieq_spec.mpr z] at q;exact nf q);simp [this]
    | str y=>(refine E1_1 d' ?_;clear d';rintro t' rfl);exact st_f trivial S h hq (λA _=>⟨RcAt.int_str x t _ t',RcNeAt.int_str x t _ t'⟩) nofun
    | byt=>exact nb h
    | ref y=>(refine E1_2 d' ?_;clear d';rintro z hx rfl);exact zez ok S hx h hq (.int x t)
    | glo=>exact nb h
    | sym=>(refine E2_1 (zau d' (.inr (.inl ⟨_,_,_,_,rfl⟩))) ?_;rintro z t' rfl);exact st_u trivial S h hq (RcF.ints _ _ _ _ _) zaR
    | ani=>(refine E2_1 (zau d' (.inr (.inr rfl))) ?_;rintro z t' rfl);exact st_u trivial S h hq (RcF.ints _ _ _ _ _) zaR
    | any=>exact nb h
    | nes=>exact nb h
  | str x=>
    have h:zkN ih r fl st k b x=true:=h
    refine E1_1 d ?_;clear d;rintro t rfl
    cases b with
    | non=>cases d';exact st_f trivial S h hq (λA _=>⟨RcAt.str_none _ t,RcNeAt.str_none _ t⟩) nofun
    | boo y=>cases d';exact st_f trivial S h hq (λA _=>⟨RcAt.str_bool _ t y,RcNeAt.str_bool _ t y⟩) nofun
    | int y=>(refine E1_1 d' ?_;clear d';rintro t' rfl);exact st_f trivial S h hq (λA _=>⟨RcAt.str_int _ t y t',RcNeAt.str_int _ t y t'⟩) nofun
    | str y=>
      refine E1_1 d' ?_;clear d';rintro t' rfl
      refine st_b (b:=Nat.beq x y) (b':=(c.nm x==c.nm y)) trivial S h ?_ hq (λA _=>⟨RcAt.str_str _ t _ t',RcNeAt.str_str _ t _ t'⟩) (λw=>by injection w with w _;simp [w])
      cases q:Nat.beq x y with
      | true=>rw [Nat.beq_eq] at q;simp [q]
      | false=>
        have:c.nm x≠c.nm y:=λz=>(by rw [N.inj _ _ z,Nat.beq_refl] at q;exact nf q)
        exact (beq_eq_false_iff_ne.mpr this).symm
    | byt=>exact nb h
    | ref y=>(refine E1_2 d' ?_;clear d';rintro z hx rfl);exact zez ok S hx h hq (.str _ t)
    | glo=>exact nb h
    | sym=>(refine E2_1 (zau d' (.inr (.inl ⟨_,_,_,_,rfl⟩))) ?_;rintro z t' rfl);exact st_f trivial S h hq (λA _=>⟨RcAt.str_int _ t _ t',RcNeAt.str_int _ t _ t'⟩) nofun
    | ani=>(refine E2_1 (zau d' (.inr (.inr rfl))) ?_;rintro z t' rfl);exact st_f trivial S h hq (λA _=>⟨RcAt.str_int _ t _ t',RcNeAt.str_int _ t _ t'⟩) nofun
    | any=>exact nb h
    | nes=>exact nb h
  | byt x=>
    refine E1_2 (za8 (show vByt b (eqBB ih r fl st k x)=true from h)) ?_;rintro y rfl h
    refine E2_2 d ?_;clear d;rintro us t rfl hu
    refine E2_2 d' ?_;clear d';rintro vs t' rfl hv
    refine E1_4 (zf6 x y 0 _ (by decide) h _ _ hu hv) λn h1 h2 h3 _=>?_
    exact st_n (b:=(us.toList==vs.toList)) trivial S h1 (λz=>by simp [h2 z]) (λz=>by simpa using h3 z) hq (λA _=>⟨λprog w E Q hq=>eq_bytes hq,λprog w E Q hq=>ne_bytes hq⟩) (λw=>by cases w;simp)
  | ref x=>
    have h:zkP e ih r fl st k b x=true:=h
    refine E1_2 d ?_;clear d;rintro a ha rfl
    cases b with
    | non=>cases d';exact zeA ok S ha h hq .none
    | boo y=>cases d';exact zeA ok S ha h hq (.bool y)
    | int y=>(refine E1_1 d' ?_;clear d';rintro t' rfl);exact zeA ok S ha h hq (.int y t')
    | str y=>(refine E1_1 d' ?_;clear d';rintro t' rfl);exact zeA ok S ha h hq (.str _ t')
    | byt=>exact nb h
    | ref y=>(refine E1_2 d' ?_;clear d';rintro b hb rfl);exact zjg ok S hN ha hb he h hq
    | glo=>exact nb h
    | sym=>(refine E2_1 (zau d' (.inr (.inl ⟨_,_,_,_,rfl⟩))) ?_;rintro z t' rfl);exact zeA ok S ha h hq (.int _ t')
    | ani=>(refine E2_1 (zau d' (.inr (.inr rfl))) ?_;rintro z t' rfl);exact zeA ok S ha h hq (.int _ t')
    | any=>exact nb h
    | nes=>exact nb h
  | glo=>exact nb h
  | sym i x lo hi=>
    have h:zkM ih r fl st k b i x lo hi=true:=h
    refine E2_4 d ?_;clear d;rintro z0 t e1 rfl e2 e3
    cases b with
    | non=>cases d';exact st_f trivial S h hq (λA _=>⟨RcAt.int_none _ t,RcNeAt.int_none _ t⟩) nofun
    | boo y=>exact nb h
    | int y=>
      refine E1_1 d' ?_;clear d';rintro t' rfl
      have out:y < lo\/hi < y->ih r 1 st k=true->zck s f e (.int (z0 + x) t) (.int y t') qs k fl:=λq h=>
        have hne:z0 + x≠y:=λw=>by omega
        st_f trivial S h hq (by have:=RcF.ints (s:=s) (f + 1) (z0 + x) y t t';rwa [beq_eq_false_iff_ne.mpr hne] at this) (by intro w;cases w;exact hne rfl)
      rcases bq_t (show bq (ile lo y) (bq (ile y hi) (eqU ih r fl st k) (ih r 1 st k)) (ih r 1 st k)=true from h) with ⟨_,h⟩ | ⟨q,h⟩
      · rcases bq_t h with ⟨_,h⟩ | ⟨q,h⟩
        · exact st_u trivial S h hq (RcF.ints _ _ _ _ _) zaR
        · refine out (.inr ?_) h
          refine Int.not_le.mp λw=>?_
          rw [ile_spec.mpr w] at q;exact nf q
      · refine out (.inl ?_) h
        refine Int.not_le.mp λw=>?_
        rw [ile_spec.mpr w] at q;exact nf q
    | str y=>(refine E1_1 d' ?_;clear d';rintro t' rfl);exact st_f trivial S h hq (λA _=>⟨RcAt.int_str _ t _ t',RcNeAt.int_str _ t _ t'⟩) nofun
    | byt=>exact nb h
    | ref y=>(refine E1_2 d' ?_;clear d';rintro z hx rfl);exact zez ok S hx h hq (.int _ t)
    | glo=>exact nb h
    | sym j y lo' hi'=>
      refine E2_4 d' ?_;clear d';rintro z1 t' w1 rfl w2 w3
      rcases bq_t (show bq (Nat.beq i j) (eqB ih r fl st k (ieq x y)) (eqU ih r fl st k)=true from h) with ⟨q,h5⟩ | ⟨q,h5⟩
      · rw [Nat.beq_eq] at q
        subst q
        rw [e1] at w1;(replace w1:=si w1;subst w1)
        refine st_b (b:=ieq x y) (b':=(z0 + x==z0 + y)) trivial S h5 ?_ hq (RcF.ints _ _ _ _ _) zaR
        cases q:ieq x y with
        | true=>have:=ieq_spec.mp q;simp [this]
        | false=>have:x≠y:=λz=>(by rw [ieq_spec.mpr z] at q;exact nf q);simp [this]
      · exact st_u trivial S h5 hq (RcF.ints _ _ _ _ _) zaR
    | ani=>(refine E2_1 (zau d' (.inr (.inr rfl))) ?_;rintro z t' rfl);exact st_u trivial S h hq (RcF.ints _ _ _ _ _) zaR
    | any=>exact nb h
    | nes=>exact nb h
  | ani=>
    have h:zkV ih r fl st k b=true:=h
    refine E2_1 d ?_;clear d;rintro x t rfl
    cases b with
    | non=>cases d';exact st_f trivial S h hq (λA _=>⟨RcAt.int_none x t,RcNeAt.int_none x t⟩) nofun
    | boo y=>exact nb h
    | int y=>(refine E1_1 d' ?_;clear d';rintro t' rfl);exact st_u trivial S h hq (RcF.ints _ _ _ _ _) zaR
    | str y=>(refine E1_1 d' ?_;clear d';rintro t' rfl);exact st_f trivial S h hq (λA _=>⟨RcAt.int_str x t _ t',RcNeAt.int_str x t _ t'⟩) nofun
    | byt=>exact nb h
    | ref y=>(refine E1_2 d' ?_;clear d';rintro z hx rfl);exact zez ok S hx h hq (.int x t)
    | glo=>exact nb h
    | sym=>(refine E2_1 (zau d' (.inr (.inl ⟨_,_,_,_,rfl⟩))) ?_;rintro z t' rfl);exact st_u trivial S h hq (RcF.ints _ _ _ _ _) zaR
    | ani=>(refine E2_1 (zau d' (.inr (.inr rfl))) ?_;rintro z t' rfl);exact st_u trivial S h hq (RcF.ints _ _ _ _ _) zaR
    | any=>exact nb h
    | nes=>exact nb h
  | any=>exact nb h
  | nes j dd=>
    have h:zkR ih r fl st k b j dd=true:=h
    cases b with
    | nes j' dd'=>
      refine E0_2 (zac (show bq (Nat.beq j j') (ih r fl st k) false=true from h)) λe h9=>?_
      rw [Nat.beq_eq] at e;subst e
      refine E0_3 d λ_ e1 e2=>?_
      refine E0_3 d' λ_ e3 _=>?_
      rw [e1] at e3;(replace e3:=si e3;subst e3)
      exact st_t (zig e2) S h9 hq (zft (e2.keeps ok.kep))
    | _=>exact nb h
theorem zcQ (N:Nms c) (ok:Ok c ids l st s):∀f,za3 c l st s (eqP f) f
  | 0=>λr fl k qs h=>by exact nb h
  | f + 1=>λr fl k qs h hq=>by
    cases hq with
    | nil=>exact ⟨[],.nil,zeL h⟩
    | @cons a q r qs d ds=>
      obtain ⟨a,b⟩:=a
      refine E2_4 (zfS N ok (zcQ N ok f) (.inl λx=>(zag x x).mpr rfl) (λx y=>(zag x y).mp) (show zfU peq (eqP f) r fl st k a b=true from h) d.1 d.2 ds) λb' es _ h2 h3 h4=>?_
      exact ⟨b'::es,.cons (h2 λx=>(zag x x).mpr rfl) (h3.mono λq e z=>⟨z.1.mono (Nat.le_succ f),z.2⟩),by simpa using h4⟩
theorem zeo (N:Nms c) (ok:Ok c ids l st s) {a b:V} {u v:Value} {k:Bool->Bool} (h:eqV a b st k=true) (d:DV c l a u) (d':DV c l b v):∃e,RcF s 2001 u v e/\k e=true:=by
  obtain ⟨b',es,h1,_,h3,h4⟩:=zfS (fl:=0) (qs:=[]) (r:=[]) N ok (zcQ N ok 2000) (.inr λx y=>rfl) (λx y z=>by exact nb z) (show zfU noP (eqP 2000) [] 0 st k a b=true from h) d d' .nil
  cases h3
  rcases h1 with h1 | ⟨_,_,z⟩
  · exact ⟨b',h1,by simpa [Kf] using h4⟩
  · exact nb z
theorem zgI (N:Nms c) (ok:Ok c ids l st s) {a b:V} {u v:Value} {k:Bool->Bool} (h:eqI a b st k=true) (d:DV c l a u) (d':DV c l b v):∃e,EqF s 2000 u v e/\k e=true:=by
  refine E1_2 (zcQ N ok 2000 [(a,b)] 0 k [(u,v)] h (.cons ⟨d,d'⟩ .nil)) λes h1 h2=>?_
  cases h1 with
  | @cons _ e _ _ z zs=>
    cases zs
    exact ⟨e,z.1,by simpa [Kf] using h2⟩
end
end Mine
end
section
open PySem PySem.W PyProof.Rows PySem.Calls Builtin Builtin.ObjectAttr PySem.SeqAt
namespace Mine
section
set_option maxRecDepth 100000
theorem ze5:Slot "bytes" (cmpInfo .Lt).2.1 "bytes.__lt__":=
  .of (owner:="bytes") (n:="__lt__") (by rw [typeLookup_type,builtinLookup_eq_fast];kernel_rfl) (by decide +kernel) (by decide +kernel) (by decide +kernel)
    (by first | exact .inl (by decide +kernel) | exact .inr (by decide +kernel)) (by rw [isSubtype_type];kernel_rfl)
theorem zeM:entryFor table "bytes.__lt__"=some Builtin.«bytes.__lt__»:=entryFor_of_tree (by kernel_rfl)
theorem zf8 (a b:Value):argsOk "bytes.__lt__" ⟨[a,b],[]⟩:=by
  unfold argsOk;rw [signature?_of (id:="bytes.__lt__") (n:=['_','_','t','l','_','_']) (o:=['s','e','t','y','b']) (by kernel_rfl) FB.owner_bytes];kernel_rfl
theorem ze6:Slot "bytes" (cmpInfo .Gt).2.1 "bytes.__gt__":=
  .of (owner:="bytes") (n:="__gt__") (by rw [typeLookup_type,builtinLookup_eq_fast];kernel_rfl) (by decide +kernel) (by decide +kernel) (by decide +kernel)
    (by first | exact .inl (by decide +kernel) | exact .inr (by decide +kernel)) (by rw [isSubtype_type];kernel_rfl)
theorem zeN:entryFor table "bytes.__gt__"=some Builtin.«bytes.__gt__»:=entryFor_of_tree (by kernel_rfl)
theorem zf9 (a b:Value):argsOk "bytes.__gt__" ⟨[a,b],[]⟩:=by
  unfold argsOk;rw [signature?_of (id:="bytes.__gt__") (n:=['_','_','t','g','_','_']) (o:=['s','e','t','y','b']) (by kernel_rfl) FB.owner_bytes];kernel_rfl
end
theorem zeI (b c:Array UInt8) (t u:Tok):Gives («bytes.__lt__» ⟨[.bytes b t,.bytes c u],[]⟩) (.val (.bool (Bytes.order b.toList c.toList==.lt))):=by
  refine .of_wp λM A E s Q hq=>?_
  show wpAny M A (isInstance (.bytes c u) (.type "bytes") >>=λr=>_) _ E s
  refine wpAny_bind (wpAny_isInstance (typeIs_bytes s c u) F.sub_bytes_bytes ?_)
  exact wpAny_pure ⟨_,rfl,hq⟩
theorem zeJ (b c:Array UInt8) (t u:Tok):Gives («bytes.__gt__» ⟨[.bytes b t,.bytes c u],[]⟩) (.val (.bool (Bytes.order b.toList c.toList==.gt))):=by
  refine .of_wp λM A E s Q hq=>?_
  show wpAny M A (isInstance (.bytes c u) (.type "bytes") >>=λr=>_) _ E s
  refine wpAny_bind (wpAny_isInstance (typeIs_bytes s c u) F.sub_bytes_bytes ?_)
  exact wpAny_pure ⟨_,rfl,hq⟩
section
variable {c:Cn} {p:Pg} {kd:PySem.Str->Option NameKind} {pos:Pos} {n:Nat} {atts:List Nat}
theorem zfC {A:Around} {E:Value->Shared->Prop} {s:Shared} {b d:Array UInt8} {t u:Tok} {Q:Value->Shared->Prop} (h:Q (.bool (Bytes.order b.toList d.toList==.lt)) s):wpAny (Md c) A (compareOp .Lt (.bytes b t) (.bytes d u)) Q E s:=
  compareOp_gives (op:=.Lt) (typeIs_bytes s b t) (typeIs_bytes s d u) ze5 zeM (zf8 _ _) (zeI b d t u) (λe=>nomatch e) h
theorem zfO {A:Around} {E:Value->Shared->Prop} {s:Shared} {b d:Array UInt8} {t u:Tok} {Q:Value->Shared->Prop} (h:Q (.bool (Bytes.order b.toList d.toList==.gt)) s):wpAny (Md c) A (compareOp .Gt (.bytes b t) (.bytes d u)) Q E s:=
  compareOp_gives (op:=.Gt) (typeIs_bytes s b t) (typeIs_bytes s d u) ze6 zeN (zf9 _ _) (zeJ b d t u) (λe=>nomatch e) h
theorem zcp:∀a b:List UInt8,(Bytes.order a b==.gt)=(Bytes.order b a==.lt)
  | [],[] | [],_::_ | _::_,[]=>rfl
  | x::a,y::b=>by
    simp only [Bytes.order]
    by_cases h1:x < y
    · have h2:¬ y < x:=λh=>UInt8.lt_irrefl _ (UInt8.lt_trans h1 h)
      simp [h1,h2]
    · by_cases h2:y < x
      · simp [h1,h2]
      · simp [h1,h2,zcp a b]
theorem zcu {l:Vl}:∀(xs ys:List B) (k:Bool->Bool),zdL xs ys k=true->∀us vs,All2 (DB l) xs us->All2 (DB l) ys vs->k (Bytes.order us vs==.lt)=true:=by
  intro xs
  induction xs with
  | nil=>
    intro ys k h us vs A B
    cases A with
    | nil=>cases B with | nil=>exact h | cons _ _=>exact h
  | cons x xs ih=>
    intro ys k h us vs A B
    cases A with
    | @cons _ u _ us d ds=>
    cases B with
    | nil=>exact h
    | @cons y v ys vs d' ds'=>
    have h:lexV x (zdL xs) (y::ys) k=true:=h
    cases x with
    | s=>exact nb h
    | n a=>
      cases y with
      | s=>exact nb h
      | n b=>
        have e1:u.toNat=a:=d
        have e2:v.toNat=b:=d'
        rcases bq_t (show bq (Nat.beq a b) (zdL xs ys k) (bq (Nat.ble a b) (k true) (k false))=true from h) with ⟨q,h5⟩ | ⟨q,h5⟩
        · rw [Nat.beq_eq] at q
          have:u=v:=UInt8.toNat_inj.mp (by omega)
          subst this
          have:=ih ys k h5 us vs ds ds'
          simpa [Bytes.order] using this
        · have hn:a≠b:=λz=>by rw [z,Nat.beq_refl] at q;exact nf q
          rcases bq_t h5 with ⟨w,h6⟩ | ⟨w,h6⟩
          · rw [Nat.ble_eq] at w
            have:u < v:=by rw [UInt8.lt_iff_toNat_lt];omega
            simpa [Bytes.order,this] using h6
          · have w':¬ a<=b:=λz=>by rw [Nat.ble_eq.mpr z] at w;exact nf w
            have h1:¬ u < v:=by rw [UInt8.lt_iff_toNat_lt];omega
            have h2:v < u:=by rw [UInt8.lt_iff_toNat_lt];omega
            simpa [Bytes.order,h1,h2] using h6
noncomputable def cop:Nat->CmpOp
  | 0=>.Lt
  | 1=>.LtE
  | 2=>.Gt
  | 3=>.GtE
  | 4=>.Eq
  | 5=>.NotEq
  | 6=>.Is
  | 7=>.IsNot
  | 8=>.In
  | _=>.NotIn
noncomputable def zdz (Q:Bool->Shared->Prop) (r:Value) (s:Shared):Prop:=∃b,r=.bool b/\Q b s
theorem zed (op:Nat) (x y:Int) (h:op<=3):ord op x y=match op with | 0=>decide (x < y) | 1=>decide (x<=y) | 2=>decide (x > y) | _=>decide (x ≥ y):=by
  have e:∀a b,ile a b=decide (a<=b):=λa b=>by
    cases q:ile a b with
    | true=>simp [ile_spec.mp q]
    | false=>have:¬ a<=b:=λz=>(by rw [ile_spec.mpr z] at q;exact nf q);simp [this]
  have e2:∀a b,bnot (ile a b)=decide (b < a):=λa b=>by
    rw [e]
    by_cases z:a<=b
    · simp [bnot,z]
    · have:b < a:=by omega
      simp [bnot,z,this]
  match op,h with
  | 0,_=>exact e2 y x
  | 1,_=>exact e x y
  | 2,_=>exact e2 x y
  | 3,_=>exact e y x
theorem zfd {ids:List P} {l:Vl} {A:Around} {dp:Nat} (h:Rm ids l A dp):A.units + 2001 < cLine:=by
  have:=h.units
  have:=h.low
  show A.units + 2001 < 9900
  omega
theorem le3 {n:Nat} (h:n<=3):n=0\/n=1\/n=2\/n=3:=by omega
theorem zh9 {op:Nat} (hop:op<=3) {lo hi x y:Int} {b:Bool} (h1:ord op lo y=b) (h2:ord op hi y=b) (z1:lo<=x) (z2:x<=hi):ord op x y=b:=by
  rw [zed op _ _ hop] at h1 h2 ⊢
  rcases le3 hop with rfl | rfl | rfl | rfl <;> cases b <;> simp only [decide_eq_true_eq,decide_eq_false_iff_not] at h1 h2 ⊢ <;> omega
theorem zfm {op:Nat} (hop:op<=3) {x y:Int} {t t':Tok} {s:Shared} {A:Around} {Q:Bool->Shared->Prop} {E:Value->Shared->Prop} (q:Q (ord op x y) s):wpAny (Md c) A (compareOp (cop op) (.int x t) (.int y t')) (zdz Q) E s:=by
  rw [zed op x y hop] at q
  rcases le3 hop with rfl | rfl | rfl | rfl
  · exact P.lt_int ⟨_,rfl,q⟩
  · exact P.le_int ⟨_,rfl,q⟩
  · exact P.gt_int ⟨_,rfl,q⟩
  · exact P.ge_int ⟨_,rfl,q⟩
theorem zia {op:Nat} (hop:op<=3) {a b:V} {u v:Value} {ids:List P} {l:Vl} {st:St} {s:Shared} {k:KB} {A:Around} {Q:Bool->Shared->Prop} {E:Value->Shared->Prop} (h:ordV op a b st k=true) (d:DV c l a u) (d':DV c l b v) (ok:Ok c ids l st s) (hk:PB c ids l k Q):
    wpAny (Md c) A (compareOp (cop op) u v) (zdz Q) E s:=by
  cases a <;> first | exact nb h | skip
  case int x=>
    refine E1_2 (zam (show vInt b (zjz op st k x)=true from h)) ?_;rintro y rfl h
    refine E1_1 d ?_;clear d;rintro t rfl
    refine E1_1 d' ?_;clear d';rintro t' rfl
    have h:k (ord op x y) st=true:=zb7 h
    exact zfm hop (hk _ _ _ _ h (.refl _) ok)
  case sym j c0 lo hi=>
    refine E1_2 (zam (show vInt b (zjx op st k j c0 lo hi)=true from h)) ?_;rintro y rfl h
    refine E2_4 d ?_;clear d;rintro z t hz rfl z1 z2
    refine E1_1 d' ?_;clear d';rintro t' rfl
    have far:conc j c0 lo hi st (ordC op k y)=true->wpAny (Md c) A (compareOp (cop op) (.int (z + c0) t) (.int y t')) (zdz Q) E s:=λh=>by
      refine E1_4 (zcR ok hz z1 z2 h) λst' h ok' _ _=>?_
      exact zfm hop (hk _ _ _ _ (zb7 (show kSt k st' (ord op (z + c0) y)=true from h)) (.refl _) ok')
    have near:∀b,ord op lo y=b->ord op hi y=b->k b st=true->wpAny (Md c) A (compareOp (cop op) (.int (z + c0) t) (.int y t')) (zdz Q) E s:=λb h1 h2 h=>zfm hop (by rw [zh9 hop h1 h2 z1 z2];exact hk _ _ _ _ h (.refl _) ok)
    rcases bq_t (show bq (ord op lo y) (bq (ord op hi y) (k true st) (conc j c0 lo hi st (ordC op k y))) (bq (ord op hi y) (conc j c0 lo hi st (ordC op k y)) (k false st))=true from h) with ⟨h1,h⟩ | ⟨h1,h⟩
    · rcases bq_t h with ⟨h2,h⟩ | ⟨_,h⟩
      · exact near true h1 h2 h
      · exact far h
    · rcases bq_t h with ⟨_,h⟩ | ⟨h2,h⟩
      · exact far h
      · exact near false h1 h2 h
  case byt x=>
    refine E1_2 (za8 (show vByt b (zjB op st k x)=true from h)) ?_;rintro y rfl h
    refine E2_2 d ?_;clear d;rintro us t rfl hu
    refine E2_2 d' ?_;clear d';rintro vs t' rfl hv
    rcases bq_t (show bq (Nat.beq op 0) (zdL x y (kSt k st)) (bq (Nat.beq op 2) (zdL y x (kSt k st)) false)=true from h) with ⟨q,h5⟩ | ⟨q,h5⟩
    · rw [Nat.beq_eq] at q
      subst q
      exact zfC ⟨_,rfl,hk _ _ _ _ (zb7 (zcu _ _ _ h5 _ _ hu hv)) (.refl _) ok⟩
    · refine E0_2 (zac h5) λq h6=>?_
      rw [Nat.beq_eq] at q
      subst q
      exact zfO ⟨_,rfl,by rw [zcp];exact hk _ _ _ _ (zb7 (zcu _ _ _ h6 _ _ hv hu)) (.refl _) ok⟩
  case ani=>
    refine E1_2 (zam (show vInt b (zg6 st k)=true from h)) ?_;rintro y rfl h
    refine E2_1 d ?_;clear d;rintro x t rfl
    refine E1_1 d' ?_;clear d';rintro t' rfl
    refine E0_2 (zac (show bq (k true st) (k false st) false=true from h)) λh1 h2=>?_
    have q:∀b,Q b s:=λb=>hk l b st s (by cases b <;> assumption) (.refl _) ok
    rcases le3 hop with rfl | rfl | rfl | rfl
    · exact P.lt_int ⟨_,rfl,q _⟩
    · exact P.le_int ⟨_,rfl,q _⟩
    · exact P.gt_int ⟨_,rfl,q _⟩
    · exact P.ge_int ⟨_,rfl,q _⟩
theorem zgz (N:Nms c) {ids:List P} {l:Vl} {st:St} {s:Shared} (ok:Ok c ids l st s) {v:V} {w:Value} (d:DV c l v w):∀(xs:List V) (us:List Value) (fd:Bool) (k:Bool->Bool),inL xs v st fd k=true->DVs c l xs us->
    ∃es:List Bool,All2 (λu e=>EqF s 2000 u w e) us es/\k (fd||es.any id)=true:=by
  intro xs us fd k h A
  induction A generalizing fd with
  | nil=>exact ⟨[],.nil,by have h:k fd=true:=h;simpa using h⟩
  | @cons x u xs us dx ds ih=>
    refine E1_2 (zgI N ok (show eqI x v st (kIn (inL xs v st) fd k)=true from h) dx d) λe h1 h2=>?_
    have h2:bq e (inL xs v st true k) (inL xs v st fd k)=true:=h2
    cases e with
    | true=>
      refine E1_2 (ih true h2) λes h3 h4=>?_
      exact ⟨true::es,.cons h1 h3,by simpa using h4⟩
    | false=>
      refine E1_2 (ih fd h2) λes h3 h4=>?_
      exact ⟨false::es,.cons h1 h3,by simpa using h4⟩
theorem zeQ {s:Shared} {n:Nat} {w:Value} {us:List Value} {es:List Bool} (h:All2 (λu e=>EqF s n u w e) us es):∃e:Value->Bool,(∀u∈us,EqF s n u w (e u))/\us.any e=es.any id:=by
  classical
  refine ⟨λu=>decide (∃j:Nat,us[j]? =some u/\es[j]? =some true),λu hu=>?_,?_⟩
  · by_cases q:∃j:Nat,us[j]? =some u/\es[j]? =some true
    · refine E1_2 (id q) λj h1 h2=>?_
      refine E1_2 (h.get h1) λe h3 h4=>?_
      rw [h2] at h3;(replace h3:=si h3;subst h3)
      simpa [q] using h4
    · refine E1_1 (List.getElem?_of_mem hu) λj h1=>?_
      refine E1_2 (h.get h1) λe h3 h4=>?_
      cases e with
      | true=>exact absurd ⟨j,h1,h3⟩ q
      | false=>simpa [q] using h4
  · rw [Bool.eq_iff_iff,List.any_eq_true,List.any_eq_true]
    constructor
    · rintro ⟨u,_,h2⟩
      refine E1_2 (of_decide_eq_true h2) λj _ h4=>?_
      exact ⟨true,List.mem_of_getElem? h4,rfl⟩
    · rintro ⟨b,h1,h2⟩
      cases b with
      | false=>exact nb h2
      | true=>
        refine E1_1 (List.getElem?_of_mem h1) λj h3=>?_
        have hl:=h.length
        have hj:j < us.length:=by rw [hl];exact (List.getElem?_eq_some_iff.mp h3).1
        exact ⟨us[j],List.getElem_mem hj,by simp only [decide_eq_true_eq];exact ⟨j,by simp [hj],h3⟩⟩
structure HasMods (c:Cn):Prop where
  m:∃o,c.h₀.get? sysModules=some o
theorem zht (N:Nms c) (H:HasMods c) (neg:Bool) {a b:V} {u v:Value} {ids:List P} {l:Vl} {st:St} {s:Shared} {k:Bool->Bool} {A:Around} {dp:Nat} (hA:Rm ids l A dp) {Q:Bool->Shared->Prop} {E:Value->Shared->Prop} (h:inV a b st k=true) (d:DV c l a u) (d':DV c l b v) (ok:Ok c ids l st s)
    (hk:∀b s',k b=true->Ok c ids l st s'->Q (if neg then !b else b) s'):
    wpAny (Md c) A (compareOp (if neg then .NotIn else .In) u v) (zdz Q) E s:=by
  refine E1_2 (zak h) ?_;rintro q rfl h1
  refine E1_2 d' ?_;clear d';rintro x hx rfl
  have h2:=St.get_spec (show st.get q (inO a st k)=true from h1)
  have hu:=zfd hA
  have seq:∀(xs:List V) (us:List Value),inL xs a st false k=true->DVs c l xs us->∃e:Value->Bool,(∀y∈us.toArray,EqAt A.in1 s y u (e y))/\k (us.toArray.any e)=true:=λxs us h ds=>by
    refine E1_2 (zgz N ok d xs us false k h ds) λes h3 h4=>?_
    refine E1_2 (zeQ h3) λe h5 h6=>?_
    refine ⟨e,λy hy=>h5 y (by simpa using hy) A.in1 (by show A.units + 1 + 2000 < cLine;omega),?_⟩
    rw [List.any_toArray,h6]
    simpa using h4
  cases ho:st.t.at q <;> rw [ho] at h2 <;> first | exact nb h2 | skip
  case tup xs=>
    refine E2_2 (zax ok ho hx) λus m g1 g2=>?_
    refine E1_2 (seq xs us h2 g2) λe h3 h4=>?_
    have L:s.heap.IsTuple x us.toArray:=⟨_,g1,rfl,m,rfl⟩
    cases neg with
    | false=>exact in_tupleAt e L h3 ⟨_,rfl,hk _ _ h4 ok⟩
    | true=>exact notIn_tupleAt e L h3 ⟨_,rfl,by simpa using hk _ _ h4 ok⟩
  case lst xs=>
    refine E2_3 (zaq ok ho hx) λus m g1 g2 _=>?_
    refine E1_2 (seq xs us h2 g2) λe h3 h4=>?_
    have L:s.heap.IsList x us.toArray:=⟨_,g1,rfl,m,rfl⟩
    cases neg with
    | false=>exact in_listAt e L h3 ⟨_,rfl,hk _ _ h4 ok⟩
    | true=>exact notIn_listAt e L h3 ⟨_,rfl,by simpa using hk _ _ h4 ok⟩
  case ns m=>
    refine E1_2 (zcX (show vStr a (λx=>zcJ m x (ktr k) (k false))=true from h2)) ?_;rintro y rfl h3
    refine E1_1 d ?_;clear d;rintro t rfl
    refine E2_4 (ok.at_ ho (by rintro ⟨⟩)) ?_;rintro x' ob q1 q2 ⟨es,cn,rfl,q3⟩ q4
    rw [hx] at q1;(replace q1:=si q1;subst q1)
    refine E1_2 (zeq N q2 q3 y) λf M hf=>?_
    have hne:(x==sysModules)=false:=by
      refine E1_1 H.m λo ho'=>?_
      refine beq_eq_false_iff_ne.mpr λe=>?_
      rw [e] at q4
      rw [ok.h0 (q4 rfl)] at ho';exact no ho'
    have hkey:(sk c).is (c.nm y) (.str (c.nm y) t)=true:=by show Value.isStrOf (c.nm y) (.str (c.nm y) t)=true;simp [Value.isStrOf]
    have fin:k (f (c.nm y)).isSome=true:=by
      rcases zaK _ _ _ _ h3 with ⟨v,e,h4⟩ | ⟨e,h4⟩
      · rw [e] at hf;(refine E1_2 hf ?_;clear hf;intro w e1 _);rw [e1];exact h4
      · rw [e] at hf;rw [hf];exact h4
    cases neg with
    | false=>exact wpAny_in_of hkey hne M ⟨_,rfl,hk _ _ fin ok.tok⟩
    | true=>exact wpAny_notIn_of hkey hne M ⟨_,rfl,by simpa using hk _ _ fin ok.tok⟩
theorem zhs {a b:V} {u v:Value} {l:Vl} {k:Bool->Bool} (h:isV a b k=true) (d:DV c l a u) (d':DV c l b v):v=.none/\k (u==.none)=true:=by
  cases b <;> first | exact nb h | skip
  cases d'
  refine ⟨rfl,?_⟩
  have h:zkv a k=true:=h
  cases a <;> first | exact nb h | skip
  · cases d;exact h
  · cases d;exact h
  · refine E1_1 d ?_;clear d;rintro t rfl;exact h
  · refine E1_1 d ?_;clear d;rintro t rfl;exact h
  · refine E2_2 d ?_;clear d;rintro us t rfl _;exact h
  · refine E1_2 d ?_;clear d;rintro x _ rfl;exact h
  · refine E2_3 d ?_;clear d;rintro z t _ rfl _;exact h
  · refine E2_1 d ?_;clear d;rintro z t rfl;exact h
theorem zcS (N:Nms c) (H:HasMods c) {op:Nat} {a b:V} {u v:Value} {ids:List P} {l:Vl} {st:St} {s:Shared} {k:KB} {A:Around} {dp:Nat} (hA:Rm ids l A dp) {Q:Bool->Shared->Prop} {E:Value->Shared->Prop} (h:cmpV op a b st k=true) (d:DV c l a u) (d':DV c l b v) (ok:Ok c ids l st s) (hk:PB c ids l k Q):
    wpAny (Md c) A (compareOp (cop op) u v) (zdz Q) E s:=by
  have hu:=zfd hA
  rcases bq_t (show bq (Nat.ble op 3) (ordV op a b st k) (cmpC op a b st k)=true from h) with ⟨q,h1⟩ | ⟨q,h1⟩
  · rw [Nat.ble_eq] at q
    exact zia q h1 d d' ok hk
  · rcases bq_t (show bq (Nat.beq op 4) _ _=true from h1) with ⟨q,h2⟩ | ⟨q,h2⟩
    · rw [Nat.beq_eq] at q;subst q
      refine E1_2 (zeo N ok h2 d d') λe h3 h4=>?_
      exact (h3 A hu).1 _ _ _ _ ⟨_,rfl,hk _ _ _ _ (zb7 h4) (.refl _) ok⟩
    rcases bq_t (show bq (Nat.beq op 5) _ _=true from h2) with ⟨q,h3⟩ | ⟨q,h3⟩
    · rw [Nat.beq_eq] at q;subst q
      refine E1_2 (zeo N ok h3 d d') λe h4 h5=>?_
      exact (h4 A hu).2 _ _ _ _ ⟨_,rfl,hk _ _ _ _ (zdO h5) (.refl _) ok⟩
    rcases bq_t (show bq (Nat.beq op 6) _ _=true from h3) with ⟨q,h4⟩ | ⟨q,h4⟩
    · rw [Nat.beq_eq] at q;subst q
      refine E0_2 (zhs h4 d d') ?_;rintro rfl h5
      exact is_none_gen ⟨_,rfl,hk _ _ _ _ (zb7 h5) (.refl _) ok⟩
    rcases bq_t (show bq (Nat.beq op 7) _ _=true from h4) with ⟨q,h5⟩ | ⟨q,h5⟩
    · rw [Nat.beq_eq] at q;subst q
      refine E0_2 (zhs h5 d d') ?_;rintro rfl h6
      exact isNot_none ⟨_,rfl,hk _ _ _ _ (zdO h6) (.refl _) ok⟩
    rcases bq_t (show bq (Nat.beq op 8) _ _=true from h5) with ⟨q,h6⟩ | ⟨q,h6⟩
    · rw [Nat.beq_eq] at q;subst q
      exact zht N H false hA h6 d d' ok λb s' z ok'=>hk _ _ _ _ (zb7 z) (.refl _) ok'
    refine E0_2 (zac (show bq (Nat.beq op 9) (inV a b st (kStN k st)) false=true from h6)) λq h7=>?_
    rw [Nat.beq_eq] at q;subst q
    exact zht N H true hA h7 d d' ok λb s' z ok'=>hk _ _ _ _ (zdO z) (.refl _) ok'
noncomputable def SCh (c:Cn) (p:Pg) (kd:PySem.Str->Option NameKind) (ch:Chn) (ops:List CmpOp) (rs:List Expr):Prop:=∀x ids l v u st s k A env Q E pos,Amb c p kd x ids l A env E->ch v x st k=true->Ok c ids l st s->DV c l v u->PB c ids l k Q->
  wpAny (Md c) A (compareChain pos u ops (evalEach rs env)) (zdz Q) E s/\wpAny (Md c) A (testChain pos u ops (evalEach rs env)) Q E s
theorem zf3 (N:Nms c) (H:HasMods c) {op:Nat} {b:Ev} {bx:Expr} (h1:SEv c p kd b bx):SCh c p kd (zad op b) [cop op] [bx]:=by
  intro x ids l v u st s k A env Q E pos am h ok d hk
  have h:b x st (ch1 op v k)=true:=h
  constructor
  · show wpAny (Md c) A (do
      let rv <- holding [u] (eval bx env)
      standAt pos
      operate [u,rv] (compareOp (cop op) u rv)) _ _ _
    refine wpAny_bind (wpAny_holding (h1 _ _ _ _ _ _ _ _ _ _ am h ok ?_))
    intro l1 w st1 wv s1 g1 le1 ok1 d1
    exact wpAny_bind (wpAny_standAt (wpAny_operating (zcS N H (am.room.le le1) (show cmpV op v w st1 k=true from g1) (d.le le1) d1 ok1 (hk.le le1))))
  · show wpAny (Md c) A (do
      let rv <- holding [u] (eval bx env)
      standAt pos
      let cv <- operate [u,rv] (compareOp (cop op) u rv)
      holding [cv] (truthy cv)) _ _ _
    refine wpAny_bind (wpAny_holding (h1 _ _ _ _ _ _ _ _ _ _ am h ok ?_))
    intro l1 w st1 wv s1 g1 le1 ok1 d1
    refine wpAny_bind (wpAny_standAt (wpAny_bind (wpAny_operating (wpAny_mono (zcS N H (am.room.le le1) (show cmpV op v w st1 k=true from g1) (d.le le1) d1 ok1 (hk.le le1)) (λr s' hr=>?_) λ_ _ z=>z))))
    refine E1_2 hr ?_;clear hr;rintro b rfl hb
    exact wpAny_holding (wpAny_truthy_bool hb)
theorem ziL (N:Nms c) (H:HasMods c) {op:Nat} {b:Ev} {bx:Expr} {ch:Chn} {ops:List CmpOp} {rs:List Expr} (h1:SEv c p kd b bx) (h2:SCh c p kd ch ops rs) (hn:ops≠[]):SCh c p kd (zbD op b ch) (cop op::ops) (bx::rs):=by
  intro x ids l v u st s k A env Q E pos am h ok d hk
  have h:b x st (ch2 op ch v x k)=true:=h
  cases ops with
  | nil=>exact absurd rfl hn
  | cons o ops=>
    constructor
    · show wpAny (Md c) A (do
        let rv <- holding [u] (eval bx env)
        standAt pos
        let cv <- holding [u,rv] (compareOp (cop op) u rv)
        release [u,rv] [cv]
        if <- holding [cv,rv] (truthy cv) then compareChain pos rv (o::ops) (evalEach rs env) else pure cv) _ _ _
      refine wpAny_bind (wpAny_holding (h1 _ _ _ _ _ _ _ _ _ _ am h ok ?_))
      intro l1 w st1 wv s1 g1 le1 ok1 d1
      refine wpAny_bind (wpAny_standAt (wpAny_bind (wpAny_holding (wpAny_mono (zcS (Q:=λb s'=>wpAny (Md c) A (if b then compareChain pos wv (o::ops) (evalEach rs env) else pure (Value.bool b)) (zdz Q) E s') N H (am.room.le le1) (show cmpV op v w st1 (chK ch w x k)=true from g1) (d.le le1) d1 ok1 ?_) (λr s' hr=>?_) λ_ _ z=>z))))
      · intro l2 bb st2 s2 g2 le2 ok2
        have g2:bq bb (ch w x st2 k) (k false st2)=true:=g2
        cases bb with
        | false=>exact wpAny_pure ⟨_,rfl,hk _ _ _ _ g2 (le1.trans le2) ok2⟩
        | true=>exact (h2 _ _ _ _ _ _ _ _ _ _ _ _ _ (am.le (le1.trans le2)) g2 ok2 (d1.le le2) (hk.le (le1.trans le2))).1
      · refine E1_2 hr ?_;clear hr;rintro b rfl hb
        exact wpAny_bind (wpAny_release' (wpAny_bind (wpAny_holding (wpAny_truthy_bool hb))))
    · show wpAny (Md c) A (do
        let rv <- holding [u] (eval bx env)
        standAt pos
        let cv <- holding [u,rv] (compareOp (cop op) u rv)
        release [u,rv] [cv]
        if <- holding [cv,rv] (truthy cv) then testChain pos rv (o::ops) (evalEach rs env) else pure false) _ _ _
      refine wpAny_bind (wpAny_holding (h1 _ _ _ _ _ _ _ _ _ _ am h ok ?_))
      intro l1 w st1 wv s1 g1 le1 ok1 d1
      refine wpAny_bind (wpAny_standAt (wpAny_bind (wpAny_holding (wpAny_mono (zcS (Q:=λb s'=>wpAny (Md c) A (if b then testChain pos wv (o::ops) (evalEach rs env) else pure false) Q E s') N H (am.room.le le1) (show cmpV op v w st1 (chK ch w x k)=true from g1) (d.le le1) d1 ok1 ?_) (λr s' hr=>?_) λ_ _ z=>z))))
      · intro l2 bb st2 s2 g2 le2 ok2
        have g2:bq bb (ch w x st2 k) (k false st2)=true:=g2
        cases bb with
        | false=>exact wpAny_pure (hk _ _ _ _ g2 (le1.trans le2) ok2)
        | true=>exact (h2 _ _ _ _ _ _ _ _ _ _ _ _ _ (am.le (le1.trans le2)) g2 ok2 (d1.le le2) (hk.le (le1.trans le2))).2
      · refine E1_2 hr ?_;clear hr;rintro b rfl hb
        exact wpAny_bind (wpAny_release' (wpAny_bind (wpAny_holding (wpAny_truthy_bool hb))))
theorem zl5 {a:Ev} {ax:Expr} {ch:Chn} {ops:List CmpOp} {rs:List Expr} (h1:SEv c p kd a ax) (h2:SCh c p kd ch ops rs) (hm:lastMarks ops rs=false):SEv c p kd (xCmp a ch) (.Compare ax ops rs pos):=by
  intro x ids l st s k A env Q E am h ok hk
  rw [arm_eval_Compare,markedEach_of_false _ _ _ hm]
  refine wpAny_bind (h1 _ _ _ _ _ _ _ _ _ _ am h ok ?_)
  intro l1 v st1 u s1 g1 le1 ok1 d1
  refine wpAny_mono (h2 _ _ _ _ _ _ _ (kBo k) _ _ (λb s'=>Q (.bool b) s') _ _ (am.le le1) (show ch v x st1 (kBo k)=true from g1) ok1 d1 ?_).1 (λr s' hr=>?_) λ_ _ z=>z
  · intro l2 b st2 s2 g2 le2 ok2
    exact hk _ (.boo b) _ _ _ g2 (le1.trans le2) ok2 rfl
  · refine E1_2 hr ?_;clear hr;rintro b rfl hb;exact hb
theorem zi5 {a:Ev} {ax:Expr} {ch:Chn} {ops:List CmpOp} {rs:List Expr} (h1:SEv c p kd a ax) (h2:SCh c p kd ch ops rs) (hm:lastMarks ops rs=false):STst c p kd (tCmp a ch) (.Compare ax ops rs pos):=by
  intro x ids l st s k A env Q E am h ok hk
  rw [arm_isTrue_Compare,markedEach_of_false _ _ _ hm]
  refine wpAny_bind (h1 _ _ _ _ _ _ _ _ _ _ am h ok ?_)
  intro l1 v st1 u s1 g1 le1 ok1 d1
  exact (h2 _ _ _ _ _ _ _ _ _ _ _ _ _ (am.le le1) (show ch v x st1 k=true from g1) ok1 d1 (hk.le le1)).2
end
end Mine
end
section
open PySem PySem.W PyProof.Rows PySem.Calls Builtin Builtin.ObjectAttr
set_option maxRecDepth 100000
namespace Mine
open Builtin AutoSeq1 in
theorem zi3 (l:Addr) (items:Array Value) (n:Nat) (d:Option Addr) (sl:Array (Option Value)) (x:Int) (u:Tok) (hc0:¬(decide (x < -(2 ^ 63))||decide (x ≥ 2 ^ 63))=true) (hc1:¬(items.isEmpty||x==1)=true) (hc2:¬(decide (x<=0)||items.isEmpty)=true)
    (hc3:¬ (items.size * x:Int) > (2 ^ 63 - 1) / 8) (hc4:¬ Builtin.Tuple.tupleTooMany (items.size * x)=true) (hz:((List.replicate x.toNat items).foldl (· ++ ·) #[]).size<=sizeLine):
    Meets (Builtin.«tuple.__mul__» ⟨[.ref l,.int x u],[]⟩) (λ_ R s=>s.heap.get? l=some { cls:=.type "tuple",dict:=d,data:=.seq items n,slots:=sl}/\R (.ok (.ret (Value.ref s.heap.objs.size))) { s with heap:=s.heap.push { cls:=Value.type "tuple",data:=Data.seq ((List.replicate x.toNat items).foldl (· ++ ·) #[])},toks:=s.toks}):=
  .of_wp λprog w A R s h=>by
    obtain ⟨hp,g,d,tk,os⟩:=s;(refine E0_2 h ?_;clear h;intro hl h);have f1:=AutoSeq1.idx_int;have f2:=AutoSeq1.sub_tuple_tuple
    wp_walk using AutoSeq1.wpAny_loadPart' hl
    rw [if_neg hc0]
    wp_walk using AutoSeq1.wpAny_loadPart' hl
    rw [if_neg hc3]
    wp_walk using AutoSeq1.wpAny_loadPart' hl
    first | (rw [if_neg hc4];wp_walk using AutoSeq1.wpAny_loadPart' hl) | skip
    first | exact ⟨_,rfl,h⟩ | skip
theorem zbI:fillsNumberSlot (.type "tuple") "mul"=pure false:=
  PySem.fillsNumberSlot_seq (id:="tuple.__mul__") (r:=some (.builtin "tuple.__rmul__")) PySem.F.slot_tuple_mul.lookup (by decide +kernel) PySem.F.slot_tuple_rmul.lookup (by decide +kernel)
theorem zc4:seqRepeat? (.type "tuple")=pure (some (.builtin "tuple.__mul__")):=by
  unfold seqRepeat?
  rw [PySem.seqSlot_of (T:="tuple") (name:="__mul__") (id:="tuple.__mul__") PySem.F.slot_tuple_mul.lookup (by decide +kernel),PySem.seqSlot_of (T:="tuple") (name:="__rmul__") (id:="tuple.__rmul__") PySem.F.slot_tuple_rmul.lookup (by decide +kernel)]
  rfl
theorem zhY (a:Int) (t:Tok) (l:Addr) (items:Array Value) (n:Nat) (d:Option Addr) (sl:Array (Option Value)):
    Meets (Builtin.«int.__rmul__» ⟨[.int a t,.ref l],[]⟩) (λ_ R s=>s.heap.get? l=some { cls:=.type "tuple",dict:=d,data:=.seq items n,slots:=sl}/\R (.ok (.ret Value.notImplemented)) s):=
  .of_wp λprog w A R s h=>by obtain ⟨hp,g,d,tk,os⟩:=s;(refine E0_2 h ?_;clear h;intro hl h);wp_walk;exact ⟨_,rfl,h⟩
theorem zdm (items:Array Value) (k:Nat):List.foldl (λx1 x2=>x1++x2) #[] (List.replicate k items)=(List.replicate k items.toList).flatten.toArray:=by
  have key:∀(k:Nat) (acc:Array Value),List.foldl (λx1 x2=>x1++x2) acc (List.replicate k items)=acc++(List.replicate k items.toList).flatten.toArray:=by
    intro k
    induction k with
    | zero=>intro acc;simp
    | succ k ih=>intro acc;rw [List.replicate_succ,List.foldl_cons,ih,List.replicate_succ,List.flatten_cons];apply Array.ext';simp
  rw [key];simp
theorem zcE {α β:Type} {R:α->β->Prop} {xs:List V} {us:List Value} {S:V->Value->Prop} (h:All2 S xs us):∀n,All2 S (zff n xs) (List.replicate n us).flatten
  | 0=>.nil
  | n + 1=>by rw [List.replicate_succ,List.flatten_cons];exact h.append (zcE (R:=R) h n)
theorem zcx {x:Int} (h:zan x=true):Builtin.Int.intBits x<=64:=by
  have h:=zaw h
  unfold Builtin.Int.intBits
  split
  · omega
  · rename_i q
    have hx:x.natAbs≠0:=by simpa using q
    have:x.natAbs.log2 < 60:=(Nat.log2_lt hx).mpr (by omega)
    omega
theorem zfu {a b:Int} {k:KI} (h:mulI a b k=true):zan a=true/\k (a * b)=true:=by
  refine E0_2 (zac h) λh1 h=>?_
  refine E0_2 (zac h) λ_ h=>?_
  refine ⟨h1,?_⟩
  cases a with
  | ofNat x=>
    cases b with
    | ofNat y=>exact h
    | negSucc y=>
      rcases bq_t (show bq (Nat.beq x 0) (k (.ofNat 0)) (frc (Nat.pred (Nat.mul x (Nat.succ y))) (zaZ k))=true from h) with ⟨q,h⟩ | ⟨q,h⟩
      · rw [Nat.beq_eq] at q;subst q
        rw [show (Int.ofNat 0) * Int.negSucc y=0 from Int.zero_mul _];exact h
      · have h:k (.negSucc (x * (y + 1) - 1))=true:=h
        have hx:x≠0:=λz=>by subst z;exact nf q
        have h1:1<=x * (y + 1):=Nat.mul_pos (by omega) (by omega)
        have e:Int.ofNat x * Int.negSucc y=Int.negSucc (x * (y + 1) - 1):=by
          rw [Int.negSucc_eq,Int.negSucc_eq]
          have e2:((x * (y + 1) - 1:Nat):Int) + 1=((x * (y + 1):Nat):Int):=by omega
          rw [e2];push_cast;exact Int.mul_neg _ _
        rwa [e]
  | negSucc x=>
    cases b with
    | ofNat y=>
      rcases bq_t (show bq (Nat.beq y 0) (k (.ofNat 0)) (frc (Nat.pred (Nat.mul (Nat.succ x) y)) (zaZ k))=true from h) with ⟨q,h⟩ | ⟨q,h⟩
      · rw [Nat.beq_eq] at q;subst q
        rw [show Int.negSucc x * (Int.ofNat 0)=0 from Int.mul_zero _];exact h
      · have h:k (.negSucc ((x + 1) * y - 1))=true:=h
        have hy:y≠0:=λz=>by subst z;exact nf q
        have h1:1<=(x + 1) * y:=Nat.mul_pos (by omega) (by omega)
        have e:Int.negSucc x * Int.ofNat y=Int.negSucc ((x + 1) * y - 1):=by
          rw [Int.negSucc_eq,Int.negSucc_eq]
          have e2:(((x + 1) * y - 1:Nat):Int) + 1=(((x + 1) * y:Nat):Int):=by omega
          rw [e2];push_cast;exact Int.neg_mul _ _
        rwa [e]
    | negSucc y=>
      have h:k (.ofNat ((x + 1) * (y + 1)))=true:=h
      have e:Int.negSucc x * Int.negSucc y=Int.ofNat ((x + 1) * (y + 1)):=rfl
      rwa [e]
theorem zda {a:Int} {n:Nat} {k:KI} (h:modI a k n=true):n≠0/\k (a.fmod n)=true:=by
  refine E0_2 (zac h) λh1 h=>?_
  rw [Nat.ble_eq] at h1
  refine ⟨by omega,?_⟩
  rw [Int.fmod_eq_emod_of_nonneg _ (by omega)]
  cases a with
  | ofNat x=>exact h
  | negSucc x=>
    have h:k (.ofNat (n - 1 - x % n))=true:=h
    have e:Int.negSucc x % (n:Int)=((n - 1 - x % n:Nat):Int):=by
      have:=Nat.mod_lt x (show 0 < n by omega)
      rw [Int.negSucc_emod x (by omega:(0:Int) < n)]
      have e2:((x % n:Nat):Int)=(x:Int) % n:=by simp
      omega
    rw [e];exact h
theorem zfj {a b:Int} {k:KI} (h:powI a b k=true):∃x n:Nat,a=x/\b=n/\n<=64/\zan a=true/\k ((x ^ n:Nat):Int)=true:=by
  cases b with
  | negSucc=>exact nb h
  | ofNat n=>
    cases a with
    | negSucc=>exact nb h
    | ofNat x=>
      refine E0_2 (zac (show bq (Nat.ble n 64) (bq (zd7 x) (frc (Nat.pow x n) (za0 k)) false) false=true from h)) λh1 h=>?_
      refine E0_2 (zac h) λh2 h=>?_
      exact ⟨x,n,rfl,rfl,by simpa using h1,h2,h⟩
noncomputable def bop:Nat->Operator
  | 0=>.Add
  | 1=>.Sub
  | 2=>.Mult
  | 3=>.FloorDiv
  | 4=>.Mod
  | _=>.Pow
section
variable {c:Cn} {p:Pg} {kd:PySem.Str->Option NameKind} {pos:Pos} {n:Nat} {atts:List Nat}
theorem zjt {A:Around} {E:Value->Shared->Prop} {s:Shared} {x n:Nat} {t u:Tok} {Q:Value->Shared->Prop} (hn:n<=64) (hs:zan (x:Int)=true) (h:∀t,Q (.int ((x ^ n:Nat):Int) t) { s with toks:=s.toks + 1}):wpAny (Md c) A (binaryOp .Pow (.int x t) (.int n u)) Q E s:=by
  by_cases h0:n=0
  · subst h0
    refine AutoIntOps.pow_0 (by simp) (by simp) ?_
    have q:=h s.toks
    rw [Nat.pow_zero] at q
    exact q
  · have hb:¬ ((n:Int)==0)=true:=by simpa using h0
    have hge:(n:Int) ≥ 0:=by omega
    by_cases h1:((x:Int)==0||(x:Int)==1)=true
    · refine AutoIntOps.pow_1 hge hb h1 ?_
      have:(x:Int)=((x ^ n:Nat):Int):=by
        simp only [Bool.or_eq_true,beq_iff_eq] at h1
        rcases h1 with q | q
        · have:x=0:=by omega
          subst this;simp [Nat.zero_pow (by omega:0 < n)]
        · have:x=1:=by omega
          subst this;simp
      have q:=h s.toks
      rw [<- this] at q
      exact q
    · refine AutoIntOps.pow_4 hge hb h1 (by simp) ?_ ?_
      · have:=zcx hs
        have e:((Builtin.Int.intBits (x:Int):Nat):Int) * n<=4096:=by
          have:Builtin.Int.intBits (x:Int) * n<=64 * 64:=Nat.mul_le_mul this hn
          have e2:((Builtin.Int.intBits (x:Int) * n:Nat):Int)=((Builtin.Int.intBits (x:Int):Nat):Int) * n:=by push_cast;rfl
          omega
        unfold Builtin.Int.intTooBig
        have hl:(4096:Int)<=(bitsLine:Int):=by decide
        simp only [decide_eq_true_eq]
        omega
      · have q:=h s.toks
        have e:((x:Int) ^ (n:Int).toNat)=((x ^ n:Nat):Int):=by push_cast;rfl
        show Q (.int _ _) _
        rw [e];exact q
theorem zfZ {op:Nat} {ids:List P} {l:Vl} {st:St} {s:Shared} {k:KV} {x y:P} {a b:Addr} {A:Around} {Q E:Value->Shared->Prop} (h:ziW op st k x y=true) (ha:l.ρ x=some a) (hb:l.ρ y=some b) (ok:Ok c ids l st s) (hk:PV c ids l k Q):
    op=0/\wpAny (Md c) A (binaryOp .Add (.ref a) (.ref b)) Q E s:=by
  refine E0_2 (zac (show bq (Nat.beq op 0) (st.get x (catO x y st k)) false=true from h)) λh0 h=>?_
  refine ⟨by simpa using h0,?_⟩
  rcases zar (St.get_spec h) with ⟨xs,ho,h⟩ | ⟨xs,ho,h⟩
  · refine E1_2 (zaO (St.get_spec (show st.get y (zla x y xs st k)=true from h))) λys ho' h=>?_
    refine E2_2 (zax ok ho ha) λus m g1 g2=>?_
    refine E2_2 (zax ok ho' hb) λvs m' g3 g4=>?_
    have go:∀{S:PySem.Spec},Meets (Builtin.«tuple.__add__» ⟨[.ref a,.ref b],[]⟩) S->S A (wants Q E) s->wpAny (Md c) A (binaryOp .Add (.ref a) (.ref b)) Q E s:=λg h=>
      concat_meets ⟨_,g1,rfl⟩ ⟨_,g3,rfl⟩ PySem.noFill_tuple_add PySem.seq_tuple_add PySem.F.slot_tuple_add PySem.F.entry_tuple_add (PySem.F.args_tuple_add_2 _ _) g h
    cases xs with
    | nil=>
      cases g2
      exact go (tuple_addW0 a b #[] vs.toArray m m' none none #[] #[] (by simp)) ⟨g1,g3,hk _ (.ref y) _ _ _ (show k (.ref y) st=true from h) (.refl _) ok ⟨b,hb,rfl⟩⟩
    | cons x0 xs=>
      have h:zlb x (x0::xs) st k ys=true:=h
      have ne:¬ us.toArray.isEmpty=true:=by cases g2;simp
      cases ys with
      | nil=>
        cases g4
        exact go (tuple_addW1 a b us.toArray #[] m m' none none #[] #[] ne (by simp)) ⟨g1,g3,hk _ (.ref x) _ _ _ (show k (.ref x) st=true from h) (.refl _) ok ⟨a,ha,rfl⟩⟩
      | cons y0 ys=>
        have ne':¬ vs.toArray.isEmpty=true:=by cases g4;simp
        refine E0_2 (zac (show bq (zah (x0::xs) 300) (bq (zah (y0::ys) 300) (appL (x0::xs) (y0::ys) (zbJ k st)) false) false=true from h)) λz1 h=>?_
        refine E0_2 (zac h) λz2 h=>?_
        have z1:=zae _ _ z1
        have z2:=zae _ _ z2
        have h:st.add (.tup ((x0::xs)++(y0::ys))) (kRef k)=true:=zaG _ _ _ h
        have l1:=g2.length
        have l2:=g4.length
        refine go (tuple_addW2 a b us.toArray vs.toArray m m' none none #[] #[] ne ne' (by rw [List.size_toArray,List.size_toArray,sizeLine_eq];omega)) ⟨g1,g3,?_⟩
        refine E1_4 (zaz (s':={ s with heap:=s.heap.push { cls:=.type "tuple",data:=.seq (us.toArray++vs.toArray)}}) ok h rfl rfl ⟨us++vs,0,by simp,DVs.le (ok.ext _) (g2.append g4)⟩) λst2 ok2 le2 d2 q=>?_
        exact hk _ _ _ _ _ q le2 ok2 d2
  · refine E1_2 (zas (St.get_spec (show st.get y (zlc xs st k)=true from h))) λys ho' h=>?_
    refine E0_2 (zac (show bq (zah xs 300) (bq (zah ys 300) (appL xs ys (za5 k st)) false) false=true from h)) λz1 h=>?_
    refine E0_2 (zac h) λz2 h=>?_
    have z1:=zae _ _ z1
    have z2:=zae _ _ z2
    have h:st.add (.lst (xs++ys)) (kRef k)=true:=zaG _ _ _ h
    refine E2_3 (zaq ok ho ha) λus m g1 g2 _=>?_
    refine E2_3 (zaq ok ho' hb) λvs m' g3 g4 _=>?_
    have l1:=g2.length
    have l2:=g4.length
    refine concat_meets ⟨_,g1,rfl⟩ ⟨_,g3,rfl⟩ PySem.noFill_list_add PySem.seq_list_add PySem.F.slot_list_add PySem.F.entry_list_add (PySem.F.args_list_add_2 _ _) (list_addW a b us.toArray vs.toArray m m' none none #[] #[] (by rw [List.size_toArray,List.size_toArray,sizeLine_eq];omega)) ⟨g1,g3,?_⟩
    refine E1_4 (zaz (s':={ s with heap:=s.heap.push { cls:=.type "list",data:=.seq (us.toArray++vs.toArray)}}) ok h rfl rfl ⟨us++vs,0,by simp,DVs.le (ok.ext _) (g2.append g4)⟩) λst2 ok2 le2 d2 q=>?_
    exact hk _ _ _ _ _ q le2 ok2 d2
theorem zfe {ids:List P} {l:Vl} {st:St} {s:Shared} {k:KV} {x:P} {m:Nat} {t:Tok} {a:Addr} {A:Around} {Q E:Value->Shared->Prop} (h:repN st k x m=true) (ha:l.ρ x=some a) (ok:Ok c ids l st s) (hk:PV c ids l k Q):
    wpAny (Md c) A (binaryOp .Mult (.ref a) (.int (.ofNat m) t)) Q E s:=by
  refine E0_2 (zac (show bq (Nat.ble m 300) (st.get x (repO m st k)) false=true from h)) λhm h=>?_
  rw [Nat.ble_eq] at hm
  rcases zar (St.get_spec h) with ⟨xs,ho,h⟩ | ⟨xs,ho,h⟩
  · refine E0_2 (zac (show bq (Nat.ble 2 m) (List.rec false (λ_ _ _=>bq (zah xs 300) (repL m xs (zbJ k st)) false) xs) false=true from h)) λh2 h=>?_
    rw [Nat.ble_eq] at h2
    refine E2_2 (zax ok ho ha) λus cn g1 g2=>?_
    cases xs with
    | nil=>exact nb h
    | cons x0 xs=>
      refine E0_2 (zac (show bq (zah (x0::xs) 300) (repL m (x0::xs) (zbJ k st)) false=true from h)) λz h=>?_
      have z:=zae _ _ z
      have h:st.add (.tup (zff m (x0::xs))) (kRef k)=true:=zbX _ _ _ h
      have l1:=g2.length
      have hl:us.length<=300:=by omega
      have ne:us.toArray.isEmpty=false:=by cases g2;simp
      have hmul:us.length * m<=300 * 300:=Nat.mul_le_mul hl hm
      have e0:((us.toArray.size:Nat):Int) * Int.ofNat m=((us.length * m:Nat):Int):=by rw [List.size_toArray];push_cast;rfl
      have hlen:(List.replicate m us).flatten.length=m * us.length:=by simp
      refine wpAny_binaryOp_repeat_ref (T:="tuple") (U:="int") (by decide) ⟨_,g1,rfl⟩ (λs'=>typeIs_int s' _ t) zbI PySem.F.fills_int_mul PySem.F.slot_int_rmul zc4 PySem.F.slot_int_index.lookup
        (call_meets PySem.F.slot_int_rmul (typeIs_int s _ t) PySem.F.entry_int_rmul (PySem.F.args_int_rmul_2 _ _) (zhY _ t a us.toArray cn none #[])
          ⟨g1,rfl,⟨_,g1,rfl⟩,call_meets PySem.F.slot_tuple_mul ⟨_,g1,rfl⟩ PySem.F.entry_tuple_mul (PySem.F.args_tuple_mul_2 _ _)
            (zi3 a us.toArray cn none #[] (.ofNat m) t (by simp;omega) (by rw [ne];simp;omega) (by rw [ne];simp;omega) (by rw [e0];omega) (by unfold Builtin.Tuple.tupleTooMany;rw [e0];simp [sizeLine_eq];omega)
              (by rw [show (Int.ofNat m).toNat=m from rfl,zdm,List.size_toArray,hlen,sizeLine_eq,Nat.mul_comm];omega)) ⟨g1,?_⟩⟩)
      rw [show (Int.ofNat m).toNat=m from rfl,zdm]
      refine E1_4 (zaz (s':={ s with heap:=s.heap.push { cls:=.type "tuple",data:=.seq (List.replicate m us).flatten.toArray}}) ok h rfl rfl ⟨_,0,rfl,zcE (R:=λ(_ _:Nat)=>True) (DVs.le (ok.ext _) g2) m⟩) λst2 ok2 le2 d2 q=>?_
      exact hk _ _ _ _ _ q le2 ok2 d2
  · refine E0_2 (zac (show bq (zah xs 300) (repL m xs (za5 k st)) false=true from h)) λz h=>?_
    have z:=zae _ _ z
    have h:st.add (.lst (zff m xs)) (kRef k)=true:=zbX _ _ _ h
    refine E2_3 (zaq ok ho ha) λus cn g1 g2 _=>?_
    have l1:=g2.length
    have hl:us.length<=300:=by omega
    have hmul:us.length * m<=300 * 300:=Nat.mul_le_mul hl hm
    have hsz':us.toArray.size * (Int.ofNat m).toNat<=90000:=by rw [List.size_toArray];exact hmul
    have c1:¬(!Builtin.List.listFitsIndex (Int.ofNat m))=true:=by simp [Builtin.List.listFitsIndex];omega
    have c2:¬us.toArray.size * (Int.ofNat m).toNat > (2 ^ 63 - 1) / 8:=λq=>absurd (Nat.lt_of_lt_of_le q hsz') (by decide)
    have c3:¬Builtin.List.listTooLong (us.toArray.size * (Int.ofNat m).toNat)=true:=by
      unfold Builtin.List.listTooLong
      rw [sizeLine_eq]
      simp only [decide_eq_true_eq]
      intro q
      exact absurd (Nat.lt_of_lt_of_le q hsz') (by decide)
    have hmm:(Int.ofNat m).toNat=m:=rfl
    generalize Int.ofNat m=x' at c1 c2 c3 hmm ⊢
    have step:=lm_list_mul_any a us.toArray cn none #[] x' t c1 c2 c3
    refine wpAny_binaryOp_repeat_ref (T:="list") (U:="int") (by decide) ⟨_,g1,rfl⟩ (λs'=>typeIs_int s' x' t) noFill_list_mul PySem.F.fills_int_mul PySem.F.slot_int_rmul repeat_list PySem.F.slot_int_index.lookup
      (call_meets PySem.F.slot_int_rmul (typeIs_int s x' t) PySem.F.entry_int_rmul (PySem.F.args_int_rmul_2 _ _) (lm_int_rmul_list_any x' t a us.toArray cn none #[])
        ⟨g1,rfl,⟨_,g1,rfl⟩,call_meets PySem.F.slot_list_mul ⟨_,g1,rfl⟩ PySem.F.entry_list_mul (PySem.F.args_list_mul_2 _ _) step ⟨g1,?_⟩⟩)
    rw [hmm]
    rw [listMul_foldl_if]
    refine E1_4 (zaz (s':={ s with heap:=s.heap.push { cls:=.type "list",data:=.seq (List.replicate m us).flatten.toArray}}) ok h rfl rfl ⟨_,0,rfl,zcE (R:=λ(_ _:Nat)=>True) (DVs.le (ok.ext _) g2) m⟩) λst2 ok2 le2 d2 q=>?_
    exact hk _ _ _ _ _ q le2 ok2 d2
theorem zcD {ids:List P} {l:Vl} {st:St} {s s':Shared} {k:KV} {d:Int} {j:Nat} {x lo hi z:Int} {t:Tok} {Q:Value->Shared->Prop} (h:zdD st k d j x lo hi=true) (e:l.θ j=some z) (h1:lo<=z + x) (h2:z + x<=hi) (ok:Ok c ids l st s') (hk:PV c ids l k Q):Q (.int (z + x + d) t) s':=by
  have h:=zaE h
  have h:=zaE h
  have h:=zaE h
  refine hk _ (.sym j (x + d) (lo + d) (hi + d)) _ _ _ h (.refl _) ok ⟨z,t,e,?_,by omega,by omega⟩
  rw [Int.add_assoc]
theorem zfV (n:Nat) {k:KV} {st:St}:enum n k st=true->∀j < n,k (.int (.ofNat j)) st=true:=by
  induction n with
  | zero=>intro _ j hj;omega
  | succ n ih=>
    intro h j hj
    refine E0_2 (zac (show bq (frc n (zkW k st)) (enum n k st) false=true from h)) λh1 h2=>?_
    rcases Nat.lt_or_ge j n with q | q
    · exact ih h2 j q
    · obtain rfl:j=n:=by omega
      exact h1
theorem zhA {m:Nat} {ids:List P} {l:Vl} {st:St} {s:Shared} {k:KV} {Q:Value->Shared->Prop} (h:drK m k st=true) (ok:Ok c ids l st s) (hk:PV c ids l k Q) {z:Int} {t:Tok} (h1:0<=z) (h2:z < m):Q (.int z t) s:=by
  rcases bq_t (show bq (dz m) (drZ m k st) (bq (Nat.ble m 8) (enum m k st) (st.sym (ziG m k)))=true from h) with ⟨_,h⟩ | ⟨_,h⟩
  · refine E0_2 (zac (show bq (k (.int (.ofNat 0)) st) (st.sym (zkY m k)) false=true from h)) λh3 h4=>?_
    by_cases hz:z=0
    · subst hz;exact hk _ (.int 0) _ _ _ h3 (.refl _) ok ⟨_,rfl⟩
    · have h4:k (.sym st.m (.ofNat 0) (.ofNat 1) (.ofNat (Nat.pred m))) ⟨st.t,st.n,st.m + 1,st.k⟩=true:=St.sym_spec h4
      refine E0_2 (ok.sym z) λok1 le1=>?_
      refine hk _ (.sym st.m 0 1 (Nat.pred m)) _ (.int z t) s h4 le1 ok1 ⟨z,t,by simp,by simp,by omega,?_⟩
      have hm:1<=m:=by omega
      have:((Nat.pred m:Nat):Int)=(m:Int) - 1:=by show ((m - 1:Nat):Int)=_;omega
      omega
  rcases bq_t (show bq (Nat.ble m 8) (enum m k st) (st.sym (ziG m k))=true from h) with ⟨_,h⟩ | ⟨_,h⟩
  · have:=zfV m h z.toNat (by omega)
    exact hk _ (.int z) _ _ _ (by rwa [show Int.ofNat z.toNat=z from Int.toNat_of_nonneg h1] at this) (.refl _) ok ⟨_,rfl⟩
  · have h:=St.sym_spec h
    have h:k (.sym st.m (.ofNat 0) (.ofNat 0) (.ofNat (Nat.pred m))) ⟨st.t,st.n,st.m + 1,st.k⟩=true:=h
    refine E0_2 (ok.sym z) λok1 le1=>?_
    refine hk _ (.sym st.m 0 0 (Nat.pred m)) _ (.int z t) s h le1 ok1 ⟨z,t,by simp,by simp,by omega,?_⟩
    have hm:1<=m:=by omega
    have:((Nat.pred m:Nat):Int)=(m:Int) - 1:=by show ((m - 1:Nat):Int)=_;omega
    omega
theorem zdY {op:Nat} {ids:List P} {l:Vl} {st:St} {s:Shared} {k:KV} {A:Around} {Q E:Value->Shared->Prop} {x y:Int} {t t':Tok} (h:aniI op st k y=true) (ok:Ok c ids l st s) (hk:PV c ids l k Q):
    wpAny (Md c) A (binaryOp (bop op) (.int x t) (.int y t')) Q E s:=by
  rcases bq_t (show bq (Nat.beq op 4) (zaP y (aniM st k)) _=true from h) with ⟨q,h1⟩ | ⟨q,h1⟩
  · rw [Nat.beq_eq] at q;subst q
    cases y with
    | negSucc=>exact nb h1
    | ofNat m=>
      refine E0_2 (zac (show bq (Nat.ble 1 m) (drK m k st) false=true from h1)) λw1 w2=>?_
      rw [Nat.ble_eq] at w1
      refine AutoIntOps.mod_1 (by simp;omega) (zhA (s:={ s with toks:=s.toks + 1}) w2 ok.tok hk ?_ ?_)
      · exact Int.fmod_nonneg_of_pos _ (by have:(Int.ofNat m)=(m:Int):=rfl;omega)
      · exact Int.fmod_lt_of_pos _ (by have:(Int.ofNat m)=(m:Int):=rfl;omega)
  rcases bq_t (show bq (Nat.beq op 3) (zaP y (aniD st k)) _=true from h1) with ⟨q,h2⟩ | ⟨q,h2⟩
  · rw [Nat.beq_eq] at q;subst q
    cases y with
    | negSucc=>exact nb h2
    | ofNat m=>
      refine E0_2 (zac (show bq (Nat.ble 1 m) (bq (Nat.ble m 1000000000) (k .ani st) false) false=true from h2)) λw1 w2=>?_
      refine E0_2 (zac w2) λw3 w4=>?_
      rw [Nat.ble_eq] at w1
      rw [Nat.ble_eq] at w3
      have hna:(Int.ofNat m).natAbs=m:=rfl
      have hp:Builtin.divisionGoesByPylong x (Int.ofNat m)=false:=PyProof.noPylong_small (by rw [hna];omega)
      have hz:(Int.ofNat m)≠0:=λz=>by rw [z] at hna;simp at hna;omega
      have hq:Q (.int (x.fdiv (Int.ofNat m)) s.toks) { s with toks:=s.toks + 1}:=hk l .ani st _ _ w4 (.refl _) ok.tok ⟨_,_,rfl⟩
      exact PyProof.Rows.floordiv_int hz hq (.inl hp)
  refine E0_2 (zac (show bq (Nat.beq op 0) (k .ani st) false=true from h2)) λq h3=>?_
  rw [Nat.beq_eq] at q;subst q
  have hq:∀z t,Q (.int z t) { s with toks:=s.toks + 1}:=λz t=>hk l .ani st _ _ h3 (.refl _) ok.tok ⟨_,_,rfl⟩
  exact P.add_int (hq _ _)
theorem zd6 {lo hi z:Int} (h1:zan lo=true) (h2:zan hi=true) (h3:lo<=z) (h4:z<=hi):Builtin.Int.intBits z<=64:=by
  have h1:=zaw h1
  have h2:=zaw h2
  unfold Builtin.Int.intBits
  split
  · omega
  · rename_i q
    have hx:z.natAbs≠0:=by simpa using q
    have:z.natAbs.log2 < 60:=(Nat.log2_lt hx).mpr (by omega)
    omega
set_option maxHeartbeats 2000000 in
theorem ziV {op:Nat} {a b:V} {u v:Value} {ids:List P} {l:Vl} {st:St} {s:Shared} {k:KV} {A:Around} {Q E:Value->Shared->Prop} (h:binV op a b st k=true) (d:DV c l a u) (d':DV c l b v) (ok:Ok c ids l st s) (hk:PV c ids l k Q):
    wpAny (Md c) A (binaryOp (bop op) u v) Q E s:=by
  cases a <;> first | exact nb h | skip
  case int x=>
    replace h:zhJ op b st k x=true:=h
    refine E1_1 d ?_;clear d;rintro t rfl
    cases b <;> first | exact nb h | skip
    case int y=>
      refine E1_1 d' ?_;clear d';rintro t' rfl
      have fin:∀z t,k (.int z) st=true->Q (.int z t) { s with toks:=s.toks + 1}:=λz t h=>hk _ (.int z) _ _ _ h (.refl _) ok.tok ⟨_,rfl⟩
      rcases bq_t (show bq (Nat.beq op 3) (zaP y (divI x (kInt k st))) (binI op x y (kInt k st))=true from h) with ⟨q,h⟩ | ⟨_,h⟩
      · rw [Nat.beq_eq] at q;subst q
        cases y with
        | negSucc=>exact nb h
        | ofNat m=>
          refine E0_2 (zac (show divI x (kInt k st) m=true from h)) λw1 w2=>?_
          refine E0_2 (zac w2) λw3 w4=>?_
          rw [Nat.ble_eq] at w1
          rw [Nat.ble_eq] at w3
          cases x with
          | negSucc=>exact nb w4
          | ofNat a=>
            have hna:(Int.ofNat m).natAbs=m:=rfl
            have hp:Builtin.divisionGoesByPylong (.ofNat a) (Int.ofNat m)=false:=PyProof.noPylong_small (by rw [hna];omega)
            have hz:(Int.ofNat m)≠0:=λz=>by rw [z] at hna;simp at hna;omega
            have e:(Int.ofNat a).fdiv (Int.ofNat m)=Int.ofNat (a / m):=by cases a <;> simp [Int.fdiv]
            exact PyProof.Rows.floordiv_int hz (fin _ _ (by rw [e];exact w4)) (.inl hp)
      rcases bq_t (show bq (Nat.beq op 0) (iadd x y (kInt k st)) _=true from h) with ⟨q,h1⟩ | ⟨q,h1⟩
      · rw [Nat.beq_eq] at q;subst q
        exact P.add_int (fin _ _ (zaE h1))
      rcases bq_t (show bq (Nat.beq op 1) (zdQ x y (kInt k st)) _=true from h1) with ⟨q,h2⟩ | ⟨q,h2⟩
      · rw [Nat.beq_eq] at q;subst q
        exact P.sub_int (fin _ _ (zbl h2))
      rcases bq_t (show bq (Nat.beq op 2) (mulI x y (kInt k st)) _=true from h2) with ⟨q,h3⟩ | ⟨q,h3⟩
      · rw [Nat.beq_eq] at q;subst q
        refine E0_2 (zfu h3) λw1 w2=>?_
        exact P.mul_int (fin _ _ w2) (IntMulOk.of_left (zcx w1))
      rcases bq_t (show bq (Nat.beq op 4) (zaP y (modI x (kInt k st))) _=true from h3) with ⟨q,h4⟩ | ⟨q,h4⟩
      · rw [Nat.beq_eq] at q;subst q
        cases y with
        | negSucc=>exact nb h4
        | ofNat m=>
          refine E0_2 (zda (show modI x (kInt k st) m=true from h4)) λw1 w2=>?_
          exact AutoIntOps.mod_1 (by simpa using w1) (fin _ _ w2)
      refine E0_2 (zac (show bq (Nat.beq op 5) (powI x y (kInt k st)) false=true from h4)) λq h5=>?_
      rw [Nat.beq_eq] at q;subst q
      refine E2_5 (zfj h5) ?_;rintro x' n' rfl rfl w1 w2 w3
      exact zjt w1 w2 λt=>fin _ _ w3
    case sym j y lo hi=>
      refine E2_4 d' ?_;clear d';rintro z t' e rfl e1 e2
      refine E0_2 (zac (show bq (Nat.beq op 0) (zdD st k x j y lo hi) false=true from h)) λq h1=>?_
      rw [Nat.beq_eq] at q;subst q
      refine P.add_int ?_
      rw [Int.add_comm]
      exact zcD (s:=s) h1 e e1 e2 ok.tok hk
    case ani=>
      refine E2_1 d' ?_;clear d';rintro z t' rfl
      refine E0_2 (zac (show bq (Nat.beq op 1) (k .ani st) false=true from h)) λq h1=>?_
      rw [Nat.beq_eq] at q;subst q
      exact P.sub_int (hk l .ani st _ _ h1 (.refl _) ok.tok ⟨_,_,rfl⟩)
  case byt x=>
    refine E1_2 (za8 (show vByt b (zhE op st k x)=true from h)) ?_;rintro y rfl h1
    refine E0_2 (zac (show bq (Nat.beq op 0) (bq (zah x 300) (bq (zah y 300) (appL x y (kByt k st)) false) false) false=true from h1)) λq h2=>?_
    rw [Nat.beq_eq] at q;subst q
    refine E0_2 (zac h2) λs1 h3=>?_
    refine E0_2 (zac h3) λs2 h4=>?_
    have h5:k (.byt (x++y)) st=true:=zaG _ _ _ h4
    obtain ⟨us,t1,rfl,d1⟩:=d
    obtain ⟨vs,t2,rfl,d2⟩:=d'
    have s1:=zae _ _ s1
    have s2:=zae _ _ s2
    refine KBy.add_bytes ?_ λt' kk=>hk _ (.byt (x++y)) _ _ _ h5 (.refl _) ok.tok ⟨us++vs,_,rfl,by rw [Array.toList_append];exact d1.append d2⟩
    have e1:x.length=us.toList.length:=d1.length
    have e2:y.length=vs.toList.length:=d2.length
    have e3:us.toList.length=us.size:=rfl
    have e4:vs.toList.length=vs.size:=rfl
    omega
  case ref x=>
    replace h:zhI op b st k x=true:=h
    refine E1_2 d ?_;clear d;rintro a ha rfl
    cases b <;> first | exact nb h | skip
    case int y=>
      refine E1_1 d' ?_;clear d';rintro t' rfl
      refine E0_2 (zac (show bq (Nat.beq op 2) (zaP y (repN st k x)) false=true from h)) λq h1=>?_
      rw [Nat.beq_eq] at q;subst q
      cases y with
      | negSucc=>exact nb h1
      | ofNat m=>exact zfe h1 ha ok hk
    case ref y=>
      refine E1_2 d' ?_;clear d';rintro b hb rfl
      refine E0_2 (zfZ (A:=A) (E:=E) (show ziW op st k x y=true from h) ha hb ok hk) λe w=>?_
      subst e;exact w
  case sym j x lo hi=>
    replace h:zhH op b st k j x lo hi=true:=h
    refine E2_4 d ?_;clear d;rintro z t e rfl e1 e2
    cases b <;> first | exact nb h | skip
    case sym j2 x2 lo2 hi2=>
      refine E2_4 d' ?_;clear d';rintro z2 t2 _ rfl f1 f2
      refine E0_2 (zac (show bq (Nat.beq op 2) (bq (zan lo) (bq (zan hi) (bq (zan lo2) (bq (zan hi2) (k .ani st) false) false) false) false) false=true from h)) λq h=>?_
      rw [Nat.beq_eq] at q;subst q
      refine E0_2 (zac h) λr1 h=>?_
      refine E0_2 (zac h) λr2 h=>?_
      refine E0_2 (zac h) λr3 h=>?_
      refine E0_2 (zac h) λr4 h=>?_
      exact P.mul_int (hk _ .ani _ _ _ h (.refl _) ok.tok ⟨_,_,rfl⟩) (IntMulOk.of_left (zd6 r1 r2 e1 e2))
    case int y=>
    have h1:symI op j x lo hi st k y=true:=h
    refine E1_1 d' ?_;clear d';rintro t' rfl
    rcases bq_t (show bq (Nat.beq op 0) (zdD st k y j x lo hi) _=true from h1) with ⟨q,h2⟩ | ⟨q,h2⟩
    · rw [Nat.beq_eq] at q;subst q
      exact P.add_int (zcD (s:=s) h2 e e1 e2 ok.tok hk)
    rcases bq_t (show bq (Nat.beq op 1) (ineg y (shN st k j x lo hi)) _=true from h2) with ⟨q,h3⟩ | ⟨q,h3⟩
    · rw [Nat.beq_eq] at q;subst q
      have h3:zdD st k (-y) j x lo hi=true:=zb9 h3
      refine P.sub_int ?_
      rw [Int.sub_eq_add_neg]
      exact zcD (s:=s) h3 e e1 e2 ok.tok hk
    rcases bq_t (show bq (Nat.beq op 2) (zgW lo hi st k y) _=true from h3) with ⟨q,h4⟩ | ⟨q,h4⟩
    · rw [Nat.beq_eq] at q;subst q
      refine E0_2 (zac (show bq (zan lo) (bq (zan hi) (bq (zan y) (k .ani st) false) false) false=true from h4)) λr1 h4=>?_
      refine E0_2 (zac h4) λr2 h4=>?_
      refine E0_2 (zac h4) λr3 h4=>?_
      exact P.mul_int (hk _ .ani _ _ _ h4 (.refl _) ok.tok ⟨_,_,rfl⟩) (IntMulOk.of_left (zd6 r1 r2 e1 e2))
    rcases bq_t (show bq (Nat.beq op 4) (zgX j x lo hi st k y) (aniI op st k y)=true from h4) with ⟨q,h4⟩ | ⟨_,h4⟩
    · rw [Nat.beq_eq] at q;subst q
      rcases bq_t (show bq (few lo hi) (zaP y (zi7 j x lo hi st k)) (aniI 4 st k y)=true from h4) with ⟨_,h4⟩ | ⟨_,h4⟩
      · cases y with
        | negSucc=>exact nb h4
        | ofNat m=>
          refine E1_4 (zcR ok e e1 e2 (show conc j x lo hi st (zi8 k m)=true from h4)) λst' h5 ok' _ _=>?_
          refine E0_2 (zda (show modI (z + x) (kInt k st') m=true from h5)) λw1 w2=>?_
          exact AutoIntOps.mod_1 (by simp;omega) (hk _ (.int _) _ _ { s with toks:=s.toks + 1} w2 (.refl _) ok'.tok ⟨_,rfl⟩)
      · exact zdY h4 ok hk
    · exact zdY h4 ok hk
  case ani=>
    refine E1_2 (zam (show vInt b (aniI op st k)=true from h)) ?_;rintro y rfl h1
    refine E2_1 d ?_;clear d;rintro z t rfl
    refine E1_1 d' ?_;clear d';rintro t' rfl
    exact zdY h1 ok hk
theorem zl9 {op:Nat} {a b:Ev} {ax bx:Expr} (h1:SEv c p kd a ax) (h2:SEv c p kd b bx):SEv c p kd (xBin op a b) (.BinOp ax (bop op) bx pos):=by
  intro x ids l st s k A env Q E am h ok hk
  rw [eval_BinOp]
  refine wpAny_bind (h1 _ _ _ _ _ _ _ _ _ _ am h ok ?_)
  intro l1 v st1 u s1 g1 le1 ok1 d1
  refine wpAny_bind (wpAny_holding (h2 _ _ _ _ _ _ _ _ _ _ (am.le le1) (show b x st1 (zkl op v k)=true from g1) ok1 ?_))
  intro l2 w st2 wv s2 g2 le2 ok2 d2
  exact wpAny_bind (wpAny_standAt (wpAny_operating (ziV g2 (d1.le le2) d2 ok2 (hk.le (le1.trans le2)))))
end
end Mine
end
section
open PySem PySem.W PyProof.Rows PySem.Calls Builtin Builtin.ObjectAttr
set_option maxRecDepth 100000
namespace Mine
section
variable {prog:Program} {w:World} {A:Around} {E:Value->Shared->Prop} {s:Shared}
noncomputable abbrev zgT (b:Array UInt8) (i:Nat) (v:Value):Prop:=∃c u,b[i]? =some c/\v=.int (c.toNat:Int) u
theorem zdo {R:Result->Shared->Prop} (hh:A.handled=none) (b:Array UInt8) (t:Tok) (S:Addr) (res:Value) (c₀:Nat) (hS:s.heap.get? S=some { cls:=.type "list",data:=.seq #[] c₀})
    (hR:∀h' tk acc' c',(∀b o,b≠S->s.heap.get? b=some o->h'.get? b=some o)->h'.get? S=some { cls:=.type "list",dict:=none,data:=.seq acc' c',slots:=#[]}->
      ItemsOf (zgT b) acc' b.size->R (.ok (.ret res)) { s with heap:=h',toks:=tk}) (hn:b.size<=sizeLine):
    wpAny (model prog w) A.in1 (Builtin.List.listExtendWith (.ref S) (.bytes b t) res)
      (λfin s'=>match fin with | .done f=>R (.ok f) s' | .again c'=>c'.quiet=true/\codeAny (model prog w) A c' R s') (λe s'=>R (.error e) s') s:=by
  have hSI:S≠s.heap.objs.size:=Nat.ne_of_lt (Heap.lt_size hS)
  have hSf:S∉[s.heap.objs.size]:=λhm=>hSI (List.mem_singleton.mp hm)
  unfold Builtin.List.listExtendWith
  refine wpAny_bind (wpAny_typeOf (T:="bytes") (v:=.bytes b t) rfl ?_)
  have h1:Builtin.List.listSameRef (.ref S) (.bytes b t)=false:=rfl
  have h2:(Value.type "bytes"==Value.type "list")=false:=by decide
  have h3:(Value.type "bytes"==Value.type "tuple")=false:=by decide
  simp only [h1,h2,h3,Bool.or_false,Bool.false_eq_true,if_false]
  refine wpAny_bind (KBw.pyIter_bytes ?_)
  refine wpAny_bind (wpAny_holding ?_)
  unfold Builtin.List.listLengthHint
  refine wpAny_bind (wpAny_specialOf (T:="bytes") (v:=.bytes b t) rfl FB.slot_bytes_len.lookup ?_)
  wp_delta
  refine wpAny_bind (wpAny_isInstance (T:="bytes") (v:=.bytes b t) (b:=true) rfl (by rw [isSubtype_type];kernel_rfl) ?_)
  show wpAny _ _ (typeOf (Value.bytes b t) >>=_) _ _ _
  refine wpAny_bind (wpAny_typeOf (T:="bytes") (v:=.bytes b t) rfl ?_)
  refine wpAny_pure ?_
  rw [if_neg (by decide)]
  have W:=(KBw.walks (prog:=prog) (w:=w) (A:=A.in1) hh s.heap.objs.size b t).toS
  refine wpAny_pure ⟨plainId_quiet F.plain_extend_loop _,codeAny_extend_loopS W hn _ hSf _ b.size 0 _ _ _ rfl (Nat.zero_le _) ⟨_,Heap.get?_push_size _ rfl,rfl,rfl⟩ (Heap.get?_push_of_some _ hS) (ItemsOf.nil _) λs' acc' c' hm hS' hacc=>?_⟩
  rw [Moved.eq_with hm]
  refine hR s'.heap s'.toks acc' c' (λb ob hb e=>hm.heap b ob (λhmem=>?_) (Heap.get?_push_of_some _ e)) hS' hacc
  rcases List.mem_cons.mp hmem with e' | hmem
  · exact hb e'
  · exact absurd (Heap.lt_size e) (by rw [List.mem_singleton.mp hmem];exact Nat.lt_irrefl _)
theorem zeH {R:Result->Shared->Prop} (hh:A.handled=none) (b:Array UInt8) (t:Tok) (S:Addr) (hS:s.heap.get? S=some { cls:=.type "list",data:=.seq #[]})
    (hR:∀h' tk acc' c',(∀b o,b≠S->s.heap.get? b=some o->h'.get? b=some o)->h'.get? S=some { cls:=.type "list",dict:=none,data:=.seq acc' c',slots:=#[]}->
      ItemsOf (zgT b) acc' b.size->R (.ok (.ret .none)) { s with heap:=h',toks:=tk}) (hn:b.size<=sizeLine):
    wpAny (model prog w) A.in1 (Builtin.«list.__init__» ⟨[.ref S,.bytes b t],[]⟩)
      (λfin s'=>match fin with | .done f=>R (.ok f) s' | .again c'=>c'.quiet=true/\codeAny (model prog w) A c' R s') (λe s'=>R (.error e) s') s:=by
  show wpAny _ _ (do let old <- Builtin.List.listItems (.ref S);Builtin.List.listUpdate (.ref S) (λ_=>#[]);letGo old.toList.reverse;Builtin.List.listExtendWith (.ref S) (.bytes b t) .none) _ _ s
  refine wpAny_bind ?_
  unfold Builtin.List.listItems
  refine wpAny_bind (wpAny_seqItems hS rfl (wpAny_pure ?_))
  show wpAny _ _ (updateSeq S (λ_=>#[]) >>=λ_=>letGo (#[]:Array Value).toList.reverse >>=λ_=>Builtin.List.listExtendWith (.ref S) (.bytes b t) .none) _ _ s
  refine wpAny_bind (wpAny_updateSeq hS rfl ?_)
  have hS₂:=Heap.get?_update_self (Obj.mapSeq (λ_=>(#[]:Array Value))) hS rfl
  have oth:∀b o,b≠S->s.heap.get? b=some o->(s.heap.update S (Obj.mapSeq (λ_=>(#[]:Array Value)))).get? b=some o:=
    λb o hb e=>(Heap.get?_update_other _ _ (Ne.symm hb)).trans e
  refine wpAny_bind (wpAny_letGo ?_)
  refine zdo hh b t S .none _ hS₂ (λh' tk acc' c' hk hS' hacc=>?_) hn
  exact hR h' tk acc' c' (λb o hb e=>hk b o hb (oth b o hb e)) hS' hacc
theorem zcL {Q:Value->Shared->Prop} (hh:A.handled=none) (b:Array UInt8) (t:Tok)
    (hQ:∀h' tk acc' c',(∀b o,s.heap.get? b=some o->h'.get? b=some o)->
      h'.get? s.heap.objs.size=some { cls:=.type "list",dict:=none,data:=.seq acc' c',slots:=#[]}->ItemsOf (zgT b) acc' b.size->Q (.ref s.heap.objs.size) { s with heap:=h',toks:=tk}) (hn:b.size<=sizeLine):
    wpAny (model prog w) A (call (.type "list") [.bytes b t]) Q E s:=by
  refine callType_codes (Q₁:=λobj s₁=>obj=.ref s.heap.objs.size/\s₁={ s with heap:=s.heap.push { cls:=.type "list",data:=.seq #[]}}) F.called_list (F.typeCall_list_1 _) F.entry_list_init
    (code_list_new _ ⟨rfl,rfl⟩) λobj s₁ h₁=>?_
  refine E0_2 h₁ ?_;clear h₁;rintro rfl rfl
  have hS:(s.heap.push { cls:=.type "list",data:=.seq #[]}).get? s.heap.objs.size=some { cls:=.type "list",data:=.seq #[]}:=Heap.get?_push_size _ rfl
  refine ⟨⟨_,hS,rfl⟩,F.args_list_init_2 _ _,zeH (A:=A.in1) hh b t _ hS (λh' tk acc' c' hk hS' hacc=>?_) hn⟩
  exact ⟨rfl,hQ h' tk acc' c' (λb o e=>hk b o (Nat.ne_of_lt (Heap.lt_size e)) (Heap.get?_push_of_some _ e)) hS' hacc⟩
theorem zci {K:Type} [DecidableEq K] (knd:KeyKind prog w K) {d:Addr} {ep:Nat} {Q:List Value->Shared->Prop} (hh:A.handled=none) (hd:(d==sysModules)=false) (hm:s.heap.DictAt knd d [] ep)
    (hQ:∀h' tk,(∀b o,s.heap.get? b=some o->h'.get? b=some o)->Q [] { s with heap:=h',toks:=tk}):wpAny (model prog w) A (collect (.ref d)) Q E s:=by
  have hT:s.TypeIs (.ref d) "dict":=hm.dictOf.typeIs
  have hlt:d < s.heap.objs.size:=by (refine E2_2 hm ?_;clear hm;intro o es ho _);exact Heap.lt_size ho
  unfold collect
  refine wpAny_bind (wpAny_runValue (codeAny_builtin F.entry_proto_collect ?_))
  rw [Around.under_plainId F.plain_proto_collect _]
  show wpAny _ A.in1 (newList [] >>=λl=>again (.builtin "list.__iadd__" ⟨[l,.ref d],[]⟩)) _ _ s
  refine wpAny_bind (wpAny_newObj_type ?_)
  refine wpAny_pure ⟨plainId_quiet F.plain_list_iadd _,codeAny_builtin F.entry_list_iadd ?_⟩
  rw [Around.under_plainId F.plain_list_iadd _]
  generalize hH:s.heap.push { cls:=.type "list",data:=.seq ([]:List Value).toArray}=H
  have hHs:H.objs.size=s.heap.objs.size + 1:=by rw [<- hH,Heap.size_push]
  have up:∀b o,s.heap.get? b=some o->H.get? b=some o:=λb o e=>hH▸Heap.get?_push_of_some _ e
  have hm₁:H.DictAt knd d [] ep:=let ⟨o,es,ho,r⟩:=hm;⟨o,es,up _ _ ho,r⟩
  have hT₁:Shared.TypeIs { s with heap:=H} (.ref d) "dict":=hm₁.dictOf.typeIs
  have hS:H.get? s.heap.objs.size=some { cls:=.type "list",data:=.seq ([]:List Value).toArray}:=hH▸Heap.get?_push_size _ rfl
  show wpAny _ A.in1 (Builtin.List.listExtendWith (.ref s.heap.objs.size) (.ref d) (.ref s.heap.objs.size)) _ _ { s with heap:=H}
  unfold Builtin.List.listExtendWith
  refine wpAny_bind (wpAny_typeOf hT₁ ?_)
  have hdS:s.heap.objs.size≠d:=λe=>Nat.lt_irrefl _ (e▸hlt)
  have h1:Builtin.List.listSameRef (.ref s.heap.objs.size) (.ref d)=false:=by simp [Builtin.List.listSameRef,hdS]
  have h2:(Value.type "dict"==Value.type "list")=false:=by decide
  have h3:(Value.type "dict"==Value.type "tuple")=false:=by decide
  simp only [h1,h2,h3,Bool.or_false,Bool.false_eq_true,if_false]
  refine wpAny_bind (wpAny_pyIter_dict (s:={ s with heap:=H}) hd hm₁ ?_)
  refine wpAny_bind (wpAny_holding ?_)
  have hm₂:(H.push { cls:=.type "dict_keyiterator",data:=.fields #[.ref d,.int 0 0,.int ([]:List (K×Value)).length 0,.int ep 0]}).DictAt knd d [] ep:=let ⟨o,es,ho,r⟩:=hm₁;⟨o,es,Heap.get?_push_of_some _ ho,r⟩
  have hT₂:Shared.TypeIs { s with heap:=H.push { cls:=.type "dict_keyiterator",data:=.fields #[.ref d,.int 0 0,.int ([]:List (K×Value)).length 0,.int ep 0]}} (.ref d) "dict":=hm₂.dictOf.typeIs
  unfold Builtin.List.listLengthHint
  refine wpAny_bind (wpAny_specialOf hT₂ (r:=some (.builtin "dict.__len__")) (by rw [typeLookup_type,builtinLookup_eq_fast];kernel_rfl) ?_)
  wp_delta
  refine wpAny_bind (wpAny_isInstance (b:=true) hT₂ (by rw [isSubtype_type];kernel_rfl) ?_)
  show wpAny _ A.in1 (typeOf (Value.ref d) >>=_) _ _ _
  refine wpAny_bind (wpAny_typeOf hT₂ ?_)
  refine wpAny_pure ?_
  rw [if_pos (by decide)]
  have hSf:s.heap.objs.size∉[H.objs.size,d]:=λhm=>by
    rcases List.mem_cons.mp hm with e | e
    · rw [hHs] at e;exact absurd e (Nat.ne_of_lt (Nat.lt_succ_self _))
    · exact hdS (List.mem_singleton.mp e)
  have hne:d≠H.objs.size:=by rw [hHs];exact Nat.ne_of_lt (Nat.lt_succ_of_lt hlt)
  have hSI:s.heap.objs.size≠H.objs.size:=by rw [hHs];exact Nat.ne_of_lt (Nat.lt_succ_self _)
  have W:=(Walks.dictKeys (knd:=knd) (A:=A.in1) hh H.objs.size d hne [] ep).toS
  generalize hP:H.push { cls:=.type "dict_keyiterator",data:=.fields #[.ref d,.int 0 0,.int ([]:List (K×Value)).length 0,.int ep 0]}=H₂ at hm₂ hT₂ ⊢
  have hit:H₂.IsKeyIter H.objs.size d 0 ([]:List (K×Value)).length ep:=hP▸⟨_,Heap.get?_push_size _ rfl,rfl,rfl⟩
  have hS₁:H₂.get? s.heap.objs.size=some { cls:=.type "list",data:=.seq ([]:List Value).toArray}:=hP▸Heap.get?_push_of_some _ hS
  have up₂:∀b o,s.heap.get? b=some o->H₂.get? b=some o:=λb o e=>hP▸Heap.get?_push_of_some _ (up _ _ e)
  refine wpAny_bind (wpAny_rule ?_)
  refine wpAny_bind ?_
  show wpAny _ _ (updateSeq s.heap.objs.size (·.push .none) >>=λ_=>updateSeq s.heap.objs.size (·.pop)) _ _ _
  refine wpAny_bind (wpAny_updateSeq hS₁ rfl ?_)
  have hS₂:=Heap.get?_update_self (Obj.mapSeq (·.push Value.none)) hS₁ rfl
  refine wpAny_updateSeq (hz:=by seq_fits) hS₂ rfl ?_
  have hS₃:=Heap.get?_update_self (Obj.mapSeq (·.pop)) hS₂ rfl
  have other:∀b o,b≠s.heap.objs.size->H₂.get? b=some o->((H₂.update s.heap.objs.size (Obj.mapSeq (·.push Value.none))).update s.heap.objs.size (Obj.mapSeq (·.pop))).get? b=some o:=λb o hb e=>
    (Heap.get?_update_other _ _ (Ne.symm hb)).trans ((Heap.get?_update_other _ _ (Ne.symm hb)).trans e)
  refine wpAny_pure ⟨plainId_quiet F.plain_extend_loop _,codeAny_extend_loopS W (by rw [sizeLine_eq];exact Nat.zero_le _) _ hSf _ 0 0 _ _ _ rfl (Nat.zero_le _) ⟨hit.at λo e=>other _ _ (Ne.symm hSI) e,hm₂.at' λo e=>other _ _ (Ne.symm hdS) e⟩ hS₃ (ItemsOf.nil _) λs' acc' c' hm hS' hacc=>?_⟩
  show wpAny _ A (load s.heap.objs.size >>=_) _ _ s'
  refine wpAny_bind (wpAny_load hS' ?_)
  have ha:acc'.toList=[]:=List.length_eq_zero_iff.mp (by simpa using hacc.1)
  refine wpAny_pure ?_
  rw [ha,Moved.eq_with hm]
  refine hQ s'.heap s'.toks λb o e=>hm.heap b o (λhmem=>?_) (other _ _ (λq=>?_) (up₂ _ _ e))
  · have hb:=Heap.lt_size e
    rcases List.mem_cons.mp hmem with e' | hmem
    · exact Nat.lt_irrefl _ (e'▸hb)
    · rw [List.mem_singleton.mp hmem,hHs] at hb;exact Nat.lt_irrefl _ (Nat.lt_trans hb (Nat.lt_succ_self _))
  · exact Nat.lt_irrefl _ (q▸Heap.lt_size e)
end
end Mine
end
section
open PySem PySem.W PyProof.Rows PySem.Calls Builtin Builtin.ObjectAttr
set_option maxRecDepth 100000
namespace Mine
section
variable {c:Cn} {p:Pg} {kd:PySem.Str->Option NameKind} {pos:Pos} {n:Nat} {atts:List Nat}
theorem zcC {A:Around} {E:Value->Shared->Prop} {s:Shared} {d:Addr} {ep:Nat} {Q:Value->Shared->Prop} (hh:A.handled=none) (hd:(d==sysModules)=false) (hm:s.heap.DictAt (sk c) d [] ep)
    (hQ:∀h' tk a m,s.heap.get? a=none->(∀b o,s.heap.get? b=some o->h'.get? b=some o)->h'.get? a=some { cls:=.type "list",data:=.seq #[] m}->Q (.ref a) { s with heap:=h',toks:=tk}):
    wpAny (Md c) A (call (.builtin "sorted") [.ref d]) Q E s:=by
  refine Calls.call_function_entry kind_sorted plain_sorted entry_sorted (args_sorted1 _) ?_
  unfold Builtin.«sorted»
  refine wpAny_bind (m:=checkCount "sorted" 1 1 _) (wpAny_pure ?_)
  refine wpAny_bind (zci (sk c) (A:=A.in1) hh hd hm λh₁ tk hk=>?_)
  refine wpAny_bind (wpAny_newList ?_)
  have hoL:(h₁.push (seqObj "list" ([]:List Value).toArray 0)).get? h₁.objs.size=some (seqObj "list" ([]:List Value).toArray 0):=Heap.get?_push_size _ rfl
  show wpAny _ _ _ _ _ { s with heap:=h₁.push (seqObj "list" ([]:List Value).toArray 0),toks:=tk}
  refine wpAny_bind (wpAny_holding (wpAny_call_entry slot_list_sort ⟨_,hoL,rfl⟩ entry_list_sort (list_sort_treeK (s:={ s with heap:=h₁.push (seqObj "list" ([]:List Value).toArray 0),toks:=tk}) strKind_oneLt hoL (λp hp=>by simp [pairsOf] at hp) (λ_ _ _ q=>by cases q) (by decide) λst' a1 a2=>⟨_,rfl,?_⟩) (args_list_sort _)))
  refine wpAny_pure ⟨_,rfl,?_⟩
  refine E1_1 (sortedHeap_at (out:=(arrOf st').map (·.2)) hoL) λe he=>?_
  have hz:(arrOf st').map (·.2)=#[]:=by
    have:(arrOf st').size=0:=by rw [a1.size_eq];simp [pairsOf]
    rw [Array.eq_empty_of_size_eq_zero this];simp
  have hnone:∀a,s.heap.get? a=none\/a < s.heap.objs.size:=λa=>by
    cases q:s.heap.get? a with
    | none=>exact .inl rfl
    | some o=>exact .inr (Heap.lt_size q)
  refine hQ _ tk h₁.objs.size e ?_ (λb o q=>?_) (by rw [hz] at he;rw [hz];exact he)
  · cases q:s.heap.get? h₁.objs.size with
    | none=>rfl
    | some o=>exact absurd (Heap.lt_size (hk _ _ q)) (Nat.lt_irrefl _)
  · have q1:=hk _ _ q
    have hb:b < h₁.objs.size:=Heap.lt_size q1
    rw [hz,sortedHeap_old (Nat.ne_of_lt hb) (by rw [Heap.size_push];exact Nat.lt_succ_of_lt hb)]
    exact Heap.get?_push_of_some _ q1
end
end Mine
end
section
open PySem PySem.W PyProof.Rows PySem.Calls Builtin Builtin.ObjectAttr
set_option maxRecDepth 100000
namespace Mine
section
variable {c:Cn} {p:Pg} {kd:PySem.Str->Option NameKind} {pos:Pos} {n:Nat} {atts:List Nat}
theorem zcz {ids:List P} {l:Vl} {st:St} {s s':Shared} {o:O} {k:KP} {a:Addr} (ok:Ok c ids l st s) (h:st.add o k=true) (hn:s.heap.get? a=none) (hk:∀b o,s.heap.get? b=some o->s'.heap.get? b=some o) {ob:Obj} (ha:s'.heap.get? a=some ob)
    (hd:DO c (l.put st.n a) o ob) (hz:Same s s':=by exact ⟨rfl,rfl⟩):∃st',Ok c ids (l.put st.n a) st' s'/\l.Le (l.put st.n a)/\DV c (l.put st.n a) (.ref st.n) (.ref a)/\k st.n st'=true:=by
  refine E1_2 (St.add_spec h) λt' h' e=>?_
  exact ⟨_,ok.alloc hn hk ha hd e hz,ok.ext _,⟨_,Ok.put_self,rfl⟩,h'⟩
theorem zbO {h:Heap}:h.get? h.objs.size=none:=Heap.get?_none_of_le (Nat.le_refl _)
noncomputable def biV:Nat->Value
  | 0=>.builtin "len"
  | 1=>.builtin "isinstance"
  | 2=>.type "list"
  | 3=>.type "tuple"
  | 4=>.builtin "max"
  | 5=>.builtin "sorted"
  | 6=>.type "bytes"
  | 7=>.type "range"
  | 8=>.type "bool"
  | 9=>.type "int"
  | 20=>.type "Exception"
  | _=>.none
theorem zdi {k:KV} {st:St} {b:Bool} (h:kB' k st b=true):k (.boo b) st=true:=by cases b <;> exact h
theorem zkt {t:Nat} (ht:t=6\/t=8\/t=9\/t=3) {v:V} {u:Value} {ids:List P} {l:Vl} {st:St} {s:Shared} {k:KV} {A:Around} {Q E:Value->Shared->Prop} (h:isi t v st k=true) (d:DV c l v u) (ok:Ok c ids l st s) (hk:PV c ids l k Q):
    wpAny (Md c) A (call (.builtin "isinstance") [u,biV t]) Q E s:=by
  have fin:∀b,k (.boo b) st=true->Q (.bool b) s/\Q (.bool b) { s with toks:=s.toks + 1}:=λb h=>⟨hk _ (.boo b) _ _ _ h (.refl _) ok rfl,hk _ (.boo b) _ _ _ h (.refl _) ok.tok rfl⟩
  have intc:∀z tk,k (.boo (Nat.beq t 9)) st=true->wpAny (Md c) A (call (.builtin "isinstance") [.int z tk,biV t]) Q E s:=λz tk h=>by
    rcases ht with rfl | rfl | rfl | rfl
    · exact IsiPair.int_bytes (fin _ h).2
    · exact IsiPair.int_bool (fin _ h).2
    · exact IsiPair.int_int (fin _ h).1
    · exact IsiPair.int_tuple (fin _ h).2
  cases v <;> first | exact nb h | skip
  case non=>
    cases d
    have h5:=(fin _ (show k (.boo false) st=true from h)).2
    rcases ht with rfl | rfl | rfl | rfl
    · exact IsiPair.NoneType_bytes h5
    · exact IsiPair.NoneType_bool h5
    · exact IsiPair.NoneType_int h5
    · exact IsiPair.NoneType_tuple h5
  case int i=>(refine E1_1 d ?_;clear d;rintro tk rfl);exact intc _ _ (zdi h)
  case byt bs=>
    refine E2_2 d ?_;clear d;rintro us tk rfl _
    refine E0_2 (zac (show bq (Nat.beq t 6) (k (.boo true) st) false=true from h)) λe h=>?_
    rw [Nat.beq_eq] at e;subst e
    exact call_isinstance (isinstance_true (Tx:="bytes") PySem.F.isi_meta_bytes PySem.F.sub_bytes_bytes) ⟨rfl,(fin _ h).1⟩
  case ref q=>
    refine E1_2 d ?_;clear d;rintro a ha rfl
    rcases zar (St.get_spec (show st.get q (isO t st k)=true from h)) with ⟨xs,ho,h⟩ | ⟨xs,ho,h⟩
    · refine E2_2 (zax ok ho ha) λus m g1 _=>?_
      have h5:=zdi (show kB' k st (Nat.beq t 3)=true from h)
      rcases ht with rfl | rfl | rfl | rfl
      · exact IsiPair.tuple_bytes g1 rfl (fin _ h5).2
      · exact IsiPair.tuple_bool g1 rfl (fin _ h5).2
      · exact IsiPair.tuple_int g1 rfl (fin _ h5).2
      · exact IsiPair.tuple_tuple g1 rfl (fin _ h5).1
    · refine E2_2 (zaq ok ho ha) λus m g1 _=>?_
      have h5:=(fin _ (zdi (show kB' k st false=true from h))).2
      rcases ht with rfl | rfl | rfl | rfl
      · exact IsiPair.list_bytes g1 rfl h5
      · exact IsiPair.list_bool g1 rfl h5
      · exact IsiPair.list_int g1 rfl h5
      · exact IsiPair.list_tuple g1 rfl h5
  case nes j dd=>
    refine E0_2 (zac (show bq (Nat.beq t 3) (Nat.rec (k (.boo false) st) (λd _=>isN1 j st k d) dd) false=true from h)) λe h=>?_
    rw [Nat.beq_eq] at e;subst e
    have leaf:∀st' u,Leaf u->k (.boo false) st'=true->Ok c ids l st' s->wpAny (Md c) A (call (.builtin "isinstance") [u,biV 3]) Q E s:=λst' u x h ok'=>by
      have q:=hk l (.boo false) st' (.bool false) { s with toks:=s.toks + 1} h (.refl _) ok'.tok rfl
      cases u with
      | int i t=>exact IsiPair.int_tuple q
      | str y t=>exact IsiPair.str_tuple q
      | _=>exact x.elim
    refine E0_3 d λd1 d2 d3=>?_
    cases dd with
    | zero=>exact leaf st u d3 h ok
    | succ dd=>
      refine E0_2 (zac (show bq (subS (sbN j (.nes j 0)) st (kBo k false)) (bq (matM j dd 1 st k) (bq (matM j dd 2 st k) (matM j dd 3 st k) false) false) false=true from h)) λh1 h=>?_
      refine E0_2 (zac h) λh2 h=>?_
      refine E0_2 (zac h) λh3 h4=>?_
      rcases d3 with d3 | ⟨a,b,w,n,vs,m,rfl,ha,hw,hb,hl,hv⟩
      · refine E1_4 (zdA ok (zg3 λd' u' x=>?_) h1) λst' h5 ok' _ _=>leaf st' u d3 h5 ok'
        have e:=x.2.1
        rw [d2] at e
        exact ⟨x.1,x.2.1,(si e)▸d3⟩
      · have hm:matM j dd vs.length st k=true:=by rcases hl with e | e | e <;> rw [e] <;> assumption
        refine E2_3 (zjW ok d2 d1 ha hw hb hv hm) λl' st' le ok' h5=>?_
        exact IsiPair.tuple_tuple (ok.kep _ _ ha) rfl (hk l' (.boo true) st' (.bool true) s h5 le ok' rfl)
  case sym j x lo hi=>(refine E2_1 (zau d (.inr (.inl ⟨_,_,_,_,rfl⟩))) ?_;rintro z tk rfl);exact intc _ _ (zdi h)
  case ani=>(refine E2_1 (zau d (.inr (.inr rfl))) ?_;rintro z tk rfl);exact intc _ _ (zdi h)
theorem zj1 {v:V} {u:Value} {ids:List P} {l:Vl} {st:St} {s:Shared} {k:KV} {A:Around} {Q E:Value->Shared->Prop} (h:lenV v st (kLen k st)=true) (d:DV c l v u) (ok:Ok c ids l st s) (hk:PV c ids l k Q):
    wpAny (Md c) A (call (.builtin "len") [u]) Q E s:=by
  have fin:∀(m m':Nat) (t t':Tok),m=m'->k (.int (.ofNat m)) st=true->Q (.int (m':Int) t) { s with toks:=t'}:=λm m' t t' e h=>by
    subst e;exact hk _ (.int (.ofNat m)) _ _ _ h (.refl _) (ok.quiet λb o e=>e) ⟨_,rfl⟩
  cases v <;> first | exact nb h | skip
  case byt bs=>
    refine E2_2 d ?_;clear d;rintro us tk rfl hu
    refine E0_2 (zac (show bq (zah bs 300) (lenL bs 0 (kLen k st)) false=true from h)) λz h=>?_
    have z:=zae _ _ z
    have h:=zal _ _ _ h
    have hl:bs.length=us.size:=by have:=hu.length;simpa using this
    exact len_bytes (by omega) (fin _ _ _ _ (by omega) h)
  case ref q=>
    refine E1_2 d ?_;clear d;rintro a ha rfl
    rcases zar (St.get_spec (show st.get q (lnO (kLen k st))=true from h)) with ⟨xs,ho,h⟩ | ⟨xs,ho,h⟩
    · refine E0_2 (zac (show bq (zah xs 300) (lenL xs 0 (kLen k st)) false=true from h)) λz h=>?_
      have z:=zae _ _ z
      have h:=zal _ _ _ h
      refine E2_2 (zax ok ho ha) λus m g1 g2=>?_
      have hl:=g2.length
      have hs:us.toArray.size=us.length:=List.size_toArray ..
      exact len_tuple (items:=us.toArray) ⟨_,g1,rfl,m,rfl⟩ (by omega) (fin _ _ _ _ (by omega) h)
    · refine E0_2 (zac (show bq (zah xs 300) (lenL xs 0 (kLen k st)) false=true from h)) λz h=>?_
      have z:=zae _ _ z
      have h:=zal _ _ _ h
      refine E2_3 (zaq ok ho ha) λus m g1 g2 _=>?_
      have hl:=g2.length
      have hs:us.toArray.size=us.length:=List.size_toArray ..
      exact call_len_list (items:=us.toArray) ⟨_,g1,rfl,m,rfl⟩ (by omega) (fin _ _ _ _ (by omega) h)
theorem zdX {l:Vl}:∀(bs:List B) (k:KLs),bL bs k=true->∃xs,k xs=true/\xs.length=bs.length/\∀(us:List UInt8) (vs:List Value),All2 (DB l) bs us->All2 (λ(u:UInt8) (v:Value)=>∃t,v=.int (u.toNat:Int) t) us vs->DVs c l xs vs
  | [],k,h=>⟨[],h,rfl,λus vs h1 h2=>by cases h1;cases h2;exact .nil⟩
  | .n x::r,k,h=>by
    obtain ⟨xs,h1,h2,h3⟩:=zdX r _ (show bL r (zaD (.int (.ofNat x)) k)=true from h)
    refine ⟨.int (.ofNat x)::xs,h1,by simp [h2],λus vs w1 w2=>?_⟩
    cases w1 with
    | @cons _ u _ us d ds=>
      cases w2 with
      | @cons _ v _ vs e es=>
        refine E1_1 e ?_;clear e;rintro t rfl
        exact .cons ⟨t,by rw [show u.toNat=x from d];rfl⟩ (h3 us vs ds es)
  | .s j y lo hi::r,k,h=>by
    obtain ⟨xs,h1,h2,h3⟩:=zdX r _ (show bL r (zaD (.sym j y lo hi) k)=true from h)
    refine ⟨.sym j y lo hi::xs,h1,by simp [h2],λus vs w1 w2=>?_⟩
    cases w1 with
    | @cons _ u _ us d ds=>
      cases w2 with
      | @cons _ v _ vs e es=>
        refine E1_1 e ?_;clear e;rintro t rfl
        refine E1_4 d ?_;clear d;intro z e1 e2 e3 e4
        exact .cons ⟨z,t,e1,by rw [e2],e3,e4⟩ (h3 us vs ds es)
theorem zfn {b:Array UInt8} {acc:Array Value} (h:ItemsOf (zgT b) acc b.size):All2 (λ(u:UInt8) (v:Value)=>∃t,v=.int (u.toNat:Int) t) b.toList acc.toList:=by
  have key:∀(us:List UInt8) (vs:List Value),us.length=vs.length->(∀(j:Nat) (v:Value),vs[j]? =some v->∃(c:UInt8) (u:Tok),us[j]? =some c/\v=.int (c.toNat:Int) u)->All2 (λ(u:UInt8) (v:Value)=>∃t,v=.int (u.toNat:Int) t) us vs:=by
    intro us
    induction us with
    | nil=>intro vs hl _;cases vs with
      | nil=>exact .nil
      | cons=>cases hl
    | cons u us ih=>
      intro vs hl h
      cases vs with
      | nil=>cases hl
      | cons v vs=>
        refine E2_2 (h 0 v rfl) λc t e1 e2=>?_
        simp at e1;subst e1
        exact .cons ⟨t,e2⟩ (ih vs (by simpa using hl) λj w hw=>by simpa using h (j + 1) w (by simpa using hw))
  refine key _ _ (by have:=h.1;simp [this]) λj v hv=>?_
  refine E2_2 (h.2 j v (by simpa using hv)) λc u e1 e2=>?_
  exact ⟨c,u,by simpa using e1,e2⟩
theorem zcB {l:Vl}:∀(xs:List V) (k:KBs),toB xs k=true->∃bs,k bs=true/\∀us:List Value,DVs c l xs us->∃ns:List Int,IntsAre us ns/\(∀n∈ns,0<=n/\n < 256)/\All2 (DB l) bs (byteArr ns).toList
  | [],k,h=>⟨[],h,λus d=>by cases d;exact ⟨[],.nil,λn h=>(by cases h),.nil⟩⟩
  | v::r,k,h=>by
    cases v <;> first | exact nb h | skip
    case int i=>
      cases i with
      | negSucc=>exact nb h
      | ofNat x=>
        refine E0_2 (zac (show bq (Nat.ble x 255) (toB r (zaD (.n x) k)) false=true from h)) λe h=>?_
        rw [Nat.ble_eq] at e
        obtain ⟨bs,h1,h2⟩:=zcB r _ h
        refine ⟨.n x::bs,h1,λus d=>?_⟩
        cases d with
        | @cons _ u _ us d ds=>
          refine E1_1 d ?_;clear d;rintro t rfl
          refine E1_3 (h2 us ds) λns w1 w2 w3=>?_
          refine ⟨(x:Int)::ns,.cons _ t w1,λn hn=>?_,.cons ?_ w3⟩
          · rcases List.mem_cons.mp hn with rfl | hn
            · omega
            · exact w2 n hn
          · show ((x:Int).toNat.toUInt8).toNat=x
            rw [Int.toNat_natCast,Nat.toUInt8,UInt8.toNat_ofNat']
            omega
    case sym j y lo hi=>
      refine E0_2 (zac (show bq (ile (.ofNat 0) lo) (bq (ile hi (.ofNat 255)) (toB r (zaD (.s j y lo hi) k)) false) false=true from h)) λe1 h=>?_
      refine E0_2 (zac h) λe2 h=>?_
      have e1:=ile_spec.mp e1
      have e2:=ile_spec.mp e2
      have e1:0<=lo:=e1
      have e2:hi<=255:=e2
      obtain ⟨bs,h1,h2⟩:=zcB r _ h
      refine ⟨.s j y lo hi::bs,h1,λus d=>?_⟩
      cases d with
      | @cons _ u _ us d ds=>
        refine E2_4 d ?_;clear d;rintro z t q1 rfl q2 q3
        refine E1_3 (h2 us ds) λns w1 w2 w3=>?_
        refine ⟨(z + y)::ns,.cons _ t w1,λn hn=>?_,.cons ?_ w3⟩
        · rcases List.mem_cons.mp hn with rfl | hn
          · omega
          · exact w2 n hn
        · refine ⟨z,q1,?_,q2,q3⟩
          have:((z + y).toNat.toUInt8).toNat=(z + y).toNat:=by
            rw [Nat.toUInt8,UInt8.toNat_ofNat']
            omega
          rw [this]
          omega
theorem zeG {v:V} {u:Value} {ids:List P} {l:Vl} {st:St} {s:Shared} {k:KV} {A:Around} {Q E:Value->Shared->Prop} (hh:A.handled=none) (h:zdP v st (za5 k st)=true) (d:DV c l v u) (ok:Ok c ids l st s) (hk:PV c ids l k Q):
    wpAny (Md c) A (call (.type "list") [u]) Q E s:=by
  cases v <;> first | exact nb h | skip
  case byt bs=>
    refine E2_2 d ?_;clear d;rintro us tk rfl hu
    refine E0_2 (zac (show bq (zah bs 300) (bL bs (za5 k st)) false=true from h)) λz h1=>?_
    have z:=zae _ _ z
    refine E1_3 (zdX (c:=c) (l:=l) bs _ h1) λxs h2 h3 h4=>?_
    have hl:bs.length=us.size:=by have:=hu.length;simpa using this
    refine zcL hh us tk (λh' tk' acc' c' hkk hS hi=>?_) (by rw [sizeLine_eq];omega)
    have dv:=h4 _ _ hu (zfn hi)
    refine E1_4 (zcz (s':={ s with heap:=h',toks:=tk'}) ok (show st.add (.lst xs) (kRef k)=true from h2) zbO hkk hS ⟨acc'.toList,c',by simp,DVs.le (ok.ext _) dv⟩) λst2 ok2 le2 d2 q=>?_
    exact hk _ _ _ _ _ q le2 ok2 d2
  case ref q=>
    refine E1_2 d ?_;clear d;rintro a ha rfl
    have go:∀(T:String) (xs:List V) (us:List Value) (m:Nat) (o:Obj),(T="list"\/T="tuple")->s.heap.get? a=some o->o.cls=.type T->o.data=.seq us.toArray m->DVs c l xs us->itS (za5 k st) xs=true->wpAny (Md c) A (call (.type "list") [.ref a]) Q E s:=λT xs us m o hT ho hc hd dv h=>by
      refine E0_2 (zac (show bq (zah xs 300) (za5 k st xs) false=true from h)) λz h1=>?_
      have z:=zae _ _ z
      have hl:=dv.length
      refine call_list_seq a hT ho hc hd (λh' c' hkk hS=>?_) (by rw [List.size_toArray,sizeLine_eq];omega)
      refine E1_4 (zcz (s':={ s with heap:=h'}) ok (show st.add (.lst xs) (kRef k)=true from h1) zbO hkk hS ⟨us,c',rfl,DVs.le (ok.ext _) dv⟩) λst2 ok2 le2 d2 q=>?_
      exact hk _ _ _ _ _ q le2 ok2 d2
    rcases zar (St.get_spec (show st.get q (zhq (za5 k st))=true from h)) with ⟨xs,ho,h1⟩ | ⟨xs,ho,h1⟩
    · refine E2_2 (zax ok ho ha) λus m g1 g2=>?_
      exact go "tuple" xs us m _ (.inr rfl) g1 rfl rfl g2 h1
    · refine E2_3 (zaq ok ho ha) λus m g1 g2 _=>?_
      exact go "list" xs us m _ (.inl rfl) g1 rfl rfl g2 h1
theorem zlk (N:Nms c) (H:HasMods c) {b:Nat} {v:V} {u:Value} {ids:List P} {l:Vl} {st:St} {s:Shared} {k:KV} {A:Around} {Q E:Value->Shared->Prop} (hh:A.handled=none) (h:bi1 b v st k=true) (d:DV c l v u) (ok:Ok c ids l st s) (hk:PV c ids l k Q):
    wpAny (Md c) A (call (biV b) [u]) Q E s:=by
  rcases bq_t (show bq (Nat.beq b 0) (lenV v st (kLen k st)) _=true from h) with ⟨q,h0⟩ | ⟨q,h0⟩
  · rw [Nat.beq_eq] at q;subst q;exact zj1 h0 d ok hk
  rcases bq_t (show bq (Nat.beq b 2) (zdP v st (za5 k st)) _=true from h0) with ⟨q,h1⟩ | ⟨q,h1⟩
  · rw [Nat.beq_eq] at q;subst q;exact zeG hh h1 d ok hk
  rcases bq_t (show bq (Nat.beq b 3) (vRef v (tupR st k)) _=true from h1) with ⟨q,h2⟩ | ⟨q,h2⟩
  · rw [Nat.beq_eq] at q;subst q
    refine E1_2 (zak h2) ?_;rintro x rfl h3
    refine E1_2 d ?_;clear d;rintro a ha rfl
    refine E1_2 (zas (St.get_spec (show st.get x (tupO st k)=true from h3))) λxs ho h4=>?_
    refine E0_2 (zac (show bq (zah xs 300) (zbJ k st xs) false=true from h4)) λz h5=>?_
    have z:=zae _ _ z
    refine E2_3 (zaq ok ho ha) λus m g1 g2 _=>?_
    have hl:=g2.length
    refine call_tuple_list (items:=us.toArray) ⟨_,g1,rfl,m,rfl⟩ (λh' hkk=>?_) (by rw [List.size_toArray,sizeLine_eq];omega)
    refine E1_4 (zcz (s':={ s with heap:=h'.push { cls:=.type "tuple",data:=.seq us.toArray}}) ok (show st.add (.tup xs) (kRef k)=true from h5) (a:=h'.objs.size) (by
      cases e:s.heap.get? h'.objs.size with
      | none=>rfl
      | some o=>exact absurd (Heap.lt_size (hkk _ _ e)) (Nat.lt_irrefl _)) (λb o e=>Heap.get?_push_of_some _ (hkk b o e)) (Heap.get?_push_size _ rfl) ⟨us,0,rfl,DVs.le (ok.ext _) g2⟩) λst2 ok2 le2 d2 q=>?_
    exact hk _ _ _ _ _ q le2 ok2 d2
  rcases bq_t (show bq (Nat.beq b 5) (vRef v (zjc st k)) _=true from h2) with ⟨q,h3⟩ | ⟨q,h3⟩
  · rw [Nat.beq_eq] at q;subst q
    refine E1_2 (zak h3) ?_;rintro x rfl h4
    refine E1_2 d ?_;clear d;rintro a ha rfl
    refine E1_2 (zaC (St.get_spec (show st.get x (zjd st k)=true from h4))) λm ho h5=>?_
    cases m with
    | cons=>exact nb h5
    | nil=>
      refine E2_4 (ok.at_ ho (by rintro ⟨⟩)) ?_;rintro x' ob q1 q2 ⟨es,cn,rfl,q3⟩ q4
      rw [ha] at q1;(replace q1:=si q1;subst q1)
      cases q3
      have hne:(a==sysModules)=false:=by
        refine E1_1 H.m λo ho'=>?_
        refine beq_eq_false_iff_ne.mpr λe=>?_
        rw [e] at q4
        rw [ok.h0 (q4 rfl)] at ho';exact no ho'
      refine zcC (ep:=cn) hh hne ⟨_,#[],q2,⟨rfl,rfl,rfl⟩,rfl,λe he=>by simp at he,.nil,List.nodup_nil⟩ λh' tk a' m' hn hkk hS=>?_
      refine E1_4 (zcz (s':={ s with heap:=h',toks:=tk}) ok (show st.add (.lst []) (kRef k)=true from h5) hn hkk hS ⟨[],m',rfl,.nil⟩) λst2 ok2 le2 d2 q=>?_
      exact hk _ _ _ _ _ q le2 ok2 d2
  rcases bq_t (show bq (Nat.beq b 6) (vRef v (bytR st k)) _=true from h3) with ⟨q,h4⟩ | ⟨q,h4⟩
  · rw [Nat.beq_eq] at q;subst q
    refine E1_2 (zak h4) ?_;rintro x rfl h5
    refine E1_2 d ?_;clear d;rintro a ha rfl
    refine E1_2 (zas (St.get_spec (show st.get x (bytO st k)=true from h5))) λxs ho h6=>?_
    refine E0_2 (zac (show bq (zah xs 300) (toB xs (kByt k st)) false=true from h6)) λz h7=>?_
    have z:=zae _ _ z
    refine E1_2 (zcB (c:=c) (l:=l) xs _ h7) λbs h8 h9=>?_
    refine E2_3 (zaq ok ho ha) λus m g1 g2 _=>?_
    refine E1_3 (h9 us g2) λns w1 w2 w3=>?_
    have hl:=g2.length
    exact call_bytes_ints (vs:=us) ⟨_,g1,rfl,m,rfl⟩ w1 w2 (by rw [sizeLine_eq];omega) hh λh' t kk hkk=>hk _ (.byt bs) _ _ _ h8 (.refl _) (ok.quiet hkk) ⟨_,t,rfl,w3⟩
  refine E0_2 (zac (show bq (Nat.beq b 7) (rngV v st k) false=true from h4)) λq h5=>?_
  rw [Nat.beq_eq] at q;subst q
  have rng:∀(i:Int) (t:Tok) (st:St),rng1 st k i=true->Ok c ids l st s->wpAny (Md c) A (call (biV 7) [.int i t]) Q E s:=λi t st h6 ok=>by
    refine call_range_1 ?_
    refine E1_4 (zcz (s':={ s with heap:=s.heap.push { cls:=.type "range",data:=.fields #[.int 0 s.toks,.int i t,.int 1 (s.toks + 1)]},toks:=s.toks + 1 + 1}) ok (show st.add (.rng (.ofNat 0) i) (kRef k)=true from h6) zbO (λb o e=>Heap.get?_push_of_some _ e) (Heap.get?_push_size _ rfl) ⟨s.toks,t,s.toks + 1,rfl⟩) λst2 ok2 le2 d2 q=>?_
    exact hk _ _ _ _ _ q le2 ok2 d2
  cases v <;> first | exact nb h5 | skip
  case int i=>
    refine E1_1 d ?_;clear d;rintro t rfl
    exact rng i t st h5 ok
  case sym j c0 lo hi=>
    refine E2_4 d ?_;clear d;rintro z t hz rfl z1 z2
    refine E1_4 (zcR ok hz z1 z2 (show conc j c0 lo hi st (rngC k)=true from h5)) λst' h6 ok' _ _=>?_
    exact rng _ t st' h6 ok'
structure BiV (c:Cn) (p:Pg):Prop where
  v:∀g b,p.g.at g=some (.bi b)->c.gv g=biV b
theorem zb6 (T:String) (h:Heap):zbg (Md c) h (.type T):=⟨.machine,.inr (.inl rfl),.now⟩
theorem zcM {l:Vl} {v:V} {u:Value} (h:isI v=true) (d:DV c l v u):∃x t,u=.int x t:=by
  cases v <;> first | cases h | skip
  · refine E1_1 d ?_;clear d;rintro t rfl;exact ⟨_,_,rfl⟩
  · refine E2_3 d ?_;clear d;rintro z t _ rfl _;exact ⟨_,_,rfl⟩
  · exact d
theorem znT (N:Nms c) (H:HasMods c) (B:BiV c p) (hex:∀g b,p.g.at g=some (.bi b)->b<=9\/b=20):BiOk c p where
  keep g b hg h:=by
    rw [B.v g b hg]
    have this:=hex g b hg
    by_cases hb:b=20
    · subst hb;exact zb6 _ _
    have this:b<=9:=this.resolve_right hb
    match b with
    | 0 | 1 | 5=>exact zaV _ _
    | 2 | 3 | 6 | 7 | 8 | 9=>exact zb6 _ _
    | 4=>exact ⟨.machine,.inr (.inl rfl),.now⟩
  call g b hg args dp ids l st s k A vals Q E h ok hv hA hf h0 hk:=by
    rw [B.v g b hg]
    cases hv with
    | nil=>exact nb h
    | @cons v u vs us d ds=>
      cases ds with
      | nil=>exact zlk N H hf h d ok hk
      | @cons w z ws zs d' ds'=>
        cases ds' with
        | cons=>exact nb h
        | nil=>
          have h:bi2 p b v w st k=true:=h
          rcases bq_t (show bq (Nat.beq b 1) (vGlo w (isP p v st k)) _=true from h) with ⟨q,h1⟩ | ⟨q,h1⟩
          · rw [Nat.beq_eq] at q;subst q
            refine E1_2 (zbR h1) ?_;rintro x rfl h2
            cases d'
            refine E1_2 (zap _ _ _ (show tget x p.g (isG v st k)=true from h2)) λG hG h3=>?_
            rcases zbn h3 with ⟨i,rfl,h⟩ | ⟨i,rfl,h⟩ | ⟨t,rfl,h⟩ | ⟨v,rfl,h⟩ | ⟨rfl,h⟩ <;> first | exact nb h | skip
            refine E0_2 (zac (show bq (bq (Nat.beq t 6) true (bq (Nat.beq t 8) true (bq (Nat.beq t 9) true (Nat.beq t 3)))) (isi t v st k) false=true from h)) λe h4=>?_
            rw [B.v x t hG]
            refine zkt ?_ h4 d ok hk
            rcases bq_t e with ⟨q,_⟩ | ⟨_,e⟩
            · exact .inl (by simpa using q)
            · rcases bq_t e with ⟨q,_⟩ | ⟨_,e⟩
              · exact .inr (.inl (by simpa using q))
              · rcases bq_t e with ⟨q,_⟩ | ⟨_,e⟩
                · exact .inr (.inr (.inl (by simpa using q)))
                · exact .inr (.inr (.inr (by simpa using e)))
          rcases bq_t (show bq (Nat.beq b 4) (maxA v w st k) _=true from h1) with ⟨q,h2⟩ | ⟨q,h1⟩
          · rw [Nat.beq_eq] at q;subst q
            refine E0_2 (zac (show bq (isI v) (bq (isI w) (k .ani st) false) false=true from h2)) λi1 h2=>?_
            refine E0_2 (zac h2) λi2 h2=>?_
            refine E2_1 (zcM i1 d) ?_;rintro x t rfl
            refine E2_1 (zcM i2 d') ?_;rintro y t' rfl
            refine PySem.max_two_ints hf λh' tk hk'=>?_
            exact hk l .ani _ _ _ h2 (.refl _) (ok.quiet hk') (by split <;> exact ⟨_,_,rfl⟩)
          · refine E0_2 (zac (show bq (Nat.beq b 7) (vInt v (zjm w st k)) false=true from h1)) λq h2=>?_
            rw [Nat.beq_eq] at q;subst q
            refine E1_2 (zam h2) ?_;rintro i rfl h3
            refine E1_2 (zam (show vInt w (rng2 st k i)=true from h3)) ?_;rintro j rfl h4
            refine E1_1 d ?_;clear d;rintro t rfl
            refine E1_1 d' ?_;clear d';rintro t' rfl
            refine call_range_2 ?_
            refine E1_4 (zcz (s':={ s with heap:=s.heap.push { cls:=.type "range",data:=.fields #[.int i t,.int j t',.int 1 s.toks]},toks:=s.toks + 1}) ok (show st.add (.rng i j) (kRef k)=true from h4) zbO (λb o e=>Heap.get?_push_of_some _ e) (Heap.get?_push_size _ rfl) ⟨t,t',s.toks,rfl⟩) λst2 ok2 le2 d2 q=>?_
            exact hk _ _ _ _ _ q le2 ok2 d2
end
end Mine
end
section
open PySem PySem.W PyProof.Rows PySem.Calls Builtin Builtin.ObjectAttr
namespace Mine
structure All (c:Cn) (p:Pg) (atts:List Nat) (mg mb:PySem.Str->Option Value):Prop where
  n:Nms c
  f:Fx c p atts
  x:Gx c mg mb
  m:HasMods c
  b:BiOk c p
  d:DrOk c p
  e:XcOk c p
section
variable {c:Cn} {p:Pg} {kd:PySem.Str->Option NameKind} {pos apos:Pos} {n:Nat} {atts:List Nat} {mg mb:PySem.Str->Option Value} {y:PySem.Str} {ex ix:Expr} {exs:List Expr} {e i:Ev} {es:Evs}
theorem zLoc (H:All c p atts mg mb) (k:Nat) (e1:c.nm k=y) (e:kd y=some .local):SEv c p kd (xLoc k) (.Name y pos):=by subst e1;exact zh6 H.n e
theorem zCel (H:All c p atts mg mb) (k:Nat) (e1:c.nm k=y) (e:kd y=some .cell\/kd y=some .free):SEv c p kd (xCel k) (.Name y pos):=by subst e1;exact zl6 H.n e
theorem zGlo (H:All c p atts mg mb) (g:P) {u:Value} (e:kd y=some .globalImplicit) (hd:(y==("__debug__":PySem.Str))=false) (hu:mg y=some u\/(mg y=none/\mb y=some u)) (hg:GIs c p g u):SEv c p kd (xGlo g) (.Name y pos):=zl2 H.n H.x e hd hu hg
theorem zAtt (H:All c p atts mg mb) (k:Nat) (e1:c.nm k=y) (hx:k∈atts) (h1:SEv c p kd e ex) (hs:zbf ex):SEv c p kd (xAtt e k) (.Attribute ex y pos):=by subst e1;exact zma H.f hx h1 hs
theorem zIdx (H:All c p atts mg mb) (h1:SEv c p kd e ex) (h2:SEv c p kd i ix) (hs:zeu ix):SEv c p kd (xIdx e i) (.Subscript ex ix pos):=zl1 H.n h1 h2 hs
theorem zBin (op:Nat) {o:Operator} (eo:bop op=o) (h1:SEv c p kd e ex) (h2:SEv c p kd i ix):SEv c p kd (xBin op e i) (.BinOp ex o ix pos):=by subst eo;exact zl9 h1 h2
theorem zCal (H:All c p atts mg mb) {px:Pos} (h1:SEv c p kd e (.Name y px)) (ns:NS exs) (h2:SEvs c p kd es exs):SEv c p kd (xCal e es) (.Call (.Name y px) exs [] pos):=zl7 H.f H.b H.d H.e h1 ns h2
theorem zMca (H:All c p atts mg mb) (hn:c.nm 0="append"/\c.nm 1="pop"/\c.nm 2="extend") (k:Nat) (e1:c.nm k=y) (h1:SEv c p kd e ex) (hs:zbf ex) (ns:NS exs) (h2:SEvs c p kd es exs) (hz:exs.length < 30) (hline:(apos.endLine==pos.line)=true):
    SEv c p kd (xMca e k es) (.Call (.Attribute ex y apos) exs [] pos):=by subst e1;exact zlY H.f hn h1 hs ns h2 hz hline
theorem zlE (H:All c p atts mg mb) (op:Nat) {o:CmpOp} (eo:cop op=o) (h1:SEv c p kd e ex):SCh c p kd (zad op e) [o] [ex]:=by subst eo;exact zf3 H.n H.m h1
theorem zlD (H:All c p atts mg mb) (op:Nat) {o o':CmpOp} {ops:List CmpOp} {ch:Chn} (eo:cop op=o) (h1:SEv c p kd e ex) (h2:SCh c p kd ch (o'::ops) exs):SCh c p kd (zbD op e ch) (o::o'::ops) (ex::exs):=by
  subst eo;exact ziL H.n H.m h1 h2 (by simp)
theorem zlF (H:All c p atts mg mb) (k:Nat) (e1:c.nm k=y) (e:kd y=some .local):SAs c p kd (aLoc k) (.Name y pos):=by subst e1;exact znY H.n e
theorem zlH (k:Nat) (e1:c.nm k=y) (e:kd y=some .cell):SAs c p kd (aCel k) (.Name y pos):=by subst e1;exact zn0 e
theorem zlI (H:All c p atts mg mb) (k:Nat) (e1:c.nm k=y) (hx:k∈atts) (h1:SEv c p kd e ex):SAs c p kd (aAtt e k) (.Attribute ex y pos):=by subst e1;exact zn1 H.f hx h1
theorem zlG (H:All c p atts mg mb) (h1:SEv c p kd e ex) (h2:SEv c p kd i ix):SAs c p kd (aIdx e i) (.Subscript ex ix pos):=znZ H.n h1 h2
theorem ziZ (H:All c p atts mg mb) (k:Nat) {ts:Ass} {ks:List Nat} (e:kd (c.nm k)=some .local) (h2:SNms c p kd ts ks):SNms c p kd (zai (aLoc k) ts) (k::ks):=zjV H.n e h2
theorem zExp (h1:SEv c p kd e ex) (hl:zga ex):SEx c p kd (sExp e) (.Expr ex pos):=znE h1 hl λu s A Q E h=>wpAny_dropValue h
theorem zDct (H:All c p atts mg mb) {ks:List Nat} {keys:List (Option Expr)} (hk0:DKeys c ks keys) (hl:exs.length=ks.length) (h0:ks≠[]) (hz:ks.length<=15) (h1:SPrs c p kd pos es ks keys exs):SEv c p kd (xDct ks es) (.Dict keys exs pos):=zl3 H.n hk0 hl h0 hz h1
theorem zi0 {k:Nat} {ks:List Nat} {keys:List (Option Expr)} {pk:Pos} (e1:c.nm k=y) (h:DKeys c ks keys):DKeys c (k::ks) (some (.Constant (.str y) n pk)::keys):=by subst e1;exact .cons h
end
end Mine
end
section
open PySem PySem.W PyProof.Rows PySem.Calls Builtin Builtin.ObjectAttr
namespace Mine
theorem leB {a b:Nat} (h:Nat.ble a b=true):a<=b:=Nat.ble_eq.mp h
theorem ltB {a b:Nat} (h:Nat.blt a b=true):a < b:=Nat.blt_eq.mp h
theorem memB {l:List Nat} {x:Nat} (h:mem l x=true):x∈l:=mem_spec.mp h
noncomputable def scB (nm:Nat->PySem.Str) (sc:Scope) (frees:List Nat):Bool:=
  sc.kind==.function&&sc.names.all (λy=>y.2 !=.cell)&&sc.names.all (λy=>y.2 !=.local||sc.names.lookup y.1==some .local)&&sc.names.all (λy=>y.2 !=.free||frees.any λk=>nm k==y.1)&&
    frees.all λk=>sc.names.any λy=>y.1==nm k&&y.2==.free
theorem zg2 {c:Cn} {sc:Scope} {frees:List Nat} (h:scB c.nm sc frees=true):ScOk c sc frees:=by
  unfold scB at h
  simp only [Bool.and_eq_true] at h
  refine E0_2 h ?_;clear h;rintro ⟨⟨⟨h1,h2⟩,h3⟩,h4⟩ h5
  refine ⟨by simpa using h1,λy hy=>by simpa using List.all_eq_true.mp h2 y hy,λy hy e=>?_,λy hy e=>?_,λk hk=>?_⟩
  · have:=List.all_eq_true.mp h3 y hy
    simpa [e] using this
  · have:=List.all_eq_true.mp h4 y hy
    simp only [e,bne_self_eq_false,Bool.false_or,List.any_eq_true] at this
    refine E1_2 this ?_;clear this;intro k a b
    exact ⟨k,a,by simpa using b⟩
  · have:=List.all_eq_true.mp h5 k hk
    refine E1_2 (List.any_eq_true.mp this) λy a b=>?_
    simp only [Bool.and_eq_true,beq_iff_eq] at b
    refine E0_2 b ?_;clear b;intro b1 b2
    obtain ⟨y1,y2⟩:=y
    dsimp only at b1 b2
    subst b1 b2
    exact a
section
variable {c:Cn} {p:Pg} {kd:PySem.Str->Option NameKind} {pos apos:Pos} {n:Nat} {atts:List Nat} {mg mb:PySem.Str->Option Value} {y:PySem.Str} {ex ix:Expr} {exs:List Expr} {e i:Ev} {es:Evs}
theorem zbP {env:Env} (h:env.scope.kind=.function):env.blockKind=.function:=by
  unfold Env.blockKind;rw [h];rfl
theorem zlO {elt:Expr} {gens:List Comprehension} {sc:Scope} {lpos py:Pos} {ln:Nat} (h1:kd y=some .local) (h2:(py.line==lpos.line)=true) (h3:(sc.names.any λz=>z.1==y&&(z.2==.local||z.2==.cell))=false):
    ∀env:Env,env.scope.kind=.function->(∀z,env.kindOf z=kd z)->swapsWith (.ListComp elt gens sc lpos) (some (.Name y py)) ln env=pure true:=λenv hk hn=>by
  have e:swapsWith (.ListComp elt gens sc lpos) (some (.Name y py)) ln env=pure (env.blockKind==.function&&env.kindOf y==some .local&&py.line==lpos.line&&!(sc.names.any λz=>z.1==y&&(z.2==.local||z.2==.cell))):=rfl
  rw [e,zbP hk,hn,h1,h2,h3]
  rfl
theorem zi1 (H:All c p atts mg mb) {it:Ev} {cm:Cmp} {elt target iter:Expr} {ifs:List Expr} {rest:List Comprehension} {sc:Scope} {frees:List Nat} (k:Nat) {lpos py:Pos} (e1:c.nm k=y) (S:scB c.nm sc frees=true) (h0:SEv c p kd it iter) (hs:zbF iter)
    (h1:SCm c p (kdC kd sc) cm elt (⟨target,iter,ifs,0⟩::rest) sc lpos 0) (hy:kd y=some .local) (h2:(py.line==lpos.line)=true) (h3:(sc.names.any λz=>z.1==y&&(z.2==.local||z.2==.cell))=false):
    SEx c p kd (sAsg (aLoc k) (xLcm it cm frees)) (.Assign [.Name y py] (.ListComp elt (⟨target,iter,ifs,0⟩::rest) sc lpos) pos):=by
  subst e1
  exact ziE H.n (zg2 S) h0 hs h1 hy (zlO hy h2 h3)
noncomputable def envC (sc:Scope):Env:={ scope:=sc,locals:=0,globals:=0,cells:=[],code:=.none,frame:=none}
theorem zgZ {sc:Scope} (h1:sc.kind=.function) {ts:List Expr} {v:Expr} {r:Option (List PySem.Str)} (h:swappedStores ts v (envC sc)=pure r):∀env:Env,env.scope.kind=.function->(∀z,env.kindOf z=kdOf sc z)->swappedStores ts v env=pure r:=λenv hk hn=>by
  rw [<- h]
  have e1:env.kindOf=(envC sc).kindOf:=funext hn
  have e2:env.blockKind=(envC sc).blockKind:=by rw [zbP hk,zbP (show (envC sc).scope.kind=.function from h1)]
  unfold swappedStores
  rw [e1,e2]
theorem zSwp {sc:Scope} {ts:Ass} (ks:List Nat) {txs vs:List Expr} {m n' m':Nat} {pt pv:Pos} (h1:SEv c p (kdOf sc) e (.Tuple vs m' pv)) (h2:SNms c p (kdOf sc) ts ks.reverse) (hm:ks.length=m) (hk:sc.kind=.function) (hw:swappedStores [.Tuple txs n' pt] (.Tuple vs m' pv) (envC sc)=pure (some (ks.map c.nm))):
    SEx c p (kdOf sc) (sSwp m ts e) (.Assign [.Tuple txs n' pt] (.Tuple vs m' pv) pos):=znB h1 h2 hm (λ_=>rfl) (zgZ hk hw)
theorem zTup {sc:Scope} {t:As} {txs vs:List Expr} {n' m':Nat} {pt pv:Pos} (h1:SEv c p (kdOf sc) e (.Tuple vs m' pv)) (h2:SAs c p (kdOf sc) t (.Tuple txs n' pt)) (hk:sc.kind=.function) (hw:swappedStores [.Tuple txs n' pt] (.Tuple vs m' pv) (envC sc)=pure none):
    SEx c p (kdOf sc) (sAsg t e) (.Assign [.Tuple txs n' pt] (.Tuple vs m' pv) pos):=ziF h1 h2 (λ_ _ _=>rfl) (λ_=>rfl) (zgZ hk hw)
noncomputable def sNo:Ex:=λ_ _ _=>false
noncomputable def xNo:Ev:=λ_ _ _=>false
theorem f_no {s:Stmt}:SEx c p kd sNo s:=λ_ _ _ _ _ _ _ _ _ _ _ h=>by exact nb h
theorem s_no:SEv c p kd xNo ex:=λ_ _ _ _ _ _ _ _ _ _ _ h=>by exact nb h
end
end Mine
end
section
open PySem PySem.W PyProof.Rows PySem.Calls Builtin Builtin.ObjectAttr
namespace Mine
noncomputable def onO {α:Type} (f:α->Bool):Option α->Bool
  | some x=>f x
  | none=>true
noncomputable def tAll {α:Type} (f:P->α->Bool):T α->Bool
  | .nil=>true
  | .node o l r=>onO (f .h) o&&tAll (λp=>f (.o p)) l&&tAll (λp=>f (.i p)) r
theorem zaM {α:Type}:∀{t:T α} {f:P->α->Bool} {p:P} {x:α},tAll f t=true->t.at p=some x->f p x=true
  | .nil,_,_,_,_,e=>by exact no e
  | .node o l r,f,p,x,h,e=>by
    have h:(onO (f .h) o&&tAll (λp=>f (.o p)) l&&tAll (λp=>f (.i p)) r)=true:=h
    rw [Bool.and_eq_true,Bool.and_eq_true] at h
    refine E0_2 h ?_;clear h;rintro ⟨h1,h2⟩ h3
    cases p with
    | h=>have e:o=some x:=e;subst e;exact h1
    | o p=>exact zaM (t:=l) (f:=λp=>f (.o p)) h2 e
    | i p=>exact zaM (t:=r) (f:=λp=>f (.i p)) h3 e
inductive TAll {α:Type} (R:P->α->Prop):(P->P)->T α->Prop
  | nil {w}:TAll R w .nil
  | non {w l r}:TAll R (λp=>w (.o p)) l->TAll R (λp=>w (.i p)) r->TAll R w (.node none l r)
  | som {w x l r}:R (w .h) x->TAll R (λp=>w (.o p)) l->TAll R (λp=>w (.i p)) r->TAll R w (.node (some x) l r)
structure Tb where
  K:Frag
  nm:Nat->PySem.Str
  gv:P->Value
  cv:P->Addr
  fv:P->Addr
  plain:P->Bool
noncomputable def Tb.methB (t:Tb) (C:Addr) (x:Nat) (f:P):Bool:=
  findIn t.K (.ref C) (t.nm x)==some (some (.ref (t.fv f)))&&typeIn t.K (.ref (t.fv f))==some (.type "function")&&specialIn t.K (.ref (t.fv f)) "__get__"==some (some (.builtin "function.__get__"))&&takesIn t.K (.ref (t.fv f))==some false&&!copiedNames.contains (t.nm x)&&fnIn t.K (t.fv f)
noncomputable def Tb.clsB (t:Tb) (C:Addr):Bool:=
  plainGet t.K C ""&&findIn t.K (.ref C) "__setattr__"==some (some (.builtin "object.__setattr__"))&&plainOver t.K C&&hasDictIn t.K C&&makesIn t.K C&&keepIn t.K (.ref C)
noncomputable def Tb.iniB (t:Tb) (C:Addr):Option P->Bool
  | none=>true
  | some f=>findIn t.K (.ref C) "__init__"==some (some (.ref (t.fv f)))&&typeIn t.K (.ref (t.fv f))==some (.type "function")&&fnIn t.K (t.fv f)
noncomputable def Tb.oneB (t:Tb) (atts:List Nat) (i:P) (C:Cl):Bool:=
  !t.plain i||(!C.ex&&t.clsB (t.cv i)&&C.mt.all (λq=>t.methB (t.cv i) q.1 q.2)&&atts.all (λx=>C.mt.any (λq=>q.1==x)||findIn t.K (.ref (t.cv i)) (t.nm x)==some none)&&t.iniB (t.cv i) C.ini)
noncomputable def Tb.gB (t:Tb) (g:P):G->Bool
  | .fn i=>t.gv g==.ref (t.fv i)&&fnIn t.K (t.fv i)
  | .cl i=>t.gv g==.ref (t.cv i)
  | .bi b=>Nat.ble b 9||Nat.beq b 20
  | _=>true
theorem zhm {α:Type}:∀{m:List (Nat×α)} {x:Nat} {f:α},lk m x=some f->(x,f)∈m
  | [],_,_,h=>by exact no h
  | (y,g)::r,x,f,h=>by
    unfold lk at h
    split at h
    · rename_i e;(replace h:=si h;subst h);first | exact e▸.head _ | (subst e;exact .head _) | (simp at e;subst e;exact .head _)
    · exact .tail _ (zhm h)
theorem zkG {c:Cn} {p:Pg} {atts:List Nat} {t:Tb} (e:t=⟨c.K,c.nm,c.gv,c.cv,c.fv,c.plain⟩) (N:Nms c) (X:c.K.In c.h₀) (xa:XaOk c atts) (h1:tAll (t.oneB atts) p.c=true) (h2:tAll (λi C=>c.plain i== !C.ex) p.c=true) (h3:tAll t.gB p.g=true)
    (h4:∀i,c.plain i=true->∃C,p.c.at i=some C):Fx c p atts:=by
  have one:∀i C,c.plain i=true->p.c.at i=some C->_:=λi C hp hc=>zaM h1 hc
  have one':∀i C,c.plain i=true->p.c.at i=some C->((C.ex=false/\t.clsB (c.cv i)=true)/\(∀q∈C.mt,t.methB (c.cv i) q.1 q.2=true))/\(∀x∈atts,(C.mt.any (λq=>q.1==x)||findIn t.K (.ref (t.cv i)) (t.nm x)==some none)=true)/\t.iniB (c.cv i) C.ini=true:=λi C hp hc=>by
    have h:=zaM h1 hc
    unfold Tb.oneB at h
    subst e
    rw [show Tb.plain ⟨c.K,c.nm,c.gv,c.cv,c.fv,c.plain⟩ i=true from hp] at h
    simp only [Bool.not_true,Bool.false_or,Bool.and_eq_true,Bool.not_eq_true',List.all_eq_true] at h
    exact ⟨⟨⟨h.1.1.1.1,h.1.1.1.2⟩,h.1.1.2⟩,λx hx=>by simpa using h.1.2 x hx,h.2⟩
  have get:∀i,c.plain i=true->∃C,p.c.at i=some C/\C.ex=false:=λi hp=>by
    refine E1_1 (h4 i hp) λC hC=>?_
    exact ⟨C,hC,(one' i C hp hC).1.1.1⟩
  subst e
  have gg:∀g G,p.g.at g=some G->_:=λg G e=>zaM h3 e
  refine ⟨N,X,get,λi C hC hx=>?_,λi hp=>?_,λi C x f hp hC hf=>?_,λi C x hp hC hx hm=>?_,λg i hg=>?_,λg i hg=>?_,λi hp=>?_,xa,λi C f hp hC hf=>?_⟩
  · have:=zaM h2 hC
    rw [hx] at this;simpa using this
  · refine E1_2 (get i hp) λC hC _=>?_
    have:=(one' i C hp hC).1.1.2
    unfold Tb.clsB at this
    simp only [Bool.and_eq_true,beq_iff_eq] at this
    refine E0_2 this ?_;clear this;rintro ⟨⟨⟨⟨a,b⟩,d⟩,e⟩,_⟩ _
    exact ⟨a,b,d,e⟩
  · have:=(one' i C hp hC).1.2 _ (zhm hf)
    unfold Tb.methB at this
    simp only [Bool.and_eq_true,beq_iff_eq,Bool.not_eq_true'] at this
    refine E0_2 this ?_;clear this;rintro ⟨⟨⟨⟨a,b⟩,d⟩,e⟩,g⟩ h
    exact ⟨a,b,d,e,g,h⟩
  · have:=(one' i C hp hC).2.1 x hx
    rw [Bool.or_eq_true] at this
    rcases this with q | q
    · exfalso
      refine E1_2 (List.any_eq_true.mp q) λy hy e=>?_
      have e:y.1=x:=by simpa using e
      have:∀{m:List (Nat×P)},y∈m->lk m y.1≠none:=by
        intro m hm
        induction m with
        | nil=>cases hm
        | cons z r ih=>
          unfold lk
          split
          · simp
          · rcases List.mem_cons.mp hm with rfl | hm
            · rename_i q;simp at q
            · exact ih hm
      exact this hy (e▸hm)
    · exact beq_iff_eq.mp q
  · have:=gg g _ hg
    unfold Tb.gB at this
    simpa using this
  · have:=gg g _ hg
    unfold Tb.gB at this
    simpa using this
  · refine E1_2 (get i hp) λC hC _=>?_
    have:=(one' i C hp hC).1.1.2
    unfold Tb.clsB at this
    simp only [Bool.and_eq_true,beq_iff_eq] at this
    exact ⟨this.1.2,this.2⟩
  · have:=(one' i C hp hC).2.2
    rw [hf] at this
    unfold Tb.iniB at this
    simpa [and_assoc] using this
section
variable {c:Cn} {p:Pg} {kd:PySem.Str->Option NameKind} {pos apos:Pos} {n:Nat} {atts:List Nat} {mg mb:PySem.Str->Option Value}
theorem zi9 {y:PySem.Str} {elt:Expr} {gens:List Comprehension} {sc:Scope} {lpos py:Pos} {ln:Nat} (h1:kd y=some .cell):
    ∀env:Env,env.scope.kind=.function->(∀z,env.kindOf z=kd z)->swapsWith (.ListComp elt gens sc lpos) (some (.Name y py)) ln env=pure false:=λenv hk hn=>by
  have e:swapsWith (.ListComp elt gens sc lpos) (some (.Name y py)) ln env=pure (env.blockKind==.function&&env.kindOf y==some .local&&py.line==lpos.line&&!(sc.names.any λz=>z.1==y&&(z.2==.local||z.2==.cell))):=rfl
  have e2:((some NameKind.cell:Option NameKind)==some .local)=false:=rfl
  rw [e,hn,h1,e2,Bool.and_false,Bool.false_and,Bool.false_and]
theorem zkK {t:As} {e:Ev} {ex:Expr} {y:PySem.Str} {pt:Pos} (h1:SEv c p kd e ex) (h2:SAs c p kd t (.Name y pt)) (hl:∀env:Env,env.scope.kind=.function->(∀z,env.kindOf z=kd z)->swapsWith ex (some (.Name y pt)) pos.line env=pure false):SEx c p kd (sAsg t e) (.Assign [.Name y pt] ex pos):=by
  intro x ids l st s k A env Q E am h ok hk
  rw [exec_Assign_Name env y pt ex pos (hl _ am.env.kind am.env.names)]
  refine wpAny_bind (wpAny_standAt (wpAny_bind (h1 _ _ _ _ _ _ _ _ _ _ am h ok ?_)))
  intro l1 v st1 u s1 g1 le1 ok1 d1
  refine wpAny_bind (m:=assign (.Name y pt) env u) (h2 _ _ _ _ _ _ _ _ _ _ _ _ (am.le le1) g1 ok1 d1 ?_)
  intro l2 st2 s2 g2 le2 ok2
  exact wpAny_pure (hk _ _ _ _ _ g2 (le1.trans le2) ok2 rfl)
theorem zhV {t:As} {e:Ev} {elt:Expr} {gens:List Comprehension} {sc:Scope} {y:PySem.Str} {lpos py:Pos} (h1:SEv c p kd e (.ListComp elt gens sc lpos)) (h2:SAs c p kd t (.Name y py)) (h3:kd y=some .cell):
    SEx c p kd (sAsg t e) (.Assign [.Name y py] (.ListComp elt gens sc lpos) pos):=zkK h1 h2 (zi9 h3)
end
end Mine
end
section
open PySem PySem.W PyProof.Rows PySem.Calls Builtin Builtin.ObjectAttr
namespace Mine
theorem zbq (y:PySem.Str):∀(names:List (PySem.Str×NameKind)) (n:Nat) (acc:List (PySem.Str×Addr)),((cellsFrom n names acc).lookup y).isSome=(names.any (λq=>y==q.1&&q.2==.cell)||(acc.lookup y).isSome)
  | [],n,acc=>by simp [cellsFrom]
  | (a,k)::r,n,acc=>by
    unfold cellsFrom
    split
    · rename_i e
      rw [zbq y r]
      rw [List.lookup_cons,List.any_cons,e,Bool.and_true]
      show _=((y==a||_)||_)
      cases h:y==a <;> simp
    · rename_i e
      rw [zbq y r,List.any_cons]
      rw [show (k==NameKind.cell)=false from by simpa using e]
      simp
noncomputable def zcj (nm:Nat->PySem.Str) (sc:Scope) (cl:List Nat):Bool:=cl.all λx=>kdOf sc (nm x)==some .cell&&sc.names.any (λq=>nm x==q.1&&q.2==.cell)
theorem zes {nm:Nat->PySem.Str} {sc:Scope} {cl:List Nat} (h:zcj nm sc cl=true):∀x∈cl,kdOf sc (nm x)=some .cell/\∀n,((cellsFrom n sc.names []).lookup (nm x)).isSome=true:=λx hx=>by
  have:=List.all_eq_true.mp h x hx
  rw [Bool.and_eq_true,beq_iff_eq] at this
  exact ⟨this.1,λn=>by rw [zbq,this.2];rfl⟩
noncomputable def locB (nm:Nat->PySem.Str) (sc:Scope) (ps cl:List Nat):Bool:=ps.all λx=>cl.contains x||kdOf sc (nm x)==some .local
theorem zfF {nm:Nat->PySem.Str} {sc:Scope} {ps cl:List Nat} (h:locB nm sc ps cl=true):∀x∈ps,x∉cl->kdOf sc (nm x)=some .local:=λx hx hc=>by
  have:=List.all_eq_true.mp h x hx
  rw [Bool.or_eq_true,beq_iff_eq] at this
  exact this.resolve_left (by simpa using hc)
noncomputable def ndB (l:List Nat):Bool:=decide l.Nodup
theorem zc9 {l:List Nat} (h:ndB l=true):l.Nodup:=of_decide_eq_true h
theorem len0 {α:Type} {R:List α->Prop} (h:R []):∀l:List α,l.length=0->R l
  | [],_=>h
theorem lenS {α:Type} {R:List α->Prop} {n:Nat} (h:∀a,∀l:List α,l.length=n->R (a::l)):∀l:List α,l.length=n + 1->R l
  | a::l,e=>h a l (by simpa using e)
theorem zbr {c:Cn} {F:Fn} {fd:FuncData} {dvals:List Value} {n:Nat} (hd:F.ds.length=0) (hv:dvals=[]) (hn:F.ps.length=n) (h:∀vals:List Value,vals.length=n->PySem.bindArgs fd ⟨vals,[]⟩=pure (zaj c F.ps vals)):
    ∀(vals:List Value) (s:Shared),c.K.In s.heap->vals.length<=F.ps.length->F.ps.length<=vals.length + F.ds.length->BindsTo s fd ⟨vals,[]⟩ (zaj c F.ps (vals++dvals.drop (vals.length + F.ds.length - F.ps.length))):=λvals s _ h1 h2=>by
  subst hv
  rw [List.drop_nil,List.append_nil]
  exact .of_eq (h vals (by omega))
theorem zet {c:Cn} {F:Fn} {fd:FuncData} {d:Value} {n T:Nat} {o:Obj} {tk:Nat} (hd:F.ds.length=1) (hn:F.ps.length=n + 1) (hT:fd.defaults=.ref T) (ho:c.K.lookup T=some o) (hs:o.data=.seq #[d] tk)
    (h0:∀vals:List Value,vals.length=n->∃k,PySem.bindArgs fd ⟨vals,[]⟩=seqItems? fd.defaults >>=k/\k (some #[d])=pure (zaj c F.ps (vals++[d])))
    (h1:∀vals:List Value,vals.length=n + 1->∃k,PySem.bindArgs fd ⟨vals,[]⟩=seqItems? fd.defaults >>=k/\k (some #[d])=pure (zaj c F.ps vals)):
    ∀(vals:List Value) (s:Shared),c.K.In s.heap->vals.length<=F.ps.length->F.ps.length<=vals.length + F.ds.length->BindsTo s fd ⟨vals,[]⟩ (zaj c F.ps (vals++[d].drop (vals.length + F.ds.length - F.ps.length))):=λvals s X g1 g2=>by
  rcases Nat.lt_or_ge vals.length F.ps.length with q | q
  · refine E1_2 (h0 vals (by omega)) λk a b=>?_
    rw [show vals.length + F.ds.length - F.ps.length=0 from by omega]
    exact BindsTo.of_defaults hT (X _ _ ho) hs a b
  · refine E1_2 (h1 vals (by omega)) λk a b=>?_
    rw [show vals.length + F.ds.length - F.ps.length=1 from by omega]
    simp only [List.drop_succ_cons,List.drop_zero,List.append_nil]
    exact BindsTo.of_defaults hT (X _ _ ho) hs a b
end Mine
end
section
open PySem PySem.W PyProof.Rows PySem.Calls Builtin Builtin.ObjectAttr
set_option maxRecDepth 100000
namespace Mine
section
variable {c:Cn}
theorem tabN {fd:FuncData} {tb:Option P} (h:tb=none):∀t,tb=some t->fd.code=.ref (c.tc t)/\fd.qualname++".<locals>."=c.tq t:=λt e=>by rw [h] at e;exact no e
end
noncomputable section
noncomputable def scV (g:P) (st:St) (k:KV) (g':P):Bool:=bq (peq g g') (k .ani st) false
noncomputable def scL (g:P) (st:St) (k:KV) (v:V):Bool:=vGlo v (scV g st k)
noncomputable def scT (x:Nat) (g:P) (st:St) (k:KV) (ms:Bs):Bool:=look ms x (scL g st k)
noncomputable def xScr (x:Nat) (g:P):Ev:=λ_ st k=>st.top (scT x g st k)
end
theorem zfE {α:Type}:∀{l:List (Nat×α)} {x:Nat} {v:α} {k:α->Bool},lk l x=some v->k v=true->look l x k=true
  | [],x,v,k,h,_=>by exact no h
  | (a,w)::r,x,v,k,h,h'=>by
    show bq (Nat.beq a x) (k w) (look r x k)=true
    unfold lk at h
    by_cases e:a=x
    · rw [if_pos e] at h;(replace h:=si h;subst h)
      subst e;rw [Nat.beq_refl];exact h'
    · rw [if_neg e] at h
      have:Nat.beq a x=false:=by
        cases q:Nat.beq a x with
        | false=>rfl
        | true=>exact absurd (Nat.eq_of_beq_eq_true q) e
      rw [this];exact zfE h h'
structure ScrOk (c:Cn) (g:P) (a:Addr) (us:List Value) (m:Nat):Prop where
  gv:c.gv g=.ref a
  at_:c.h₀.get? a=some { cls:=.type "list",data:=.seq us.toArray m}
  all_:∀u∈us,∃i t,u=.int i t
  short:us.length<=100
noncomputable section
noncomputable def kScr (g:P) (v:V) (k:KV) (w:V) (st:St):Bool:=@decide (w=.glo g/\k v st=true) (Classical.propDecidable _)
noncomputable def eScr (x:Nat) (g:P) (b:Bool) (v:V):Ev:=λcx st k=>bq b (xLoc x cx st (kScr g v k)) false
noncomputable def kIsI (k:KV) (v:V) (st:St):Bool:=bq (isI v) (k .ani st) false
end
section
variable {c:Cn} {p:Pg} {kd:PySem.Str->Option NameKind} {pos apos:Pos} {n:Nat} {atts:List Nat} {mg mb:PySem.Str->Option Value} {y:PySem.Str}
theorem zdE {x:Nat} {g:P} {b:Bool} {v:V} {cx:Cx} {st:St} {k:KV} (h:eScr x g b v cx st k=true):b=true/\k v st=true/\∀k':KV,k' (.glo g) st=true->xLoc x cx st k'=true:=by
  refine E0_2 (zac (show bq b (xLoc x cx st (kScr g v k)) false=true from h)) λhb h=>?_
  refine E3_2 (St.top_spec (show st.top (zj2 x st (kScr g v k))=true from h)) λL ms r e1 h=>?_
  refine E1_2 (zat h) λw e2 h=>?_
  refine E0_2 (@of_decide_eq_true _ (Classical.propDecidable _) (show (@decide (w=.glo g/\k v st=true) (Classical.propDecidable _))=true from h)) ?_;rintro rfl h3
  refine ⟨hb,h3,λk' h'=>?_⟩
  obtain ⟨t,n,m,f⟩:=st
  dsimp only at e1;subst e1
  exact zfE e2 h'
theorem zge (H:All c p atts mg mb) {g:P} {a:Addr} {us:List Value} {m x:Nat} (S:ScrOk c g a us m) {px py:Pos} (e1:kd "len"=some .globalImplicit) (hu:mg "len"=none) (hb:mb "len"=some (.builtin "len")) (e2:kd (c.nm x)=some .local):
    SEv c p kd (eScr x g true (.int us.length)) (.Call (.Name "len" px) [.Name (c.nm x) py] [] pos):=by
  intro cx ids l st s k A env Q E am h ok hk
  refine E0_3 (zdE h) λ_ hkv hl=>?_
  rw [arm_eval_Call_Name']
  refine wpAny_bind (Name_function_global am.env.kind ((am.env.names _).trans e1) (loadGlobal_builtin (by rw [am.env.glo];exact H.x.g.keeps ok.keep) hu (by rw [am.env.blt];exact H.x.b.keeps ok.keep) hb ?_) (by decide +kernel))
  have hL:zaa (xLoc x) xNil cx st (λvs st'=>@decide (vs=[.glo g]/\k (.int us.length) st'=true) (Classical.propDecidable _))=true:=by
    refine hl _ ?_
    show (@decide ([V.glo g]=[.glo g]/\k (.int us.length) st=true) (Classical.propDecidable _))=true
    exact @decide_eq_true _ (Classical.propDecidable _) ⟨rfl,hkv⟩
  refine zgN (NS.cons (λ_ _=>rfl) NS.nil) (zfc (λ_ _=>rfl) (zh6 H.n e2) zh5) am hL ok ?_
  intro l2 vs st2 ws s2 g2 le2 ok2 d2 _
  refine E0_2 (@of_decide_eq_true _ (Classical.propDecidable _) g2) ?_;rintro rfl g3
  cases d2 with
  | cons d2 r=>
  cases r
  cases d2
  rw [S.gv]
  have g1:=ok2.keep _ _ S.at_
  have hs:us.toArray.size=us.length:=List.size_toArray ..
  have:=S.short
  refine ⟨zaV _ _,call_len_list (items:=us.toArray) ⟨_,g1,rfl,m,rfl⟩ (by omega) ?_⟩
  rw [hs]
  exact hk _ (.int us.length) _ _ _ g3 le2 (ok2.quiet λb o e=>e) ⟨_,rfl⟩
theorem zgg (H:All c p atts mg mb) {g:P} {a:Addr} {us:List Value} {m x:Nat} (S:ScrOk c g a us m) {py pi:Pos} (e2:kd (c.nm x)=some .local):
    SEv c p kd (eScr x g (!us.isEmpty) .ani) (.Subscript (.Name (c.nm x) py) (.Constant (.int 0) n pi) pos):=by
  intro cx ids l st s k A env Q E am h ok hk
  refine E0_3 (zdE h) λhb hkv hl=>?_
  refine Subscript_ (zh6 H.n e2 _ _ _ _ _ (kScr g .ani k) _ _ _ _ am (hl _ (@decide_eq_true _ (Classical.propDecidable _) ⟨rfl,hkv⟩)) ok ?_)
  intro l1 v st1 u s1 g1 le1 ok1 d1
  refine E0_2 (@of_decide_eq_true _ (Classical.propDecidable _) (show (@decide (v=.glo g/\k .ani st1=true) (Classical.propDecidable _))=true from g1)) ?_;rintro rfl g3
  cases d1
  rw [S.gv]
  refine wpAny_Constant_int ?_
  have q1:=ok1.keep _ _ S.at_
  have hs:us.toArray.size=us.length:=List.size_toArray ..
  have:=S.short
  cases us with
  | nil=>exact nb hb
  | cons u0 us=>
  refine E2_1 (S.all_ _ (.head _)) ?_;rintro i t rfl
  exact tail_any (s:={ s1 with toks:=s1.toks + 1}) (T:="list") ⟨_,q1,rfl⟩ slot_list_getitem.lookup (wpAny_getItem_list ⟨_,q1,rfl,m,rfl⟩ (by decide) (by omega) (by simp) (hk _ .ani _ _ _ g3 le1 ok1.tok ⟨i,t,rfl⟩)) (by rfl)
theorem zgf (H:All c p atts mg mb) {g:P} {a:Addr} {us:List Value} {m x:Nat} (S:ScrOk c g a us m) {px py pi ps:Pos} (e1:kd "int"=some .globalImplicit) (hu:mg "int"=none) (hb:mb "int"=some (.type "int")) (e2:kd (c.nm x)=some .local):
    SEv c p kd (eScr x g (!us.isEmpty) .ani) (.Call (.Name "int" px) [.Subscript (.Name (c.nm x) py) (.Constant (.int 0) n pi) ps] [] pos):=by
  intro cx ids l st s k A env Q E am h ok hk
  refine E0_3 (zdE h) λhb0 hkv hl=>?_
  rw [arm_eval_Call_Name']
  refine wpAny_bind (Name_function_global am.env.kind ((am.env.names _).trans e1) (loadGlobal_builtin (by rw [am.env.glo];exact H.x.g.keeps ok.keep) hu (by rw [am.env.blt];exact H.x.b.keeps ok.keep) hb ?_) (by decide +kernel))
  have hL:zaa (eScr x g (!us.isEmpty) .ani) xNil cx st (λvs st'=>@decide (vs=[.ani]/\k .ani st'=true) (Classical.propDecidable _))=true:=by
    show bq (!us.isEmpty) (xLoc x cx st (kScr g .ani _)) false=true
    rw [hb0]
    refine hl _ (@decide_eq_true _ (Classical.propDecidable _) ⟨rfl,?_⟩)
    exact @decide_eq_true _ (Classical.propDecidable _) ⟨rfl,hkv⟩
  refine zgN (NS.cons (λ_ _=>rfl) NS.nil) (zfc (λ_ _=>rfl) (zgg H S e2) zh5) am hL ok ?_
  intro l2 vs st2 ws s2 g2 le2 ok2 d2 _
  refine E0_2 (@of_decide_eq_true _ (Classical.propDecidable _) g2) ?_;rintro rfl g3
  cases d2 with
  | cons d2 r=>
  cases r
  refine E2_1 d2 ?_;rintro i t rfl
  exact ⟨zb6 _ _,call_int_int (hk _ .ani _ _ _ g3 le2 ok2 ⟨i,t,rfl⟩)⟩
theorem zlC (H:All c p atts mg mb) {g:P} (S:∃a us m,ScrOk c g a us m) (x:Nat) {p1 p2 p3 p4 p5 p6 p7 p8 p9 q1 q2:Pos} {n1 n2:Nat} (e0:c.nm x=y) (e1:kd "len"=some .globalImplicit) (hu:mg "len"=none) (hb:mb "len"=some (.builtin "len")) (e2:kd y=some .local) (e3:kd "int"=some .globalImplicit) (hu3:mg "int"=none) (hb3:mb "int"=some (.type "int")):
    SEv c p kd (xScr x g) (.IfExp (.Compare (.Call (.Name "len" p1) [.Name y p2] [] p3) [.Gt] [.Constant (.int 0) n p4] p5) (.Call (.Name "int" q1) [.Subscript (.Name y p8) (.Constant (.int 0) n1 p9) p6] [] q2) (.Constant (.int 0) n2 p7) pos):=by
  refine E3_1 S ?_;clear S;intro a us m S
  subst e0
  intro cx ids l st s k A env Q E am h ok hk
  refine E3_2 (St.top_spec (show st.top (scT x g st k)=true from h)) λL ms r r1 h=>?_
  refine E1_2 (zat (show look ms x (scL g st k)=true from h)) λw r2 h=>?_
  refine E1_2 (zbR (show vGlo w (scV g st k)=true from h)) ?_;rintro g' rfl h
  refine E0_2 (zac (show bq (peq g g') (k .ani st) false=true from h)) λq3 h5=>?_
  have q3:=(zag _ _).mp q3
  subst q3
  have hl:∀(v:V) (k':KV),k' v st=true->eScr x g true v cx st k'=true:=λv k' h'=>by
    obtain ⟨t,n,m,f⟩:=st
    dsimp only at r1;subst r1
    exact zfE r2 (@decide_eq_true _ (Classical.propDecidable _) ⟨rfl,h'⟩)
  have hi:k .ani st=true:=h5
  refine zjj (zi5 (zge H S e1 hu hb e2) (zf3 (op:=2) H.n H.m (zeB (v:=.int (.ofNat 0)) rfl)) (by rfl)) (zgf H S e3 hu3 hb3 e2) (zeB (v:=.int (.ofNat 0)) rfl) cx ids l st s (kIsI k) A env Q E am ?_ ok λl' v st' u s' g le ok' d=>?_
  · refine hl _ _ ?_
    show kSt (kIfe (eScr x g (!us.isEmpty) .ani) (xCst (.int (.ofNat 0))) cx (kIsI k)) st (ord 2 us.length (.ofNat 0))=true
    cases us with
    | nil=>exact hi
    | cons u us=>exact hl .ani (kIsI k) hi
  · refine E0_2 (zac (show bq (isI v) (k .ani st') false=true from g)) λi1 i2=>?_
    refine E2_1 (zcM i1 d) ?_;rintro z t rfl
    exact hk _ .ani _ _ _ i2 le ok' ⟨z,t,rfl⟩
end
end Mine
end
section
open PySem PySem.W PyProof.Rows PySem.Calls Builtin Builtin.ObjectAttr
set_option maxRecDepth 100000
namespace Mine
noncomputable section
structure Mt where
  pn:P
  ms:Nat
  vj:Nat
  vc:Int
  vq:Option P
noncomputable def pltH (q:P) (c:Bool):Bool:=P.rec c (λ_ _=>true) (λ_ _=>true) q
noncomputable def pltO (ih:P->Bool->Bool) (q:P) (c:Bool):Bool:=P.rec false (λq _=>ih q c) (λq _=>ih q true) q
noncomputable def pltJ (ih:P->Bool->Bool) (q:P) (c:Bool):Bool:=P.rec false (λq _=>ih q false) (λq _=>ih q c) q
noncomputable def plt (p:P):P->Bool->Bool:=P.rec pltH (λ_ ih=>pltO ih) (λ_ ih=>pltJ ih) p
noncomputable def vlS (a:Mt) (lo hi:Int) (j:Nat) (c lo' hi':Int):Bool:=bq (Nat.beq j a.vj) (bq (ieq c a.vc) (bq (ile lo lo') (ile hi' hi) false) false) false
noncomputable def vlT (j:Nat) (c lo hi:Int) (j':Nat) (c' lo' hi':Int):Bool:=bq (Nat.beq j j') (bq (ieq c c') (bq (ile lo lo') (ile hi' hi) false) false) false
noncomputable def vlN (j d j' d':Nat):Bool:=bq (Nat.beq j j') (Nat.beq d d') false
noncomputable def vleN (a:Mt) (v:V) (j d:Nat):Bool:=bq (Nat.blt j a.ms) (V.rec false f1 f1 f1 f1 f1 f1 f4 false false (vlN j d) v) false
noncomputable def vleS (a:Mt) (v:V) (j:Nat) (c lo hi:Int):Bool:=bq (Nat.blt j a.ms) (V.rec false f1 f1 f1 f1 f1 f1 (vlT j c lo hi) false false f2 v) (bq (Nat.beq j a.ms) (bq (ieq c (.ofNat 0)) (V.rec false f1 f1 f1 f1 f1 f1 (vlS a lo hi) false false f2 v) false) false)
noncomputable def bEq3 (ih:List B->Bool) (r:List B) (x y:Nat):Bool:=bq (Nat.beq x y) (ih r) false
noncomputable def bEq2 (ih:List B->Bool) (y:B) (r:List B) (x:Nat):Bool:=B.rec (bEq3 ih r x) f4 y
noncomputable def bEq1 (x:B) (ih:List B->Bool) (ys:List B):Bool:=List.rec false (λy r _=>B.rec (bEq2 ih y r) f4 x) ys
noncomputable def bEq (xs:List B):List B->Bool:=List.rec (λys=>List.rec true (λ_ _ _=>false) ys) (λx _ ih=>bEq1 x ih) xs
noncomputable def vle (a:Mt) (vc v:V):Bool:=
  V.rec (zaH v true f1 f1 f1 f1 f1 f1 f4 false false) (λb=>V.rec false (λb'=>bq b b' (bnot b')) f1 f1 f1 f1 f1 f4 false false f2 v) (λi=>vInt v (ieq i)) (λk=>vStr v (Nat.beq k)) (λbs=>vByt v (bEq bs))
    (λp=>vRef v (λq=>bq (peq p q) (plt p a.pn false) false)) (λg=>vGlo v (peq g)) (vleS a v) (isI v) true (vleN a v) vc
noncomputable def zlJ (a:Mt) (x:V) (ih:List V->Bool) (ys:List V):Bool:=List.rec false (λy r _=>bq (vle a x y) (ih r) false) ys
noncomputable def vles (a:Mt) (xs:List V):List V->Bool:=List.rec (λys=>List.rec true (λ_ _ _=>false) ys) (λx _ ih=>zlJ a x ih) xs
noncomputable def zm8 (a:Mt) (k:Nat) (v:V) (r:Bool) (k':Nat) (v':V):Bool:=bq (Nat.beq k k') (bq (vle a v v') r false) false
noncomputable def zm9 (a:Mt) (k:Nat) (v:V) (ih:Bs->Bool) (ys:Bs):Bool:=List.rec false (λy r _=>Prod.rec (zm8 a k v (ih r)) y) ys
noncomputable def nles (a:Mt) (xs:Bs):Bs->Bool:=List.rec (λys=>List.rec true (λ_ _ _=>false) ys) (λx _ ih=>Prod.rec (λk v=>zm9 a k v ih) x) xs
noncomputable def tqB (a:Mt) (q q':P):Bool:=bq (plt q a.pn false) (peq q q') (bq (peq q a.pn) (Option.rec false (λv=>peq v q') a.vq) false)
noncomputable def zm6 (o:O):Bool:=O.rec f1 f1 f1 f2 f1 true f3 f2 f2 f2 f2 f2 f3 f2 f1 false o
noncomputable def itB (a:Mt) (p:P) (i:Nat) (p':P) (i':Nat):Bool:=bq (peq p p') (bq (plt p a.pn false) (Nat.beq i i') false) false
noncomputable def oLit (o:O) (k:P->Nat->Bool):Bool:=O.rec f1 f1 f1 f2 f1 false f3 f2 k f2 f2 f2 f3 f2 f1 false o
noncomputable def oTit (o:O) (k:P->Nat->Bool):Bool:=O.rec f1 f1 f1 f2 f1 false f3 f2 f2 k f2 f2 f3 f2 f1 false o
noncomputable def rgB (x y x' y':Int):Bool:=bq (ieq x x') (ieq y y') false
noncomputable def oRng (o:O) (k:Int->Int->Bool):Bool:=O.rec f1 f1 f1 f2 f1 false f3 f2 f2 f2 k f2 f3 f2 f1 false o
noncomputable def oRit (o:O) (k:Int->Int->Bool):Bool:=O.rec f1 f1 f1 f2 f1 false f3 f2 f2 f2 f2 k f3 f2 f1 false o
noncomputable def ole (a:Mt) (oc o:O):Bool:=
  O.rec (λxs=>oTup o (vles a xs)) (λxs=>oLst o (vles a xs)) (λm=>oNs o (nles a m)) (λk d=>zm5 o (λk' d'=>bq (peq k k') (bq (peq d d') (plt d a.pn false) false) false)) (λv=>oCel o (vle a v)) (zm6 o) f3
    (λf s=>O.rec f1 f1 f1 f2 f1 false f3 (λf' s'=>bq (peq f f') (bq (peq s s') (plt s a.pn false) false) false) f2 f2 f2 f2 f3 f2 f1 false o) (λp i=>oLit o (itB a p i)) (λp i=>oTit o (itB a p i)) (λx y=>oRng o (rgB x y)) (λx y=>oRit o (rgB x y)) f3
    (λf q=>Option.rec (O.rec f1 f1 f1 f2 f1 false f3 f2 f2 f2 f2 f2 f3 (λf' q'=>Option.rec (peq f f') (λ_=>false) q') f1 false o) (λq=>O.rec f1 f1 f1 f2 f1 false f3 f2 f2 f2 f2 f2 f3 (λf' q'=>Option.rec false (λq'=>bq (peq f f') (tqB a q q') false) q') f1 false o) q) f1 true oc
noncomputable def tle (a:Mt) (tc:TO):TO->Bool:=TO.rec (λ_=>true) (λo _ _ il ir t=>TO.rec false (λo' l' r' _ _=>bq (ole a o o') (bq (il l') (ir r') false) false) t) tc
noncomputable def ble (a:Mt) (ms:Bs) (msc:Bs):Bool:=List.rec true (λx _ ih=>Prod.rec (λk v=>bq (look ms k (vle a v)) ih false) x) msc
noncomputable def fle (a:Mt) (fc:List (P×Bs)):List (P×Bs)->Bool:=
  List.rec (λf=>List.rec true (λ_ _ _=>false) f) (λx _ ih f=>Prod.rec (λL msc=>List.rec false (λy r _=>Prod.rec (λL' ms=>bq (peq L L') (bq (plt L a.pn false) (bq (ble a ms msc) (ih r) false) false) false) y) f) x) fc
noncomputable def fjB (t:TO) (f:List (P×Bs)):Bool:=List.rec true (λx _ ih=>Prod.rec (λL _=>bq (O.rec f1 f1 f1 f2 f1 false f3 f2 f2 f2 f2 f2 f3 f2 f1 true (TO.at t L)) ih false) x) f
noncomputable def mtS (a:Mt) (sc s:St):Bool:=bq (tle a sc.t s.t) (fle a sc.k s.k) false
noncomputable def tBo (pn:P) (o:O) (p:P):Bool:=O.rec (λ_=>plt p pn false) (λ_=>plt p pn false) (λ_=>plt p pn false) (λ_ _=>plt p pn false) (λ_=>plt p pn false) (plt p pn false) (λ_ _ _=>plt p pn false) (λ_ _=>plt p pn false) (λ_ _=>plt p pn false) (λ_ _=>plt p pn false)
  (λ_ _=>plt p pn false) (λ_ _=>plt p pn false) (λ_ _ _=>plt p pn false) (λ_ _=>plt p pn false) (λ_=>plt p pn false) true o
noncomputable def tB (pn:P) (t:TO):(P->P)->Bool:=TO.rec (λ_=>true) (λo _ _ il ir w=>bq (tBo pn o (w .h)) (bq (il λp=>w (.o p)) (ir λp=>w (.i p)) false) false) t
noncomputable def ok1 (a:Mt) (sc:St):Bool:=bq (plt a.pn sc.n (Option.rec true (λ_=>false) a.vq)) (bq (Nat.beq sc.m (Nat.succ a.ms)) (bq (fjB sc.t sc.k) (tB a.pn sc.t λp=>p) false) false) false
end
theorem zaX:∀(p q:P) (b:Bool),plt p q b=true->p.num < q.num\/(p.num=q.num/\b=true)
  | .h,.h,b,h=>.inr ⟨rfl,h⟩
  | .h,.o q,b,h=>.inl (by have:=P.pos q;show 1 < 2 * q.num;omega)
  | .h,.i q,b,h=>.inl (by have:=P.pos q;show 1 < 2 * q.num + 1;omega)
  | .o p,.h,b,h=>by exact nb h
  | .o p,.o q,b,h=>(zaX p q b h).imp (λh=>by show 2 * p.num < 2 * q.num;omega) (λh=>⟨by show 2 * p.num=2 * q.num;omega,h.2⟩)
  | .o p,.i q,b,h=>.inl (by show 2 * p.num < 2 * q.num + 1;rcases zaX p q true h with h | ⟨h,_⟩ <;> omega)
  | .i p,.h,b,h=>by exact nb h
  | .i p,.o q,b,h=>.inl (by
    show 2 * p.num + 1 < 2 * q.num
    rcases zaX p q false h with h | ⟨_,e⟩
    · omega
    · exact nb e)
  | .i p,.i q,b,h=>(zaX p q b h).imp (λh=>by show 2 * p.num + 1 < 2 * q.num + 1;omega) (λh=>⟨by show 2 * p.num + 1=2 * q.num + 1;omega,h.2⟩)
theorem zeb {p q:P} (h:plt p q false=true):p.num < q.num:=(zaX p q false h).elim id λh=>by cases h.2
noncomputable def cutV (a:Mt) (l:Vl):Vl:=⟨λi=>if i.num < a.pn.num then l.ρ i else if i=a.pn then a.vq.bind l.ρ else none,λj=>if j < a.ms then l.θ j else if j=a.ms then some ((l.θ a.vj).getD 0 + a.vc) else none,l.χ,l.hx⟩
section
variable {c:Cn} {a:Mt} {l:Vl}
theorem zdV {p:P} {x:Addr} (h:plt p a.pn false=true) (e:l.ρ p=some x):(cutV a l).ρ p=some x:=by show (if _ then _ else _)=_;rw [if_pos (zeb h),e]
theorem zhT:∀{xs ys:List B},bEq xs ys=true->xs=ys/\∀(l l':Vl) us,All2 (DB l) xs us->All2 (DB l') xs us
  | [],[],_=>⟨rfl,λ_ _ us d=>by cases d;exact .nil⟩
  | [],_::_,h=>by exact nb h
  | _::_,[],h=>by exact nb h
  | x::xs,y::ys,h=>by
    cases x with
    | s=>exact nb h
    | n x=>
    cases y with
    | s=>exact nb h
    | n y=>
    refine E0_2 (zac (show bq (Nat.beq x y) (bEq xs ys) false=true from h)) λh1 h2=>?_
    have h1:=Nat.eq_of_beq_eq_true h1
    subst h1
    refine E0_2 (zhT h2) λe q=>⟨by rw [e],λl l' us d=>?_⟩
    cases d with
    | cons a b=>exact .cons a (q l l' _ b)
theorem zd3 {vc v:V} {u:Value} (h:vle a vc v=true) (d:DV c l v u):DV c (cutV a l) vc u:=by
  cases vc with
  | any=>trivial
  | ani=>
    have h:isI v=true:=h
    cases v <;> first | cases h | skip
    · refine E1_1 d ?_;clear d;rintro t rfl;exact ⟨_,_,rfl⟩
    · refine E2_3 d ?_;clear d;rintro z t _ rfl _;exact ⟨_,_,rfl⟩
    · exact d
  | non=>cases v <;> first | exact d | exact nb h
  | boo b=>
    cases v <;> first | exact nb h | skip
    rename_i b'
    have:b=b':=by cases b <;> cases b' <;> first | rfl | exact nb h
    subst this;exact d
  | int i=>
    refine E1_2 (zam (show vInt v (ieq i)=true from h)) ?_;rintro j rfl h
    have:=ieq_spec.mp h;subst this;exact d
  | str k=>
    refine E1_2 (zcX (show vStr v (Nat.beq k)=true from h)) ?_;rintro j rfl h9
    have h9:=Nat.eq_of_beq_eq_true h9;subst h9;exact d
  | byt bs=>
    refine E1_2 (za8 (show vByt v (bEq bs)=true from h)) ?_;rintro bs' rfl h9
    refine E0_2 (zhT h9) ?_;rintro rfl q
    exact let ⟨us,t,e,z⟩:=d;⟨us,t,e,q _ _ _ z⟩
  | ref p=>
    refine E1_2 (zak (show vRef v (λq=>bq (peq p q) (plt p a.pn false) false)=true from h)) ?_;rintro q rfl h
    refine E0_2 (zac h) λh1 h2=>?_
    have:=(zag _ _).mp h1;subst this
    refine E1_2 d ?_;clear d;rintro x e rfl
    exact ⟨x,zdV h2 e,rfl⟩
  | glo g=>
    refine E1_2 (zbR (show vGlo v (peq g)=true from h)) ?_;rintro q rfl h
    have:=(zag _ _).mp h;subst this;exact d
  | nes j dd=>
    refine E0_2 (zac (show bq (Nat.blt j a.ms) (V.rec false f1 f1 f1 f1 f1 f1 f4 false false (vlN j dd) v) false=true from h)) λh1 h7=>?_
    rw [Nat.blt_eq] at h1
    cases v with
    | nes j' dd'=>
      refine E0_2 (zac (show bq (Nat.beq j j') (Nat.beq dd dd') false=true from h7)) λh2 h3=>?_
      rw [Nat.beq_eq] at h2;subst h2
      have h3:=Nat.eq_of_beq_eq_true h3;subst h3
      exact ⟨(if_pos h1).trans d.1,d.2.1,d.2.2⟩
    | _=>exact nb h7
  | sym j cc lo hi=>
    rcases bq_t (show bq (Nat.blt j a.ms) (V.rec false f1 f1 f1 f1 f1 f1 (vlT j cc lo hi) false false f2 v) (bq (Nat.beq j a.ms) (bq (ieq cc (.ofNat 0)) (V.rec false f1 f1 f1 f1 f1 f1 (vlS a lo hi) false false f2 v) false) false)=true from h) with ⟨h1,h7⟩ | ⟨_,h⟩
    · rw [Nat.blt_eq] at h1
      cases v with
      | sym j' c' lo' hi'=>
        refine E0_2 (zac (show bq (Nat.beq j j') (bq (ieq cc c') (bq (ile lo lo') (ile hi' hi) false) false) false=true from h7)) λh2 h=>?_
        refine E0_2 (zac h) λh4 h=>?_
        refine E0_2 (zac h) λh5 h6=>?_
        rw [Nat.beq_eq] at h2;subst h2
        have h4:=ieq_spec.mp h4;subst h4
        have h5:=ile_spec.mp h5
        have h6:=ile_spec.mp h6
        exact let ⟨z,t,e,q,e1,e2⟩:=d;⟨z,t,(if_pos h1).trans e,q,by omega,by omega⟩
      | _=>exact nb h7
    refine E0_2 (zac (show bq (Nat.beq j a.ms) (bq (ieq cc (.ofNat 0)) (V.rec false f1 f1 f1 f1 f1 f1 (vlS a lo hi) false false f2 v) false) false=true from h)) λh1 h=>?_
    refine E0_2 (zac h) λh2 h7=>?_
    clear h
    rw [Nat.beq_eq] at h1;subst h1
    have h2:=ieq_spec.mp h2;subst h2
    cases v with
    | sym j' c' lo' hi'=>
    refine E0_2 (zac (show bq (Nat.beq j' a.vj) (bq (ieq c' a.vc) (bq (ile lo lo') (ile hi' hi) false) false) false=true from h7)) λh3 h=>?_
    refine E0_2 (zac h) λh4 h=>?_
    refine E0_2 (zac h) λh5 h6=>?_
    rw [Nat.beq_eq] at h3;subst h3
    have h4:=ieq_spec.mp h4;subst h4
    have h5:=ile_spec.mp h5
    have h6:=ile_spec.mp h6
    refine E2_4 d ?_;clear d;rintro z t e rfl e1 e2
    refine ⟨z + a.vc,t,?_,by simp,?_,?_⟩
    · show (if _ then _ else if _ then _ else _)=_
      rw [if_neg (Nat.lt_irrefl _),if_pos rfl,e];rfl
    · show lo<=z + a.vc + 0;omega
    · show z + a.vc + 0<=hi;omega
    | _=>exact nb h7
theorem zcA:∀{xs ys:List V} {us:List Value},vles a xs ys=true->DVs c l ys us->DVs c (cutV a l) xs us
  | [],[],_,h,d=>by cases d;exact .nil
  | [],_::_,_,h,d=>by exact nb h
  | x::xs,[],_,h,d=>by exact nb h
  | x::xs,y::ys,_,h,.cons d r=>by
    refine E0_2 (zac (show bq (vle a x y) (vles a xs ys) false=true from h)) λh1 h2=>?_
    exact .cons (zd3 h1 d) (zcA h2 r)
theorem zfs:∀{xs ys:Bs} {us:List DictEntry},nles a xs ys=true->All2 (DE c l) ys us->All2 (DE c (cutV a l)) xs us
  | [],[],_,h,d=>by cases d;exact .nil
  | [],_::_,_,h,d=>by exact nb h
  | (k,v)::xs,[],_,h,d=>by exact nb h
  | (k,v)::xs,(k',v')::ys,_,h,.cons d r=>by
    refine E0_2 (zac (show bq (Nat.beq k k') (bq (vle a v v') (nles a xs ys) false) false=true from h)) λh1 h2=>?_
    refine E0_2 (zac h2) λh2 h3=>?_
    rw [Nat.beq_eq] at h1;subst h1
    exact .cons ⟨d.1,d.2.1,zd3 h2 d.2.2⟩ (zfs h3 r)
theorem zjC {oc o:O} (h:ole a oc o=true):oc=.junk\/(o≠.junk/\oc.mut=o.mut/\∀ob,DO c l o ob->DO c (cutV a l) oc ob):=by
  cases oc with
  | junk=>exact .inl rfl
  | tup xs=>
    refine E1_2 (zaO (show oTup o (vles a xs)=true from h)) ?_;rintro ys rfl h
    exact .inr ⟨by rintro ⟨⟩,rfl,λob ⟨vs,n,e,d⟩=>⟨vs,n,e,zcA h d⟩⟩
  | lst xs=>
    refine E1_2 (zas (show oLst o (vles a xs)=true from h)) ?_;rintro ys rfl h
    exact .inr ⟨by rintro ⟨⟩,rfl,λob ⟨vs,n,e,d⟩=>⟨vs,n,e,zcA h d⟩⟩
  | ns m=>
    refine E1_2 (zaC (show oNs o (nles a m)=true from h)) ?_;rintro m' rfl h
    exact .inr ⟨by rintro ⟨⟩,rfl,λob ⟨es,n,e,d⟩=>⟨es,n,e,zfs h d⟩⟩
  | inst k d=>
    cases o <;> first | exact nb h | skip
    rename_i k' d'
    refine E0_2 (zac (show bq (peq k k') (bq (peq d d') (plt d a.pn false) false) false=true from h)) λh1 h=>?_
    refine E0_2 (zac h) λh2 h3=>?_
    have h1:=(zag _ _).mp h1;subst h1
    have h2:=(zag _ _).mp h2;subst h2
    exact .inr ⟨by rintro ⟨⟩,rfl,λob ⟨dx,e,r⟩=>⟨dx,zdV h3 e,r⟩⟩
  | cel v=>
    refine E1_2 (zc7 (show oCel o (vle a v)=true from h)) ?_;rintro v' rfl h
    exact .inr ⟨by rintro ⟨⟩,rfl,λob ⟨x,e,d⟩=>⟨x,e,zd3 h d⟩⟩
  | cnil=>cases o <;> first | exact nb h | exact .inr ⟨by rintro ⟨⟩,rfl,λob d=>d⟩
  | clo=>exact nb h
  | bm f s=>
    cases o <;> first | exact nb h | skip
    rename_i f' s'
    refine E0_2 (zac (show bq (peq f f') (bq (peq s s') (plt s a.pn false) false) false=true from h)) λh1 h=>?_
    refine E0_2 (zac h) λh2 h3=>?_
    have h1:=(zag _ _).mp h1;subst h1
    have h2:=(zag _ _).mp h2;subst h2
    exact .inr ⟨by rintro ⟨⟩,rfl,λob ⟨dx,e,r⟩=>⟨dx,zdV h3 e,r⟩⟩
  | lit p i=>
    cases o <;> first | exact nb h | skip
    rename_i p' i'
    refine E0_2 (zac (show bq (peq p p') (bq (plt p a.pn false) (Nat.beq i i') false) false=true from h)) λh1 h=>?_
    refine E0_2 (zac h) λh2 h3=>?_
    have h1:=(zag _ _).mp h1;subst h1
    have h3:=Nat.eq_of_beq_eq_true h3;subst h3
    exact .inr ⟨by rintro ⟨⟩,rfl,λob ⟨x,e,r⟩=>⟨x,zdV h2 e,r⟩⟩
  | tit p i=>
    cases o <;> first | exact nb h | skip
    rename_i p' i'
    refine E0_2 (zac (show bq (peq p p') (bq (plt p a.pn false) (Nat.beq i i') false) false=true from h)) λh1 h=>?_
    refine E0_2 (zac h) λh2 h3=>?_
    have h1:=(zag _ _).mp h1;subst h1
    have h3:=Nat.eq_of_beq_eq_true h3;subst h3
    exact .inr ⟨by rintro ⟨⟩,rfl,λob ⟨x,e,r⟩=>⟨x,zdV h2 e,r⟩⟩
  | rng x y=>
    cases o <;> first | exact nb h | skip
    rename_i x' y'
    refine E0_2 (zac (show bq (ieq x x') (ieq y y') false=true from h)) λh1 h2=>?_
    have h1:=ieq_spec.mp h1;subst h1
    have h2:=ieq_spec.mp h2;subst h2
    exact .inr ⟨by rintro ⟨⟩,rfl,λob d=>d⟩
  | rit x y=>
    cases o <;> first | exact nb h | skip
    rename_i x' y'
    refine E0_2 (zac (show bq (ieq x x') (ieq y y') false=true from h)) λh1 h2=>?_
    have h1:=ieq_spec.mp h1;subst h1
    have h2:=ieq_spec.mp h2;subst h2
    exact .inr ⟨by rintro ⟨⟩,rfl,λob d=>d⟩
  | exc=>exact nb h
  | tab f q=>
    cases q with
    | some q=>
      cases o with
      | tab f' q'=>
        cases q' with
        | none=>exact nb h
        | some q'=>
        refine E0_2 (zac (show bq (peq f f') (tqB a q q') false=true from h)) λh1 h2=>?_
        clear h
        have h1:=(zag _ _).mp h1;subst h1
        refine .inr ⟨by rintro ⟨⟩,rfl,λob ⟨cv,e,r⟩=>⟨cv,?_,r⟩⟩
        rcases bq_t (show bq (plt q a.pn false) (peq q q') (bq (peq q a.pn) (Option.rec false (λv=>peq v q') a.vq) false)=true from h2) with ⟨k1,k2⟩ | ⟨_,k2⟩
        · have k2:=(zag _ _).mp k2;subst k2
          exact zdV k1 e
        · refine E0_2 (zac k2) λk3 k4=>?_
          have k3:=(zag _ _).mp k3;subst k3
          cases hv:a.vq with
          | none=>rw [hv] at k4;exact nb k4
          | some v=>
            rw [hv] at k4
            have k4:=(zag _ _).mp k4;subst k4
            show (if _ then _ else if _ then _ else _)=_
            rw [if_neg (Nat.lt_irrefl _),if_pos rfl,hv];exact e
      | _=>exact nb h
    | none=>
    cases o <;> first | exact nb h | skip
    rename_i f' q'
    cases q' with
    | some q=>exact nb h
    | none=>
    have h1:=(zag _ _).mp (show peq f f'=true from h);subst h1
    exact .inr ⟨by rintro ⟨⟩,rfl,λob d=>d⟩
  | cod=>exact nb h
theorem zeX:∀{tc t:TO} (p:P),tle a tc t=true->tc.at p=.junk\/ole a (tc.at p) (t.at p)=true
  | .nil,t,p,h=>.inl (TO.nil_at p)
  | .node o l r,.nil,p,h=>by exact nb h
  | .node o l r,.node o' l' r',p,h=>by
    refine E0_2 (zac (show bq (ole a o o') (bq (tle a l l') (tle a r r') false) false=true from h)) λh1 h=>?_
    refine E0_2 (zac h) λh2 h3=>?_
    cases p with
    | h=>exact .inr h1
    | o p=>exact zeX p h2
    | i p=>exact zeX p h3
theorem zh0 {pn:P}:∀{t:TO} {w:P->P} (p:P),tB pn t w=true->t.at p=.junk\/(w p).num < pn.num
  | .nil,w,p,h=>.inl (TO.nil_at p)
  | .node o l r,w,p,h=>by
    refine E0_2 (zac (show bq (tBo pn o (w .h)) (bq (tB pn l λp=>w (.o p)) (tB pn r λp=>w (.i p)) false) false=true from h)) λh1 h=>?_
    refine E0_2 (zac h) λh2 h3=>?_
    cases p with
    | h=>cases o <;> first | exact .inl rfl | exact .inr (zeb h1)
    | o p=>exact zh0 (w:=λp=>w (.o p)) p h2
    | i p=>exact zh0 (w:=λp=>w (.i p)) p h3
theorem zhG {ms:Bs} {f:PySem.Str->Option Value} (d:DN c l ms f):∀{msc:Bs},ble a ms msc=true->DN c (cutV a l) msc f
  | [],h=>λk=>trivial
  | (x,v)::r,h=>λk=>by
    refine E0_2 (zac (show bq (look ms x (vle a v)) (ble a ms r) false=true from h)) λh1 h2=>?_
    show match (if x=k then some v else lk r k) with | some v=>_ | none=>True
    by_cases e:x=k
    · subst e
      rw [if_pos rfl]
      refine E1_2 (zat h1) λv' e1 h1=>?_
      have:=d x
      rw [e1] at this
      refine E1_2 this ?_;clear this;intro u e2 d2
      exact ⟨u,e2,zd3 h1 d2⟩
    · rw [if_neg e];exact zhG d h2 k
theorem zhw:∀{fc f:List (P×Bs)},fle a fc f=true->fc.map (·.1)=f.map (·.1)/\∀L msc,(L,msc)∈fc->plt L a.pn false=true/\∃ms,(L,ms)∈f/\ble a ms msc=true
  | [],[],h=>⟨rfl,λ_ _ q=>by cases q⟩
  | [],_::_,h=>by exact nb h
  | (L,msc)::fc,[],h=>by exact nb h
  | (L,msc)::fc,(L',ms)::f,h=>by
    refine E0_2 (zac (show bq (peq L L') (bq (plt L a.pn false) (bq (ble a ms msc) (fle a fc f) false) false) false=true from h)) λh1 h=>?_
    refine E0_2 (zac h) λh2 h=>?_
    refine E0_2 (zac h) λh3 h4=>?_
    have h1:=(zag _ _).mp h1;subst h1
    refine E0_2 (zhw h4) λi1 i2=>?_
    refine ⟨by simp [i1],λM m q=>?_⟩
    rcases List.mem_cons.mp q with q | q
    · (refine E0_2 (Prod.mk.inj q) λq1 q2=>?_;subst q1;subst q2);exact ⟨h2,ms,.head _,h3⟩
    · obtain ⟨a1,ms',a2,a3⟩:=i2 M m q;exact ⟨a1,ms',.tail _ a2,a3⟩
theorem zhx {t:TO}:∀{f:List (P×Bs)},fjB t f=true->∀L∈f.map (·.1),t.at L=.junk
  | [],h,L,q=>by cases q
  | (M,ms)::f,h,L,q=>by
    refine E0_2 (zac (show bq (O.rec f1 f1 f1 f2 f1 false f3 f2 f2 f2 f2 f2 f3 f2 f1 true (TO.at t M)) (fjB t f) false=true from h)) λh1 h2=>?_
    rcases List.mem_cons.mp q with q | q
    · rw [q];show t.at M=.junk;revert h1;cases t.at M <;> intro h1 <;> first | rfl | exact nb h1
    · exact zhx h2 L q
theorem zdI {sc st:St} {ids:List P} {s:Shared} (ok:Ok c ids l st s) (h:mtS a sc st=true) (h1:Mine.ok1 a sc=true):Ok c ids (cutV a l) sc s:=by
  refine E0_2 (zac (show bq (tle a sc.t st.t) (fle a sc.k st.k) false=true from h)) λht hf=>?_
  refine E0_2 (zac (show bq (plt a.pn sc.n (Option.rec true (λ_=>false) a.vq)) (bq (Nat.beq sc.m (Nat.succ a.ms)) (bq (fjB sc.t sc.k) (tB a.pn sc.t λp=>p) false) false) false=true from h1)) λhn h1=>?_
  refine E0_2 (zac h1) λhm h1=>?_
  refine E0_2 (zac h1) λhj hb=>?_
  have hn0:=hn
  have hn:a.pn.num<=sc.n.num:=by rcases zaX _ _ _ hn with h | ⟨h,_⟩ <;> omega
  rw [Nat.beq_eq] at hm
  refine E0_2 (zhw hf) λf1' f2'=>?_
  have key:∀i,sc.t.at i≠.junk->i.num < a.pn.num/\st.t.at i≠.junk/\(sc.t.at i).mut=(st.t.at i).mut/\∀ob,DO c l (st.t.at i) ob->DO c (cutV a l) (sc.t.at i) ob:=λi hi=>by
    have h2:=(zh0 i hb).resolve_left hi
    have h3:=(zeX i ht).resolve_left hi
    have h4:=(zjC (c:=c) (l:=l) h3).resolve_left hi
    exact ⟨h2,h4⟩
  have low:∀i,(sc.t.at i≠.junk\/i∈ids)->i.num < a.pn.num:=λi hi=>by
    rcases hi with hi | hi
    · exact (key i hi).1
    · rw [<- f1'.trans ok.ids_] at hi
      refine E1_2 (List.mem_map.mp hi) λq hq e=>?_
      exact e▸zeb (f2' q.1 q.2 hq).1
  have back:∀i x,i.num < a.pn.num->(cutV a l).ρ i=some x->l.ρ i=some x:=λi x h e=>by
    have e:(if i.num < a.pn.num then l.ρ i else if i=a.pn then a.vq.bind l.ρ else none)=some x:=e
    rwa [if_pos h] at e
  have tr:∀i,(sc.t.at i≠.junk\/i∈ids)->(st.t.at i≠.junk\/i∈ids):=λi h=>h.imp (λh=>(key i h).2.1) id
  have mtr:∀i,sc.mt ids i->st.mt ids i:=λi h=>h.imp (λ(h:sc.t.at i≠.junk/\(sc.t.at i).mut=true)=>⟨(key i h.1).2.1,(key i h.1).2.2.1▸h.2⟩) id
  refine ⟨ok.bas,ok.kep,λi=>?_,λL m hm=>?_,f1'.trans ok.ids_,ok.nd,λL hL=>zhx hj L (by rw [f1',ok.ids_];exact hL),λi j x hi hj ei ej=>ok.inj i j x (mtr i hi) (tr j hj) (back i x (low i hi.tr) ei) (back j x (low j hj) ej),λi hi=>?_,λj hj=>?_,ok.oss,ok.gns⟩
  · by_cases hi:sc.t.at i=.junk
    · exact .inl hi
    · refine E0_4 (key i hi) λk1 k2 k3 k4=>?_
      refine E2_4 (ok.at_ rfl k2) λx ob r1 r2 r3 r4=>?_
      refine .inr ⟨x,ob,?_,r2,k4 ob r3,λz=>r4 (k3▸z)⟩
      show (if _ then _ else _)=_
      rw [if_pos k1,r1]
  · obtain ⟨p1,ms,p2,p3⟩:=f2' L m hm
    refine E2_4 (ok.frs L ms p2) λx f r1 r2 r3 r4=>?_
    exact ⟨x,f,zdV p1 r1,r2,zhG r3 p3,r4⟩
  · show (if _ then _ else if _ then _ else _)=_
    rw [if_neg (by omega)]
    split
    · rename_i e
      cases hv:a.vq with
      | none=>rfl
      | some v=>
        rw [hv] at hn0
        have:=zeb (show plt a.pn sc.n false=true from hn0)
        rw [e] at hi;omega
    · rfl
  · show (if _ then _ else if _ then _ else _)=_
    rw [if_neg (by omega),if_neg (by omega)]
theorem zcg {l₀:Vl} (le:l₀.Le l) (h1:∀i,a.pn.num<=i.num->l₀.ρ i=none) (h2:∀j,a.ms<=j->l₀.θ j=none):l₀.Le (cutV a l):=
  ⟨(λi x e=>by
    show (if _ then _ else _)=_
    by_cases q:i.num < a.pn.num
    · rw [if_pos q];exact le.1 _ _ e
    · rw [h1 i (by omega)] at e;exact no e),(λj z e=>by
    show (if _ then _ else if _ then _ else _)=_
    by_cases q:j < a.ms
    · rw [if_pos q];exact le.2 _ _ e
    · rw [h2 j (by omega)] at e;exact no e),le.3,le.4⟩
end
end Mine
end
section
open PySem PySem.W PyProof.Rows PySem.Calls Builtin Builtin.ObjectAttr
set_option maxRecDepth 100000
namespace Mine
noncomputable section
noncomputable def rlA (pn:P) (ms:Nat) (vq:Option P) (k:Mt->Bool) (_:V) (v:V):Bool:=V.rec false f1 f1 f1 f1 f1 f1 (λj c _ _=>k ⟨pn,ms,j,c,vq⟩) false false f2 v
noncomputable def rlL (pn:P) (ms:Nat) (vq:Option P) (k:Mt->Bool) (xs:List V):Bool:=arg2 xs (rlA pn ms vq k)
noncomputable def rlO (pn:P) (ms:Nat) (vq:Option P) (k:Mt->Bool) (o:O):Bool:=oLst o (rlL pn ms vq k)
noncomputable def zbi (q pn:P) (ms:Nat) (vq:Option P) (st:St) (k:Mt->Bool):Bool:=st.get q (rlO pn ms vq k)
noncomputable def tbO (k:Option P->Bool) (o:O):Bool:=O.rec f1 f1 f1 f2 f1 false f3 f2 f2 f2 f2 f2 f3 (λ_ q=>Option.rec false (λv=>k (some v)) q) f1 false o
noncomputable def tbQ (tb:Option P) (st:St) (k:Option P->Bool):Bool:=Option.rec (k none) (λt=>st.get t (tbO k)) tb
noncomputable def flg (tb:Option P):Option P:=Option.rec none (λ_=>some .h) tb
noncomputable def mt1 (sc st:St) (a:Mt):Bool:=mtS a sc st
noncomputable def anyP (q pn:P) (ms:Nat) (posts:List St) (st:St) (vq:Option P):Bool:=List.rec false (λsc _ ih=>bq (zbi q pn ms vq st (mt1 sc st)) true ih) posts
noncomputable def allP (k:KV) (posts:List St):Bool:=List.rec true (λsc _ ih=>bq (k (.boo true) sc) ih false) posts
structure Sm where
  f:P
  args:List V
  dp:Nat
  pre:St
  posts:List St
  q:P
  tb:Option P
noncomputable def zdh (S:Sm):KV:=λv st=>V.rec false (λb=>bq b (tbQ S.tb st (anyP S.q S.pre.n S.pre.m S.posts st)) false) f1 f1 f1 f1 f1 f4 false false f2 v
noncomputable def smA (S:Sm) (args:List V) (st:St) (a:Mt):Bool:=bq (vles a S.args args) (mtS a S.pre st) false
noncomputable def zh4 (S:Sm) (args:List V) (dp:Nat) (st:St):Bool:=bq (Nat.beq dp S.dp) (bq (peq S.pre.n st.n) (bq (Nat.beq S.pre.m (Nat.succ st.m)) (zbi S.q st.n st.m none st (smA S args st)) false) false) false
noncomputable def ze0 (S:Sm) (base:CF):CF:=λf args cs dp st k kx=>bq (peq f S.f) (bq (zh4 S args dp st) (allP k S.posts) (base f args cs dp st k kx)) (base f args cs dp st k kx)
noncomputable def okP (pn:P) (ms:Nat) (vq:Option P) (posts:List St):Bool:=List.rec true (λsc _ ih=>bq (ok1 ⟨pn,ms,0,.ofNat 0,vq⟩ sc) ih false) posts
noncomputable def smOk (S:Sm):Bool:=bq (ok1 ⟨S.pre.n,Nat.pred S.pre.m,0,.ofNat 0,none⟩ S.pre) (okP S.pre.n S.pre.m (flg S.tb) S.posts) false
structure Fg where
  f:P
  lim:P
  post:St
  q:P
  ms:Nat
end
theorem zaA {q pn:P} {ms:Nat} {vq:Option P} {st:St} {k:Mt->Bool} (h:zbi q pn ms vq st k=true):∃j c,k ⟨pn,ms,j,c,vq⟩=true:=by
  refine E1_2 (zas (St.get_spec (show st.get q (rlO pn ms vq k)=true from h))) λxs _ h=>?_
  have h:arg2 xs (rlA pn ms vq k)=true:=h
  cases xs with
  | nil=>exact nb h
  | cons x xs=>
  cases xs with
  | nil=>exact nb h
  | cons y xs=>
  cases xs with
  | cons=>exact nb h
  | nil=>
    have h:rlA pn ms vq k x y=true:=h
    cases y with
    | sym j c lo hi=>exact ⟨j,c,h⟩
    | _=>exact nb h
theorem zgb {tb:Option P} {st:St} {k:Option P->Bool} (h:tbQ tb st k=true):∃vq,k vq=true/\vq.isSome=tb.isSome:=by
  cases tb with
  | none=>exact ⟨none,h,rfl⟩
  | some t=>
    have h:=St.get_spec (show st.get t (tbO k)=true from h)
    cases ho:st.t.at t <;> rw [ho] at h <;> first | exact nb h | skip
    rename_i f q
    cases q with
    | none=>exact nb h
    | some v=>exact ⟨some v,h,rfl⟩
theorem zjD {pn:P} {ms j:Nat} {cc:Int} {tb vq:Option P} {sc:St} (h:ok1 ⟨pn,ms,0,.ofNat 0,flg tb⟩ sc=true) (e:vq.isSome=tb.isSome):ok1 ⟨pn,ms,j,cc,vq⟩ sc=true:=by
  cases tb <;> cases vq <;> first | exact h | cases e
theorem zdw {q pn:P} {ms:Nat} {st:St} {vq:Option P}:∀{posts:List St},anyP q pn ms posts st vq=true->∃sc∈posts,∃j c,mtS ⟨pn,ms,j,c,vq⟩ sc st=true
  | [],h=>by exact nb h
  | sc::r,h=>by
    rcases bq_t (show bq (zbi q pn ms vq st (mt1 sc st)) true (anyP q pn ms r st vq)=true from h) with ⟨h1,_⟩ | ⟨_,h1⟩
    · refine E2_1 (zaA h1) λj c h2=>?_;exact ⟨sc,.head _,j,c,h2⟩
    · refine E1_2 (zdw h1) λsc' m h2=>?_;exact ⟨sc',.tail _ m,h2⟩
theorem zdy {k:KV}:∀{posts:List St},allP k posts=true->∀sc∈posts,k (.boo true) sc=true
  | [],h,sc,m=>by cases m
  | s::r,h,sc,m=>by
    refine E0_2 (zac (show bq (k (.boo true) s) (allP k r) false=true from h)) λh1 h2=>?_
    rcases List.mem_cons.mp m with rfl | m
    · exact h1
    · exact zdy h2 sc m
theorem zee {pn:P} {ms:Nat} {vq:Option P}:∀{posts:List St},okP pn ms vq posts=true->∀sc∈posts,ok1 ⟨pn,ms,0,.ofNat 0,vq⟩ sc=true
  | [],h,sc,m=>by cases m
  | s::r,h,sc,m=>by
    refine E0_2 (zac (show bq (ok1 ⟨pn,ms,0,.ofNat 0,vq⟩ s) (okP pn ms vq r) false=true from h)) λh1 h2=>?_
    rcases List.mem_cons.mp m with rfl | m
    · exact h1
    · exact zee h2 sc m
section
variable {c:Cn}
theorem zeU {v:V} {k:Bool->Bool} (h:V.rec (motive:=λ_=>Bool) false k f1 f1 f1 f1 f1 f4 false false f2 v=true):∃b,v=.boo b/\k b=true:=by cases v <;> first | exact ⟨_,rfl,h⟩ | exact nb h
theorem zd5 {S:Sm} {base base0:CF} (hb:CallOk c base) (h0:CallOk c base0) (hE:base0 S.f S.args [] S.dp S.pre (zdh S) noX=true) (hS:smOk S=true) (hf:fnIn c.K (c.fv S.f)=true):CallOk c (ze0 S base) where
  fn f args dp ids l st s k kx A vals Q E hi h ok hv hA hl hk hx:=by
    rcases bq_t (show bq (peq f S.f) (bq (zh4 S args dp st) (allP k S.posts) (base f args [] dp st k kx)) (base f args [] dp st k kx)=true from h) with ⟨e,h⟩ | ⟨_,h⟩
    · have e:=(zag _ _).mp e
      subst e
      rcases bq_t h with ⟨hp,h9⟩ | ⟨_,h⟩
      · refine E0_2 (zac (show bq (Nat.beq dp S.dp) (bq (peq S.pre.n st.n) (bq (Nat.beq S.pre.m (Nat.succ st.m)) (zbi S.q st.n st.m none st (smA S args st)) false) false) false=true from hp)) λe1 hp=>?_
        refine E0_2 (zac hp) λe2 hp=>?_
        refine E0_2 (zac hp) λe3 hp3=>?_
        rw [Nat.beq_eq] at e1 e3
        have e2:=(zag _ _).mp e2
        subst e1
        refine E2_1 (zaA hp3) λj cc hp4=>?_
        refine E0_2 (zac (show bq (vles ⟨st.n,st.m,j,cc,none⟩ S.args args) (mtS ⟨st.n,st.m,j,cc,none⟩ S.pre st) false=true from hp4)) λha hm=>?_
        refine E0_2 (zac (show bq (ok1 ⟨S.pre.n,Nat.pred S.pre.m,0,.ofNat 0,none⟩ S.pre) (okP S.pre.n S.pre.m (flg S.tb) S.posts) false=true from hS)) λo1 o2=>?_
        have o1:ok1 ⟨st.n,st.m,j,cc,none⟩ S.pre=true:=by
          rw [e2,e3] at o1;exact o1
        have okp:=zdI ok hm o1
        have le:=zcg (a:=⟨st.n,st.m,j,cc,none⟩) (Vl.Le.refl l) ok.fre ok.frt
        refine h0.fn S.f S.args S.dp ids _ S.pre s (zdh S) noX A vals Q E hf hE okp (zcA ha hv) (hA.le le) (hl.trans le) (λl' v st' u s' g le' ok' d=>?_) zaT
        refine E1_2 (zeU (show V.rec (motive:=λ_=>Bool) false (λb=>bq b (tbQ S.tb st' (anyP S.q S.pre.n S.pre.m S.posts st')) false) f1 f1 f1 f1 f1 f4 false false f2 v=true from g)) ?_;rintro b rfl g
        refine E0_2 (zac g) ?_;rintro rfl g
        refine E1_2 (zgb g) λvq g hvq=>?_
        obtain ⟨sc,hsc,j',c',hm'⟩:=zdw g
        have o3:ok1 ⟨S.pre.n,S.pre.m,j',c',vq⟩ sc=true:=zjD (zee o2 sc hsc) hvq
        exact hk _ (.boo true) sc u s' (zdy h9 sc hsc) (le.trans (zcg (a:=⟨S.pre.n,S.pre.m,j',c',vq⟩) le' okp.fre okp.frt)) (zdI ok' hm' o3) d
      · exact hb.fn _ _ _ _ _ _ _ _ _ _ _ _ _ hi h ok hv hA hl hk hx
    · exact hb.fn _ _ _ _ _ _ _ _ _ _ _ _ _ hi h ok hv hA hl hk hx
  lam f args cs q g a dp ids l st s k kx A vals Q E h ok hq hg ha hv hA hl hk hx:=by
    rcases bq_t (show bq (peq f S.f) (bq (zh4 S args dp st) (allP k S.posts) (base f args cs dp st k kx)) (base f args cs dp st k kx)=true from h) with ⟨e,h⟩ | ⟨_,h⟩
    · have e:=(zag _ _).mp e
      subst e
      refine E2_4 (ok.at_ hq (by rintro ⟨⟩)) ?_;rintro _ _ _ _ ⟨_,_,_,_,z,_⟩ _
      rw [hf] at z;exact nf z
    · exact hb.lam _ _ _ _ _ _ _ _ _ _ _ _ _ _ _ _ _ h ok hq hg ha hv hA hl hk hx
end
end Mine
end
section
open PySem PySem.W PyProof.Rows PySem.Calls
set_option maxRecDepth 100000
namespace Mine
noncomputable section
noncomputable def zme (j:Nat):O:=.lst [.ani,.sym j (.ofNat 0) (.ofNat 0) (.ofNat 2147483646)]
noncomputable def fgP1 (q:P) (k:KS) (j:Nat) (st:St):Bool:=st.put q (zme j) k
noncomputable def fgP (q:P) (st:St) (k:KS):Bool:=st.sym (fgP1 q k)
noncomputable def isLf (v:V):Bool:=V.rec false f1 yes yes f1 f1 f1 no4 true false (λ_ d=>Nat.beq d 0) v
noncomputable def nesD (d:Nat) (v:V):Bool:=V.rec false f1 f1 f1 f1 f1 f1 f4 false false (λ_ e=>Nat.beq e d) v
noncomputable def chD (d:Nat) (v:V):Bool:=bq (isLf v) true (nesD d v)
noncomputable def chB (d:Nat) (xs:List V):Bool:=List.rec true (λx _ ih=>bq (chD d x) ih false) xs
noncomputable def nsC (d:Nat) (cs:List V):Bool:=bq (chB d cs) (lenL cs 0 λn=>bq (Nat.ble 1 n) (Nat.ble n 3) false) false
noncomputable def nsO (d:Nat) (o:O):Bool:=oTup o (nsC d)
noncomputable def nsB (d:Nat) (st:St) (b:P):Bool:=st.get b (nsO d)
noncomputable def nsW (d:Nat) (st:St) (w r:V):Bool:=bq (isLf w) (vRef r (nsB d st)) false
noncomputable def nsX (d:Nat) (st:St) (xs:List V):Bool:=arg2 xs (nsW d st)
noncomputable def nsQ (d:Nat) (st:St) (o:O):Bool:=oTup o (nsX d st)
noncomputable def nsP (d:Nat) (st:St) (p:P):Bool:=st.get p (nsQ d st)
noncomputable def zih (d:Nat) (v:V) (st:St):Bool:=bq (isLf v) true (Nat.rec false (λe _=>vRef v (nsP e st)) d)
noncomputable def kDs (d:Nat) (q pn:P) (ms:Nat) (post:St):KV:=λv st'=>bq (zih d v st') (zbi q pn ms none st' (mt1 post st')) false
noncomputable def dsN (d:Nat) (k:KV) (j:Nat) (st:St):Bool:=k (.nes j d) st
noncomputable def dsP (base:CF) (f:P) (args:List V) (cs:Cs) (dp:Nat) (st:St) (k kx:KV) (d:Nat) (q pn:P) (ms:Nat) (post:St):Bool:=
  bq (ok1 ⟨pn,ms,0,.ofNat 0,none⟩ post) (bq (base f args cs dp st (kDs d q pn ms post) kx) (post.sym (dsN d k)) false) false
noncomputable def dsQ (base:CF) (f:P) (args:List V) (cs:Cs) (dp:Nat) (st:St) (k kx:KV) (q:P) (d:Nat):Bool:=fgP q st (dsP base f args cs dp st k kx d q st.n st.m)
noncomputable def dsD (k:Nat->Bool) (b:V):Bool:=V.rec false f1 (λi=>zaP i k) f1 f1 (λ_=>k 0) f1 f4 false false f2 b
noncomputable def dsA (base:CF) (f:P) (args:List V) (cs:Cs) (dp:Nat) (st:St) (k kx:KV) (a b:V):Bool:=vRef a λq=>dsD (dsQ base f args cs dp st k kx q) b
noncomputable def dsCF (g g':P) (base:CF):CF:=λf args cs dp st k kx=>bq (bq (peq f g) true (peq f g')) (arg2 args (dsA base f args cs dp st k kx)) (base f args cs dp st k kx)
structure So where
  dp:Nat
  pre:St
  post:St
  q:P
noncomputable def ziH (cs:Cs):Bool:=List.rec true (λ_ _ _=>false) cs
noncomputable def zex (S:So) (c:Cx) (st:St):Bool:=bq (Nat.beq c.dp S.dp) (bq (ziH c.cs) (bq c.hd false (bq (peq S.pre.n st.n) (bq (Nat.beq S.pre.m (Nat.succ st.m)) (zbi S.q st.n st.m none st (mt1 S.pre st)) false) false)) false) false
noncomputable def sOr (Ss:List So):Ex:=λc st k=>List.rec false (λS _ ih=>bq (zex S c st) (k .next S.post) ih) Ss
noncomputable def kSo (S:So):KF:=λfl st=>zen fl (zbi S.q S.pre.n S.pre.m none st (mt1 S.post st)) false false f1
noncomputable def soOk (S:So):Bool:=bq (ok1 ⟨S.pre.n,Nat.pred S.pre.m,0,.ofNat 0,none⟩ S.pre) (ok1 ⟨S.pre.n,S.pre.m,0,.ofNat 0,none⟩ S.post) false
noncomputable def evO (p:Pg) (r:CF) (a:Ex) (S:So):Bool:=bq (soOk S) (a ⟨r,[],S.dp,noX,p,false,none⟩ S.pre (kSo S)) false
end
section
variable {c:Cn} {p:Pg} {kd:PySem.Str->Option NameKind}
theorem zdp (env:Env) (fs:List Stmt):∀es:List Stmt,execs (es++fs) env=(execs es env >>=λf=>match f with | .next=>execs fs env | f=>pure f)
  | []=>rfl
  | e::es=>by
    rw [List.cons_append,execs_cons,execs_cons,bind_assoc]
    congr 1;funext f
    cases f <;> first | exact zdp env fs es | rfl
theorem znF {a b:Ex} {es fs:List Stmt} (h1:SExs c p kd a es) (h2:SExs c p kd b fs):SExs c p kd (zab a b) (es++fs):=by
  intro x ids l st s k A env Q E am h ok hk
  rw [zdp]
  refine wpAny_bind (h1 x ids l st s _ A env _ _ am h ok ?_)
  intro l1 fl st1 u s1 g1 le1 ok1 d1
  cases fl <;> simp only [DFl] at d1
  · subst d1;exact h2 _ _ _ _ _ _ _ _ _ _ (am.le le1) g1 ok1 (hk.le le1)
  · subst d1;exact wpAny_pure (hk _ .brk _ _ _ g1 le1 ok1 rfl)
  · subst d1;exact wpAny_pure (hk _ .cont _ _ _ g1 le1 ok1 rfl)
  · refine E1_2 d1 ?_;clear d1;rintro w rfl d1;exact wpAny_pure (hk _ (.ret _) _ _ _ g1 le1 ok1 ⟨w,rfl,d1⟩)
theorem f_or {r:CF} {a:Ex} {es:List Stmt} (h1:SExs c p kd a es) (hr:CallOk c r):∀{Ss:List So},(∀S∈Ss,evO p r a S=true)->SExs c p kd (sOr Ss) es
  | [],_=>λx ids l st s k A env Q E am h ok hk=>nb h
  | S::Ss,hE=>by
    intro x ids l st s k A env Q E am h ok hk
    rcases bq_t (show bq (zex S x st) (k .next S.post) (sOr Ss x st k)=true from h) with ⟨hp,h9⟩ | ⟨_,h9⟩
    · refine E0_2 (zac (show bq (Nat.beq x.dp S.dp) (bq (ziH x.cs) (bq x.hd false (bq (peq S.pre.n st.n) (bq (Nat.beq S.pre.m (Nat.succ st.m)) (zbi S.q st.n st.m none st (mt1 S.pre st)) false) false)) false) false=true from hp)) λe1 hp=>?_
      refine E0_2 (zac hp) λe2 hp=>?_
      refine E0_2 (za2 hp) λe3 hp=>?_
      refine E0_2 (zac hp) λe4 hp=>?_
      refine E0_2 (zac hp) λe5 hp=>?_
      have e1:=Nat.eq_of_beq_eq_true e1
      have e4:=(zag _ _).mp e4
      have e5:=Nat.eq_of_beq_eq_true e5
      refine E2_1 (zaA hp) λj cc hm=>?_
      refine E0_2 (zac (hE S (.head _))) λo1 hE=>?_
      refine E0_2 (zac (show bq (ok1 ⟨S.pre.n,Nat.pred S.pre.m,0,.ofNat 0,none⟩ S.pre) (ok1 ⟨S.pre.n,S.pre.m,0,.ofNat 0,none⟩ S.post) false=true from o1)) λo1 o3=>?_
      have o1:ok1 ⟨st.n,st.m,j,cc,none⟩ S.pre=true:=by rw [e4,e5] at o1;exact o1
      have okp:=zdI ok hm o1
      have le:=zcg (a:=⟨st.n,st.m,j,cc,none⟩) (Vl.Le.refl l) ok.fre ok.frt
      have am1:=am.le le
      have hcs:x.cs=[]:=by
        cases hc:x.cs with
        | nil=>rfl
        | cons=>rw [hc] at e2;exact nb e2
      have en:=am1.env
      rw [hcs] at en
      have ro:=am1.room
      rw [e1] at ro
      refine h1 ⟨r,[],S.dp,noX,p,false,none⟩ ids _ S.pre s (kSo S) A env Q E ⟨rfl,hr,ro,λ_=>am1.free e3,nofun,nofun,en,zaT,am1.base⟩ hE okp ?_
      intro l' fl st' u s' g le' ok' d
      cases fl with
      | next=>
        refine E2_1 (zaA (show zbi S.q S.pre.n S.pre.m none st' (mt1 S.post st')=true from g)) λj' c' hm'=>?_
        exact hk _ .next S.post u s' h9 (le.trans (zcg (a:=⟨S.pre.n,S.pre.m,j',c',none⟩) le' okp.fre okp.frt)) (zdI ok' hm' o3) d
      | _=>exact nb g
    · exact f_or h1 hr (λS hS=>hE S (.tail _ hS)) x ids l st s k A env Q E am h9 ok hk
noncomputable def TO.ps:TO->(P->P)->List P
  | .nil,_=>[]
  | .node o a b,w=>w .h::(TO.ps a (λp=>w (.o p))++TO.ps b (λp=>w (.i p)))
theorem TO.ps_mem:∀{t:TO} {w:P->P} (p:P),t.at p≠.junk->w p∈t.ps w
  | .nil,w,p,h=>absurd (TO.nil_at p) h
  | .node o a b,w,.h,h=>.head _
  | .node o a b,w,.o p,h=>.tail _ (List.mem_append_left _ (TO.ps_mem (w:=λp=>w (.o p)) p h))
  | .node o a b,w,.i p,h=>.tail _ (List.mem_append_right _ (TO.ps_mem (w:=λp=>w (.i p)) p h))
variable {ids:List P} {l:Vl} {st:St} {s:Shared}
theorem Ok.rebase (ok:Ok c ids l st s):∃hx,Ok c ids ⟨l.ρ,l.θ,l.χ,hx⟩ st s/\l.Le ⟨l.ρ,l.θ,l.χ,hx⟩/\
    ∀i a o,st.t.at i≠.junk->(st.t.at i).mut=false->l.ρ i=some a->s.heap.get? a=some o->hx.get? a=some o:=by
  let M:List Addr:=(ids++(st.t.ps id).filter λi=>(st.t.at i).mut&&(match st.t.at i with | .junk=>false | _=>true)).filterMap l.ρ
  have hm:∀i a,st.mt ids i->l.ρ i=some a->a∈M:=λi a h e=>by
    refine List.mem_filterMap.mpr ⟨i,?_,e⟩
    rcases h with ⟨h1,h2⟩ | h
    · refine List.mem_append_right _ (List.mem_filter.mpr ⟨TO.ps_mem i h1,?_⟩)
      rw [h2]
      cases e:st.t.at i <;> first | rfl | exact absurd e h1
    · exact List.mem_append_left _ h
  have mh:∀a∈M,∃i,st.mt ids i/\l.ρ i=some a:=λa h=>by
    obtain ⟨i,h1,e⟩:=List.mem_filterMap.mp h
    refine ⟨i,?_,e⟩
    rcases List.mem_append.mp h1 with h1 | h1
    · exact .inr h1
    · have h2:=(List.mem_filter.mp h1).2
      refine .inl ⟨λq=>?_,?_⟩
      · rw [q] at h2;exact nb h2
      · cases q:(st.t.at i).mut with
        | true=>rfl
        | false=>rw [q] at h2;exact nb h2
  have mn:∀i a,st.mt ids i->l.ρ i=some a->l.hx.get? a=none:=λi a h e=>by
    rcases h with ⟨h1,h2⟩ | h
    · refine E2_4 (ok.at_ (i:=i) rfl h1) λb u g1 _ _ g4=>?_
      rw [e] at g1;(replace g1:=si g1;subst g1);exact g4 h2
    · refine E1_1 (ok.frame_id h) λm hm=>?_
      refine E2_4 (ok.frs _ _ hm) λb f g1 _ _ g4=>?_
      rw [e] at g1;(replace g1:=si g1;subst g1);exact g4
  have le:l.Le ⟨l.ρ,l.θ,l.χ,hideAll s.heap M⟩:=⟨λ_ _ e=>e,λ_ _ e=>e,λ_ _ _ _ e=>e,λb o e=>by
    refine hideAll_get _ (ok.kep b o e) λh=>?_
    obtain ⟨i,h1,h2⟩:=mh b h
    rw [mn i b h1 h2] at e;exact no e⟩
  refine ⟨hideAll s.heap M,⟨λb o e=>le.4 _ _ (ok.bas b o e),λb o e=>of_hideAll _ e,λi=>?_,λL m h=>?_,ok.ids_,ok.nd,ok.fj,ok.inj,ok.fre,ok.frt,ok.oss,ok.gns⟩,le,λi a o hj hu hr hg=>?_⟩
  · by_cases hj:st.t.at i=.junk
    · exact .inl hj
    · refine E2_4 (ok.at_ (i:=i) rfl hj) λa o g1 g2 g3 g4=>?_
      exact .inr ⟨a,o,g1,g2,g3.le le,λz=>hideAll_none _ (hm i a (.inl ⟨hj,z⟩) g1)⟩
  · refine E2_4 (ok.frs L m h) λa f g1 g2 g3 g4=>?_
    refine ⟨a,f,g1,g2,g3.le le,hideAll_none _ (hm L a (.inr ?_) g1)⟩
    rw [<- ok.ids_];exact List.mem_map_of_mem h
  · refine hideAll_get _ hg λh=>?_
    obtain ⟨j,h1,h2⟩:=mh a h
    have e:=ok.inj j i a h1 (.inl hj) h2 hr
    subst e
    rcases h1 with ⟨_,h1⟩ | h1
    · rw [hu] at h1;exact nb h1
    · exact hj (ok.fj _ h1)
theorem zdR {v:V} {u:Value} (h:isLf v=true) (d:DV c l v u):Leaf u:=by
  cases v with
  | int i=>exact let ⟨t,e⟩:=d;e▸trivial
  | str k=>exact let ⟨t,e⟩:=d;e▸trivial
  | sym=>exact let ⟨z,t,_,e,_⟩:=d;e▸trivial
  | ani=>exact let ⟨z,t,e⟩:=d;e▸trivial
  | nes j e=>
    have h:Nat.beq e 0=true:=h
    rw [Nat.beq_eq] at h;subst h
    exact d.2.2
  | _=>exact nb h
theorem zdg {h:Heap} {u:Value} (x:Leaf u):∀d,NestV h d u
  | 0=>x
  | _ + 1=>.inl x
theorem zhB {d:Nat}:∀{cs:List V} {us:List Value},chB d cs=true->DVs c l cs us->∀u∈us,NestV l.hx d u
  | [],_,h,z,u,hu=>by cases z;cases hu
  | x::r,_,h,.cons z zs,u,hu=>by
    refine E0_2 (zac (show bq (chD d x) (chB d r) false=true from h)) λh1 h2=>?_
    rcases List.mem_cons.mp hu with rfl | hu
    · rcases bq_t (show bq (isLf x) true (nesD d x)=true from h1) with ⟨h3,_⟩ | ⟨_,h3⟩
      · exact zdg (zdR h3 z) d
      · cases x with
        | nes j e=>
          have h3:Nat.beq e d=true:=h3
          rw [Nat.beq_eq] at h3;subst h3
          exact z.2.2
        | _=>exact nb h3
    · exact zhB h2 zs u hu
theorem zej {α:Type}:∀(xs:List α) (n:Nat) (k:Nat->Bool),lenL xs n k=true->k (n + xs.length)=true
  | [],n,k,h=>h
  | _::r,n,k,h=>by
    have:=zej r (n + 1) k h
    rwa [show n + 1 + r.length=n + (r.length + 1) by omega] at this
theorem zif (ok:Ok c ids l st s) (hx:∀i a o,st.t.at i≠.junk->(st.t.at i).mut=false->l.ρ i=some a->s.heap.get? a=some o->l.hx.get? a=some o) {d:Nat} {v:V} {u:Value} (h:zih d v st=true) (z:DV c l v u):NestV l.hx d u:=by
  rcases bq_t (show bq (isLf v) true (Nat.rec false (λe _=>vRef v (nsP e st)) d)=true from h) with ⟨h3,_⟩ | ⟨_,h⟩
  · exact zdg (zdR h3 z) d
  cases d with
  | zero=>exact nb h
  | succ e=>
  refine E1_2 (zak (show vRef v (nsP e st)=true from h)) ?_;rintro p rfl h
  refine E1_2 (zaO (St.get_spec (show st.get p (nsQ e st)=true from h))) λxs hp h=>?_
  have h:arg2 xs (nsW e st)=true:=h
  cases xs with
  | nil=>exact nb h
  | cons w xs=>
  cases xs with
  | nil=>exact nb h
  | cons r xs=>
  cases xs with
  | cons=>exact nb h
  | nil=>
  refine E0_2 (zac (show bq (isLf w) (vRef r (nsB e st)) false=true from h)) λh1 h=>?_
  refine E1_2 (zak h) ?_;rintro b rfl h
  refine E1_2 (zaO (St.get_spec (show st.get b (nsO e)=true from h))) λcs hb h=>?_
  refine E0_2 (zac (show bq (chB e cs) (lenL cs 0 λn=>bq (Nat.ble 1 n) (Nat.ble n 3) false) false=true from h)) λh2 h3=>?_
  refine E0_2 (zac (zej cs 0 _ h3)) λh4 h5=>?_
  rw [Nat.ble_eq] at h4 h5
  refine E2_4 (ok.at_ hp (by rintro ⟨⟩)) λpa po g1 g2 g3 _=>?_
  obtain ⟨pvs,pn,rfl,gv⟩:=g3
  refine E2_4 (ok.at_ hb (by rintro ⟨⟩)) λba bo k1 k2 k3 _=>?_
  obtain ⟨bvs,bn,rfl,kv⟩:=k3
  obtain ⟨pa',e1,rfl⟩:=z
  rw [g1] at e1;(replace e1:=si e1;subst e1)
  cases gv with
  | cons d1 gv=>
  cases gv with
  | cons d2 gv=>
  cases gv
  obtain ⟨ba',e2,rfl⟩:=d2
  rw [k1] at e2;(replace e2:=si e2;subst e2)
  have hl:=kv.length
  refine .inr ⟨_,_,_,_,_,_,rfl,hx p _ _ (by rw [hp];rintro ⟨⟩) (by rw [hp];rfl) g1 g2,zdR h1 d1,hx b _ _ (by rw [hb];rintro ⟨⟩) (by rw [hb];rfl) k1 k2,by omega,zhB h2 kv⟩
theorem znI {g g':P} {base:CF} (hb:CallOk c base) (hf:fnIn c.K (c.fv g)=true) (hf':fnIn c.K (c.fv g')=true):CallOk c (dsCF g g' base) where
  fn f args dp ids l st s k kx A vals Q E hi h ok hv hA hl hk hx:=by
    rcases bq_t (show bq (bq (peq f g) true (peq f g')) (arg2 args (dsA base f args [] dp st k kx)) (base f args [] dp st k kx)=true from h) with ⟨_,h⟩ | ⟨_,h⟩
    · cases args with
      | nil=>exact nb h
      | cons a xs=>
      cases xs with
      | nil=>exact nb h
      | cons b xs=>
      cases xs with
      | cons=>exact nb h
      | nil=>
      refine E1_2 (zak (show vRef a (λq=>dsD (dsQ base f [a,b] [] dp st k kx q) b)=true from h)) ?_;rintro q rfl h
      obtain ⟨d,h⟩:∃d,dsQ base f [.ref q,b] [] dp st k kx q d=true:=by
        cases b with
        | int i=>cases i with
          | ofNat d=>exact ⟨d,h⟩
          | negSucc=>exact nb h
        | ref=>exact ⟨0,h⟩
        | _=>exact nb h
      refine E1_2 (St.put_spec (St.sym_spec (show st.sym (fgP1 q (dsP base f [.ref q,b] [] dp st k kx d q st.n st.m))=true from h))) λt' h _=>?_
      refine E0_2 (zac (show bq (ok1 ⟨st.n,st.m,0,.ofNat 0,none⟩ ⟨t',st.n,st.m + 1,st.k⟩) (bq (base f [.ref q,b] [] dp st (kDs d q st.n st.m ⟨t',st.n,st.m + 1,st.k⟩) kx) (St.sym ⟨t',st.n,st.m + 1,st.k⟩ (dsN d k)) false) false=true from h)) λo1 h=>?_
      refine E0_2 (zac h) λh2 h3=>?_
      have h3:k (.nes (st.m + 1) d) ⟨t',st.n,st.m + 1 + 1,st.k⟩=true:=h3
      refine hb.fn f _ dp ids l st s _ kx A vals Q E hi h2 ok hv hA hl (λl' v st' u s' gg le' ok' dd=>?_) hx
      refine E0_2 (zac (show bq (zih d v st') (zbi q st.n st.m none st' (mt1 ⟨t',st.n,st.m + 1,st.k⟩ st')) false=true from gg)) λn1 gg=>?_
      refine E2_1 (zaA gg) λj cc hm=>?_
      obtain ⟨hx',ok2,le2,hp⟩:=ok'.rebase
      have hn:NestV hx' d u:=zif ok2 hp n1 (dd.le le2)
      have le3:=zcg (a:=⟨st.n,st.m,j,cc,none⟩) (le'.trans le2) ok.fre ok.frt
      have ok3:=zdI (a:=⟨st.n,st.m,j,cc,none⟩) ok2 hm o1
      refine E0_2 (ok3.symN u) λok4 le4=>?_
      exact hk _ _ _ u s' h3 (le3.trans le4) ok4 ⟨if_pos rfl,if_pos rfl,hn⟩
    · exact hb.fn _ _ _ _ _ _ _ _ _ _ _ _ _ hi h ok hv hA hl hk hx
  lam f args cs q gg a dp ids l st s k kx A vals Q E h ok hq hg ha hv hA hl hk hx:=by
    rcases bq_t (show bq (bq (peq f g) true (peq f g')) (arg2 args (dsA base f args cs dp st k kx)) (base f args cs dp st k kx)=true from h) with ⟨e,h⟩ | ⟨_,h⟩
    · refine E2_4 (ok.at_ hq (by rintro ⟨⟩)) ?_;rintro _ _ _ _ ⟨_,_,_,_,z,_⟩ _
      rcases bq_t e with ⟨e,_⟩ | ⟨_,e⟩
      · have e:=(zag _ _).mp e
        subst e;rw [hf] at z;exact nf z
      · have e:=(zag _ _).mp e
        subst e;rw [hf'] at z;exact nf z
    · exact hb.lam _ _ _ _ _ _ _ _ _ _ _ _ _ _ _ _ _ h ok hq hg ha hv hA hl hk hx
end
end Mine
end
section
open PySem PySem.W PyProof.Rows PySem.Calls
set_option maxRecDepth 100000
namespace Mine
section
variable {c:Cn} {p:Pg}
theorem ze3 (N:Nms c) (X:c.K.In c.h₀) {fs:T Fn} (hf:∀f F,fs.at f=some F->(∃o fd body dvals,FnAt c p f F o fd body dvals)\/∃e,LamAt c p f F e) {r:CF} (hr:CallOk c r):CallOk c (cfS p fs r) where
  fn f args dp ids l st s k kx A vals Q E hi h ok hv hA h0 hk hx:=by
    refine E0_2 (zac (show bq (Nat.blt dp 40) (tget f fs (cfF r p args [] dp st k kx)) false=true from h)) λh1 h2=>?_
    refine E1_2 (zap _ _ _ h2) λF h3 h4=>?_
    rcases hf f F h3 with ⟨o,fd,body,dvals,T⟩ | ⟨e,T⟩
    · exact zdU N X T hr h4 (by simpa [Nat.blt_eq] using h1) ok hv hA h0 hk hx
    · rw [T.nof] at hi;exact nb hi
  lam f args cs q g a dp ids l st s k kx A vals Q E h ok hq hg ha hv hA h0 hk hx:=by
    refine E0_2 (zac (show bq (Nat.blt dp 40) (tget f fs (cfF r p args cs dp st k kx)) false=true from h)) λh1 h2=>?_
    refine E1_2 (zap _ _ _ h2) λF h3 h4=>?_
    rcases hf f F h3 with ⟨o,fd,body,dvals,T⟩ | ⟨e,T⟩
    · refine E2_4 (ok.at_ hq (by rintro ⟨⟩)) ?_;rintro _ _ _ _ ⟨_,_,_,_,z,_⟩ _
      rw [T.isf] at z;exact nf z
    · exact zel N X T hr h4 (by simpa [Nat.blt_eq] using h1) ok hq hg ha hv hA h0 hk hx
end
end Mine
end
section
open PySem PySem.W PyProof.Rows PySem.Calls
set_option maxRecDepth 100000
namespace Mine
noncomputable section
noncomputable def orK (Ss:List So) (c:Cx) (st:St) (K:KF) (r:Bool):Bool:=List.rec r (λS _ ih=>bq (zex S c st) (K .next S.post) ih) Ss
noncomputable def ziC (Ss:List So) (K:KF) (i:P) (t:As) (b:Ex) (c:Cx) (rec:KRF) (st:St) (k:KF):Bool:=orK Ss c st K (zfR i t b c rec st k)
noncomputable def za7 (Ss:List So) (K:KF) (t:As) (b:Ex) (c:Cx) (i:P) (n:Nat):KRF:=Nat.rec (λ_ _=>false) (λ_ rec=>ziC Ss K i t b c rec) n
noncomputable def zho (Ss:List So) (t:As) (b ss:Ex) (c:Cx) (K:KF) (i:P) (st:St):Bool:=bq c.hd false (za7 Ss K t b (noC c) i 200 st (kSeq ss c K))
noncomputable def zhp (Ss:List So) (i0:P) (t:As) (b ss:Ex) (c:Cx) (K:KF) (i:P) (st:St):Bool:=bq (peq i0 i) (zho Ss t b ss c K i st) false
noncomputable def zki (Ss:List So) (i0:P) (t:As) (b ss:Ex) (c:Cx) (K:KF) (v:V) (st:St):Bool:=za1 v st (zhp Ss i0 t b ss c K)
noncomputable def zjl (Ss:List So) (i0:P) (t:As) (e:Ev) (b ss:Ex):Ex:=λc st K=>e c st (zki Ss i0 t b ss c K)
noncomputable def evF (p:Pg) (r:CF) (t:As) (b ss:Ex) (i0:P) (S:So):Bool:=bq (soOk S) (zce t b ⟨r,[],S.dp,noX,p,false,none⟩ i0 200 S.pre (kSeq ss ⟨r,[],S.dp,noX,p,false,none⟩ (kSo S))) false
end
theorem zgl {Ss:List So} {c:Cx} {st:St} {K:KF} {r:Bool} (h:orK Ss c st K r=true):(∃S∈Ss,zex S c st=true/\K .next S.post=true)\/r=true:=by
  induction Ss with
  | nil=>exact .inr h
  | cons S Ss ih=>
    rcases bq_t (show bq (zex S c st) (K .next S.post) (orK Ss c st K r)=true from h) with ⟨h1,h2⟩ | ⟨_,h2⟩
    · exact .inl ⟨S,.head _,h1,h2⟩
    · exact (ih h2).imp (λ⟨S',a,b⟩=>⟨S',.tail _ a,b⟩) id
section
variable {c:Cn} {p:Pg} {kd:PySem.Str->Option NameKind} {pos:Pos} {n:Nat} {atts:List Nat}
theorem zfQ {Ss:List So} {K:KF} {t:As} {b:Ex} {tx:Expr} {eb:List Stmt} (h1:SAs c p kd t tx) (h2:SExs c p kd b eb) {x:Cx} {ids:List P} {A:Around} {env:Env} {Q:Flow->Shared->Prop} {R:Result->Shared->Prop} {k:KF} {i:P} {a:Addr} (hf:A.handled=none)
    (hR:∀f s,Q f s->R (.ok f) s) {l₀:Vl} (hO:∀S∈Ss,∀l st s,l₀.Le l->Amb c p kd x ids l A env (notedBy (Md c) A env λe s'=>R (.error e) s')->zex S x st=true->K .next S.post=true->Ok c ids l st s->l.ρ i=some a->codeAny (Md c) A (.forLoop tx (.ref a) eb [] env) R s):∀(m:Nat) l st s,l₀.Le l->Amb c p kd x ids l A env (notedBy (Md c) A env λe s'=>R (.error e) s')->za7 Ss K t b x i m st k=true->Ok c ids l st s->l.ρ i=some a->PF c ids l k Q->
      codeAny (Md c) A (.forLoop tx (.ref a) eb [] env) R s
  | 0,l,st,s,hl0,am,h,ok,ha,hk=>by exact nb h
  | m + 1,l,st,s,hl0,am,h,ok,ha,hk=>by
    rcases zgl (show orK Ss x st K (zfR i t b x (za7 Ss K t b x i m) st k)=true from h) with ⟨S,hS,h1',h2'⟩ | h
    · exact hO S hS l st s hl0 am h1' h2' ok ha
    refine codeAny_of_tree ?_
    show wpAny (Md c) A ((forTurn tx (.ref a) eb [] env).onRaise (λx=>do noteFrame x env;theTreesLotGoes x)) _ _ s
    refine wpAny_noted ?_
    unfold forTurn
    refine wpAny_bind (wpAny_standAt (wpAny_bind (wpAny_onRaise (wpAny_mono (zdH (Q:=λr s1=>wpAny (Md c) A (match r with
      | none=>again (.block [] env)
      | some v=>do
        letOwnedTupleGo tx (.ref a) v
        assign tx env v
        match <- execs eb env with
        | .next | .cont=>again (.forLoop tx (.ref a) eb [] env)
        | .brk=>pure (.done .next)
        | .ret v=>pure (.done (.ret v))) (λfin s'=>match fin with
          | .done f=>R (.ok f) s'
          | .again c'=>c'.quiet=true/\codeAny (Md c) A c' R s') (notedBy (Md c) A env λe s'=>R (.error e) s') s1)
      (E:=notedBy (Md c) A env λe s'=>R (.error e) s')
      (show zby i st (kLop t b x (za7 Ss K t b x i m) k)=true from h) ha ok hf ⟨?_,?_⟩) (λr s1 h1=>h1) λ_ _ h'=>wpAny_standAt h'))))
    · intro st1 s1 g1 ok1
      exact wpAny_pure ⟨rfl,codeAny_block (wpAny_execs_nil (hR _ _ (hk _ .next _ _ _ g1 (.refl _) ok1 rfl)))⟩
    · intro v u st1 s1 g1 ok1 d1 I1
      refine wpAny_bind (zfl I1 (wpAny_bind ?_))
      refine h1 _ _ _ _ _ _ _ _ _ _ _ _ am (show t v x st1 (zit b x (za7 Ss K t b x i m) k)=true from g1) ok1 d1 ?_
      intro l2 st2 s2 g2 le2 ok2
      refine wpAny_bind (h2 _ _ _ _ _ _ _ _ _ _ (am.le le2) (show b x st2 (zfJ (za7 Ss K t b x i m) k)=true from g2) ok2 ?_)
      intro l3 fl st3 u3 s3 g3 le3 ok3 d3
      have le:=le2.trans le3
      have am2:=am.le le
      cases fl <;> simp only [DFl] at d3
      · subst d3;exact wpAny_pure ⟨rfl,zfQ h1 h2 hf hR hO m _ _ _ (hl0.trans le) am2 g3 ok3 (le.1 _ _ ha) (hk.le le)⟩
      · subst d3;exact wpAny_pure (hR _ _ (hk _ .next _ _ _ g3 le ok3 rfl))
      · subst d3;exact wpAny_pure ⟨rfl,zfQ h1 h2 hf hR hO m _ _ _ (hl0.trans le) am2 g3 ok3 (le.1 _ _ ha) (hk.le le)⟩
      · refine E1_2 d3 ?_;clear d3;rintro w rfl d3
        exact wpAny_pure (hR _ _ (hk _ (.ret _) _ _ _ g3 le ok3 ⟨w,rfl,d3⟩))
theorem zkH {Ss:List So} {i0:P} {r:CF} {t:As} {e:Ev} {b ss:Ex} {tx ex:Expr} {eb es:List Stmt} (h0:SEv c p kd e ex) (hs:zbF ex) (h1:SAs c p kd t tx) (h2:SExs c p kd b eb) (h3:SExs c p kd ss es) (hr:CallOk c r)
    (hE:∀S∈Ss,evF p r t b ss i0 S=true):SExs c p kd (zjl Ss i0 t e b ss) (.For tx ex eb [] pos::es):=by
  intro x ids l st s K A env Q E am h ok hK
  refine wpAny_execs_cons (wpAny_For (h0 _ _ _ _ _ _ _ _ _ _ am (show e x st (zki Ss i0 t b ss x K)=true from h) ok ?_) (hs env))
  intro l1 v st1 u s1 g1 le1 ok1 d1
  refine zb8 (show za1 v st1 (zhp Ss i0 t b ss x K)=true from g1) d1 ok1 ?_
  intro l2 i st2 a s2 g2 le2 ok2 ha
  have le:=le1.trans le2
  refine E0_2 (zac (show bq (peq i0 i) (zho Ss t b ss x K i st2) false=true from g2)) λe0 g2=>?_
  have e0:=(zag _ _).mp e0
  subst e0
  refine E0_2 (za2 (show bq x.hd false (za7 Ss K t b (noC x) i0 200 st2 (kSeq ss x K))=true from g2)) λhd0 g2=>?_
  refine zfQ (l₀:=l2) (K:=K) h1 h2 (am.free hd0) (Q:=λf s'=>match f with | .next=>wpAny (Md c) A (execs es env) Q E s' | f=>Q f s') (λ_ _ z=>z) ?_ 200 l2 st2 s2 (.refl _) ((am.le le).noC (am.free hd0)) g2 ok2 ha ?_
  · intro S hS l3 st3 s3 le3 am3 hp hK3 ok3 ha3
    refine E0_2 (zac (show bq (Nat.beq (noC x).dp S.dp) (bq (ziH (noC x).cs) (bq (noC x).hd false (bq (peq S.pre.n st3.n) (bq (Nat.beq S.pre.m (Nat.succ st3.m)) (zbi S.q st3.n st3.m none st3 (mt1 S.pre st3)) false) false)) false) false=true from hp)) λe1 hp=>?_
    refine E0_2 (zac hp) λe2 hp=>?_
    refine E0_2 (za2 hp) λe3 hp=>?_
    refine E0_2 (zac hp) λe4 hp=>?_
    refine E0_2 (zac hp) λe5 hp=>?_
    have e1:x.dp=S.dp:=Nat.eq_of_beq_eq_true e1
    have e4:=(zag _ _).mp e4
    have e5:=Nat.eq_of_beq_eq_true e5
    refine E2_1 (zaA hp) λj cc hm=>?_
    refine E0_2 (zac (hE S hS)) λo1 hE=>?_
    refine E0_2 (zac (show bq (Mine.ok1 ⟨S.pre.n,Nat.pred S.pre.m,0,.ofNat 0,none⟩ S.pre) (Mine.ok1 ⟨S.pre.n,S.pre.m,0,.ofNat 0,none⟩ S.post) false=true from o1)) λo1 o3=>?_
    have o1:Mine.ok1 ⟨st3.n,st3.m,j,cc,none⟩ S.pre=true:=by rw [e4,e5] at o1;exact o1
    have okp:=zdI ok3 hm o1
    have lec:=zcg (a:=⟨st3.n,st3.m,j,cc,none⟩) (Vl.Le.refl l3) ok3.fre ok3.frt
    have lea:=(le.trans le3).trans lec
    have am1:=am.le lea
    have hcs:x.cs=[]:=by
      cases hc:x.cs with
      | nil=>rfl
      | cons=>rw [show (noC x).cs=x.cs from rfl,hc] at e2;exact nb e2
    have en:=am1.env
    rw [hcs] at en
    have ro:=am1.room
    rw [e1] at ro
    have mk:∀E',Amb c p kd ⟨r,[],S.dp,noX,p,false,none⟩ ids _ A env E':=λE'=>⟨rfl,hr,ro,λ_=>am1.free hd0,nofun,nofun,en,zaT,am1.base⟩
    refine zgG h1 h2 (am.free hd0) (Q:=λf s'=>match f with | .next=>wpAny (Md c) A (execs es env) Q E s' | f=>Q f s') (λ_ _ z=>z) 200 _ S.pre s3 (mk _) hE okp (lec.1 _ _ ha3) ?_
    intro l4 fl st4 u4 s4 g4 le4 ok4 d4
    cases fl <;> simp only [DFl] at d4
    · subst d4
      refine h3 _ _ _ _ _ (kSo S) _ _ _ _ ((mk E).le le4) (show ss _ st4 (kSo S)=true from g4) ok4 ?_
      intro l5 fl st5 u5 s5 g5 le5 ok5 d5
      cases fl with
      | next=>
        refine E2_1 (zaA (show zbi S.q S.pre.n S.pre.m none st5 (mt1 S.post st5)=true from g5)) λj' c' hm'=>?_
        exact hK _ .next S.post u5 s5 hK3 (lea.trans (zcg (a:=⟨S.pre.n,S.pre.m,j',c',none⟩) (le4.trans le5) okp.fre okp.frt)) (zdI ok5 hm' o3) d5
      | _=>exact nb g5
    · exact nb g4
    · exact nb g4
    · exact nb g4
  · intro l4 fl st4 u4 s4 g4 le4 ok4 d4
    have le5:=le.trans le4
    cases fl <;> simp only [DFl] at d4
    · subst d4;exact h3 _ _ _ _ _ _ _ _ _ _ (am.le le5) g4 ok4 (hK.le le5)
    · subst d4;exact hK _ .brk _ _ _ g4 le5 ok4 rfl
    · subst d4;exact hK _ .cont _ _ _ g4 le5 ok4 rfl
    · refine E1_2 d4 ?_;clear d4;rintro w rfl d4;exact hK _ (.ret _) _ _ _ g4 le5 ok4 ⟨w,rfl,d4⟩
end
end Mine
end
section
open PySem PySem.W PyProof.Rows PySem.Calls
set_option maxRecDepth 100000
namespace Mine
noncomputable section
noncomputable abbrev Kd:=PySem.Str->Option NameKind
noncomputable abbrev bIf {α:Sort _} (b:Bool) (x y:α):α:=match b with | true=>x | false=>y
structure Nt where
  nm:Nat->PySem.Str
  ix:PySem.Str->Nat
  gx:PySem.Str->Option P
  att:List Nat
  dead:List Nat
structure CR where
  e:Kd->Expr->Ev
  t:Kd->Expr->Tst
  a:Kd->Expr->As
  s:Scope->Stmt->Ex
noncomputable def zhZ:Tst:=λ_ _ _=>false
noncomputable def zbu:As:=λ_ _ _ _=>false
noncomputable def esNo:Evs:=λ_ _ _=>false
noncomputable def chNo:Chn:=λ_ _ _ _=>false
noncomputable def cmNo:Cmp:=λ_ _ _ _ _=>false
noncomputable def zly:Ass:=λ_ _ _ _=>false
noncomputable def eqL (a:List Nat):List Nat->Bool:=List.rec (λb=>List.rec true (λ_ _ _=>false) b) (λx _ ih b=>List.rec false (λy s _=>bq (Nat.beq x y) (ih s) false) b) a
theorem zhz:∀{a b:List Nat},eqL a b=true->a=b
  | [],[],_=>rfl
  | [],_::_,h=>by exact nb h
  | _::_,[],h=>by exact nb h
  | x::r,y::s,h=>by
    have h:bq (Nat.beq x y) (eqL r s) false=true:=h
    cases e:Nat.beq x y with
    | false=>rw [e] at h;exact nb h
    | true=>rw [e] at h;rw [Nat.eq_of_beq_eq_true e,zhz h]
noncomputable def eqS (a b:PySem.Str):Bool:=eqL a.cps.toList b.cps.toList
theorem zhy {a b:PySem.Str} (h:eqS a b=true):a=b:=by
  have:=zhz h
  cases a with | mk x=>cases b with | mk y=>
  exact congrArg PySem.Str.mk (Array.ext' this)
noncomputable abbrev zaW (e:Expr):Bool:=match e with | .Starred _ _=>true | _=>false
noncomputable abbrev zku (e:Expr):Bool:=match e with | .Slice _ _ _ _=>true | _=>false
noncomputable abbrev isLc (e:Expr):Bool:=match e with | .ListComp _ _ _ _=>true | .SetComp _ _ _ _=>true | .DictComp _ _ _ _ _=>true | _=>false
noncomputable abbrev zgy (e:Expr):Bool:=match e with | .Set _ _ _=>true | _=>false
noncomputable abbrev zix (e:Expr):Bool:=match e with | .Call f _ _ _=>(match f with | .Name y _=>eqS y "super" | _=>false) | _=>false
noncomputable abbrev ziw (e:Expr):Bool:=match e with | .Tuple _ _ _=>true | .List _ _=>true | _=>false
theorem zfp {e:Expr} (h:zaW e=false):zdZ e:=by cases e <;> first | exact λ_ _=>rfl | exact nf h
theorem zcG {e:Expr} (h:zaW e=false):zcU e:=by cases e <;> first | exact λ_ _=>rfl | exact nf h
theorem zjS {e:Expr} (h:zku e=false):zeu e:=by cases e <;> first | exact λ_ _=>rfl | exact nf h
theorem zic {e:Expr} (h:isLc e=false):zga e:=by cases e <;> first | exact λ_ _ _=>rfl | exact nf h
theorem zfq {e:Expr} (h:zgy e=false):zbF e:=by cases e <;> first | exact λ_ _=>rfl | exact nf h
theorem zhh {e:Expr} (h:zix e=false):zbf e:=by
  cases e with
  | Call f args kw pos=>
    cases f with
    | Name y px=>
      intro attr env
      have hy:(y !="super")=true:=by
        rw [bne_iff_ne];rintro rfl
        have h:eqS "super" "super"=false:=h
        rw [show eqS "super" "super"=true from by kernel_rfl] at h
        exact nf h
      cases args <;> cases kw <;> first | rfl | skip
      unfold attributeBase
      simp only [hy,Bool.true_or]
      rfl
    | _=>exact λ_ _=>rfl
  | _=>exact λ_ _=>rfl
noncomputable def zb2 (es:List Expr):Bool:=List.rec true (λe _ ih=>bIf (zaW e) false ih) es
theorem zb1:∀{es:List Expr},zb2 es=true->NS es
  | [],_=>.nil
  | e::es,h=>by
    have h:bIf (zaW e) false (zb2 es)=true:=h
    cases g:zaW e with
    | true=>rw [g] at h;exact nb h
    | false=>rw [g] at h;exact .cons (zfp g) (zb1 h)
theorem zcq:∀{es:List Expr},zb2 es=true->NST es
  | [],_=>.nil
  | e::es,h=>by
    have h:bIf (zaW e) false (zb2 es)=true:=h
    cases g:zaW e with
    | true=>rw [g] at h;exact nb h
    | false=>rw [g] at h;exact .cons (zcG g) (zcq h)
noncomputable abbrev copI (o:CmpOp):Nat:=match o with | .Lt=>0 | .LtE=>1 | .Gt=>2 | .GtE=>3 | .Eq=>4 | .NotEq=>5 | .Is=>6 | .IsNot=>7 | .In=>8 | .NotIn=>9
theorem zfY (o:CmpOp):cop (copI o)=o:=by cases o <;> rfl
noncomputable abbrev bopI (o:Operator):Option Nat:=match o with | .Add=>some 0 | .Sub=>some 1 | .Mult=>some 2 | .FloorDiv=>some 3 | .Mod=>some 4 | .Pow=>some 5 | _=>none
theorem ziR {o:Operator} {i:Nat} (h:bopI o=some i):bop i=o:=by cases o <;> cases h <;> rfl
section
variable (T:Nt) (r:CR)
noncomputable def zgs (kd:Kd) (y:PySem.Str):Ev:=match kd y with
  | none=>xNo
  | some k=>match k with
    | .local=>bIf (eqS (T.nm (T.ix y)) y) (xLoc (T.ix y)) xNo
    | .cell=>bIf (eqS (T.nm (T.ix y)) y) (xCel (T.ix y)) xNo
    | .free=>bIf (eqS (T.nm (T.ix y)) y) (xCel (T.ix y)) xNo
    | .globalImplicit=>(match T.gx y with | none=>xNo | some g=>xGlo g)
    | _=>xNo
noncomputable def mCst (k:Const):Ev:=match k with
  | .none=>xCst .non
  | .bool b=>xCst (.boo b)
  | .int i=>xCst (.int i)
  | .str y=>bIf (eqS (T.nm (T.ix y)) y) (xCst (.str (T.ix y))) xNo
  | .bytes us=>xCst (.byt (List.rec [] (λu _ ih=>.n u.toNat::ih) us))
  | _=>xNo
noncomputable def mKs (ks:List (Option Expr)):Option (List Nat):=List.rec (some []) (λk _ ih=>match k with
  | none=>none
  | some e=>match e with
    | .Constant k _ _=>(match k with | .str y=>(match ih with | none=>none | some q=>bIf (eqS (T.nm (T.ix y)) y) (some (T.ix y::q)) none) | _=>none)
    | _=>none) ks
noncomputable def mPs (kd:Kd) (es:List Expr):Evs:=List.rec xNil (λe _ ih=>zaa (r.e kd e) ih) es
noncomputable def mEs (kd:Kd) (es:List Expr):Evs:=List.rec xNil (λe _ ih=>bIf (zaW e) esNo (zaa (r.e kd e) ih)) es
noncomputable def mOp (kd:Kd) (o:Option Expr):Opt:=match o with | none=>zbH | some e=>zbG (r.e kd e)
noncomputable def mCh (kd:Kd) (ops:List CmpOp):List Expr->Chn:=List.rec (λ_=>chNo) (λo os ih es=>match es with
  | []=>chNo
  | e::es'=>match os with
    | []=>(match es' with | []=>zad (copI o) (r.e kd e) | _::_=>chNo)
    | _::_=>zbD (copI o) (r.e kd e) (ih es')) ops
noncomputable def mBo (kd:Kd) (op:BoolOp) (es:List Expr):Ev:=List.rec xNo (λe es ih=>match es with
  | []=>r.e kd e
  | _::_=>match op with | .And=>xAnd (r.e kd e) ih | .Or=>xOr (r.e kd e) ih) es
noncomputable def mAll (kd:Kd) (op:BoolOp) (es:List Expr):Tst:=List.rec (match op with | .And=>tYes | .Or=>tNo) (λe _ ih=>match op with | .And=>tAnd (r.t kd e) ih | .Or=>tOr (r.t kd e) ih) es
noncomputable def mIfs (kd:Kd) (es:List Expr):Tst:=List.rec tYes (λe _ ih=>tAnd (r.t kd e) ih) es
noncomputable def mGen (kd:Kd) (elt:Expr) (gs:List Comprehension):Comprehension->Cmp:=List.rec (λg=>bIf (g.is_async==0) (xCm (r.a kd g.target) (mIfs r kd g.ifs) (zbm (r.e kd elt))) cmNo)
  (λg' _ ih g=>bIf (g.is_async==0&&g'.is_async==0&&!zgy g'.iter) (xCm (r.a kd g.target) (mIfs r kd g.ifs) (zhu (r.e kd g'.iter) (ih g'))) cmNo) gs
noncomputable def frees (sc:Scope):List Nat:=List.rec [] (λq _ ih=>match q.2 with | .free=>T.ix q.1::ih | _=>ih) sc.names
noncomputable def mLc (kd:Kd) (elt:Expr) (gens:List Comprehension) (sc:Scope):Ev:=match gens with
  | []=>xNo
  | g::rest=>bIf (g.is_async==0&&scB T.nm sc (frees T sc)&&!zgy g.iter) (xLcm (r.e kd g.iter) (mGen r (kdC kd sc) elt rest g) (frees T sc)) xNo
noncomputable def mE (kd:Kd) (ex:Expr):Ev:=match ex with
  | .Constant k _ _=>mCst T k
  | .Name y _=>zgs T kd y
  | .Tuple es _ _=>bIf (Nat.ble es.length sizeLine) (xTup (mEs r kd es)) xNo
  | .List es _=>bIf (Nat.ble es.length sizeLine) (xLst (mEs r kd es)) xNo
  | .Dict ks vs _=>(match ks with
    | _::_=>(match mKs T ks with | none=>xNo | some q=>bIf (Nat.beq vs.length q.length&&Nat.ble q.length 15&&Nat.blt 0 q.length) (xDct q (mPs r kd vs)) xNo)
    | []=>match vs with | []=>xDc0 | _::_=>xNo)
  | .Attribute e y _=>bIf (mem T.att (T.ix y)&&eqS (T.nm (T.ix y)) y&&!zix e) (xAtt (r.e kd e) (T.ix y)) xNo
  | .Subscript e i _=>(match i with
    | .Slice lo hi st _=>(match st with | none=>xSlc (r.e kd e) (mOp r kd lo) (mOp r kd hi) | some _=>xNo)
    | i=>bIf (zku i) xNo (xIdx (r.e kd e) (r.e kd i)))
  | .BinOp a o b _=>(match bopI o with | none=>xNo | some i=>xBin i (r.e kd a) (r.e kd b))
  | .UnaryOp o a _=>(match o with | .USub=>xNeg (r.e kd a) | .Not=>xNot (r.e kd a) | _=>xNo)
  | .Compare a ops rs _=>bIf (lastMarks ops rs) xNo (xCmp (r.e kd a) (mCh r kd ops rs))
  | .BoolOp op es _=>mBo r kd op es
  | .IfExp t a b _=>xIfe (r.t kd t) (r.e kd a) (r.e kd b)
  | .Call f args kw pos=>(match kw with
    | _::_=>xNo
    | []=>match f with
      | .Name y _=>bIf (zb2 args) (xCal (zgs T kd y) (mEs r kd args)) xNo
      | .Attribute o y ap=>bIf (eqS (T.nm (T.ix y)) y&&!zix o&&zb2 args&&Nat.blt args.length 30&&ap.endLine==pos.line) (xMca (r.e kd o) (T.ix y) (mEs r kd args)) xNo
      | _=>xNo)
  | .ListComp elt gens sc _=>mLc T r kd elt gens sc
  | _=>xNo
noncomputable def mT (kd:Kd) (ex:Expr):Tst:=match ex with
  | .UnaryOp o a p=>(match o with | .Not=>tNot (r.t kd a) | _=>zaQ (r.e kd ex))
  | .BoolOp op es _=>mAll r kd op es
  | .IfExp t a b _=>tIf (r.t kd t) (r.t kd a) (r.t kd b)
  | .Compare a ops rs _=>bIf (lastMarks ops rs) zhZ (tCmp (r.e kd a) (mCh r kd ops rs))
  | ex=>zaQ (r.e kd ex)
noncomputable def mAs (kd:Kd) (ts:List Expr):Ass:=List.rec aNil (λt _ ih=>bIf (zaW t) zly (zai (r.a kd t) ih)) ts
noncomputable def mA (kd:Kd) (ex:Expr):As:=match ex with
  | .Name y _=>(match kd y with
    | none=>zbu
    | some k=>match k with
      | .local=>bIf (eqS (T.nm (T.ix y)) y) (aLoc (T.ix y)) zbu
      | .cell=>bIf (eqS (T.nm (T.ix y)) y) (aCel (T.ix y)) zbu
      | _=>zbu)
  | .Attribute e y _=>bIf (mem T.att (T.ix y)&&eqS (T.nm (T.ix y)) y) (aAtt (r.e kd e) (T.ix y)) zbu
  | .Subscript e i _=>aIdx (r.e kd e) (r.e kd i)
  | .Tuple ts _ _=>bIf (zb2 ts) (aTup ts.length (mAs r kd ts)) zbu
  | _=>zbu
noncomputable def mSs (sc:Scope) (ss:List Stmt):Ex:=List.rec sNil (λs _ ih=>zab (r.s sc s) ih) ss
noncomputable def locN (kd:Kd) (line:Nat):Expr->Option PySem.Str:=λ | .Name id pos=>if kd id==some .local&&pos.line==line then some id else none | _=>none
noncomputable def zjb (vs:List Expr):Bool:=vs.any (λ | .Starred ..=>true | _=>false)
noncomputable def zde (kd:Kd) (ts:List Expr):List PySem.Str:=ts.filterMap (locN kd ((ts.head?.map (·.pos.line)).getD 0))
noncomputable def swS (kd:Kd) (ts vs:List Expr):Option (Option (List PySem.Str)):=
  if (!(ts.length==2||ts.length==3)||vs.length !=ts.length)=true then some none else
  if zjb vs=true then some none else
  if ((zde kd ts).length !=ts.length||(zde kd ts).eraseDups.length !=(zde kd ts).length)=true then some none else
  if vs.all (foldedForSure 8)=true then some none else if vs.all (constantsAlone 8)=true then none else some (some (zde kd ts))
theorem zgY {sc:Scope} (hk:sc.kind=.function) {ts vs:List Expr} {n m:Nat} {p1 p2:Pos} {q:Option (List PySem.Str)} (h:swS (kdOf sc) ts vs=some q):swappedStores [.Tuple ts n p1] (.Tuple vs m p2) (envC sc)=pure q:=by
  unfold swS at h
  have hb:((envC sc).blockKind !=.function)=false:=by rw [zbP (show (envC sc).scope.kind=.function from hk)];rfl
  have hl:(λe=>match e with | .Name id pos=>if (envC sc).kindOf id==some .local&&pos.line==(ts.head?.map (·.pos.line)).getD 0 then some id else none | _=>none)=locN (kdOf sc) ((ts.head?.map (·.pos.line)).getD 0):=by
    funext e;cases e <;> rfl
  unfold swappedStores
  simp only [hb,Bool.or_false]
  show (if (!(ts.length==2||ts.length==3)||vs.length !=ts.length)=true then pure none else if zjb vs=true then pure none else
    if ((zde (kdOf sc) ts).length !=ts.length||(zde (kdOf sc) ts).eraseDups.length !=(zde (kdOf sc) ts).length)=true then pure none else
    if vs.all (foldedForSure 8)=true then pure none else if vs.all (constantsAlone 8)=true then _ else pure (some (zde (kdOf sc) ts)))=_
  split
  · rename_i e;rw [if_pos e] at h;(replace h:=si h;subst h);rfl
  · rename_i e;rw [if_neg e] at h
    split
    · rename_i e;rw [if_pos e] at h;(replace h:=si h;subst h);rfl
    · rename_i e;rw [if_neg e] at h
      split
      · rename_i e;rw [if_pos e] at h;(replace h:=si h;subst h);rfl
      · rename_i e;rw [if_neg e] at h
        split
        · rename_i e;rw [if_pos e] at h;(replace h:=si h;subst h);rfl
        · rename_i e;rw [if_neg e] at h
          split
          · rename_i e;rw [if_pos e] at h;exact no h
          · rename_i e;rw [if_neg e] at h;(replace h:=si h;subst h);rfl
noncomputable def mNm (ks:List Nat):Ass:=List.rec aNil (λk _ ih=>zai (aLoc k) ih) ks
noncomputable def nmsB (kd:Kd) (names:List PySem.Str):Bool:=List.rec true (λy _ ih=>bIf (eqS (T.nm (T.ix y)) y&&kd y==some .local) ih false) names
noncomputable def mAsg (sc:Scope) (t v:Expr):Ex:=match t with
  | .Name y py=>(match v with
    | .ListComp elt gens sc' lpos=>(match kdOf sc y with
      | none=>sNo
      | some k=>match k with
        | .local=>bIf (eqS (T.nm (T.ix y)) y&&py.line==lpos.line&&!(sc'.names.any λz=>z.1==y&&(z.2==.local||z.2==.cell))) (sAsg (aLoc (T.ix y)) (mLc T r (kdOf sc) elt gens sc')) sNo
        | .cell=>sAsg (r.a (kdOf sc) t) (r.e (kdOf sc) v)
        | _=>sNo)
    | v=>bIf (isLc v) sNo (sAsg (r.a (kdOf sc) t) (r.e (kdOf sc) v)))
  | .Tuple txs _ _=>(match v with
    | .Tuple vs _ _=>(match swS (kdOf sc) txs vs with
      | none=>sNo
      | some q=>match q with
        | none=>sAsg (r.a (kdOf sc) t) (r.e (kdOf sc) v)
        | some names=>bIf (nmsB T (kdOf sc) names) (sSwp (names.map T.ix).length (mNm (names.map T.ix).reverse) (r.e (kdOf sc) v)) sNo)
    | v=>bIf (isLc v) sNo (sAsg (r.a (kdOf sc) t) (r.e (kdOf sc) v)))
  | t=>bIf (isLc v||zaW t||ziw t) sNo (sAsg (r.a (kdOf sc) t) (r.e (kdOf sc) v))
noncomputable def mS (sc:Scope) (s:Stmt):Ex:=match s with
  | .Expr e _=>bIf (isLc e) sNo (sExp (r.e (kdOf sc) e))
  | .Return v _=>(match v with | none=>sReN | some e=>sRet (r.e (kdOf sc) e))
  | .If t a b _=>sIf (r.t (kdOf sc) t) (mSs r sc a) (mSs r sc b)
  | .While t b els _=>(match els with | []=>sWhl (r.t (kdOf sc) t) (mSs r sc b) | _::_=>sNo)
  | .For t i b els _=>(match els with | []=>bIf (zgy i) sNo (sFor (r.a (kdOf sc) t) (r.e (kdOf sc) i) (mSs r sc b)) | _::_=>sNo)
  | .Raise e cs pos=>sNo
  | .Assign ts v _=>(match ts with | []=>sNo | t::us=>match us with | []=>mAsg T r sc t v | _::_=>sNo)
  | _=>sNo
end
noncomputable def mmp (T:Nt) (n:Nat):CR:=Nat.rec ⟨λ_ _=>xNo,λ_ _=>zhZ,λ_ _=>zbu,λ_ _=>sNo⟩ (λ_ r=>⟨mE T r,mT r,mA T r,mS T r⟩) n
section
variable {c:Cn} {p:Pg} {atts:List Nat} {mg mb:PySem.Str->Option Value}
structure TOk (c:Cn) (p:Pg) (mg mb:PySem.Str->Option Value) (T:Nt):Prop where
  nm:T.nm=c.nm
  gl:∀y g,T.gx y=some g->(y==("__debug__":PySem.Str))=false/\∃u,(mg y=some u\/(mg y=none/\mb y=some u))/\GIs c p g u
  hn:c.nm 0="append"/\c.nm 1="pop"/\c.nm 2="extend"
structure ROk (c:Cn) (p:Pg) (r:CR):Prop where
  e:∀kd ex,SEv c p kd (r.e kd ex) ex
  t:∀kd ex,STst c p kd (r.t kd ex) ex
  a:∀kd ex,SAs c p kd (r.a kd ex) ex
  s:∀sc s,sc.kind=.function->SEx c p (kdOf sc) (r.s sc s) s
theorem zaF {α:Sort _} {b:Bool} {x y:α} {R:α->Prop} (h1:b=true->R x) (h2:b=false->R y):R (bIf b x y):=by cases b;exact h2 rfl;exact h1 rfl
theorem zgV {kd:Kd} {ex:Expr}:STst c p kd zhZ ex:=λ_ _ _ _ _ _ _ _ _ _ _ h=>by exact nb h
theorem zbE {kd:Kd} {ex:Expr}:SAs c p kd zbu ex:=λ_ _ _ _ _ _ _ _ _ _ _ _ _ h=>by exact nb h
theorem znG {kd:Kd} {es:List Expr}:SEvs c p kd esNo es:=λ_ _ _ _ _ _ _ _ _ _ _ _ h=>by exact nb h
theorem ziK {kd:Kd} {ops:List CmpOp} {es:List Expr}:SCh c p kd chNo ops es:=λ_ _ _ _ _ _ _ _ _ _ _ _ _ _ h=>by exact nb h
theorem zk3 {kd:Kd} {elt:Expr} {gens:List Comprehension} {sc:Scope} {pos:Pos} {d:Nat}:SCm c p kd cmNo elt gens sc pos d:=λ_ _ _ _ _ _ _ _ _ _ _ _ _ _ _ _ _ h=>by exact nb h
theorem zlx {kd:Kd} {es:List Expr}:SAss c p kd zly es:=λ_ _ _ _ _ _ _ _ _ _ _ _ _ h=>by exact nb h
variable {T:Nt} {r:CR} (H:All c p atts mg mb) (G:TOk c p mg mb T) (R:ROk c p r) (ha:T.att=atts)
include G in
theorem nmE {y:PySem.Str} (h:eqS (T.nm (T.ix y)) y=true):c.nm (T.ix y)=y:=G.nm▸zhy h
include H G in
theorem zei (kd:Kd) (y:PySem.Str) (pos:Pos):SEv c p kd (zgs T kd y) (.Name y pos):=by
  unfold zgs
  split
  · exact s_no
  · rename_i k e
    cases k with
    | «local»=>exact zaF (R:=λx=>SEv c p kd x (.Name y pos)) (λh=>zLoc H _ (nmE G h) e) (λ_=>s_no)
    | cell=>exact zaF (R:=λx=>SEv c p kd x (.Name y pos)) (λh=>zCel H _ (nmE G h) (.inl e)) (λ_=>s_no)
    | free=>exact zaF (R:=λx=>SEv c p kd x (.Name y pos)) (λh=>zCel H _ (nmE G h) (.inr e)) (λ_=>s_no)
    | globalExplicit=>exact s_no
    | globalImplicit=>
      show SEv c p kd (match T.gx y with | none=>xNo | some g=>xGlo g) _
      split
      · exact s_no
      · rename_i g q
        obtain ⟨h1,u,h2,h3⟩:=G.gl _ _ q
        exact zGlo H g e h1 h2 h3
include G in
theorem zik (kd:Kd) (k:Const) (n:Nat) (pos:Pos):SEv c p kd (mCst T k) (.Constant k n pos):=by
  cases k with
  | none=>exact zeB rfl
  | bool b=>exact zeB rfl
  | int i=>exact zeB rfl
  | bytes us=>
    refine zl8 ?_
    induction us with
    | nil=>exact .nil
    | cons u us ih=>exact .cons ⟨_,rfl,rfl⟩ ih
  | str y=>exact zaF (R:=λx=>SEv c p kd x (.Constant (.str y) n pos)) (λh=>zeB (v:=.str (T.ix y)) (k:=.str y) (by show some (Const.str (c.nm (T.ix y)))=_;rw [nmE G h])) (λ_=>s_no)
  | _=>exact s_no
include G in
theorem zfy:∀{ks:List (Option Expr)} {q:List Nat},mKs T ks=some q->DKeys c q ks
  | [],_,h=>by (replace h:=si h;subst h);exact .nil
  | none::_,_,h=>by exact no h
  | some e::r,q,h=>by
    cases e with
    | Constant k n pos=>
      cases k with
      | str y=>
        have h:(match mKs T r with | none=>none | some q=>bIf (eqS (T.nm (T.ix y)) y) (some (T.ix y::q)) none)=some q:=h
        cases e:mKs T r with
        | none=>rw [e] at h;exact no h
        | some q'=>
          rw [e] at h
          have h:bIf (eqS (T.nm (T.ix y)) y) (some (T.ix y::q')) none=some q:=h
          cases f:eqS (T.nm (T.ix y)) y with
          | false=>rw [f] at h;exact no h
          | true=>rw [f] at h;(replace h:=si h;subst h);exact zi0 (nmE G f) (zfy e)
      | _=>exact no h
    | _=>exact no h
include R in
theorem zjX (kd:Kd) (pos:Pos) {q:List Nat} {ks:List (Option Expr)} (h:DKeys c q ks):∀{es:List Expr},es.length=q.length->SPrs c p kd pos (mPs r kd es) q ks es:=by
  induction h with
  | nil=>intro es e;cases es with | nil=>exact zmi | cons _ _=>cases e
  | cons h ih=>intro es e;cases es with | nil=>cases e | cons x es=>exact zjv (R.e _ _) (ih (Nat.succ.inj e))
include R in
theorem zdd (kd:Kd):∀es,SEvs c p kd (mEs r kd es) es
  | []=>zh5
  | e::es=>zaF (R:=λx=>SEvs c p kd x (e::es)) (λ_=>znG) (λh=>zfc (zfp h) (R.e _ _) (zdd kd es))
include R in
theorem zhi (kd:Kd):∀o,SOp c p kd (mOp r kd o) o
  | none=>zjR
  | some e=>zjQ (R.e _ _)
include H R in
theorem zfA (kd:Kd):∀ops es,SCh c p kd (mCh r kd ops es) ops es
  | [],es=>ziK
  | o::os,[]=>ziK
  | [o],[e]=>zlE H _ (zfY o) (R.e _ _)
  | [o],e::e'::es=>ziK
  | o::o'::os,e::es=>zlD H _ (zfY o) (R.e _ _) (zfA kd (o'::os) es)
include R in
theorem zfB (kd:Kd) (op:BoolOp):∀e es,SBo c p kd op (mBo r kd op (e::es)) (e::es)
  | e,[]=>znU (R.e _ _)
  | e,e'::es=>by
    cases op with
    | And=>exact znV (R.e _ _) (zfB kd .And e' es)
    | Or=>exact b_or (R.e _ _) (zfB kd .Or e' es)
include R in
theorem zdK (kd:Kd) (op:BoolOp):∀es,SAll c p kd op (mAll r kd op es) es
  | []=>by cases op;exact zlL;exact t_no
  | e::es=>by
    cases op with
    | And=>exact zlN (R.t _ _) (zdK kd .And es)
    | Or=>exact t_or (R.t _ _) (zdK kd .Or es)
include R in
theorem zdJ (kd:Kd):∀es,SIfs c p kd (mIfs r kd es) es
  | []=>ziz
  | e::es=>zgA (R.t _ _) (zdJ kd es)
theorem zcb {g:Comprehension} (h:g.is_async=0):g=⟨g.target,g.iter,g.ifs,0⟩:=by cases g;cases h;rfl
include R in
theorem zfz (kd:Kd) (elt:Expr) (sc:Scope) (pos:Pos):∀(rest pre:List Comprehension) (g:Comprehension),SCm c p kd (mGen r kd elt rest g) elt (pre++g::rest) sc pos pre.length
  | [],pre,g=>zaF (R:=λx=>SCm c p kd x elt (pre++[g]) sc pos pre.length) (λh=>s_cm (target:=g.target) (iter:=g.iter) (by rw [List.getElem?_append_right (Nat.le_refl _),Nat.sub_self,List.getElem?_cons_zero,<- zcb (eq_of_beq h)]) (λg' e=>by simp at e) (R.a _ _) (zdJ R kd g.ifs) (znx (R.e _ _) (by simp))) (λ_=>zk3)
  | g'::rest,pre,g=>zaF (R:=λx=>SCm c p kd x elt (pre++g::g'::rest) sc pos pre.length) (λh=>by
      rw [Bool.and_eq_true,Bool.and_eq_true,Bool.not_eq_true',beq_iff_eq,beq_iff_eq] at h
      refine E0_2 h ?_;clear h;rintro ⟨h1,h2⟩ h3
      have q:(pre++g::g'::rest)[pre.length + 1]? =some g':=by rw [List.getElem?_append_right (Nat.le_add_right _ _),Nat.add_sub_cancel_left];rfl
      have w:=zfz kd elt sc pos rest (pre++[g]) g'
      rw [List.append_assoc,List.length_append] at w
      exact s_cm (target:=g.target) (iter:=g.iter) (by rw [List.getElem?_append_right (Nat.le_refl _),Nat.sub_self,List.getElem?_cons_zero,<- zcb h1]) (λg'' e=>by rw [q] at e;(replace e:=si e;subst e);exact h2) (R.a _ _) (zdJ R kd g.ifs)
        (zkC (target:=g'.target) (ifs:=g'.ifs) (R.e _ _) (zfq h3) (by rw [q,<- zcb h2]) w)) (λ_=>zk3)
include R G in
theorem zhk {kd:Kd} {elt:Expr} {gens:List Comprehension} {sc:Scope} {X:Ev->Prop} (h0:X xNo) (h1:∀it cm target iter ifs rest fr,gens=⟨target,iter,ifs,0⟩::rest->scB c.nm sc fr=true->SEv c p kd it iter->zbF iter->(∀pos,SCm c p (kdC kd sc) cm elt (⟨target,iter,ifs,0⟩::rest) sc pos 0)->X (xLcm it cm fr)):X (mLc T r kd elt gens sc):=by
  cases gens with
  | nil=>exact h0
  | cons g rest=>
    refine zaF (R:=X) (λh=>?_) (λ_=>h0)
    rw [Bool.and_eq_true,Bool.and_eq_true,Bool.not_eq_true',beq_iff_eq] at h
    refine E0_2 h ?_;clear h;rintro ⟨q1,q2⟩ q3
    refine h1 _ _ g.target g.iter g.ifs rest _ (by rw [<- zcb q1]) (G.nm▸q2) (R.e _ _) (zfq q3) (λpos=>?_)
    rw [<- zcb q1]
    exact zfz R _ elt sc pos rest [] g
include H G R ha in
theorem zne (kd:Kd) (ex:Expr):SEv c p kd (mE T r kd ex) ex:=by
  cases ex with
  | Constant k n pos=>exact zik G kd k n pos
  | Name y pos=>exact zei H G kd y pos
  | Tuple es n pos=>exact zaF (R:=λx=>SEv c p kd x (.Tuple es n pos)) (λh=>zlU (zdd R kd es) (leB h)) (λ_=>s_no)
  | List es pos=>exact zaF (R:=λx=>SEv c p kd x (.List es pos)) (λh=>zlZ (zdd R kd es) (leB h)) (λ_=>s_no)
  | Dict ks vs pos=>
    cases ks with
    | cons k ks=>
      show SEv c p kd (match mKs T (k::ks) with | none=>xNo | some q=>bIf (Nat.beq vs.length q.length&&Nat.ble q.length 15&&Nat.blt 0 q.length) (xDct q (mPs r kd vs)) xNo) _
      split
      · exact s_no
      · rename_i q e
        refine zaF (R:=λx=>SEv c p kd x (.Dict (k::ks) vs pos)) (λh=>?_) (λ_=>s_no)
        rw [Bool.and_eq_true,Bool.and_eq_true] at h
        have hl:=Nat.eq_of_beq_eq_true h.1.1
        exact zDct H (zfy G e) hl (λe=>by rw [e] at h;cases h.2) (leB h.1.2) (zjX R kd pos (zfy G e) hl)
    | nil=>cases vs with | nil=>exact zl4 | cons _ _=>exact s_no
  | Attribute e y pos=>
    refine zaF (R:=λx=>SEv c p kd x (.Attribute e y pos)) (λh=>?_) (λ_=>s_no)
    rw [Bool.and_eq_true,Bool.and_eq_true,Bool.not_eq_true'] at h
    exact zAtt H _ (nmE G h.1.2) (memB (ha▸h.1.1)) (R.e _ _) (zhh h.2)
  | Subscript e i pos=>
    cases i with
    | Slice lo hi st sp=>cases st with | none=>exact zlV (R.e _ _) (zhi R kd lo) (zhi R kd hi) | some _=>exact s_no
    | _=>exact zIdx H (R.e _ _) (R.e _ _) (zjS rfl)
  | BinOp a o b pos=>
    show SEv c p kd (match bopI o with | none=>xNo | some i=>xBin i (r.e kd a) (r.e kd b)) _
    split
    · exact s_no
    · rename_i i e;exact zBin i (ziR e) (R.e _ _) (R.e _ _)
  | UnaryOp o a pos=>cases o <;> first | exact zlX (R.e _ _) | exact zlW (R.e _ _) | exact s_no
  | Compare a ops rs pos=>exact zaF (R:=λx=>SEv c p kd x (.Compare a ops rs pos)) (λ_=>s_no) (λh=>zl5 (R.e _ _) (zfA H R kd ops rs) h)
  | BoolOp op es pos=>cases es with | nil=>exact s_no | cons e es=>exact zjk (zfB R kd op e es)
  | IfExp t a b pos=>exact zjj (R.t _ _) (R.e _ _) (R.e _ _)
  | Call f args kw pos=>
    cases kw with
    | cons _ _=>exact s_no
    | nil=>
      cases f with
      | Name y px=>exact zaF (R:=λx=>SEv c p kd x (.Call (.Name y px) args [] pos)) (λh=>zCal H (zei H G kd y px) (zb1 h) (zdd R kd args)) (λ_=>s_no)
      | Attribute o y ap=>
        refine zaF (R:=λx=>SEv c p kd x (.Call (.Attribute o y ap) args [] pos)) (λh=>?_) (λ_=>s_no)
        simp only [Bool.and_eq_true,Bool.not_eq_true'] at h
        refine E0_2 h ?_;clear h;rintro ⟨⟨⟨h1,h2⟩,h3⟩,h4⟩ h5
        exact zMca H G.hn _ (nmE G h1) (R.e _ _) (zhh h2) (zb1 h3) (zdd R kd args) (ltB h4) h5
      | _=>exact s_no
  | ListComp elt gens sc pos=>exact zhk G R (X:=λx=>SEv c p kd x (.ListComp elt gens sc pos)) s_no (λit cm target iter ifs rest fr e h2 h3 h4 h5=>by subst e;exact zl0 (zg2 h2) h3 h4 (h5 _))
  | _=>exact s_no
include H R in
theorem znc (kd:Kd) (ex:Expr):STst c p kd (mT r kd ex) ex:=by
  cases ex with
  | UnaryOp o a pos=>cases o <;> first | exact zlM (R.t _ _) | exact zeY (λ_ _=>rfl) (R.e _ _)
  | BoolOp op es pos=>exact zi6 (zdK R kd op es)
  | IfExp t a b pos=>exact t_if (R.t _ _) (R.t _ _) (R.t _ _)
  | Compare a ops rs pos=>exact zaF (R:=λx=>STst c p kd x (.Compare a ops rs pos)) (λ_=>zgV) (λh=>zi5 (R.e _ _) (zfA H R kd ops rs) h)
  | _=>exact zeY (λ_ _=>rfl) (R.e _ _)
include R in
theorem zhl (kd:Kd):∀ts,SAss c p kd (mAs r kd ts) ts
  | []=>zlz
  | t::ts=>zaF (R:=λx=>SAss c p kd x (t::ts)) (λ_=>zlx) (λh=>ziX (zcG h) (R.a _ _) (zhl kd ts))
include H G R ha in
theorem znf (kd:Kd) (ex:Expr):SAs c p kd (mA T r kd ex) ex:=by
  cases ex with
  | Name y pos=>
    show SAs c p kd (match kd y with | none=>zbu | some k=>match k with | .local=>bIf (eqS (T.nm (T.ix y)) y) (aLoc (T.ix y)) zbu | .cell=>bIf (eqS (T.nm (T.ix y)) y) (aCel (T.ix y)) zbu | _=>zbu) _
    split
    · exact zbE
    · rename_i k e
      cases k with
      | «local»=>exact zaF (R:=λx=>SAs c p kd x (.Name y pos)) (λh=>zlF H _ (nmE G h) e) (λ_=>zbE)
      | cell=>exact zaF (R:=λx=>SAs c p kd x (.Name y pos)) (λh=>zlH _ (nmE G h) e) (λ_=>zbE)
      | _=>exact zbE
  | Attribute e y pos=>
    refine zaF (R:=λx=>SAs c p kd x (.Attribute e y pos)) (λh=>?_) (λ_=>zbE)
    rw [Bool.and_eq_true] at h
    exact zlI H _ (nmE G h.2) (memB (ha▸h.1)) (R.e _ _)
  | Subscript e i pos=>exact zlG H (R.e _ _) (R.e _ _)
  | Tuple ts n pos=>exact zaF (R:=λx=>SAs c p kd x (.Tuple ts n pos)) (λh=>znX (q:=0) (zcq h) rfl (zhl R kd ts)) (λ_=>zbE)
  | _=>exact zbE
theorem zfr {kd:Kd}:∀{names:List PySem.Str},nmsB T kd names=true->∀y∈names,eqS (T.nm (T.ix y)) y=true/\kd y=some .local
  | [],_,_,h=>by cases h
  | y::ys,h,z,hz=>by
    have h:bIf (eqS (T.nm (T.ix y)) y&&kd y==some .local) (nmsB T kd ys) false=true:=h
    cases e:(eqS (T.nm (T.ix y)) y&&kd y==some .local) with
    | false=>rw [e] at h;exact nb h
    | true=>
      rw [e] at h
      rw [Bool.and_eq_true,beq_iff_eq] at e
      rcases List.mem_cons.mp hz with rfl | hz
      · exact e
      · exact zfr h z hz
include H in
theorem zhj {kd:Kd}:∀(ks:List Nat),(∀k∈ks,kd (c.nm k)=some .local)->SNms c p kd (mNm ks) ks
  | [],_=>zna
  | k::ks,h=>ziZ H k (h k (.head _)) (zhj ks λq hq=>h q (.tail _ hq))
theorem zh1 {t v:Expr} {env:Env} (ht:ziw t=false):swappedStores [t] v env=pure none:=by cases t <;> first | rfl | exact nf ht
include H G R ha in
theorem zil {sc:Scope} (hk:sc.kind=.function) (t v:Expr) (pos:Pos):SEx c p (kdOf sc) (mAsg T r sc t v) (.Assign [t] v pos):=by
  have gen:∀{t v:Expr},(isLc v||zaW t||ziw t)=false->SEx c p (kdOf sc) (sAsg (r.a (kdOf sc) t) (r.e (kdOf sc) v)) (.Assign [t] v pos):=λ {t v} h=>by
    rw [Bool.or_eq_false_iff,Bool.or_eq_false_iff] at h
    exact ziF (R.e _ _) (R.a _ _) (zic h.1.1) (λenv=>zcG h.1.2 [] env) (λenv _ _=>zh1 h.2)
  cases t with
  | Name y py=>
    cases v with
    | ListComp elt gens sc' lpos=>
      show SEx c p (kdOf sc) (match kdOf sc y with | none=>sNo | some k=>match k with
        | .local=>bIf (eqS (T.nm (T.ix y)) y&&py.line==lpos.line&&!(sc'.names.any λz=>z.1==y&&(z.2==.local||z.2==.cell))) (sAsg (aLoc (T.ix y)) (mLc T r (kdOf sc) elt gens sc')) sNo
        | .cell=>sAsg (r.a (kdOf sc) (.Name y py)) (r.e (kdOf sc) (.ListComp elt gens sc' lpos)) | _=>sNo) _
      split
      · exact f_no
      · rename_i k e
        cases k with
        | «local»=>
          refine zaF (R:=λx=>SEx c p (kdOf sc) x (.Assign [.Name y py] (.ListComp elt gens sc' lpos) pos)) (λh=>?_) (λ_=>f_no)
          rw [Bool.and_eq_true,Bool.and_eq_true,Bool.not_eq_true'] at h
          refine zhk G R (X:=λx=>SEx c p (kdOf sc) (sAsg (aLoc (T.ix y)) x) (.Assign [.Name y py] (.ListComp elt gens sc' lpos) pos)) ?_ (λit cm target iter ifs rest fr e' h2 h3 h4 h5=>by subst e';exact zi1 H _ (nmE G h.1.1) h2 h3 h4 (h5 _) e h.1.2 h.2)
          intro _ _ _ _ _ _ _ _ _ _ _ h;exact nb h
        | cell=>exact zhV (R.e _ _) (R.a _ _) e
        | _=>exact f_no
    | _=>first | exact gen rfl | exact f_no
  | Tuple txs n p1=>
    cases v with
    | Tuple vs m p2=>
      show SEx c p (kdOf sc) (match swS (kdOf sc) txs vs with | none=>sNo | some q=>match q with
        | none=>sAsg (r.a (kdOf sc) (.Tuple txs n p1)) (r.e (kdOf sc) (.Tuple vs m p2))
        | some names=>bIf (nmsB T (kdOf sc) names) (sSwp (names.map T.ix).length (mNm (names.map T.ix).reverse) (r.e (kdOf sc) (.Tuple vs m p2))) sNo) _
      split
      · exact f_no
      · rename_i q e
        cases q with
        | none=>exact zTup (R.e _ _) (R.a _ _) hk (zgY hk e)
        | some names=>
          refine zaF (R:=λx=>SEx c p (kdOf sc) x (.Assign [.Tuple txs n p1] (.Tuple vs m p2) pos)) (λh=>?_) (λ_=>f_no)
          have hh:=zfr h
          refine zSwp (names.map T.ix) (R.e _ _) (zhj H _ λk hk=>?_) rfl hk ?_
          · refine E1_2 (List.mem_map.mp (List.mem_reverse.mp hk)) ?_;rintro y hy rfl
            rw [nmE G (hh y hy).1];exact (hh y hy).2
          · rw [zgY hk e,List.map_map]
            congr 2
            exact (List.map_id names).symm.trans (List.map_congr_left λy hy=>(nmE G (hh y hy).1).symm)
    | _=>first | exact ziF (R.e _ _) (R.a _ _) (zic rfl) (λenv=>rfl) (λenv _ _=>rfl) | exact f_no
  | _=>exact zaF (R:=λx=>SEx c p (kdOf sc) x (.Assign [_] v pos)) (λ_=>f_no) (λh=>gen h)
include R in
theorem zct {sc:Scope} (hk:sc.kind=.function):∀ss,SExs c p (kdOf sc) (mSs r sc ss) ss
  | []=>zgH
  | s::ss=>zcf (R.s _ _ hk) (zct hk ss)
include H G R ha in
theorem znd {sc:Scope} (hk:sc.kind=.function) (s:Stmt):SEx c p (kdOf sc) (mS T r sc s) s:=by
  cases s with
  | Expr e pos=>exact zaF (R:=λx=>SEx c p (kdOf sc) x (.Expr e pos)) (λ_=>f_no) (λh=>zExp (R.e _ _) (zic h))
  | Return v pos=>cases v with | none=>exact znD | some e=>exact znC (R.e _ _)
  | If t a b pos=>exact f_if (R.t _ _) (zct R hk a) (zct R hk b)
  | While t b els pos=>cases els with | nil=>exact znA (R.t _ _) (zct R hk b) | cons _ _=>exact f_no
  | For t i b els pos=>cases els with | nil=>exact zaF (R:=λx=>SEx c p (kdOf sc) x (.For t i b [] pos)) (λ_=>f_no) (λh=>zkI (R.e _ _) (zfq h) (R.a _ _) (zct R hk b)) | cons _ _=>exact f_no
  | Raise e cs pos=>exact f_no
  | Assign ts v pos=>cases ts with | nil=>exact f_no | cons t us=>cases us with | nil=>exact zil H G R ha hk t v pos | cons _ _=>exact f_no
  | _=>exact f_no
include H G ha in
theorem zdb:∀n,ROk c p (mmp T n)
  | 0=>⟨λ_ _=>s_no,λ_ _=>zgV,λ_ _=>zbE,λ_ _ _=>f_no⟩
  | n + 1=>have R:=zdb n;⟨zne H G R ha,znc H R,znf H G R ha,λsc s hk=>znd H G R ha hk s⟩
include H G ha in
theorem zhF {sc:Scope} {body:List Stmt} {e:Ex} (hk:sc.kind=.function) (h:mSs (mmp T 30) sc body=e):SExs c p (kdOf sc) e body:=h▸zct (zdb H G ha 30) hk body
include H G ha in
theorem zkL {kd:Kd} {ex:Expr} {e:Ev} (h:(mmp T 30).e kd ex=e):SEv c p kd e ex:=h▸(zdb H G ha 30).e kd ex
include H G ha in
theorem zja {sc:Scope} {s:Stmt} {e:Ex} (hk:sc.kind=.function) (h:(mmp T 30).s sc s=e):SEx c p (kdOf sc) e s:=h▸(zdb H G ha 30).s sc s hk
end
noncomputable def skey (y:PySem.Str):Nat:=List.rec 1 (λc _ ih=>ih * 256 + c) y.cps.toList
noncomputable def znj (k:Nat) (L:List PySem.Str):Nat->Nat:=List.rec (λ_=>0) (λa _ ih i=>bIf (Nat.beq (skey a) k) i (ih (Nat.succ i))) L
noncomputable def ziB (k:Nat) (L:List (PySem.Str×P)):Option (PySem.Str×P):=List.rec none (λa _ ih=>bIf (Nat.beq (skey a.1) k) (some a) ih) L
theorem zdl {k:Nat}:∀{L:List (PySem.Str×P)} {a:PySem.Str×P},ziB k L=some a->a∈L
  | [],_,h=>by exact no h
  | x::r,a,h=>by
    have h:bIf (Nat.beq (skey x.1) k) (some x) (ziB k r)=some a:=h
    cases e:Nat.beq (skey x.1) k with
    | true=>rw [e] at h;(replace h:=si h;subst h);exact .head _
    | false=>rw [e] at h;exact .tail _ (zdl h)
noncomputable def gxOf (L:List (PySem.Str×P)) (y:PySem.Str):Option P:=match ziB (skey y) L with | none=>none | some q=>bIf (eqS q.1 y) (some q.2) none
theorem zbe {L:List (PySem.Str×P)} {y:PySem.Str} {g:P} (h:gxOf L y=some g):(y,g)∈L:=by
  unfold gxOf at h
  split at h
  · exact no h
  · rename_i q e
    cases f:eqS q.1 y with
    | false=>rw [f] at h;exact no h
    | true=>
      rw [f] at h;(replace h:=si h;subst h)
      have:=zhy f
      subst this
      exact zdl e
noncomputable def nmOf (L:List PySem.Str) (k:Nat):PySem.Str:=L.getD k ⟨(List.replicate (k + 100) 1).toArray⟩
noncomputable def lenB (L:List PySem.Str):Bool:=L.all λs=>Nat.blt s.cps.toList.length 100&&!eqS s "__debug__"&&!eqS s "__classdict__"
structure NmOk (L:List PySem.Str):Prop where
  inj:∀a b,nmOf L a=nmOf L b->a=b
  dbg:∀k,(nmOf L k==("__debug__":PySem.Str))=false
  cld:∀k,(nmOf L k==("__classdict__":PySem.Str))=false
theorem zdG {L:List PySem.Str} {k:Nat} (h:k < L.length):L[k]? =some (nmOf L k):=by
  unfold nmOf;rw [List.getD_eq_getElem?_getD,List.getElem?_eq_getElem h];rfl
theorem zbc {L:List PySem.Str} {k:Nat} (h:¬ k < L.length):(nmOf L k).cps.toList.length=k + 100:=by
  unfold nmOf;rw [List.getD_eq_getElem?_getD,List.getElem?_eq_none (Nat.not_lt.mp h)];simp
theorem zcP (a:PySem.Str):eqS a a=true:=by
  unfold eqS
  induction a.cps.toList with
  | nil=>rfl
  | cons x r ih=>show bq (Nat.beq x x) (eqL r r) false=true;rw [Nat.beq_refl];exact ih
theorem zm7 {L:List PySem.Str} (h1:(L.map skey).Nodup) (h2:lenB L=true):NmOk L:=by
  have sh:∀k,k < L.length->(nmOf L k).cps.toList.length < 100/\nmOf L k≠"__debug__"/\nmOf L k≠"__classdict__":=λk hk=>by
    have:=List.all_eq_true.mp h2 _ (List.mem_of_getElem? (zdG hk))
    simp only [Bool.and_eq_true,Bool.not_eq_true'] at this
    refine ⟨Nat.blt_eq.mp this.1.1,λe=>?_,λe=>?_⟩
    · rw [e,zcP] at this;cases this.1.2
    · rw [e,zcP] at this;cases this.2
  have no:∀(k:Nat) (s:PySem.Str),s.cps.toList.length < 100->(∀k,k < L.length->nmOf L k≠s)->(nmOf L k==s)=false:=λk s hs hn=>by
    rw [beq_eq_false_iff_ne]
    by_cases hk:k < L.length
    · exact hn k hk
    · intro e
      have:=zbc hk
      rw [e] at this;omega
  refine ⟨λa b e=>?_,λk=>no k _ (by decide +kernel) (λk hk=>(sh k hk).2.1),λk=>no k _ (by decide +kernel) (λk hk=>(sh k hk).2.2)⟩
  by_cases ha:a < L.length <;> by_cases hb:b < L.length
  · refine (List.getElem?_inj (l:=L.map skey) (by simpa using ha) h1).mp ?_
    rw [List.getElem?_map,List.getElem?_map,zdG ha,zdG hb,e]
  · have h3:=(sh a ha).1;have h4:=zbc hb
    rw [<- e] at h4;omega
  · have h3:=(sh b hb).1;have h4:=zbc ha
    rw [e] at h4;omega
  · have h3:=zbc ha;have h4:=zbc hb
    rw [e] at h3;omega
end
end Mine
end
section
namespace Mine
noncomputable section
noncomputable def fn0:Fn:=⟨[12],[],[13],
  zab (sIf (tCmp (xCal (xGlo ((.i .h))) (zaa (xTup (zaa (xCst (.str 10)) (zaa (xTup (zaa (xCst (.int (.ofNat 1))) (zaa (xTup (zaa (xCst (.str 11)) (zaa (xTup (zaa (xCst (.int (.ofNat 2))) (zaa (xCst (.int (.ofNat 3))) xNil))) xNil))) (zaa (xCst (.int (.ofNat 4))) xNil)))) xNil))) (zaa (xTup (zaa (xCst (.int (.ofNat 1))) (zaa (xCst (.int (.ofNat 0))) xNil))) (zaa (xCst (.int (.ofNat 9))) xNil)))) (zad 5 (xTup (zaa (xCst (.str 10)) (zaa (xTup (zaa (xCst (.int (.ofNat 1))) (zaa (xTup (zaa (xCst (.str 11)) (zaa (xTup (zaa (xCst (.int (.ofNat 9))) (zaa (xCst (.int (.ofNat 3))) xNil))) xNil))) (zaa (xCst (.int (.ofNat 4))) xNil)))) xNil))))) (zab (sRet (xCst (.boo false))) sNil) sNil) (
  zab (sAsg (aTup 2 (zai (aCel 13) (zai (aLoc 14) aNil))) (xTup (zaa (xCal (xGlo ((.o (.o .h)))) (zaa (xLoc 12) xNil)) (zaa (xCal (xGlo ((.i (.o .h)))) xNil) xNil)))) (
  zab (sAsg (aLoc 16) (xLcm (xCal (xGlo ((.o (.i .h)))) (zaa (xCst (.int (.ofNat 4))) xNil)) (xCm (aLoc 15) tYes (zbm (xCal (xGlo ((.i (.i .h)))) (zaa (xCel 13) (zaa (xCst (.int (.ofNat 12))) xNil))))) [13])) (
  zab (sAsg (aLoc 17) (xCal (xGlo ((.o (.o (.o .h))))) (zaa (xLoc 14) (zaa xDc0 (zaa (xCal (xGlo ((.i (.o (.o .h))))) (zaa (xLoc 16) xNil)) (zaa (xCst (.int (.ofNat 9))) xNil)))))) (
  zab (sIf (tOr (tNot (zaQ (xCal (xGlo ((.o (.i (.o .h))))) (zaa (xCel 13) (zaa (xLoc 17) xNil))))) (tOr (tNot (zaQ (xCal (xGlo ((.i (.i (.o .h))))) (zaa (xCel 13) (zaa (xLoc 17) (zaa (xLoc 16) xNil)))))) tNo)) (zab (sRet (xCst (.boo false))) sNil) sNil) (
  zab (sRet (xAnd (xCal (xGlo ((.o (.o (.i .h))))) (zaa (xCel 13) (zaa (xLoc 14) xNil))) (xCal (xGlo ((.i (.o (.i .h))))) (zaa (xCel 13) xNil)))) sNil))))),none⟩
noncomputable def fn1:Fn:=⟨[20,18,19],[],[],
  zab (sIf (tCmp (xLoc 18) (zad 4 (xTup xNil))) (zab (sRet (xLoc 19)) sNil) sNil) (
  zab (sAsg (aLoc 21) (xCal (xGlo ((.i .h))) (zaa (xIdx (xIdx (xLoc 20) (xCst (.int (.ofNat 1)))) (xIdx (xLoc 18) (xCst (.int (.ofNat 0))))) (zaa (xSlc (xLoc 18) (zbG (xCst (.int (.ofNat 1)))) zbH) (zaa (xLoc 19) xNil))))) (
  zab (sRet (xTup (zaa (xIdx (xLoc 20) (xCst (.int (.ofNat 0)))) (zaa (xBin 0 (xBin 0 (xSlc (xIdx (xLoc 20) (xCst (.int (.ofNat 1)))) zbH (zbG (xIdx (xLoc 18) (xCst (.int (.ofNat 0)))))) (xTup (zaa (xLoc 21) xNil))) (xSlc (xIdx (xLoc 20) (xCst (.int (.ofNat 1)))) (zbG (xBin 0 (xIdx (xLoc 18) (xCst (.int (.ofNat 0)))) (xCst (.int (.ofNat 1))))) zbH)) xNil)))) sNil)),none⟩
noncomputable def bd2:Ex:=
  zab (sAsg (aLoc 22) (xScr 12 .h)) (
  zab (sAsg (aLoc 23) (xIfe (tCmp (xLoc 22) (zad 3 (xCst (.int (.ofNat 0))))) (xLoc 22) (xBin 1 (xCst (.int (.ofNat 11))) (xLoc 22)))) (
  zab (sRet (xLst (zaa (xIfe (tCmp (xLoc 23) (zad 3 (xBin 5 (xCst (.int (.ofNat 10))) (xCst (.int (.ofNat 18)))))) (xLoc 23) (xCst (.int (.ofNat 0)))) (zaa (xBin 0 (xBin 4 (xLoc 23) (xCst (.int (.ofNat 1000000093)))) (xCst (.int (.ofNat 47)))) xNil)))) sNil))
noncomputable def fn2:Fn:=⟨[12],[],[],bd2,none⟩
noncomputable def fn3:Fn:=⟨[25,24],[.non],[],
  zab (sAsg (aAtt (xLoc 25) 24) (xLoc 24)) (
  zab (sAsg (aAtt (xLoc 25) 26) (xCal (xGlo ((.o (.i (.i .h))))) xNil)) (
  zab (sAsg (aAtt (xLoc 25) 27) xDc0) (
  zab (sAsg (aAtt (xLoc 25) 28) xDc0) (
  zab (sAsg (aAtt (xLoc 25) 29) xDc0) (
  zab (sAsg (aAtt (xLoc 25) 30) xDc0) (
  zab (sAsg (aAtt (xLoc 25) 31) xDc0) (
  zab (sAsg (aAtt (xLoc 25) 32) xDc0) (
  zab (sAsg (aAtt (xLoc 25) 33) (xLst xNil)) (
  zab (sAsg (aAtt (xLoc 25) 34) (xLst xNil)) (
  zab (sAsg (aAtt (xLoc 25) 35) (xCst .non)) (
  zab (sAsg (aAtt (xLoc 25) 36) (xCst .non)) (
  zab (sAsg (aAtt (xLoc 25) 37) xDc0) (
  zab (sAsg (aAtt (xLoc 25) 38) xDc0) (
  zab (sAsg (aAtt (xLoc 25) 7) xDc0) (
  zab (sAsg (aAtt (xLoc 25) 39) xDc0) (
  zab (sAsg (aAtt (xLoc 25) 40) (xLst xNil)) (
  zab (sAsg (aAtt (xLoc 25) 41) (xLst xNil)) (
  zab (sAsg (aAtt (xLoc 25) 42) (xLst xNil)) (
  zab (sAsg (aAtt (xLoc 25) 43) (xCst (.boo true))) sNil))))))))))))))))))),none⟩
noncomputable def fn4:Fn:=⟨[25,22],[],[],
  zab (sWhl (tCmp (xIdx (xLoc 22) (xCst (.int (.ofNat 0)))) (zad 4 (xCst (.str 26)))) (zab (sIf (tCmp (xIdx (xLoc 22) (xCst (.int (.ofNat 1)))) (zad 9 (xAtt (xLoc 25) 26))) (zab sNo sNil) sNil) (zab (sAsg (aLoc 16) (xIdx (xAtt (xLoc 25) 26) (xIdx (xLoc 22) (xCst (.int (.ofNat 1)))))) (zab (sIf (tCmp (xAtt (xLoc 16) 44) (zad 6 (xCst .non))) (zab (sIf (tCmp (xAtt (xLoc 25) 35) (zad 6 (xCst .non))) (zab sNo sNil) sNil) (zab (sExp (xMca (xLoc 25) 35 (zaa (xIdx (xLoc 22) (xCst (.int (.ofNat 1)))) xNil))) sNil)) sNil) (zab (sAsg (aLoc 22) (xAtt (xLoc 16) 44)) sNil))))) (
  zab (sRet (xLoc 22)) sNil),none⟩
noncomputable def fn6:Fn:=⟨[13,45],[],[],
  zab (sIf (tCmp (xIdx (xLoc 13) (xCst (.int (.ofNat 0)))) (zad 2 (xCst (.int (.ofNat 0))))) (zab (sAsg (aLoc 22) (xBin 4 (xIdx (xLoc 13) (xCst (.int (.ofNat 0)))) (xLoc 45))) (zab (sAsg (aIdx (xLoc 13) (xCst (.int (.ofNat 0)))) (xBin 3 (xIdx (xLoc 13) (xCst (.int (.ofNat 0)))) (xLoc 45))) (zab (sRet (xLoc 22)) sNil))) sNil) (
  zab (sAsg (aIdx (xLoc 13) (xCst (.int (.ofNat 1)))) (xBin 4 (xBin 0 (xBin 2 (xIdx (xLoc 13) (xCst (.int (.ofNat 1)))) (xCst (.int (.ofNat 37799)))) (xCst (.int (.ofNat 6121)))) (xCst (.int (.ofNat 2147483171))))) (
  zab (sRet (xBin 4 (xBin 3 (xIdx (xLoc 13) (xCst (.int (.ofNat 1)))) (xCst (.int (.ofNat 31)))) (xLoc 45))) sNil)),none⟩
noncomputable def fn7:Fn:=⟨[25,14,46,47,48],[],[],
  zab (sAsg (aAtt (xLoc 25) 14) (xLoc 14)) (
  zab (sAsg (aAtt (xLoc 25) 46) (xCal (xGlo ((.i (.i (.i .h))))) (zaa (xLoc 46) xNil))) (
  zab (sAsg (aAtt (xLoc 25) 47) (xLoc 47)) (
  zab (sAsg (aAtt (xLoc 25) 48) (xLoc 48)) (
  zab (sAsg (aAtt (xLoc 25) 50) (xCal (xGlo ((.o (.o (.o (.o .h)))))) (zaa (xAtt (xLoc 25) 49) xNil))) (
  zab (sAsg (aAtt (xLoc 25) 51) (xCal (xGlo ((.i (.o (.o (.o .h)))))) xNil)) (
  zab (sAsg (aAtt (xLoc 25) 52) (xCal (xGlo ((.o (.i (.o (.o .h)))))) xNil)) (
  zab (sAsg (aAtt (xLoc 25) 53) (xCal (xGlo ((.i (.i (.o (.o .h)))))) (zaa (xLoc 47) xNil))) (
  zab (sAsg (aAtt (xLoc 25) 54) (xLst xNil)) (
  zab (sAsg (aAtt (xLoc 25) 55) (xCst .non)) (
  zab (sAsg (aAtt (xLoc 25) 27) xDc0) (
  zab (sFor (aLoc 56) (xCal (xGlo ((.o (.o (.i (.o .h)))))) (zaa (xAtt (xLoc 14) 27) xNil)) (zab (sAsg (aIdx (xAtt (xLoc 25) 27) (xLoc 56)) (xMca (xAtt (xLoc 25) 50) 57 (zaa (xCal (xGlo ((.i (.o (.i (.o .h)))))) (zaa (xLoc 14) (zaa (xIdx (xAtt (xLoc 14) 27) (xLoc 56)) xNil))) xNil))) sNil)) sNil))))))))))),none⟩
noncomputable def fn20:Fn:=⟨[25,16],[],[],
  zab (sAsg (aAtt (xLoc 25) 16) (xLoc 16)) (
  zab (sAsg (aAtt (xLoc 25) 58) (xCst (.int (.ofNat 0)))) sNil),none⟩
noncomputable def fn21:Fn:=⟨[25,45],[],[],
  zab (sIf (tCmp (xLoc 45) (zad 1 (xCst (.int (.ofNat 1))))) (zab (sRet (xCst (.int (.ofNat 0)))) sNil) sNil) (
  zab (sAsg (aLoc 59) (xAtt (xLoc 25) 58)) (
  zab (sAsg (aAtt (xLoc 25) 58) (xBin 0 (xLoc 59) (xCst (.int (.ofNat 1))))) (
  zab (sRet (xIfe (tCmp (xLoc 59) (zad 0 (xCal (xGlo ((.o (.i (.i (.o .h)))))) (zaa (xAtt (xLoc 25) 16) xNil)))) (xBin 4 (xIdx (xAtt (xLoc 25) 16) (xLoc 59)) (xLoc 45)) (xCst (.int (.ofNat 0))))) sNil))),none⟩
noncomputable def fn22:Fn:=⟨[13,17],[],[13,60],
  zab (sAsg (aLoc 45) (xCal (xGlo ((.i (.i .h)))) (zaa (xCel 13) (zaa (xCst (.int (.ofNat 5))) xNil)))) (
  zab (sAsg (aCel 60) (xLcm (xCal (xGlo ((.o (.i .h)))) (zaa (xLoc 45) xNil)) (xCm (aLoc 15) tYes (zbm (xBin 0 (xCst (.int (.ofNat 10))) (xCal (xGlo ((.i (.i .h)))) (zaa (xCel 13) (zaa (xCst (.int (.ofNat 80))) xNil)))))) [13])) (
  zab (sAsg (aLoc 61) (xCal (xGlo ((.i (.i (.i (.o .h)))))) (zaa (xLoc 17) (zaa (xCal (xGlo ((.o (.o (.o (.i .h)))))) (zaa (xAtt (xLoc 17) 50) (zaa (xCst (.str 10)) (zaa (xTup (zaa (xCst (.str 10)) (zaa (xCal (xGlo ((.i (.o (.o (.i .h)))))) (zaa (xCel 60) xNil)) xNil))) xNil)))) xNil)))) (
  zab (sIf (tCmp (xLoc 61) (zad 5 (xLcm (xCal (xGlo ((.o (.i .h)))) (zaa (xLoc 45) xNil)) (xCm (aLoc 62) tYes (zbm (xTup (zaa (xTup (zaa (xLoc 62) xNil)) (zaa (xIdx (xCel 60) (xLoc 62)) xNil))))) [60]))) (zab (sRet (xCst (.boo false))) sNil) sNil) (
  zab (sSwp 2 (zai (aLoc 65) (zai (aLoc 64) aNil)) (xTup (zaa (xCal (xGlo ((.o (.o (.o (.i .h)))))) (zaa (xAtt (xLoc 17) 50) (zaa (xCst (.str 63)) (zaa (xLoc 45) xNil)))) (zaa (xLst xNil) xNil)))) (
  zab (sWhl (tCmp (xCal (xGlo ((.o (.i (.i (.o .h)))))) (zaa (xLoc 65) xNil)) (zad 1 (xLoc 45))) (zab (sExp (xMca (xLoc 65) 0 (zaa (xMca (xLoc 64) 66 (zaa (xLoc 17) xNil)) xNil))) sNil)) (
  zab (sIf (tCmp (xLoc 65) (zad 5 (xBin 0 (xLcm (xCal (xGlo ((.o (.i .h)))) (zaa (xLoc 45) xNil)) (xCm (aLoc 62) tYes (zbm (xTup (zaa (xLoc 62) xNil)))) []) (xLst (zaa (xCst .non) xNil))))) (zab (sRet (xCst (.boo false))) sNil) sNil) (
  zab (sAsg (aLoc 16) (xMca (xAtt (xLoc 17) 50) 67 (zaa (xBin 0 (xBin 0 (xLst (zaa (xCst (.int (.ofNat 7))) xNil)) (xCel 60)) (xLst (zaa (xCst (.int (.ofNat 8))) (zaa (xCst (.int (.ofNat 9))) xNil)))) xNil))) (
  zab (sAsg (aLoc 69) (xTup (zaa (xCst (.str 68)) (zaa (xTup (zaa (xCst (.str 16)) (zaa (xLoc 16) (zaa (xTup xNil) xNil)))) (zaa (xCst (.int (.ofNat 1))) (zaa (xLoc 45) (zaa (xBin 0 (xLoc 45) (xCst (.int (.ofNat 1)))) xNil))))))) (
  zab (sSwp 2 (zai (aLoc 70) (zai (aLoc 64) aNil)) (xTup (zaa (xCal (xGlo ((.o (.o (.o (.i .h)))))) (zaa (xAtt (xLoc 17) 50) (zaa (xCst (.str 68)) (zaa (xLoc 69) xNil)))) (zaa (xCal (xGlo ((.o (.i (.o (.i .h)))))) (zaa (xCel 60) xNil)) xNil)))) (
  zab (sFor (aLoc 62) (xCal (xGlo ((.o (.i .h)))) (zaa (xLoc 45) xNil)) (zab (sAsg (aLoc 22) (xMca (xLoc 64) 66 (zaa (xLoc 17) xNil))) (zab (sIf (tOr (tCmp (xLoc 22) (zad 5 (xTup (zaa (xLoc 62) xNil)))) (tOr (tCmp (xMca (xLoc 64) 71 (zaa (xLoc 17) (zaa (xLoc 22) xNil))) (zad 5 (xIdx (xLoc 70) (xLoc 62)))) tNo)) (zab (sRet (xCst (.boo false))) sNil) sNil) (zab (sIf (tAnd (tCmp (xBin 0 (xLoc 62) (xCst (.int (.ofNat 1)))) (zad 0 (xLoc 45))) (tAnd (tCmp (xCal (xGlo ((.i (.i .h)))) (zaa (xCel 13) (zaa (xCst (.int (.ofNat 2))) xNil))) (zad 4 (xCst (.int (.ofNat 0))))) tYes)) (zab (sExp (xMca (xAtt (xLoc 17) 50) 50 (zaa (xTup (zaa (xCst (.str 16)) (zaa (xLoc 16) (zaa (xTup (zaa (xBin 0 (xLoc 62) (xCst (.int (.ofNat 2)))) xNil)) xNil)))) (zaa (xCst (.int (.ofNat 5))) xNil)))) (zab (sAsg (aIdx (xLoc 70) (xBin 0 (xLoc 62) (xCst (.int (.ofNat 1))))) (xCst (.int (.ofNat 5)))) sNil)) sNil) sNil)))) (
  zab (sRet (xAnd (xCmp (xMca (xLoc 64) 66 (zaa (xLoc 17) xNil)) (zad 6 (xCst .non))) (xCmp (xCal (xGlo ((.i (.i (.i (.o .h)))))) (zaa (xLoc 17) (zaa (xCal (xGlo ((.o (.o (.o (.i .h)))))) (zaa (xAtt (xLoc 17) 50) (zaa (xCst (.str 68)) (zaa (xCst .non) xNil)))) xNil))) (zad 4 (xLst xNil))))) sNil))))))))))),none⟩
noncomputable def zlm:Ev:=xCal (xGlo ((.o (.i .h)))) (zaa (xCal (xGlo ((.i (.i .h)))) (zaa (xLoc 13) (zaa (xCst (.int (.ofNat 5))) xNil))) xNil)
noncomputable def zhQ:Ex:=zab (sAsg (aTup 2 (zai (aLoc 74) (zai (aLoc 75) aNil))) (xCal (xGlo ((.i (.i (.o (.i .h)))))) (zaa (xLoc 13) (zaa (xLoc 72) xNil)))) (zab (sExp (xMca (xLoc 70) 0 (zaa (xTup (zaa (xTup (zaa (xCal (xGlo ((.o (.i (.i (.o .h)))))) (zaa (xLoc 73) xNil)) (zaa (xLoc 75) xNil))) (zaa (xLoc 75) xNil))) xNil))) (zab (sAsg (aLoc 73) (xBin 0 (xLoc 73) (xLoc 74))) sNil))
noncomputable def zhS:Ex:=sAsg (aLoc 72) (xLst (zaa (xTup (zaa (xCst (.byt [.n 97])) (zaa (xCst (.int (.ofNat 97))) xNil))) (zaa (xTup (zaa (xCst (.byt [.n 195,.n 169])) (zaa (xCst (.int (.ofNat 233))) xNil))) (zaa (xTup (zaa (xCst (.byt [.n 255])) (zaa (xCst (.int (.ofNat 65533))) xNil))) (zaa (xTup (zaa (xCst (.byt [.n 226,.n 130,.n 172])) (zaa (xCst (.int (.ofNat 8364))) xNil))) xNil)))))
noncomputable def zhR:Ex:=sSwp 2 (zai (aLoc 70) (zai (aLoc 73) aNil)) (xTup (zaa (xCst (.byt [])) (zaa (xLst xNil) xNil)))
noncomputable def zlt:Ex:=sIf (tCmp (xCal (xGlo ((.i (.i (.i (.o .h)))))) (zaa (xLoc 17) (zaa (xCal (xGlo ((.o (.o (.o (.i .h)))))) (zaa (xAtt (xLoc 17) 50) (zaa (xCst (.str 76)) (zaa (xLoc 73) xNil)))) xNil))) (zad 5 (xLoc 70))) (zab (sRet (xCst (.boo false))) sNil) sNil
noncomputable def zls:Ex:=sAsg (aTup 4 (zai (aLoc 20) (zai (aLoc 78) (zai (aLoc 58) (zai (aLoc 65) aNil))))) (xTup (zaa (xMca (xAtt (xLoc 17) 50) 77 xNil) (zaa (xLst xNil) (zaa (xCst (.int (.ofNat 0))) (zaa (xLst xNil) xNil)))))
noncomputable def zlr:Ex:=sFor (aLoc 79) (xCal (xGlo ((.o (.i .h)))) (zaa (xCal (xGlo ((.i (.i .h)))) (zaa (xLoc 13) (zaa (xCst (.int (.ofNat 4))) xNil))) xNil)) (zab (sExp (xMca (xAtt (xLoc 17) 50) 80 (zaa (xLoc 20) (zaa (xLoc 79) (zaa (xBin 0 (xCst (.int (.ofNat 50))) (xLoc 79)) xNil))))) (zab (sExp (xMca (xLoc 78) 0 (zaa (xTup (zaa (xLoc 79) (zaa (xBin 0 (xCst (.int (.ofNat 50))) (xLoc 79)) xNil))) xNil))) sNil))
noncomputable def zlq:Ex:=sAsg (aLoc 22) (xCal (xGlo ((.i (.i (.i (.o .h)))))) (zaa (xLoc 17) (zaa (xCal (xGlo ((.o (.o (.o (.i .h)))))) (zaa (xAtt (xLoc 17) 50) (zaa (xCst (.str 81)) (zaa (xLoc 20) xNil)))) xNil)))
noncomputable def zlp:Ex:=sWhl (tCmp (xLoc 78) (zad 5 (xLst xNil))) (zab (sAsg (aLoc 82) (xCst (.int (.ofNat 0)))) (zab (sIf (tCmp (xCal (xGlo ((.o (.i (.i (.o .h)))))) (zaa (xLoc 78) xNil)) (zad 2 (xCst (.int (.ofNat 1))))) (zab (sAsg (aLoc 82) (xIfe (tCmp (xLoc 58) (zad 0 (xCal (xGlo ((.o (.i (.i (.o .h)))))) (zaa (xLoc 16) xNil)))) (xBin 4 (xIdx (xLoc 16) (xLoc 58)) (xCal (xGlo ((.o (.i (.i (.o .h)))))) (zaa (xLoc 78) xNil))) (xCst (.int (.ofNat 0))))) (zab (sAsg (aLoc 58) (xBin 0 (xLoc 58) (xCst (.int (.ofNat 1))))) sNil)) sNil) (zab (sExp (xMca (xLoc 65) 0 (zaa (xMca (xLoc 78) 1 (zaa (xLoc 82) xNil)) xNil))) sNil)))
noncomputable def zlo:Ex:=sIf (tOr (tCmp (xLoc 22) (zad 5 (xLcm (xLoc 65) (xCm (aLoc 83) tYes (zbm (xTup (zaa (xLoc 83) (zaa (xIdx (xLoc 83) (xCst (.int (.ofNat 1)))) xNil))))) []))) (tOr (tCmp (xCal (xGlo ((.i (.i (.i (.o .h)))))) (zaa (xLoc 17) (zaa (xCal (xGlo ((.o (.o (.o (.i .h)))))) (zaa (xAtt (xLoc 17) 50) (zaa (xCst (.str 81)) (zaa (xCst .non) xNil)))) xNil))) (zad 5 (xLst xNil))) tNo)) (zab (sRet (xCst (.boo false))) sNil) sNil
noncomputable def zln:Ex:=sRet (xCmp (xCal (xGlo ((.o (.o (.o (.i .h)))))) (zaa (xAtt (xLoc 17) 50) (zaa (xCst (.str 84)) (zaa (xTup (zaa (xCst (.str 84)) (zaa (xCst (.int (.ofNat 3))) xNil))) xNil)))) (zad 4 (xTup (zaa (xCst (.str 84)) (zaa (xCst (.int (.ofNat 3))) xNil)))))
noncomputable def zgR (f:Ex):Ex:=zab zhS (zab zhR f)
noncomputable def zlv:Ex:=zab zls (zab zlr (zab zlq (zab zlp (zab zlo (zab zln sNil)))))
noncomputable def zdu:Ex:=zab (sAsg (aTup 3 (zai (aLoc 85) (zai (aLoc 86) (zai (aLoc 87) aNil)))) (xCal (xGlo ((.o (.o (.i (.i .h)))))) (zaa (xLoc 13) xNil))) (zab (sIf (tOr (tCmp (xCal (xGlo ((.i (.o (.i (.i .h)))))) (zaa (xLoc 14) (zaa (xLoc 85) xNil))) (zad 5 (xLoc 86))) (tOr (tAnd (zaQ (xLoc 86)) (tAnd (tCmp (xCal (xGlo ((.o (.i (.i (.i .h)))))) (zaa (xCal (xGlo ((.i (.i (.i (.i .h)))))) (zaa (xLoc 14) (zaa (xLoc 85) xNil))) xNil)) (zad 5 (xCal (xGlo ((.o (.i (.i (.i .h)))))) (zaa (xLoc 87) xNil)))) tYes)) tNo)) (zab (sRet (xCst (.boo false))) sNil) sNil) sNil)
noncomputable def zll (a:Ex):Ex:=zab (sFor (aLoc 15) (xCal (xGlo ((.o (.i .h)))) (zaa (xCst (.int (.ofNat 3))) xNil)) a) (zab (sRet (xNot (xCal (xGlo ((.i (.o (.i (.i .h)))))) (zaa (xLoc 14) (zaa (xTup (zaa (xCst (.str 88)) (zaa (xTup (zaa (xCst (.str 63)) (zaa (xCst (.str 63)) xNil))) (zaa (xCst (.int (.ofNat 0))) (zaa (xCst (.str 89)) (zaa (xTup (zaa (xCst (.str 90)) (zaa (xTup (zaa (xCst (.str 63)) (zaa (xCst (.str 63)) xNil))) (zaa (xCst (.int (.ofNat 0))) (zaa (xCst (.int (.ofNat 1))) xNil))))) xNil)))))) xNil))))) sNil)
noncomputable def fn25:Fn:=⟨[13],[],[20,64,92],
  zab (sAsg (aTup 2 (zai (aCel 20) (zai (aLoc 18) aNil))) (xTup (zaa (xCal (xGlo ((.o (.o (.o (.o (.o .h))))))) (zaa (xLoc 13) (zaa (xCst (.int (.ofNat 3))) xNil))) (zaa (xLst xNil) xNil)))) (
  zab (sAsg (aLoc 91) (xCel 20)) (
  zab (sWhl (tAnd (zaQ (xCal (xGlo ((.i (.o (.o (.o (.o .h))))))) (zaa (xLoc 91) (zaa (xGlo ((.i (.o (.o (.i .h)))))) xNil)))) (tAnd (tOr (tCmp (xLoc 18) (zad 4 (xLst xNil))) (tOr (tCmp (xCal (xGlo ((.i (.i .h)))) (zaa (xLoc 13) (zaa (xCst (.int (.ofNat 4))) xNil))) (zad 2 (xCst (.int (.ofNat 0))))) tNo)) tYes)) (zab (sExp (xMca (xLoc 18) 0 (zaa (xCal (xGlo ((.i (.i .h)))) (zaa (xLoc 13) (zaa (xCal (xGlo ((.o (.i (.i (.o .h)))))) (zaa (xIdx (xLoc 91) (xCst (.int (.ofNat 1)))) xNil)) xNil))) xNil))) (zab (sAsg (aLoc 91) (xIdx (xIdx (xLoc 91) (xCst (.int (.ofNat 1)))) (xIdx (xLoc 18) (xNeg (xCst (.int (.ofNat 1))))))) sNil))) (
  zab (sIf (tCmp (xCal (xGlo ((.o (.i (.o (.o (.o .h))))))) (zaa (xCel 20) (zaa (xCal (xGlo ((.i (.o (.o (.i .h)))))) (zaa (xLoc 18) xNil)) xNil))) (zad 5 (xLoc 91))) (zab (sRet (xCst (.boo false))) sNil) sNil) (
  zab (sAsg (aCel 64) (xCal (xGlo ((.i .h))) (zaa (xCel 20) (zaa (xCal (xGlo ((.i (.o (.o (.i .h)))))) (zaa (xLoc 18) xNil)) (zaa (xCst (.byt [.n 110,.n 101,.n 119])) xNil))))) (
  zab (sFor (aCel 92) (xLoc 18) (zab (sIf (tOr (tCmp (xIdx (xCel 64) (xCst (.int (.ofNat 0)))) (zad 5 (xIdx (xCel 20) (xCst (.int (.ofNat 0)))))) (tOr (tCmp (xCal (xGlo ((.o (.i (.i (.o .h)))))) (zaa (xIdx (xCel 64) (xCst (.int (.ofNat 1)))) xNil)) (zad 5 (xCal (xGlo ((.o (.i (.i (.o .h)))))) (zaa (xIdx (xCel 20) (xCst (.int (.ofNat 1)))) xNil)))) tNo)) (zab (sRet (xCst (.boo false))) sNil) sNil) (zab (sIf (tCmp (xLcm (xCal (xGlo ((.o (.i .h)))) (zaa (xCal (xGlo ((.o (.i (.i (.o .h)))))) (zaa (xIdx (xCel 20) (xCst (.int (.ofNat 1)))) xNil)) xNil)) (xCm (aLoc 62) (tAnd (tAnd (tCmp (xLoc 62) (zad 5 (xCel 92))) (tAnd (tCmp (xIdx (xIdx (xCel 64) (xCst (.int (.ofNat 1)))) (xLoc 62)) (zad 5 (xIdx (xIdx (xCel 20) (xCst (.int (.ofNat 1)))) (xLoc 62)))) tYes)) tYes) (zbm (xLoc 62))) [64,92,20]) (zad 5 (xLst xNil))) (zab (sRet (xCst (.boo false))) sNil) sNil) (zab (sAsg (aTup 2 (zai (aCel 64) (zai (aCel 20) aNil))) (xTup (zaa (xIdx (xIdx (xCel 64) (xCst (.int (.ofNat 1)))) (xCel 92)) (zaa (xIdx (xIdx (xCel 20) (xCst (.int (.ofNat 1)))) (xCel 92)) xNil)))) sNil)))) (
  zab (sRet (xCmp (xCel 64) (zad 4 (xCst (.byt [.n 110,.n 101,.n 119]))))) sNil)))))),none⟩
noncomputable def fn26:Fn:=⟨[],[],[],
  zab (sAsg (aLoc 94) (xTup (zaa (xCst (.str 93)) (zaa (xTup xNil) (zaa (xTup (zaa (xTup (zaa (xCst (.str 76)) xNil)) xNil)) (zaa (xCst (.boo false)) xNil)))))) (
  zab (sAsg (aLoc 95) (xTup (zaa (xCst (.str 93)) (zaa (xTup (zaa (xTup (zaa (xCst (.str 63)) (zaa (xCst (.str 63)) xNil))) xNil)) (zaa (xTup xNil) (zaa (xCst (.boo false)) xNil)))))) (
  zab (sAsg (aLoc 97) (xTup (zaa (xCst (.str 11)) (zaa (xTup (zaa (xTup (zaa (xCst (.str 96)) (zaa (xTup (zaa (xCst (.str 63)) (zaa (xCst (.str 63)) xNil))) (zaa (xCst (.boo false)) xNil)))) xNil)) xNil)))) (
  zab (sAsg (aLoc 99) (xTup (zaa (xCst (.str 11)) (zaa (xTup (zaa (xTup (zaa (xCst (.str 98)) (zaa (xTup (zaa (xCst (.str 63)) (zaa (xCst (.str 63)) xNil))) (zaa (xCst (.boo false)) xNil)))) xNil)) xNil)))) (
  zab (sAsg (aLoc 22) (xDct [101] (zaa (xTup (zaa (xCst (.boo false)) (zaa (xLoc 94) (zaa (xCst (.str 100)) xNil)))) xNil))) (
  zab (sAsg (aLoc 106) (xDct [104,105] (zaa (xTup (zaa (xCst (.boo true)) (zaa (xGlo ((.i (.i (.o (.o (.o .h))))))) (zaa (xCst (.str 102)) xNil)))) (zaa (xTup (zaa (xCst (.boo true)) (zaa (xGlo ((.i (.i (.o (.o (.o .h))))))) (zaa (xCst (.str 103)) xNil)))) xNil)))) (
  zab (sAsg (aLoc 113) (xDct [110,111,112] (zaa (xTup (zaa (xCst (.boo true)) (zaa (xLoc 95) (zaa (xCst (.str 107)) xNil)))) (zaa (xTup (zaa (xCst (.boo true)) (zaa (xGlo ((.i (.i (.o (.o (.o .h))))))) (zaa (xCst (.str 108)) xNil)))) (zaa (xTup (zaa (xCst (.boo true)) (zaa (xGlo ((.i (.i (.o (.o (.o .h))))))) (zaa (xCst (.str 109)) xNil)))) xNil))))) (
  zab (sRet (xDct [114,117,119,121] (zaa (xCal (xGlo ((.o (.o (.i (.o (.o .h))))))) (zaa (xCst (.str 114)) (zaa (xCst (.str 115)) (zaa (xTup (zaa (xCst (.str 116)) (zaa (xTup (zaa (xTup (zaa (xCst (.str 101)) (zaa (xLoc 94) xNil))) xNil)) xNil))) (zaa xDc0 xNil))))) (zaa (xCal (xGlo ((.o (.o (.i (.o (.o .h))))))) (zaa (xCst (.str 117)) (zaa (xCst (.str 118)) (zaa (xTup (zaa (xCst (.str 76)) xNil)) (zaa (xLoc 22) xNil))))) (zaa (xCal (xGlo ((.o (.o (.i (.o (.o .h))))))) (zaa (xCst (.str 119)) (zaa (xCst (.str 120)) (zaa (xLoc 97) (zaa (xLoc 106) xNil))))) (zaa (xCal (xGlo ((.o (.o (.i (.o (.o .h))))))) (zaa (xCst (.str 121)) (zaa (xCst (.str 120)) (zaa (xLoc 99) (zaa (xLoc 113) xNil))))) xNil)))))) sNil))))))),none⟩
noncomputable def fn27:Fn:=⟨[46],[],[46,91],
  zab (sSwp 2 (zai (aLoc 78) (zai (aLoc 65) aNil)) (xTup (zaa xDc0 (zaa (xLcm (xCal (xGlo ((.o (.o (.i (.o .h)))))) (zaa (xCel 46) xNil)) (xCm (aLoc 79) tYes (zbm (xIdx (xCel 46) (xLoc 79)))) [46]) xNil)))) (
  zab (sWhl (tCmp (xLoc 78) (zad 5 (xLst xNil))) (zab (sAsg (aCel 91) (xMca (xLoc 78) 1 xNil)) (zab (sAsg (aIdx (xLoc 65) (xAtt (xCel 91) 79)) (xCel 91)) (zab (sExp (xMca (xLoc 78) 2 (zaa (xLcm (xCal (xGlo ((.o (.o (.i (.o .h)))))) (zaa (xAtt (xCel 91) 122) xNil)) (xCm (aLoc 79) tYes (zbm (xIdx (xAtt (xCel 91) 122) (xLoc 79)))) [91]) xNil))) sNil)))) (
  zab (sRet (xLoc 65)) sNil)),none⟩
noncomputable def fn28:Fn:=⟨[25,49],[],[],
  zab (sAsg (aAtt (xLoc 25) 49) (xLoc 49)) (
  zab (sAsg (aAtt (xLoc 25) 60) (xLst xNil)) (
  zab (sAsg (aAtt (xLoc 25) 123) (xLst xNil)) (
  zab (sAsg (aAtt (xLoc 25) 124) (xLst xNil)) sNil))),none⟩
noncomputable def fn30:Fn:=⟨[25,7],[],[],
  zab (sExp (xMca (xAtt (xLoc 25) 123) 0 (zaa (xCal (xGlo ((.o (.i (.o (.i .h)))))) (zaa (xLoc 7) xNil)) xNil))) (
  zab (sRet (xBin 1 (xCal (xGlo ((.o (.i (.i (.o .h)))))) (zaa (xAtt (xLoc 25) 123) xNil)) (xCst (.int (.ofNat 1))))) sNil),none⟩
noncomputable def fn31:Fn:=⟨[25,59],[],[],
  zab (sAsg (aTup 3 (zai (aLoc 125) (zai (aLoc 126) (zai (aLoc 18) aNil)))) (xLoc 59)) (
  zab (sIf (tCmp (xLoc 125) (zad 4 (xCst (.str 127)))) (zab (sRet (xCal (xGlo ((.o (.i (.o (.o (.o .h))))))) (zaa (xIdx (xAtt (xLoc 25) 60) (xLoc 126)) (zaa (xLoc 18) xNil)))) sNil) sNil) (
  zab (sRet (xCal (xGlo ((.o (.i (.o (.o (.o .h))))))) (zaa (xIdx (xIdx (xAtt (xLoc 25) 123) (xLoc 126)) (xIdx (xLoc 18) (xCst (.int (.ofNat 0))))) (zaa (xSlc (xLoc 18) (zbG (xCst (.int (.ofNat 1)))) zbH) xNil)))) sNil)),none⟩
noncomputable def fn32:Fn:=⟨[25,59,20],[],[],
  zab (sAsg (aTup 3 (zai (aLoc 125) (zai (aLoc 126) (zai (aLoc 18) aNil)))) (xLoc 59)) (
  zab (sIf (tCmp (xLoc 125) (zad 4 (xCst (.str 127)))) (zab (sAsg (aIdx (xAtt (xLoc 25) 60) (xLoc 126)) (xCal (xGlo ((.i .h))) (zaa (xIdx (xAtt (xLoc 25) 60) (xLoc 126)) (zaa (xLoc 18) (zaa (xLoc 20) xNil))))) sNil) (zab (sAsg (aLoc 16) (xIdx (xAtt (xLoc 25) 123) (xLoc 126))) (zab (sAsg (aIdx (xLoc 16) (xIdx (xLoc 18) (xCst (.int (.ofNat 0))))) (xCal (xGlo ((.i .h))) (zaa (xIdx (xLoc 16) (xIdx (xLoc 18) (xCst (.int (.ofNat 0))))) (zaa (xSlc (xLoc 18) (zbG (xCst (.int (.ofNat 1)))) zbH) (zaa (xLoc 20) xNil))))) sNil))) sNil),none⟩
noncomputable def fn34:Fn:=⟨[25,20,128],[],[],
  zab (sIf (tOr (tCmp (xLoc 20) (zad 6 (xCst .non))) (tOr (tNot (tCmp (xCst (.int (.ofNat 0))) (zbD 1 (xLoc 128) (zad 0 (xIdx (xLoc 20) (xCst (.int (.ofNat 3)))))))) tNo)) (zab sNo sNil) sNil) (
  zab (sRet (xCal (xGlo ((.i (.o (.i (.o (.o .h))))))) (zaa (xIdx (xLoc 20) (xCst (.int (.ofNat 1)))) (zaa (xBin 0 (xIdx (xLoc 20) (xCst (.int (.ofNat 2)))) (xLoc 128)) xNil)))) sNil),none⟩
noncomputable def fn39:Fn:=⟨[25],[],[],
  zab (sExp (xMca (xAtt (xLoc 25) 124) 0 (zaa (xCal (xGlo ((.o (.i (.i (.o (.o .h))))))) xNil) xNil))) (
  zab (sRet (xTup (zaa (xCst (.str 81)) (zaa (xBin 1 (xCal (xGlo ((.o (.i (.i (.o .h)))))) (zaa (xAtt (xLoc 25) 124) xNil)) (xCst (.int (.ofNat 1)))) xNil)))) sNil),none⟩
noncomputable def fn40:Fn:=⟨[25,20],[],[],
  zab (sRet (xIfe (tCmp (xLoc 20) (zad 6 (xCst .non))) (xCst .non) (xIdx (xAtt (xLoc 25) 124) (xIdx (xLoc 20) (xCst (.int (.ofNat 1))))))) sNil,none⟩
noncomputable def fn42:Fn:=⟨[25,20,79,22],[],[],
  zab (sIf (tCmp (xLoc 20) (zad 6 (xCst .non))) (zab sNo sNil) sNil) (
  zab (sExp (xMca (xMca (xLoc 25) 129 (zaa (xLoc 20) xNil)) 130 (zaa (xCal (xGlo ((.i (.i (.i (.o (.o .h))))))) (zaa (xLoc 79) (zaa (xAtt (xLoc 25) 49) xNil))) (zaa (xLoc 79) (zaa (xLoc 22) xNil))))) sNil),none⟩
noncomputable def fn44:Fn:=⟨[25],[],[],
  zab (sAsg (aAtt (xLoc 25) 51) (xLst xNil)) (
  zab (sAsg (aAtt (xLoc 25) 131) (xLst xNil)) sNil),none⟩
noncomputable def fn59:Fn:=⟨[25],[],[],
  zab (sAsg (aAtt (xLoc 25) 132) (xLst xNil)) (
  zab (sAsg (aAtt (xLoc 25) 133) xDc0) (
  zab (sAsg (aAtt (xLoc 25) 131) (xLst xNil)) sNil)),none⟩
noncomputable def fn64:Fn:=⟨[25,47],[],[],
  zab (sAsg (aAtt (xLoc 25) 47) (xLoc 47)) (
  zab (sAsg (aAtt (xLoc 25) 134) (xLst xNil)) (
  zab (sAsg (aAtt (xLoc 25) 91) (xCst .non)) sNil)),none⟩
noncomputable def fn69:Fn:=⟨[17,64],[],[],
  zab (sAsg (aLoc 65) (xLst xNil)) (
  zab (sFor (aLoc 15) (xCal (xGlo ((.o (.i .h)))) (zaa (xCst (.int (.ofNat 12))) xNil)) (zab (sAsg (aLoc 22) (xMca (xLoc 64) 66 (zaa (xLoc 17) xNil))) (zab (sIf (tCmp (xLoc 22) (zad 6 (xCst .non))) (zab (sRet (xLoc 65)) sNil) sNil) (zab (sExp (xMca (xLoc 65) 0 (zaa (xTup (zaa (xLoc 22) (zaa (xMca (xLoc 64) 71 (zaa (xLoc 17) (zaa (xLoc 22) xNil))) xNil))) xNil))) sNil)))) (
  zab (sRet (xCst .non)) sNil)),none⟩
noncomputable def fn70:Fn:=⟨[50,125,20],[],[],
  zab (sIf (tCmp (xLoc 125) (zad 4 (xCst (.str 84)))) (zab (sRet (xLoc 20)) sNil) sNil) (
  zab (sIf (tCmp (xLoc 125) (zad 4 (xCst (.str 76)))) (zab (sRet (xCal (xGlo ((.o (.o (.o (.i (.o .h))))))) (zaa (xCal (xGlo ((.i (.o (.o (.i (.o .h))))))) (zaa (xLoc 20) xNil)) (zaa (xCst .non) xNil)))) sNil) sNil) (
  zab (sIf (tCmp (xLoc 125) (zad 4 (xCst (.str 81)))) (zab (sRet (xCal (xGlo ((.o (.o (.o (.i (.o .h))))))) (zaa (xLst xNil) (zaa (xCal (xGlo ((.o (.i (.o (.i (.o .h))))))) (zaa (xMca (xLoc 50) 129 (zaa (xLoc 20) xNil)) xNil)) xNil)))) sNil) sNil) (
  zab (sIf (tCmp (xLoc 125) (zad 4 (xCst (.str 63)))) (zab (sRet (xCal (xGlo ((.i (.i (.o (.i (.o .h))))))) (zaa (xLoc 125) (zaa (xLoc 20) (zaa (xLoc 20) xNil))))) sNil) sNil) (
  zab (sAsg (aLoc 45) (xIfe (tCmp (xLoc 125) (zad 4 (xCst (.str 10)))) (xCal (xGlo ((.o (.i (.i (.o .h)))))) (zaa (xIdx (xLoc 20) (xCst (.int (.ofNat 1)))) xNil)) (xIfe (tCmp (xLoc 20) (zad 6 (xCst .non))) (xCst (.int (.ofNat 0))) (xIdx (xLoc 20) (xCst (.int (.ofNat 3))))))) (
  zab (sRet (xCal (xGlo ((.i (.i (.o (.i (.o .h))))))) (zaa (xLoc 125) (zaa (xLoc 20) (zaa (xLoc 45) xNil))))) sNil))))),none⟩
noncomputable def fn71:Fn:=⟨[13,135],[],[],
  zab (sRet (xIdx (xLoc 135) (xCal (xGlo ((.i (.i .h)))) (zaa (xLoc 13) (zaa (xCal (xGlo ((.o (.i (.i (.o .h)))))) (zaa (xLoc 135) xNil)) xNil))))) sNil,none⟩
noncomputable def zhP:Ex:=sAsg (aTup 3 (zai (aLoc 126) (zai (aLoc 10) (zai (aLoc 16) aNil)))) (xTup (zaa (xTup (zaa (xCst (.str 63)) (zaa (xCst (.str 63)) xNil))) (zaa (xTup (zaa (xCst (.str 10)) (zaa (xCst (.int (.ofNat 3))) (zaa (xTup (zaa (xCst (.str 63)) (zaa (xCst (.str 63)) xNil))) xNil)))) (zaa (xTup (zaa (xCst (.str 68)) (zaa (xTup (zaa (xCst (.str 10)) (zaa (xCst (.int (.ofNat 3))) (zaa (xTup (zaa (xCst (.str 63)) (zaa (xCst (.str 63)) xNil))) xNil)))) xNil))) xNil))))
noncomputable def zhO:Ex:=sAsg (aLoc 136) (xCal (xGlo ((.i (.i .h)))) (zaa (xLoc 13) (zaa (xCst (.int (.ofNat 4))) xNil)))
noncomputable def zhN:Ex:=sIf (tCmp (xLoc 136) (zad 0 (xCst (.int (.ofNat 2))))) (zab (sAsg (aTup 2 (zai (aLoc 139) (zai (aLoc 140) aNil))) (xIdx (xLst (zaa (xTup (zaa (xCst (.str 90)) (zaa (xCst (.int (.ofNat 4))) xNil))) (zaa (xTup (zaa (xCst (.str 137)) (zaa (xCst (.str 138)) xNil))) xNil))) (xLoc 136))) (zab (sSwp 3 (zai (aLoc 87) (zai (aLoc 86) (zai (aLoc 85) aNil))) (xTup (zaa (xTup (zaa (xLoc 139) (zaa (xTup (zaa (xCst (.str 11)) (zaa (xTup xNil) xNil))) (zaa (xCst (.int (.ofNat 0))) (zaa (xLoc 140) xNil))))) (zaa (xCst (.boo true)) (zaa (xTup (zaa (xTup xNil) (zaa (xTup (zaa (xLoc 139) (zaa (xLoc 140) xNil))) (zaa (xTup xNil) xNil)))) xNil))))) sNil)) (zab (sIf (tCmp (xLoc 136) (zad 4 (xCst (.int (.ofNat 2))))) (zab (sAsg (aLoc 21) (xTup (zaa (xCst (.str 141)) (zaa (xTup (zaa (xCst (.str 142)) (zaa (xLoc 126) xNil))) (zaa (xCst (.int (.ofNat 0))) (zaa (xCst (.int (.ofNat 1))) xNil)))))) (zab (sSwp 3 (zai (aLoc 87) (zai (aLoc 86) (zai (aLoc 85) aNil))) (xTup (zaa (xTup (zaa (xCst (.str 143)) (zaa (xTup (zaa (xCst (.str 11)) (zaa (xTup xNil) xNil))) (zaa (xCst (.int (.ofNat 0))) (zaa (xLoc 21) xNil))))) (zaa (xCst (.boo true)) (zaa (xTup (zaa (xTup (zaa (xLoc 21) xNil)) (zaa (xTup (zaa (xCst (.str 143)) xNil)) (zaa (xTup xNil) xNil)))) xNil))))) sNil)) (zab (sAsg (aTup 3 (zai (aLoc 85) (zai (aLoc 86) (zai (aLoc 87) aNil)))) (xTup (zaa (xTup (zaa (xCst (.str 141)) (zaa (xTup (zaa (xCst (.str 11)) (zaa (xTup xNil) xNil))) (zaa (xCst (.int (.ofNat 0))) (zaa (xCst (.int (.ofNat 2))) xNil))))) (zaa (xCst (.boo false)) (zaa (xCst .non) xNil))))) sNil)) sNil)
noncomputable def zhM:Ex:=sFor (aLoc 15) (xCal (xGlo ((.o (.i .h)))) (zaa (xCal (xGlo ((.i (.i .h)))) (zaa (xLoc 13) (zaa (xCst (.int (.ofNat 4))) xNil))) xNil)) (zab (sSwp 2 (zai (aLoc 145) (zai (aLoc 125) aNil)) (xTup (zaa (xCal (xGlo ((.i (.i .h)))) (zaa (xLoc 13) (zaa (xCst (.int (.ofNat 3))) xNil))) (zaa (xTup (zaa (xCst (.str 144)) (zaa (xLoc 126) (zaa (xCst (.int (.ofNat 0))) (zaa (xLoc 15) xNil))))) xNil)))) (zab (sIf (tCmp (xLoc 125) (zad 4 (xCst (.int (.ofNat 0))))) (zab (sAsg (aLoc 85) (xTup (zaa (xCst (.str 146)) (zaa (xLoc 10) (zaa (xCst (.int (.ofNat 0))) (zaa (xLoc 85) (zaa (xLoc 15) xNil))))))) (zab (sAsg (aLoc 87) (xIfe (zaQ (xLoc 86)) (xTup (zaa (xIdx (xLoc 87) (xCst (.int (.ofNat 0)))) (zaa (xIdx (xLoc 87) (xCst (.int (.ofNat 1)))) (zaa (xBin 0 (xIdx (xLoc 87) (xCst (.int (.ofNat 2)))) (xTup (zaa (xTup (zaa (xCst (.str 146)) (zaa (xLoc 15) xNil))) xNil))) xNil)))) (xCst .non))) sNil)) (zab (sIf (tCmp (xLoc 125) (zad 4 (xCst (.int (.ofNat 1))))) (zab (sAsg (aLoc 85) (xTup (zaa (xCst (.str 128)) (zaa (xLoc 10) (zaa (xCst (.int (.ofNat 0))) (zaa (xBin 0 (xBin 0 (xSlc (xLoc 85) zbH (zbG (xCst (.int (.ofNat 1))))) (xTup (zaa (xLoc 10) xNil))) (xSlc (xLoc 85) (zbG (xCst (.int (.ofNat 2)))) zbH)) (zaa (xLoc 145) xNil))))))) (zab (sAsg (aLoc 87) (xIfe (zaQ (xLoc 86)) (xTup (zaa (xBin 0 (xIdx (xLoc 87) (xCst (.int (.ofNat 0)))) (xTup (zaa (xLoc 145) xNil))) (zaa (xIdx (xLoc 87) (xCst (.int (.ofNat 1)))) (zaa (xBin 0 (xIdx (xLoc 87) (xCst (.int (.ofNat 2)))) (xTup (zaa (xTup (zaa (xCst (.str 147)) xNil)) xNil))) xNil)))) (xCst .non))) sNil)) (zab (sAsg (aLoc 21) (xBin 0 (xBin 0 (xSlc (xLoc 85) zbH (zbG (xCst (.int (.ofNat 1))))) (xTup (zaa (xLoc 16) xNil))) (xSlc (xLoc 85) (zbG (xCst (.int (.ofNat 2)))) zbH))) (zab (sSwp 3 (zai (aLoc 87) (zai (aLoc 86) (zai (aLoc 85) aNil))) (xTup (zaa (xTup (zaa (xCst (.str 128)) (zaa (xLoc 10) (zaa (xCst (.int (.ofNat 0))) (zaa (xLoc 21) (zaa (xLoc 145) xNil)))))) (zaa (xCst (.boo true)) (zaa (xTup (zaa (xTup (zaa (xLoc 21) (zaa (xLoc 145) xNil))) (zaa (xTup (zaa (xCst (.str 68)) xNil)) (zaa (xTup (zaa (xTup (zaa (xCst (.str 147)) xNil)) xNil)) xNil)))) xNil))))) sNil))) sNil)) sNil))
noncomputable def zhL:Ex:=sRet (xTup (zaa (xLoc 85) (zaa (xLoc 86) (zaa (xLoc 87) xNil))))
noncomputable def fn72:Fn:=⟨[13],[],[],zab zhP (zab zhO (zab zhN (zab zhM (zab zhL sNil)))),none⟩
noncomputable def fn73:Fn:=⟨[14,85],[],[],
  zab (sIf (tCmp (xIdx (xLoc 85) (xCst (.int (.ofNat 0)))) (zad 8 (xTup (zaa (xCst (.str 90)) (zaa (xCst (.str 137)) (zaa (xCst (.str 143)) xNil)))))) (zab (sRet (xCst (.boo true))) sNil) sNil) (
  zab (sIf (tCmp (xIdx (xLoc 85) (xCst (.int (.ofNat 0)))) (zad 4 (xCst (.str 146)))) (zab (sRet (xCal (xGlo ((.i (.o (.i (.i .h)))))) (zaa (xLoc 14) (zaa (xIdx (xLoc 85) (xCst (.int (.ofNat 3)))) xNil)))) sNil) sNil) (
  zab (sIf (tCmp (xIdx (xLoc 85) (xCst (.int (.ofNat 0)))) (zad 5 (xCst (.str 128)))) (zab (sRet (xCst (.boo false))) sNil) sNil) (
  zab (sAsg (aLoc 125) (xIdx (xMca (xLoc 14) 148 (zaa (xIdx (xIdx (xLoc 85) (xCst (.int (.ofNat 3)))) (xCst (.int (.ofNat 1)))) xNil)) (xCst (.int (.ofNat 0))))) (
  zab (sRet (xOr (xCmp (xLoc 125) (zad 4 (xCst (.str 68)))) (xAnd (xCmp (xLoc 125) (zad 4 (xCst (.str 10)))) (xCal (xGlo ((.i (.o (.i (.i .h)))))) (zaa (xLoc 14) (zaa (xIdx (xLoc 85) (xCst (.int (.ofNat 3)))) xNil)))))) sNil)))),none⟩
noncomputable def fn74:Fn:=⟨[87],[],[],
  zab (sRet (xTup (zaa (xCal (xGlo ((.i (.o (.o (.i .h)))))) (zaa (xLcm (xIdx (xLoc 87) (xCst (.int (.ofNat 0)))) (xCm (aLoc 19) tYes (zbm (xBin 0 (xTup (zaa (xIdx (xLoc 19) (xCst (.int (.ofNat 0)))) xNil)) (xSlc (xLoc 19) (zbG (xCst (.int (.ofNat 2)))) zbH)))) []) xNil)) (zaa (xIdx (xLoc 87) (xCst (.int (.ofNat 1)))) (zaa (xIdx (xLoc 87) (xCst (.int (.ofNat 2)))) xNil))))) sNil,none⟩
noncomputable def fn75:Fn:=⟨[14,85],[],[],
  zab (sIf (tCmp (xIdx (xLoc 85) (xCst (.int (.ofNat 0)))) (zad 8 (xTup (zaa (xCst (.str 90)) (zaa (xCst (.str 137)) xNil))))) (zab (sRet (xTup (zaa (xTup xNil) (zaa (xTup (zaa (xIdx (xLoc 85) (xCst (.int (.ofNat 0)))) (zaa (xIdx (xLoc 85) (xCst (.int (.ofNat 3)))) xNil))) (zaa (xTup xNil) xNil))))) sNil) sNil) (
  zab (sIf (tCmp (xIdx (xLoc 85) (xCst (.int (.ofNat 0)))) (zad 4 (xCst (.str 143)))) (zab (sRet (xTup (zaa (xTup (zaa (xIdx (xLoc 85) (xCst (.int (.ofNat 3)))) xNil)) (zaa (xTup (zaa (xCst (.str 143)) xNil)) (zaa (xTup xNil) xNil))))) sNil) sNil) (
  zab (sIf (tAnd (tCmp (xIdx (xLoc 85) (xCst (.int (.ofNat 0)))) (zad 4 (xCst (.str 128)))) (tAnd (tCmp (xIdx (xMca (xLoc 14) 148 (zaa (xIdx (xIdx (xLoc 85) (xCst (.int (.ofNat 3)))) (xCst (.int (.ofNat 1)))) xNil)) (xCst (.int (.ofNat 0)))) (zad 4 (xCst (.str 68)))) tYes)) (zab (sRet (xTup (zaa (xTup (zaa (xIdx (xLoc 85) (xCst (.int (.ofNat 3)))) (zaa (xIdx (xLoc 85) (xCst (.int (.ofNat 4)))) xNil))) (zaa (xTup (zaa (xCst (.str 68)) xNil)) (zaa (xTup (zaa (xTup (zaa (xCst (.str 147)) xNil)) xNil)) xNil))))) sNil) sNil) (
  zab (sAsg (aTup 3 (zai (aLoc 149) (zai (aLoc 150) (zai (aLoc 18) aNil)))) (xCal (xGlo ((.i (.i (.i (.i .h)))))) (zaa (xLoc 14) (zaa (xIdx (xLoc 85) (xCst (.int (.ofNat 3)))) xNil)))) (
  zab (sIf (tCmp (xIdx (xLoc 85) (xCst (.int (.ofNat 0)))) (zad 4 (xCst (.str 146)))) (zab (sRet (xTup (zaa (xLoc 149) (zaa (xLoc 150) (zaa (xBin 0 (xLoc 18) (xTup (zaa (xTup (zaa (xCst (.str 146)) (zaa (xIdx (xLoc 85) (xCst (.int (.ofNat 4)))) xNil))) xNil))) xNil))))) sNil) sNil) (
  zab (sRet (xTup (zaa (xBin 0 (xLoc 149) (xTup (zaa (xIdx (xLoc 85) (xCst (.int (.ofNat 4)))) xNil))) (zaa (xLoc 150) (zaa (xBin 0 (xLoc 18) (xTup (zaa (xTup (zaa (xCst (.str 147)) xNil)) xNil))) xNil))))) sNil))))),none⟩
noncomputable def fn76:Fn:=⟨[13,151],[],[13,151],
  zab (sIf (tOr (tCmp (xCel 151) (zad 4 (xCst (.int (.ofNat 0))))) (tOr (tCmp (xCal (xGlo ((.i (.i .h)))) (zaa (xCel 13) (zaa (xCst (.int (.ofNat 4))) xNil))) (zad 4 (xCst (.int (.ofNat 0))))) tNo)) (zab (sRet (xCal (xGlo ((.i (.i .h)))) (zaa (xCel 13) (zaa (xCst (.int (.ofNat 90))) xNil)))) sNil) sNil) (
  zab (sSwp 2 (zai (aLoc 45) (zai (aLoc 139) aNil)) (xTup (zaa (xCal (xGlo ((.i (.i (.o (.i .h)))))) (zaa (xCel 13) (zaa (xLst (zaa (xCst (.str 11)) (zaa (xCst (.str 10)) xNil))) xNil))) (zaa (xBin 0 (xCst (.int (.ofNat 1))) (xCal (xGlo ((.i (.i .h)))) (zaa (xCel 13) (zaa (xCst (.int (.ofNat 3))) xNil)))) xNil)))) (
  zab (sRet (xTup (zaa (xLoc 139) (zaa (xCal (xGlo ((.i (.o (.o (.i .h)))))) (zaa (xLcm (xCal (xGlo ((.o (.i .h)))) (zaa (xLoc 45) xNil)) (xCm (aLoc 15) tYes (zbm (xCal (xGlo ((.o (.o (.o (.o (.o .h))))))) (zaa (xCel 13) (zaa (xBin 1 (xCel 151) (xCst (.int (.ofNat 1)))) xNil))))) [151,13]) xNil)) xNil)))) sNil)),none⟩
noncomputable def fn77:Fn:=⟨[20,18],[],[],
  zab (sFor (aLoc 92) (xLoc 18) (zab (sAsg (aLoc 20) (xIdx (xIdx (xLoc 20) (xCst (.int (.ofNat 1)))) (xLoc 92))) sNil)) (
  zab (sRet (xLoc 20)) sNil),none⟩
noncomputable def fn78:Fn:=⟨[25,56,152,44,153],[],[],
  zab (sAsg (aAtt (xLoc 25) 56) (xLoc 56)) (
  zab (sAsg (aAtt (xLoc 25) 152) (xLoc 152)) (
  zab (sAsg (aAtt (xLoc 25) 44) (xLoc 44)) (
  zab (sAsg (aAtt (xLoc 25) 153) (xLoc 153)) sNil))),none⟩
noncomputable def fn79:Fn:=⟨[59,92],[],[],
  zab (sRet (xTup (zaa (xIdx (xLoc 59) (xCst (.int (.ofNat 0)))) (zaa (xIdx (xLoc 59) (xCst (.int (.ofNat 1)))) (zaa (xBin 0 (xIdx (xLoc 59) (xCst (.int (.ofNat 2)))) (xTup (zaa (xLoc 92) xNil))) xNil))))) sNil,none⟩
noncomputable def fn80:Fn:=⟨[25],[],[],
  zab (sAsg (aAtt (xLoc 25) 154) (xLst xNil)) (
  zab (sAsg (aAtt (xLoc 25) 155) (xCst (.int (.ofNat 0)))) sNil),none⟩
noncomputable def fn81:Fn:=⟨[25,157],[],[],
  zab (sFor (aLoc 156) (xAtt (xLoc 25) 154) (zab (sIf (tCmp (xIdx (xLoc 156) (xCst (.int (.ofNat 1)))) (zad 4 (xLoc 157))) (zab (sRet (xLoc 156)) sNil) sNil) sNil)) (
  zab (sRet (xCst .non)) sNil),none⟩
noncomputable def fn82:Fn:=⟨[25,157,79,20],[],[],
  zab (sAsg (aLoc 65) (xMca (xLoc 25) 158 (zaa (xLoc 157) xNil))) (
  zab (sIf (tCmp (xLoc 65) (zad 7 (xCst .non))) (zab (sAsg (aIdx (xLoc 65) (xCst (.int (.ofNat 3)))) (xLoc 20)) (zab sReN sNil)) sNil) (
  zab (sExp (xMca (xAtt (xLoc 25) 154) 0 (zaa (xLst (zaa (xAtt (xLoc 25) 155) (zaa (xLoc 157) (zaa (xLoc 79) (zaa (xLoc 20) xNil))))) xNil))) (
  zab (sAsg (aAtt (xLoc 25) 155) (xBin 0 (xAtt (xLoc 25) 155) (xCst (.int (.ofNat 1))))) sNil))),none⟩
noncomputable def fn84:Fn:=⟨[20,49,23],[.non],[],
  zab (sSwp 2 (zai (aLoc 78) (zai (aLoc 65) aNil)) (xTup (zaa (xLst xNil) (zaa (xLst (zaa (xLoc 20) xNil)) xNil)))) (
  zab (sWhl (tCmp (xLoc 78) (zad 5 (xLst xNil))) (zab (sAsg (aLoc 91) (xMca (xLoc 78) 1 xNil)) (zab (sExp (xCal (xGlo ((.o (.o (.i (.i (.o .h))))))) (zaa (xBin 0 (xCal (xGlo ((.o (.i (.i (.o .h)))))) (zaa (xLoc 65) xNil)) (xCst (.int (.ofNat 1)))) (zaa (xLoc 23) xNil)))) (zab (sAsg (aLoc 159) (xCal (xGlo ((.i (.o (.i (.i (.o .h))))))) (zaa (xLoc 91) xNil))) (zab (sIf (tOr (tCmp (xLoc 159) (zad 8 (xGlo ((.o (.i (.i (.i (.o .h))))))))) (tOr (tAnd (tCmp (xLoc 159) (zad 4 (xCst (.str 160)))) (tAnd (tNot (zaQ (xCal (xLoc 49) (zaa (xIdx (xLoc 91) (xCst (.int (.ofNat 1)))) xNil)))) tYes)) tNo)) (zab sNo sNil) sNil) (zab (sIf (tCmp (xLoc 159) (zad 4 (xCst (.str 160)))) (zab (sExp (xMca (xLoc 65) 0 (zaa (xTup (zaa (xLoc 159) (zaa (xIdx (xLoc 91) (xCst (.int (.ofNat 1)))) xNil))) xNil))) (zab (sExp (xMca (xLoc 78) 0 (zaa (xIdx (xLoc 91) (xCst (.int (.ofNat 2)))) xNil))) sNil)) (zab (sIf (tCmp (xLoc 159) (zad 8 (xTup (zaa (xCst (.str 11)) (zaa (xCst (.str 10)) xNil))))) (zab (sExp (xMca (xLoc 65) 0 (zaa (xTup (zaa (xLoc 159) (zaa (xCal (xGlo ((.o (.i (.i (.o .h)))))) (zaa (xIdx (xLoc 91) (xCst (.int (.ofNat 1)))) xNil)) xNil))) xNil))) (zab (sExp (xMca (xLoc 78) 2 (zaa xNo xNil))) sNil)) (zab (sExp (xMca (xLoc 65) 0 (zaa (xTup (zaa (xLoc 159) (zaa (xLoc 91) xNil))) xNil))) sNil)) sNil)) sNil)))))) (
  zab (sRet (xCal (xGlo ((.i (.o (.o (.i .h)))))) (zaa (xLoc 65) xNil))) sNil)),none⟩
noncomputable def fn85:Fn:=⟨[25,123,154],[],[],
  zab (sAsg (aAtt (xLoc 25) 123) (xLoc 123)) (
  zab (sAsg (aAtt (xLoc 25) 154) (xLoc 154)) sNil),none⟩
noncomputable def fn86:Fn:=⟨[25,17],[],[],
  zab (sIf (tCmp (xAtt (xLoc 25) 154) (zad 7 (xCst .non))) (zab (sRet (xMca (xAtt (xLoc 25) 154) 161 (zaa (xAtt (xLoc 17) 47) xNil))) sNil) sNil) (
  zab (sRet (xIfe (tCmp (xAtt (xLoc 25) 123) (zad 5 (xLst xNil))) (xMca (xAtt (xLoc 25) 123) 1 (zaa (xCst (.int (.ofNat 0))) xNil)) (xCst .non))) sNil),none⟩
noncomputable def fn87:Fn:=⟨[25,17,65],[],[],
  zab (sRet (xIdx (xLoc 65) (xCst (.int (.ofNat 1))))) sNil,none⟩
noncomputable def fn88:Fn:=⟨[73],[],[],
  zab (sSwp 2 (zai (aLoc 145) (zai (aLoc 65) aNil)) (xTup (zaa (xLst xNil) (zaa (xCst (.int (.ofNat 0))) xNil)))) (
  zab (sWhl (tCmp (xLoc 145) (zad 0 (xCal (xGlo ((.o (.i (.i (.o .h)))))) (zaa (xLoc 73) xNil)))) (zab (sAsg (aTup 2 (zai (aLoc 75) (zai (aLoc 162) aNil))) (xCal (xGlo ((.i (.i (.i (.i (.o .h))))))) (zaa (xLoc 73) (zaa (xLoc 145) xNil)))) (zab (sExp (xMca (xLoc 65) 0 (zaa (xTup (zaa (xLoc 145) (zaa (xLoc 75) xNil))) xNil))) (zab (sAsg (aLoc 145) (xBin 0 (xLoc 145) (xLoc 162))) sNil)))) (
  zab (sRet (xLoc 65)) sNil)),none⟩
noncomputable def fn89:Fn:=⟨[25,163],[],[],
  zab (sAsg (aAtt (xLoc 25) 163) (xLoc 163)) (
  zab (sAsg (aAtt (xLoc 25) 164) (xIfe (tCmp (xLoc 163) (zad 6 (xCst .non))) (xCst (.int (.ofNat 0))) (xAtt (xLoc 163) 155))) (
  zab (sAsg (aAtt (xLoc 25) 22) (xLst xNil)) sNil)),none⟩
noncomputable def fn90:Fn:=⟨[25,47],[],[25],
  zab (sAsg (aLoc 154) (xIfe (tCmp (xAtt (xCel 25) 163) (zad 6 (xCst .non))) (xLst xNil) (xAtt (xAtt (xCel 25) 163) 154))) (
  zab (sAsg (aLoc 78) (xLcm (xLoc 154) (xCm (aLoc 156) (tAnd (tAnd (tCmp (xIdx (xLoc 156) (xCst (.int (.ofNat 0)))) (zad 0 (xAtt (xCel 25) 164))) (tAnd (tCmp (xIdx (xLoc 156) (xCst (.int (.ofNat 0)))) (zad 9 (xAtt (xCel 25) 22))) tYes)) tYes) (zbm (xLoc 156))) [25])) (
  zab (sIf (tCmp (xLoc 78) (zad 4 (xLst xNil))) (zab (sRet (xCst .non)) sNil) sNil) (
  zab (sAsg (aLoc 65) (xIdx (xLoc 78) (xMca (xLoc 47) 82 (zaa (xCal (xGlo ((.o (.i (.i (.o .h)))))) (zaa (xLoc 78) xNil)) xNil)))) (
  zab (sExp (xMca (xAtt (xCel 25) 22) 0 (zaa (xIdx (xLoc 65) (xCst (.int (.ofNat 0)))) xNil))) (
  zab (sRet (xTup (zaa (xIdx (xLoc 65) (xCst (.int (.ofNat 2)))) (zaa (xIdx (xLoc 65) (xCst (.int (.ofNat 3)))) xNil)))) sNil))))),none⟩
noncomputable def fn91:Fn:=⟨[25,125,20,45],[],[],
  zab (sAsg (aAtt (xLoc 25) 125) (xLoc 125)) (
  zab (sAsg (aAtt (xLoc 25) 20) (xLoc 20)) (
  zab (sAsg (aAtt (xLoc 25) 45) (xLoc 45)) (
  zab (sAsg (aAtt (xLoc 25) 145) (xCst (.int (.ofNat 0)))) sNil))),none⟩
noncomputable def fn92:Fn:=⟨[25,17],[],[],
  zab (sIf (tCmp (xAtt (xLoc 25) 145) (zad 3 (xAtt (xLoc 25) 45))) (zab (sRet (xCst .non)) sNil) sNil) (
  zab (sAsg (aAtt (xLoc 25) 145) (xBin 0 (xAtt (xLoc 25) 145) (xCst (.int (.ofNat 1))))) (
  zab (sRet (xTup (zaa (xBin 1 (xAtt (xLoc 25) 145) (xCst (.int (.ofNat 1)))) xNil))) sNil)),none⟩
noncomputable def fn93:Fn:=⟨[25,17,65],[],[],
  zab (sIf (tCmp (xAtt (xLoc 25) 125) (zad 4 (xCst (.str 10)))) (zab (sRet (xIdx (xIdx (xAtt (xLoc 25) 20) (xCst (.int (.ofNat 1)))) (xIdx (xLoc 65) (xCst (.int (.ofNat 0)))))) sNil) sNil) (
  zab (sRet (xMca (xAtt (xLoc 17) 50) 166 (zaa (xMca (xAtt (xLoc 17) 50) 165 (zaa (xAtt (xLoc 25) 20) (zaa (xIdx (xLoc 65) (xCst (.int (.ofNat 0)))) xNil))) xNil))) sNil),none⟩
noncomputable def fn94:Fn:=⟨[45,23],[],[],
  zab (sIf (tCmp (xLoc 45) (zad 2 (xIfe (tCmp (xLoc 23) (zad 6 (xCst .non))) (xGlo ((.o (.o (.o (.o (.i .h))))))) (xLoc 23)))) (zab sNo sNil) sNil) sNil,none⟩
noncomputable def fn95:Fn:=⟨[20],[],[],
  zab (sIf (tCmp (xLoc 20) (zad 6 (xCst .non))) (zab (sRet (xCst (.str 167))) sNil) sNil) (
  zab (sIf (zaQ (xCal (xGlo ((.i (.o (.o (.o (.o .h))))))) (zaa (xLoc 20) (zaa (xGlo ((.i (.o (.o (.o (.i .h))))))) xNil)))) (zab (sRet (xCst (.str 168))) sNil) sNil) (
  zab (sIf (zaQ (xCal (xGlo ((.i (.o (.o (.o (.o .h))))))) (zaa (xLoc 20) (zaa (xGlo ((.o (.i (.o (.o (.i .h))))))) xNil)))) (zab (sRet (xCst (.str 63))) sNil) sNil) (
  zab (sRet (xIfe (zaQ (xCal (xGlo ((.i (.o (.o (.o (.o .h))))))) (zaa (xLoc 20) (zaa (xGlo ((.i (.i (.o (.o (.i .h))))))) xNil)))) (xCst (.str 94)) (xIdx (xLoc 20) (xCst (.int (.ofNat 0)))))) sNil))),none⟩
noncomputable def fn96:Fn:=⟨[73,145],[],[],
  zab (sAsg (aLoc 169) (xIdx (xLoc 73) (xLoc 145))) (
  zab (sIf (tCmp (xLoc 169) (zad 0 (xCst (.int (.ofNat 128))))) (zab (sRet (xTup (zaa (xLoc 169) (zaa (xCst (.int (.ofNat 1))) xNil)))) sNil) sNil) (
  zab (sAsg (aTup 3 (zai (aLoc 45) (zai (aLoc 75) (zai (aLoc 170) aNil)))) (xCal (xGlo ((.o (.o (.i (.o (.i .h))))))) (zaa (xLoc 169) xNil))) (
  zab (sIf (tOr (tCmp (xLoc 45) (zad 4 (xCst (.int (.ofNat 0))))) (tOr (tCmp (xBin 0 (xLoc 145) (xLoc 45)) (zad 3 (xCal (xGlo ((.o (.i (.i (.o .h)))))) (zaa (xLoc 73) xNil)))) tNo)) (zab (sRet (xTup (zaa (xGlo ((.i (.o (.i (.o (.i .h))))))) (zaa (xCst (.int (.ofNat 1))) xNil)))) sNil) sNil) (
  zab (sFor (aLoc 92) (xCal (xGlo ((.o (.i .h)))) (zaa (xCst (.int (.ofNat 1))) (zaa (xBin 0 (xLoc 45) (xCst (.int (.ofNat 1)))) xNil))) (zab (sAsg (aLoc 171) (xIdx (xLoc 73) (xBin 0 (xLoc 145) (xLoc 92)))) (zab (sIf (tNot (tCmp (xCst (.int (.ofNat 128))) (zbD 1 (xLoc 171) (zad 1 (xCst (.int (.ofNat 191))))))) (zab (sRet (xTup (zaa (xGlo ((.i (.o (.i (.o (.i .h))))))) (zaa (xCst (.int (.ofNat 1))) xNil)))) sNil) sNil) (zab (sAsg (aLoc 75) (xBin 1 (xBin 0 (xBin 2 (xLoc 75) (xCst (.int (.ofNat 64)))) (xLoc 171)) (xCst (.int (.ofNat 128))))) sNil)))) (
  zab (sRet (xIfe (tAnd (tCmp (xLoc 75) (zad 3 (xLoc 170))) (tAnd (zaQ (xCal (xGlo ((.o (.i (.i (.o (.i .h))))))) (zaa (xLoc 75) xNil))) tYes)) (xTup (zaa (xLoc 75) (zaa (xBin 0 (xLoc 45) (xCst (.int (.ofNat 1)))) xNil))) (xTup (zaa (xGlo ((.i (.o (.i (.o (.i .h))))))) (zaa (xCst (.int (.ofNat 1))) xNil))))) sNil))))),none⟩
noncomputable def fn97:Fn:=⟨[171],[],[],
  zab (sFor (aLoc 45) (xCal (xGlo ((.o (.i .h)))) (zaa (xCst (.int (.ofNat 3))) xNil)) (zab (sAsg (aTup 3 (zai (aLoc 172) (zai (aLoc 173) (zai (aLoc 170) aNil)))) (xIdx (xGlo ((.i (.i (.i (.o (.i .h))))))) (xLoc 45))) (zab (sIf (tCmp (xLoc 172) (zbD 1 (xLoc 171) (zad 1 (xLoc 173)))) (zab (sRet (xTup (zaa (xBin 0 (xLoc 45) (xCst (.int (.ofNat 1)))) (zaa (xBin 1 (xLoc 171) (xLoc 172)) (zaa (xLoc 170) xNil))))) sNil) sNil) sNil))) (
  zab (sRet (xTup (zaa (xCst (.int (.ofNat 0))) (zaa (xGlo ((.i (.o (.i (.o (.i .h))))))) (zaa (xCst (.int (.ofNat 0))) xNil))))) sNil),none⟩
noncomputable def fn98:Fn:=⟨[75],[],[],
  zab (sRet (xAnd (xCmp (xCst (.int (.ofNat 0))) (zbD 1 (xLoc 75) (zad 1 (xGlo ((.o (.o (.o (.i (.i .h)))))))))) (xNot (xCmp (xGlo ((.i (.o (.o (.i (.i .h))))))) (zbD 1 (xLoc 75) (zad 1 (xGlo ((.o (.i (.o (.i (.i .h))))))))))))) sNil,none⟩
noncomputable def cl0:Cl:=⟨some (.o (.o .h)),[(4,(.o (.o .h))),(148,(.i (.o .h))),(174,(.o (.i .h)))],false⟩
noncomputable def cl1:Cl:=⟨some (.o (.o (.o .h))),[(4,(.o (.o (.o .h)))),(49,(.i (.o (.o .h)))),(17,(.o (.i (.o .h)))),(92,(.i (.i (.o .h)))),(175,(.o (.o (.i .h)))),(176,(.i (.o (.i .h)))),(177,(.o (.i (.i .h)))),(178,(.i (.i (.i .h)))),(179,(.o (.o (.o (.o .h))))),(180,(.i (.o (.o (.o .h))))),(181,(.o (.i (.o (.o .h))))),(182,(.i (.i (.o (.o .h))))),(183,(.o (.o (.i (.o .h)))))],false⟩
noncomputable def cl2:Cl:=⟨some (.i (.o (.i (.o .h)))),[(4,(.i (.o (.i (.o .h))))),(82,(.o (.i (.i (.o .h)))))],false⟩
noncomputable def cl3:Cl:=⟨some (.i (.o (.i (.i .h)))),[(4,(.i (.o (.i (.i .h))))),(57,(.o (.i (.i (.i .h))))),(67,(.i (.i (.i (.i .h))))),(166,(.o (.o (.o (.o (.o .h)))))),(50,(.i (.o (.o (.o (.o .h)))))),(184,(.o (.i (.o (.o (.o .h)))))),(165,(.i (.i (.o (.o (.o .h)))))),(185,(.o (.o (.i (.o (.o .h)))))),(186,(.i (.o (.i (.o (.o .h)))))),(187,(.o (.i (.i (.o (.o .h)))))),(188,(.i (.i (.i (.o (.o .h)))))),(77,(.o (.o (.o (.i (.o .h)))))),(129,(.i (.o (.o (.i (.o .h)))))),(189,(.o (.i (.o (.i (.o .h)))))),(80,(.i (.i (.o (.i (.o .h)))))),(190,(.o (.o (.i (.i (.o .h))))))],false⟩
noncomputable def cl4:Cl:=⟨some (.i (.o (.i (.i (.o .h))))),[(4,(.i (.o (.i (.i (.o .h)))))),(191,(.o (.i (.i (.i (.o .h)))))),(192,(.i (.i (.i (.i (.o .h)))))),(193,(.o (.o (.o (.o (.i .h)))))),(194,(.i (.o (.o (.o (.i .h)))))),(195,(.o (.i (.o (.o (.i .h)))))),(196,(.i (.i (.o (.o (.i .h)))))),(197,(.o (.o (.i (.o (.i .h)))))),(198,(.i (.o (.i (.o (.i .h)))))),(199,(.o (.i (.i (.o (.i .h)))))),(200,(.i (.i (.i (.o (.i .h)))))),(201,(.o (.o (.o (.i (.i .h)))))),(202,(.i (.o (.o (.i (.i .h)))))),(203,(.o (.i (.o (.i (.i .h)))))),(204,(.i (.i (.o (.i (.i .h))))))],false⟩
noncomputable def cl5:Cl:=⟨some (.o (.o (.i (.i (.i .h))))),[(4,(.o (.o (.i (.i (.i .h)))))),(205,(.i (.o (.i (.i (.i .h)))))),(206,(.o (.i (.i (.i (.i .h)))))),(207,(.i (.i (.i (.i (.i .h)))))),(208,(.o (.o (.o (.o (.o (.o .h)))))))],false⟩
noncomputable def cl6:Cl:=⟨some (.i (.o (.o (.o (.o (.o .h)))))),[(4,(.i (.o (.o (.o (.o (.o .h))))))),(209,(.o (.i (.o (.o (.o (.o .h))))))),(210,(.i (.i (.o (.o (.o (.o .h))))))),(211,(.o (.o (.i (.o (.o (.o .h)))))))],false⟩
noncomputable def cl7:Cl:=⟨some (.i (.i (.i (.i (.o (.o .h)))))),[(4,(.i (.i (.i (.i (.o (.o .h)))))))],false⟩
noncomputable def cl8:Cl:=⟨some (.i (.o (.o (.o (.i (.o .h)))))),[(4,(.i (.o (.o (.o (.i (.o .h))))))),(158,(.o (.i (.o (.o (.i (.o .h))))))),(130,(.i (.i (.o (.o (.i (.o .h))))))),(212,(.o (.o (.i (.o (.i (.o .h)))))))],false⟩
noncomputable def cl9:Cl:=⟨some (.o (.i (.i (.o (.i (.o .h)))))),[(4,(.o (.i (.i (.o (.i (.o .h))))))),(66,(.i (.i (.i (.o (.i (.o .h))))))),(71,(.o (.o (.o (.i (.i (.o .h)))))))],false⟩
noncomputable def cl10:Cl:=⟨some (.o (.i (.o (.i (.i (.o .h)))))),[(4,(.o (.i (.o (.i (.i (.o .h))))))),(161,(.i (.i (.o (.i (.i (.o .h)))))))],false⟩
noncomputable def cl11:Cl:=⟨some (.o (.o (.i (.i (.i (.o .h)))))),[(4,(.o (.o (.i (.i (.i (.o .h))))))),(66,(.i (.o (.i (.i (.i (.o .h))))))),(71,(.o (.i (.i (.i (.i (.o .h)))))))],false⟩
noncomputable def gT:T G:=(.node none (.node (some (.fn .h)) (.node (some (.fn (.i .h))) (.node (some (.cl (.o .h))) (.node (some (.cl (.o (.o .h)))) (.node (some (.fn (.i (.o (.i (.i (.o (.o .h)))))))) .nil .nil) (.node (some (.val (.int (.ofNat 1048576)))) .nil .nil)) (.node (some (.fn (.i (.i (.i (.o (.o (.o .h)))))))) (.node (some (.cl (.o (.i (.o .h))))) .nil .nil) (.node (some (.val (.int (.ofNat 1114111)))) .nil .nil))) (.node (some (.fn (.i (.o (.o (.i .h)))))) (.node (some (.bi 5)) (.node (some (.cl (.o (.o (.o .h))))) .nil .nil) (.node (some (.fn (.o (.i (.o (.o (.o (.i .h)))))))) .nil .nil)) (.node (some (.fn (.i (.o (.o (.i (.o (.o .h)))))))) (.node (some (.fn (.i (.i (.i (.i (.i (.o .h)))))))) .nil .nil) .nil))) (.node (some (.bi 7)) (.node (some (.fn (.i (.i (.i (.o .h)))))) (.node (some (.cl (.o (.i .h)))) (.node (some (.fn (.o (.i (.i (.i (.o (.o .h)))))))) .nil .nil) (.node (some (.bi 9)) .nil .nil)) (.node (some (.bi 2)) (.node (some (.cl (.i (.i (.o .h))))) .nil .nil) (.node (some (.val (.int (.ofNat 57343)))) .nil .nil))) (.node (some (.fn (.i (.i (.o (.i .h)))))) (.node (some (.bi 0)) (.node (some (.cl (.i (.o (.o .h))))) .nil .nil) (.node (some (.fn (.i (.i (.o (.o (.o (.i .h)))))))) .nil .nil)) (.node (some (.fn (.i (.i (.o (.i (.o (.o .h)))))))) (.node (some (.val (.ref (.o (.o .h))))) .nil .nil) .nil)))) (.node (some (.fn (.o .h))) (.node (some (.cl .h)) (.node (some (.cl (.i .h))) (.node (some (.cl (.i (.o .h)))) (.node (some (.bi 1)) .nil .nil) (.node (some (.bi 8)) .nil .nil)) (.node (some (.bi 3)) (.node (some (.fn (.i (.o (.o (.i (.i (.o .h)))))))) .nil .nil) (.node (some (.val (.int (.ofNat 55296)))) .nil .nil))) (.node (some (.fn (.o (.i (.o (.i .h)))))) (.node (some (.fn (.i (.o (.i (.o (.o (.o .h)))))))) (.node (some (.fn (.o (.o (.o (.o (.i (.o .h)))))))) .nil .nil) (.node (some (.val (.int (.ofNat 65533)))) .nil .nil)) (.node (some (.fn (.o (.i (.o (.i (.o (.o .h)))))))) (.node (some (.fn (.o (.o (.o (.o (.o (.i .h)))))))) .nil .nil) .nil))) (.node (some .drw) (.node (some (.fn (.o (.o (.o (.i .h)))))) (.node (some (.cl (.i (.i .h)))) (.node (some (.val (.ref (.i .h)))) .nil .nil) (.node (some (.bi 6)) .nil .nil)) (.node (some (.fn (.o (.o (.o (.i (.o (.o .h)))))))) (.node (some (.cl (.o (.o (.i .h))))) .nil .nil) .nil)) (.node (some (.fn (.o (.o (.i (.i .h)))))) (.node (some (.fn (.o (.i (.i (.o (.o (.o .h)))))))) (.node (some (.fn (.i (.o (.i (.o (.i (.o .h)))))))) .nil .nil) (.node (some (.val (.ref (.o (.o (.o .h)))))) .nil .nil)) (.node (some (.fn (.o (.o (.i (.i (.o (.o .h)))))))) (.node (some (.fn (.i (.o (.o (.o (.o (.i .h)))))))) .nil .nil) .nil)))))
noncomputable def fT:T Fn:=(.node (some fn0) (.node (some fn1) (.node (some fn3) (.node (some fn7) (.node none (.node (some fn31) .nil (.node (some fn95) .nil .nil)) (.node none (.node (some fn79) .nil .nil) .nil)) (.node none (.node (some fn39) (.node (some fn71) .nil .nil) .nil) (.node none (.node (some fn87) .nil .nil) .nil))) (.node none .nil (.node (some fn27) (.node none (.node (some fn75) .nil .nil) .nil) (.node (some fn59) (.node (some fn91) .nil .nil) .nil)))) (.node none (.node none (.node none (.node none .nil (.node (some fn97) .nil .nil)) (.node none (.node (some fn81) .nil .nil) .nil)) (.node (some fn25) (.node none (.node (some fn73) .nil .nil) .nil) (.node none (.node (some fn89) .nil .nil) .nil))) (.node none (.node (some fn21) (.node none (.node (some fn69) .nil .nil) .nil) (.node none (.node (some fn85) .nil .nil) .nil)) (.node none (.node none (.node (some fn77) .nil .nil) .nil) (.node none (.node (some fn93) .nil .nil) .nil))))) (.node (some fn2) (.node (some fn4) (.node none (.node none (.node (some fn32) (.node (some fn64) .nil .nil) (.node (some fn96) .nil .nil)) (.node none (.node (some fn80) .nil .nil) .nil)) (.node none (.node (some fn40) (.node (some fn72) .nil .nil) .nil) (.node none (.node (some fn88) .nil .nil) .nil))) (.node none (.node (some fn20) .nil (.node none (.node (some fn84) .nil .nil) .nil)) (.node (some fn28) (.node (some fn44) (.node (some fn76) .nil .nil) .nil) (.node none (.node (some fn92) .nil .nil) .nil)))) (.node none (.node none (.node none (.node (some fn34) .nil (.node (some fn98) .nil .nil)) (.node none (.node (some fn82) .nil .nil) .nil)) (.node (some fn26) (.node (some fn42) (.node (some fn74) .nil .nil) .nil) (.node none (.node (some fn90) .nil .nil) .nil))) (.node none (.node (some fn22) (.node none (.node (some fn70) .nil .nil) .nil) (.node none (.node (some fn86) .nil .nil) .nil)) (.node (some fn30) (.node none (.node (some fn78) .nil .nil) .nil) (.node none (.node (some fn94) .nil .nil) .nil))))))
noncomputable def cT:T Cl:=(.node (some cl0) (.node (some cl1) (.node (some cl3) (.node (some cl7) .nil .nil) (.node (some cl11) .nil .nil)) (.node (some cl5) (.node (some cl9) .nil .nil) .nil)) (.node (some cl2) (.node (some cl4) (.node (some cl8) .nil .nil) .nil) (.node (some cl6) (.node (some cl10) .nil .nil) .nil)))
noncomputable def enc:List (Nat×List B):=[]
noncomputable def pg:Pg:=⟨gT,cT,enc⟩
noncomputable def st0:St:=⟨(.node (.tup []) (.node (.tup []) (.node (.tup [.str 68,.str 81,.str 93]) (.node (.tup [.ref (.i (.o .h)),.ref (.o (.i .h)),.ref (.i (.i .h))]) .nil .nil) .nil) (.node (.tup [.int (.ofNat 224),.int (.ofNat 239),.int (.ofNat 2048)]) .nil .nil)) (.node (.tup [.str 93,.ref .h,.ref (.o .h),.boo false]) (.node (.tup [.int (.ofNat 192),.int (.ofNat 223),.int (.ofNat 128)]) .nil .nil) (.node (.tup [.int (.ofNat 240),.int (.ofNat 247),.int (.ofNat 65536)]) .nil .nil))),(.i (.o (.o .h))),0,[]⟩
end
end Mine
end
section
open PySem PySem.W PyProof.Rows PySem.Calls Builtin Builtin.ObjectAttr
set_option maxRecDepth 100000
namespace Mine
theorem bq_i {b x y:Bool} (h:b=true) (h':x=true):bq b x y=true:=by subst h;exact h'
theorem bq_f {b x y:Bool} (h:b=false) (h':y=true):bq b x y=true:=by subst h;exact h'
theorem zef:∀(p:P) (t:TO) (k:O->Bool),t.at p≠.junk->k (t.at p)=true->oget p t k=true
  | .h,.nil,k,hj,h=>absurd rfl hj
  | .h,.node o l r,k,hj,h=>h
  | .o p,.nil,k,hj,h=>absurd rfl hj
  | .o p,.node o l r,k,hj,h=>zef p l k hj h
  | .i p,.nil,k,hj,h=>absurd rfl hj
  | .i p,.node o l r,k,hj,h=>zef p r k hj h
theorem zcZ:∀(p:P) (x:O) (t:TO) (k:TO->Bool),(∀t':TO,(∀q,t'.at q=if q=p then x else t.at q)->k t'=true)->tput p x t k=true
  | .h,x,.nil,k,h=>h _ λq=>by cases q <;> simp [TO.at,TO.nil_at]
  | .h,x,.node o l r,k,h=>h _ λq=>by cases q <;> simp [TO.at]
  | .o p,x,.nil,k,h=>zcZ p x .nil _ λt' e=>h _ λq=>by cases q <;> simp [TO.at,TO.nil_at,e]
  | .o p,x,.node o l r,k,h=>zcZ p x l _ λt' e=>h _ λq=>by cases q <;> simp [TO.at,e]
  | .i p,x,.nil,k,h=>zcZ p x .nil _ λt' e=>h _ λq=>by cases q <;> simp [TO.at,TO.nil_at,e]
  | .i p,x,.node o l r,k,h=>zcZ p x r _ λt' e=>h _ λq=>by cases q <;> simp [TO.at,e]
theorem zfh:∀(p:P) (k:P->Bool),k p.suc=true->zgk p k=true
  | .h,k,h=>h
  | .o p,k,h=>h
  | .i p,k,h=>zfh p _ h
theorem zjq {t:TO} {n:P} {m:Nat} {f:List (P×Bs)} {i:P} {o:O} {k:KS} (h:∀t':TO,(∀q,t'.at q=if q=i then o else t.at q)->k ⟨t',n,m,f⟩=true):St.put ⟨t,n,m,f⟩ i o k=true:=zcZ i o t _ h
theorem zjr {t:TO} {n:P} {m:Nat} {f:List (P×Bs)} {ms:Bs} {k:KS} (h:k ⟨t,n.suc,m,(n,ms)::f⟩=true):St.push ⟨t,n,m,f⟩ ms k=true:=zfh _ _ h
theorem zeT {t:TO} {n:P} {m:Nat} {fr:List (P×Bs)} {r:CF} {p:Pg} {dp:Nat} {kG kxG:KV} (q:P) (i0:Int) (b mm:Nat) (hq:t.at q=.lst [.int i0,.int (.ofNat b)]) (hb:b<=2147483646) (hm:1<=mm) (hm':mm<=1000000000)
    (h:∀(t':TO) (i1:Int) (b1 rr:Nat),(∀x,t'.at x=if x=q then .lst [.int i1,.int (.ofNat b1)] else t.at x)->b1<=2147483646->rr < mm->kG (.int (.ofNat rr)) ⟨t',n.suc,m,fr⟩=true):
    cfF r p [.ref q,.int (.ofNat mm)] [] dp ⟨t,n,m,fr⟩ kG kxG fn6=true:=by
  have nj:∀{l},O.lst l≠.junk:=by rintro _ ⟨⟩
  show St.push ⟨t,n,m,fr⟩ [(13,.ref q),(45,.int (.ofNat mm))] (cfL r p fn6 [(13,.ref q),(45,.int (.ofNat mm))] [] dp kG kxG)=true
  refine zjr ?_
  have hq0:∀(k:O->Bool),k (.lst [.int i0,.int (.ofNat b)])=true->oget q t k=true:=λk h=>zef q t k (hq▸nj) (hq▸h)
  have B1:=Nat.ble_eq.mpr hm
  have B2:=Nat.ble_eq.mpr hm'
  refine hq0 _ ?_
  cases hc:ord 2 i0 (.ofNat 0) with
  | true=>
    cases i0 with
    | negSucc a=>exact nb hc
    | ofNat a=>
    refine bq_i hc ?_
    refine hq0 _ ?_
    refine bq_i B1 ?_
    refine hq0 _ ?_
    refine bq_i B1 ?_
    refine bq_i B2 ?_
    refine hq0 _ ?_
    refine zjq λt' e=>?_
    exact h t' _ b (a % mm) e hb (Nat.mod_lt _ hm)
  | false=>
    refine bq_f hc ?_
    refine hq0 _ ?_
    refine bq_i (Nat.ble_eq.mpr (show b<=1000000000000000000 by omega)) ?_
    refine hq0 _ ?_
    refine zjq λt' e0=>?_
    have e:∀x,t'.at x=if x=q then .lst [.int i0,.int (.ofNat ((b * 37799 + 6121) % 2147483171))] else t.at x:=e0
    clear e0
    have hz:(b * 37799 + 6121) % 2147483171<=2147483646:=by omega
    have hq1:∀(k:O->Bool),k (.lst [.int i0,.int (.ofNat ((b * 37799 + 6121) % 2147483171))])=true->oget q t' k=true:=λk h=>by
      have e2:=(e q).trans (if_pos rfl)
      exact zef q t' k (e2▸nj) (e2▸h)
    generalize (b * 37799 + 6121) % 2147483171=z at hz hq1 e
    refine hq1 _ ?_
    refine bq_i B1 ?_
    exact h t' _ z (z / 31 % mm) e hz (Nat.mod_lt _ hm)
section
variable {c:Cn} {p:Pg}
theorem znJ (N:Nms c) (X:c.K.In c.h₀) {p':Pg} {f:P} {o:Obj} {fd:FuncData} {body:List Stmt} (T:FnAt c p' f fn6 o fd body []) (hfn:fnIn c.K (c.fv f)=true) (hg:∀g,p.g.at g=some .drw->c.gv g=.ref (c.fv f)):DrOk c p where
  keep g e h Xh:=by rw [hg g e];exact keeps_K (zdT hfn) _ Xh
  call g e args dp ids l st s k A vals Q E h hdp ok hv hA hf h0 hk:=by
    rw [hg g e]
    cases hv with
    | nil=>exact nb h
    | @cons v u vs us d ds=>
    cases ds with
    | nil=>exact nb h
    | @cons w z ws zs d' ds'=>
    cases ds' with
    | cons=>exact nb h
    | nil=>
    have h:vRef v (drR w st k)=true:=h
    refine E1_2 (zak h) ?_;rintro q rfl h
    refine E1_2 (zam (show vInt w (drI q st k)=true from h)) ?_;rintro i rfl h
    cases i with
    | negSucc=>exact nb h
    | ofNat m=>
    refine E1_2 (zas (St.get_spec (show st.get q (drO q st k m)=true from h))) λxs hxs h=>?_
    have h:arg2 xs (drV q st k m)=true:=h
    cases xs with
    | nil=>exact nb h
    | cons a xs=>
    cases xs with
    | nil=>exact nb h
    | cons b xs=>
    cases xs with
    | cons=>exact nb h
    | nil=>
    refine E0_2 (zac (show bq (isI a) (drB b (bq (Nat.ble 1 m) (bq (Nat.ble m 1000000000) (st.push [] (drS q k m)) false) false)) false=true from h)) λhia h=>?_
    cases b <;> first | exact nb h | skip
    rename_i j c0 lo hi _ _
    refine E0_2 (zac (show bq (ile (.ofNat 0) lo) (bq (ile hi (.ofNat 2147483646)) _ false) false=true from h)) λr1 h=>?_
    refine E0_2 (zac h) λr2 h=>?_
    refine E0_2 (zac h) λr3 h=>?_
    refine E0_2 (zac h) λr4 h=>?_
    have r1:=ile_spec.mp r1
    have r2:=ile_spec.mp r2
    rw [Nat.ble_eq] at r3 r4
    have h:=St.sym_spec (show St.sym _ (drP q k m)=true from St.push_spec h)
    refine E1_2 (St.put_spec (show St.put _ q (.lst [.ani,.sym st.m (.ofNat 0) (.ofNat 0) (.ofNat 2147483646)]) (drQ m k)=true from h)) λtX h eX=>?_
    have h:drK m k ⟨tX,st.n.suc,st.m + 1,st.k⟩=true:=h
    refine E1_2 d ?_;clear d;rintro ra hra rfl
    refine E1_1 d' ?_;clear d';rintro tm rfl
    refine E2_3 (zaq ok hxs hra) λws nn g1 g2 g3=>?_
    cases g2 with
    | @cons _ u0 _ us0 w0 g2=>
    cases g2 with
    | @cons _ u1 _ us1 w1 g2=>
    cases g2
    refine E2_1 (zcM hia w0) ?_;rintro i0 t0 rfl
    refine E2_4 w1 ?_;clear w1;rintro z t1 hz rfl z1 z2
    obtain ⟨bb,hbb⟩:∃bb:Nat,z + c0=(bb:Int):=⟨(z + c0).toNat,by have:(0:Int)<=z + c0:=Int.le_trans r1 z1;omega⟩
    have hbb2:bb<=2147483646:=by
      have r2:hi<=(2147483646:Int):=r2
      omega
    rw [hbb] at g1
    refine E1_1 (zg5 st.t q (.lst [.int i0,.int (.ofNat bb)])) λtL eL=>?_
    have ok1:Ok c ids l ⟨tL,st.n,st.m,st.k⟩ s:=zbk (ys:=[.int i0,.int (.ofNat bb)]) (us:=[.int i0 t0,.int bb t1]) (n:=nn) ok hxs hra (λb u _ e=>e) g1 (.cons ⟨_,rfl⟩ (.cons ⟨_,rfl⟩ .nil)) eL
    have hr:CallOk c (λ_ _ _ _ _ _ _=>false):=⟨(λf args dp ids l st s k kx A vals Q E _ h=>by exact nb h),(λf args cs q g a dp ids l st s k kx A vals Q E h=>by exact nb h)⟩
    let kG:KV:=λv st'=>@decide (∀l' u s',l.Le l'->Ok c ids l' st' s'->DV c l' v u->Q u s') (Classical.propDecidable _)
    have hrun:cfF (λ_ _ _ _ _ _ _=>false) p' [.ref q,.int (.ofNat m)] [] dp ⟨tL,st.n,st.m,st.k⟩ kG noX fn6=true:=by
      refine zeT q i0 bb m ((eL q).trans (if_pos rfl)) hbb2 r3 r4 λt' i1 b1 rr e hb hrr=>?_
      refine @decide_eq_true _ (Classical.propDecidable _) λl' u s' le ok' d=>?_
      refine E1_1 d ?_;clear d;rintro tu rfl
      have hq':t'.at q=.lst [.int i1,.int (.ofNat b1)]:=(e q).trans (if_pos rfl)
      refine E2_3 (zaq ok' (q:=q) hq' (le.1 _ _ hra)) λws' nn' y1 y2 y3=>?_
      cases y2 with
      | @cons _ v0 _ vs0 x0 y2=>
      cases y2 with
      | @cons _ v1 _ vs1 x1 y2=>
      cases y2
      refine E1_1 x0 ?_;clear x0;rintro tv0 rfl
      refine E1_1 x1 ?_;clear x1;rintro tv1 rfl
      refine E0_2 (ok'.sym (b1:Int)) λok2 le2=>?_
      have ok3:=zbk (s':=s') (t':=tX) (ys:=[.ani,.sym st.m (.ofNat 0) (.ofNat 0) (.ofNat 2147483646)]) ok2 (q:=q) hq' (le.1 _ _ hra) (λb u _ e=>e) y1 (.cons ⟨_,_,rfl⟩ (.cons ⟨(b1:Int),tv1,by simp,by simp,by simp,by simp;omega⟩ .nil)) (λx=>by
        rw [eX]
        by_cases hx:x=q
        · rw [if_pos hx,if_pos hx]
        · rw [if_neg hx,if_neg hx]
          show st.t.at x=t'.at x
          rw [e,if_neg hx,eL,if_neg hx])
      exact zhA h ok3 (hk.le (le.trans le2)) (by simp) (by simpa using hrr)
    refine wpAny_call (codeAny_mono (zdU N X T hr hrun hdp ok1 (.cons ⟨ra,hra,rfl⟩ (.cons ⟨tm,rfl⟩ .nil)) (hA.call hf) h0 (Q:=Q) (E:=E) (λl' v st' u s' hv le ok' d=>?_) zaT) λr s z=>?_)
    · exact (@of_decide_eq_true _ (Classical.propDecidable _) hv) l' u s' le ok' d
    · rcases r with e | (_ | _ | _ | v) <;> exact z
end
end Mine
end
section
open PySem PySem.W PyProof.Rows PySem.Calls
set_option Elab.async false
set_option maxRecDepth 100000
set_option maxHeartbeats 0
namespace Mine
noncomputable section
noncomputable def nmL:List PySem.Str:=[.ofString "append",.ofString "pop",.ofString "extend",.ofString "encode",.ofString "__init__",.ofString "get",.ofString "replace",.ofString "values",.ofString "join",.ofString "rpartition",.ofString "array",.ofString "struct",.ofString "script",.ofString "pot",.ofString "world",.ofString "turn",.ofString "row",.ofString "run",.ofString "steps",.ofString "part",.ofString "value",.ofString "inner",.ofString "told",.ofString "most",.ofString "packages",.ofString "self",.ofString "named",.ofString "globals",.ofString "consts",.ofString "funcs",.ofString "bodies",.ofString "files",.ofString "scopes",.ofString "order",.ofString "starts",.ofString "settle",.ofString "want",.ofString "mentions",.ofString "measured",.ofString "inits",.ofString "late_keys",.ofString "late_parts",.ofString "late_sizes",.ofString "is_whole",.ofString "underlying",.ofString "many",.ofString "typed",.ofString "choices",.ofString "fuel",.ofString "may_compare",.ofString "store",.ofString "channels",.ofString "gates",.ofString "routines",.ofString "prints",.ofString "outcome",.ofString "path",.ofString "new_cell",.ofString "taken",.ofString "place",.ofString "cells",.ofString "turns",.ofString "k",.ofString "int",.ofString "made",.ofString "found",.ofString "next_turn",.ofString "new_row",.ofString "slice",.ofString "window",.ofString "due",.ofString "item_at",.ofString "pieces",.ofString "octets",.ofString "more",.ofString "rune",.ofString "string",.ofString "new_map",.ofString "left",.ofString "key",.ofString "put_key",.ofString "map",.ofString "pick",.ofString "pair",.ofString "chan",.ofString "e",.ofString "is_held",.ofString "way",.ofString "binary",.ofString "+",.ofString "local",.ofString "here",.ofString "step",.ofString "func",.ofString "text",.ofString "adding",.ofString "sync.#state",.ofString "gate",.ofString "sync.#count",.ofString "group",.ofString "runtime.Error.Error",.ofString "Error",.ofString "sync.Mutex.Lock",.ofString "sync.Mutex.Unlock",.ofString "Lock",.ofString "Unlock",.ofString "locks",.ofString "sync.WaitGroup.Add",.ofString "sync.WaitGroup.Done",.ofString "sync.WaitGroup.Wait",.ofString "Add",.ofString "Done",.ofString "Wait",.ofString "waits",.ofString "error",.ofString "",.ofString "interface",.ofString "runtime.Error",.ofString "runtime",.ofString "sync.Mutex",.ofString "sync",.ofString "sync.WaitGroup",.ofString "literals",.ofString "rows",.ofString "maps",.ofString "kind",.ofString "number",.ofString "cell",.ofString "index",.ofString "map_of",.ofString "put",.ofString "waiting",.ofString "held",.ofString "counts",.ofString "all",.ofString "things",.ofString "begin",.ofString "global",.ofString "main.v",.ofString "word",.ofString "what",.ofString "call",.ofString "ptr",.ofString "deref",.ofString "const",.ofString "at",.ofString "field",.ofString "elem",.ofString "base_of",.ofString "parts",.ofString "base",.ofString "deep",.ofString "package",.ofString "methods",.ofString "entries",.ofString "coming",.ofString "entry",.ofString "mark",.ofString "entry_of",.ofString "tag",.ofString "face",.ofString "next_entry",.ofString "size",.ofString "table",.ofString "end",.ofString "element_place",.ofString "load",.ofString "nil",.ofString "bool",.ofString "first",.ofString "least",.ofString "octet",.ofString "low",.ofString "high",.ofString "settled",.ofString "caught",.ofString "wait_here",.ofString "next_one",.ofString "routine_is_over",.ofString "wake_rows",.ofString "answer_of",.ofString "walk_of",.ofString "is_of_type",.ofString "held_as",.ofString "whole_slice",.ofString "slice_listed",.ofString "put_listed",.ofString "part_of_slice",.ofString "joined_slice",.ofString "looked_up",.ofString "drop_key",.ofString "make_one",.ofString "size_of",.ofString "room_of",.ofString "first_waiting",.ofString "let_go",.ofString "may_send",.ofString "may_take",.ofString "may_do",.ofString "send_now",.ofString "take_now",.ofString "do_now",.ofString "close_now",.ofString "ended",.ofString "wait_for",.ofString "lock_now",.ofString "unlock_now",.ofString "add_now",.ofString "wait_now",.ofString "new_one",.ofString "pick_one",.ofString "wake_one",.ofString "take_out"]
noncomputable def gvT:T Value:=(.node none (.node (some ((.ref 1983))) (.node (some ((.ref 1918))) (.node (some ((.ref 1840))) (.node (some ((.ref 365))) (.node (some ((.ref 1973))) .nil .nil) (.node (some ((.int 1048576 345))) .nil .nil)) (.node (some ((.ref 1121))) (.node (some ((.ref 1110))) .nil .nil) (.node (some ((.int 1114111 1646))) .nil .nil))) (.node (some ((.ref 1963))) (.node (some ((biV 5))) (.node (some ((.ref 1864))) .nil .nil) (.node (some ((.ref 1006))) .nil .nil)) (.node (some ((.ref 1956))) (.node (some ((.ref 132))) .nil .nil) .nil))) (.node (some ((biV 7))) (.node (some ((.ref 1944))) (.node (some ((.ref 984))) (.node (some ((.ref 177))) .nil .nil) (.node (some ((biV 9))) .nil .nil)) (.node (some ((biV 2))) (.node (some ((.ref 391))) .nil .nil) (.node (some ((.int 57343 1650))) .nil .nil))) (.node (some ((.ref 1875))) (.node (some ((biV 0))) (.node (some ((.ref 241))) .nil .nil) (.node (some ((.ref 999))) .nil .nil)) (.node (some ((.ref 1968))) (.node (some ((.ref 125))) .nil .nil) .nil)))) (.node (some ((.ref 184))) (.node (some ((.ref 1907))) (.node (some ((.ref 447))) (.node (some ((.ref 937))) (.node (some ((biV 1))) .nil .nil) (.node (some ((biV 8))) .nil .nil)) (.node (some ((biV 3))) (.node (some ((.ref 1027))) .nil .nil) (.node (some ((.int 55296 1648))) .nil .nil))) (.node (some ((.ref 1978))) (.node (some ((.ref 729))) (.node (some ((.ref 205))) .nil .nil) (.node (some ((.int 65533 1644))) .nil .nil)) (.node (some ((.ref 402))) (.node (some ((.ref 139))) .nil .nil) .nil))) (.node (some ((.ref 1925))) (.node (some ((.ref 1949))) (.node (some ((.ref 708))) (.node (some ((.ref 1847))) .nil .nil) (.node (some ((biV 6))) .nil .nil)) (.node (some ((.ref 1932))) (.node (some ((.ref 1075))) .nil .nil) .nil)) (.node (some ((.ref 1739))) (.node (some ((.ref 1939))) (.node (some ((.ref 155))) .nil .nil) (.node (some ((.ref 992))) .nil .nil)) (.node (some ((.ref 409))) (.node (some ((.ref 1013))) .nil .nil) .nil)))))
noncomputable def fvT:T Addr:=(.node (some 1983) (.node (some 184) (.node (some 1890) (.node (some 1753) (.node (some 1809) (.node (some 280) (.node (some 981) .nil .nil) (.node (some 139) .nil .nil)) (.node (some 859) (.node (some 205) .nil .nil) .nil)) (.node (some 1949) (.node (some 334) (.node (some 1932) .nil .nil) .nil) (.node (some 913) (.node (some 1107) .nil .nil) .nil))) (.node (some 1781) (.node (some 1837) (.node (some 306) (.node (some 705) .nil .nil) .nil) (.node (some 885) (.node (some 238) .nil .nil) .nil)) (.node (some 1739) (.node (some 362) (.node (some 409) .nil .nil) .nil) (.node (some 955) (.node (some 1058) .nil .nil) .nil)))) (.node (some 1904) (.node (some 1767) (.node (some 1823) (.node (some 294) (.node (some 693) .nil .nil) (.node (some 1006) .nil .nil)) (.node (some 871) (.node (some 226) .nil .nil) .nil)) (.node (some 1978) (.node (some 348) (.node (some 402) .nil .nil) .nil) (.node (some 927) (.node (some 383) .nil .nil) .nil))) (.node (some 1795) (.node (some 444) (.node (some 320) (.node (some 1939) .nil .nil) .nil) (.node (some 899) (.node (some 1093) .nil .nil) .nil)) (.node (some 266) (.node (some 845) (.node (some 177) .nil .nil) .nil) (.node (some 969) (.node (some 1072) .nil .nil) .nil))))) (.node (some 1918) (.node (some 1897) (.node (some 1760) (.node (some 1816) (.node (some 287) (.node (some 686) .nil .nil) (.node (some 1013) .nil .nil)) (.node (some 866) (.node (some 219) .nil .nil) .nil)) (.node (some 1963) (.node (some 341) (.node (some 1956) .nil .nil) .nil) (.node (some 920) (.node (some 1027) .nil .nil) .nil))) (.node (some 1788) (.node (some 437) (.node (some 313) (.node (some 729) .nil .nil) .nil) (.node (some 892) (.node (some 155) .nil .nil) .nil)) (.node (some 259) (.node (some 838) (.node (some 1973) .nil .nil) .nil) (.node (some 962) (.node (some 1065) .nil .nil) .nil)))) (.node (some 1925) (.node (some 1774) (.node (some 1830) (.node (some 301) (.node (some 698) .nil .nil) (.node (some 999) .nil .nil)) (.node (some 878) (.node (some 233) .nil .nil) .nil)) (.node (some 1875) (.node (some 355) (.node (some 1968) .nil .nil) .nil) (.node (some 934) (.node (some 388) .nil .nil) .nil))) (.node (some 1802) (.node (some 1944) (.node (some 327) (.node (some 1121) .nil .nil) .nil) (.node (some 906) (.node (some 1100) .nil .nil) .nil)) (.node (some 273) (.node (some 852) (.node (some 1861) .nil .nil) .nil) (.node (some 974) (.node (some 132) .nil .nil) .nil))))))
noncomputable def cvT:T Addr:=(.node (some 1907) (.node (some 1840) (.node (some 365) (.node (some 1864) .nil .nil) (.node (some 1075) .nil .nil)) (.node (some 984) (.node (some 1110) .nil .nil) .nil)) (.node (some 447) (.node (some 937) (.node (some 241) .nil .nil) .nil) (.node (some 708) (.node (some 391) .nil .nil) .nil)))
noncomputable def l0T:T Addr:=(.node (some 1845) (.node (some 1846) (.node (some 125) (.node (some 992) .nil .nil) .nil) (.node (some 990) .nil .nil)) (.node (some 1847) (.node (some 989) .nil .nil) (.node (some 991) .nil .nil)))
noncomputable def atts:List Nat:=[7,14,16,20,22,24,26,27,28,29,30,31,32,33,34,35,36,37,38,39,40,41,42,43,44,45,46,47,48,49,50,51,52,53,54,55,56,58,60,79,91,122,123,124,125,131,132,133,134,145,152,153,154,155,163,164]
noncomputable def gnL:List (PySem.Str×P):=[(.ofString "law",(.o .h)),(.ofString "with_part_along",(.i .h)),(.ofString "_law_pot",(.o (.o .h))),(.ofString "World",(.i (.o .h))),(.ofString "range",(.o (.i .h))),(.ofString "_law_scoop",(.i (.i .h))),(.ofString "PlainRun",(.o (.o (.o .h)))),(.ofString "Choices",(.i (.o (.o .h)))),(.ofString "_law_counted_right",(.o (.i (.o .h)))),(.ofString "_law_told_right",(.i (.i (.o .h)))),(.ofString "_law_ways_right",(.o (.o (.i .h)))),(.ofString "_law_parts_right",(.i (.o (.i .h)))),(.ofString "known_rows",(.o (.i (.i .h)))),(.ofString "all_functions",(.i (.i (.i .h)))),(.ofString "PlainStore",(.o (.o (.o (.o .h))))),(.ofString "PlainChannels",(.i (.o (.o (.o .h))))),(.ofString "PlainGates",(.o (.i (.o (.o .h))))),(.ofString "PlainRoutines",(.i (.i (.o (.o .h))))),(.ofString "sorted",(.o (.o (.i (.o .h))))),(.ofString "zero_value",(.i (.o (.i (.o .h))))),(.ofString "len",(.o (.i (.i (.o .h))))),(.ofString "_law_turns",(.i (.i (.i (.o .h))))),(.ofString "round_over",(.o (.o (.o (.i .h))))),(.ofString "tuple",(.i (.o (.o (.i .h))))),(.ofString "list",(.o (.i (.o (.i .h))))),(.ofString "_law_one",(.i (.i (.o (.i .h))))),(.ofString "_law_expression",(.o (.o (.i (.i .h))))),(.ofString "is_place_at",(.i (.o (.i (.i .h))))),(.ofString "_law_bare",(.o (.i (.i (.i .h))))),(.ofString "way_of_place",(.i (.i (.i (.i .h))))),(.ofString "_law_nested",(.o (.o (.o (.o (.o .h)))))),(.ofString "isinstance",(.i (.o (.o (.o (.o .h)))))),(.ofString "part_along",(.o (.i (.o (.o (.o .h)))))),(.ofString "PLAIN",(.i (.i (.o (.o (.o .h)))))),(.ofString "NamedRow",(.o (.o (.i (.o (.o .h)))))),(.ofString "inner_place",(.i (.o (.i (.o (.o .h)))))),(.ofString "PlainMap",(.o (.i (.i (.o (.o .h)))))),(.ofString "value_key",(.i (.i (.i (.o (.o .h)))))),(.ofString "ToldRound",(.o (.o (.o (.i (.o .h)))))),(.ofString "rune_places",(.i (.o (.o (.i (.o .h)))))),(.ofString "MapRound",(.o (.i (.o (.i (.o .h)))))),(.ofString "CountedRound",(.i (.i (.o (.i (.o .h)))))),(.ofString "need_few",(.o (.o (.i (.i (.o .h)))))),(.ofString "value_tag",(.i (.o (.i (.i (.o .h)))))),(.ofString "LOOSE_TAGS",(.o (.i (.i (.i (.o .h)))))),(.ofString "rune_at",(.i (.i (.i (.i (.o .h)))))),(.ofString "MOST_PARTS",(.o (.o (.o (.o (.i .h)))))),(.ofString "bool",(.i (.o (.o (.o (.i .h)))))),(.ofString "int",(.o (.i (.o (.o (.i .h)))))),(.ofString "bytes",(.i (.i (.o (.o (.i .h)))))),(.ofString "head_of",(.o (.o (.i (.o (.i .h)))))),(.ofString "WRONG_RUNE",(.i (.o (.i (.o (.i .h)))))),(.ofString "is_right_rune",(.o (.i (.i (.o (.i .h)))))),(.ofString "LONG_HEADS",(.i (.i (.i (.o (.i .h)))))),(.ofString "LAST_RUNE",(.o (.o (.o (.i (.i .h)))))),(.ofString "FIRST_HALF",(.i (.o (.o (.i (.i .h)))))),(.ofString "LAST_HALF",(.o (.i (.o (.i (.i .h))))))]
noncomputable def nm3 (k:Nat):PySem.Str:=nmOf nmL k
noncomputable def gv3 (scr:Value):P->Value
  | .h=>scr
  | g=>(gvT.at g).getD .none
noncomputable def fv3 (f:P):Addr:=(fvT.at f).getD 0
noncomputable def cv3 (f:P):Addr:=(cvT.at f).getD 0
noncomputable def zcn (i:P):Bool:=onO (λC=>!C.ex) (cT.at i)&&(cT.at i).isSome
noncomputable def K3 (P:Params):Frag:=kb13 P++(ko13 P++(ko12 P++(ko11 P++(ko10 P++(ko9 P++(ko8 P++(ko7 P++(ko6 P++(ko5 P++(ko4 P++(ko3 P++(ko2 P++(ko1 P)))))))))))))
noncomputable def esOf (o:Obj):List DictEntry:=match o.data with | .dict es _=>es.toList | _=>[]
noncomputable def mg3 (w:World):PySem.Str->Option Value:=nsFind (esOf (zdF w.params)).toArray
noncomputable def mb3 (w:World):PySem.Str->Option Value:=nsFind (esOf (ob0 w.params)).toArray
noncomputable def cn (w:World) (h:Heap) (os:OsState) (scr:Value):Cn:=⟨Pw,w,h,K3 w.params,nm3,gv3 scr,cv3,fv3,zcn,⟨l0T.at,λ_=>none,λ_=>none,h⟩,λ_=>default,λ_=>false,λ_=>0,λ_=>"",os⟩
noncomputable def tb3 (w:World) (scr:Value):Tb:=⟨K3 w.params,nm3,gv3 scr,cv3,fv3,zcn⟩
noncomputable def zcO (es:List DictEntry) (k:PySem.Str):Option Value:=(es.find? λe=>e.key.isStr k).map (·.val)
theorem zaB (l:List DictEntry) (k:PySem.Str):nsFind l.toArray k=zcO l k:=by
  unfold nsFind findBy zcO;simp
noncomputable def gBG (E3 E0:List DictEntry) (gv:P->Value) (q:PySem.Str×P):Bool:=zcO E3 q.1==some (gv q.2)||(zcO E3 q.1==none&&zcO E0 q.1==some (gv q.2))
noncomputable def gB3 (w:World) (q:PySem.Str×P):Bool:=gBG (esOf (zdF w.params)) (esOf (ob0 w.params)) (gv3 .none) q
noncomputable def qG3 (E3 E0:List DictEntry) (gv:P->Value) (l:List (PySem.Str×P)):Bool:=l.all (gBG E3 E0 gv)
noncomputable def q6G (E3 E0:List DictEntry):Bool:=zcO E3 "len"==none&&zcO E0 "len"==some (.builtin "len")&&zcO E3 "int"==none&&zcO E0 "int"==some (.type "int")
theorem mkq:(λ(_:List DictEntry->List DictEntry->(P->Value)->List (PySem.Str×P)->Bool) (_:List DictEntry->List DictEntry->Bool)=>true) qG3 q6G=true:=by k_qdec
theorem zjp (w:World) (scr:Value):tAll ((tb3 w scr).oneB atts) cT=true:=by
  kernel_rfl
theorem zjo (w:World) (scr:Value):tAll (tb3 w scr).gB gT=true:=by
  kernel_rfl
theorem zmg (w:World):gnL.all (gB3 w)=true:=by
  show qG3 (esOf (zdF w.params)) (esOf (ob0 w.params)) (gv3 .none) gnL=true
  rw [PySem.W.Fast.te9245220652045013616];kernel_rfl
theorem zmf (w:World):q6G (esOf (zdF w.params)) (esOf (ob0 w.params))=true:=by
  rw [PySem.W.Fast.te10133547705091087770];kernel_rfl
theorem nm3_ok:NmOk nmL:=zm7 (zc9 (by kernel_rfl)) (by kernel_rfl)
structure Hd3 (w:World) (h:Heap) (scr:Value):Prop where
  kin:(K3 w.params).In h
  lim:h.NoLimit
  mods:∃o,h.get? sysModules=some o
  scr:∃a us m,scr=.ref a/\h.get? a=some { cls:=.type "list",data:=.seq (List.toArray us) m}/\(∀u∈us,∃i t,u=.int i t)/\us.length<=100
theorem gl6 (w:World):((mg3 w "len"=none/\mb3 w "len"=some (.builtin "len"))/\mg3 w "int"=none)/\mb3 w "int"=some (.type "int"):=by
  have h:=zmf w
  unfold q6G at h
  simp only [Bool.and_eq_true,beq_iff_eq] at h
  unfold mg3 mb3
  rw [zaB,zaB,zaB,zaB]
  exact h
theorem hLn (w:World):mg3 w "len"=none:=(gl6 w).1.1.1
theorem hLb (w:World):mb3 w "len"=some (.builtin "len"):=(gl6 w).1.1.2
theorem hIn (w:World):mg3 w "int"=none:=(gl6 w).1.2
theorem hIb (w:World):mb3 w "int"=some (.type "int"):=(gl6 w).2
section
variable {w:World} {h:Heap} {os:OsState} {scr:Value}
theorem nms3 (H:Hd3 w h scr):Nms (cn w h os scr):=⟨nm3_ok.inj,nm3_ok.dbg,nm3_ok.cld,H.lim⟩
theorem zii (H:Hd3 w h scr):HasMods (cn w h os scr):=⟨H.mods⟩
theorem zcm {i:P} (hi:zcn i=true):∃C,cT.at i=some C:=by
  unfold zcn at hi
  rw [Bool.and_eq_true] at hi
  exact Option.isSome_iff_exists.mp hi.2
theorem zdx {i:P} {C:Cl} (e:cT.at i=some C):zcn i=true:=by
  have q:tAll (λi (_:Cl)=>zcn i) cT=true:=by kernel_rfl
  exact zaM q e
theorem xa3:XaOk (cn w h os scr) atts:=by
  refine ⟨?_,?_,?_⟩
  all_goals intros;exact nb (by assumption)
theorem xc3 {p:Pg} (hp:p.c=cT):XcOk (cn w h os scr) p:=
  ⟨(λg i C _ e hC=>by rw [hp] at hC;rw [show (cn w h os scr).plain i=true from zdx hC] at e;exact nf e),(λg i C _ e hC=>by rw [hp] at hC;rw [show (cn w h os scr).plain i=true from zdx hC] at e;exact nf e)⟩
theorem fx3 (H:Hd3 w h scr):Fx (cn w h os scr) pg atts:=zkG (t:=tb3 w scr) rfl (nms3 H) H.kin xa3 (zjp w scr) (by kernel_rfl) (zjo w scr) (λi hi=>zcm hi)
theorem fx3' (H:Hd3 w h scr):Fx (cn w h os scr) ⟨.nil,cT,[]⟩ atts:=zkG (t:=tb3 w scr) rfl (nms3 H) H.kin xa3 (zjp w scr) (by kernel_rfl) rfl (λi hi=>zcm hi)
noncomputable def strK:Value->Bool | .str _ _=>true | _=>false
noncomputable def strB (es:List DictEntry):Bool:=es.all λe=>strK e.key
theorem ze1 {es:List DictEntry} (h:strB es=true):StrKeys es.toArray:=λe he=>by
  have:=List.all_eq_true.mp h e (by simpa using he)
  cases q:e.key with
  | str n t=>exact ⟨n,t,rfl⟩
  | _=>rw [q] at this;exact nb this
theorem ns3 (H:Hd3 w h scr):h.Ns mainGlobals (mg3 w):=⟨zdF w.params,(esOf (zdF w.params)).toArray,_,H.kin _ _ (by kernel_rfl),rfl,ze1 (by kernel_rfl),λ_=>rfl⟩
theorem ns0 (H:Hd3 w h scr):h.Ns builtinsNs (mb3 w):=⟨ob0 w.params,(esOf (ob0 w.params)).toArray,_,H.kin _ _ (by kernel_rfl),rfl,ze1 (by kernel_rfl),λ_=>rfl⟩
theorem gx3 (H:Hd3 w h scr):Gx (cn w h os scr) (mg3 w) (mb3 w):=⟨ns3 H,ns0 H⟩
theorem biv3:BiV (cn w h os scr) pg:=⟨λg b e=>by
  have:tAll (λg G=>match G with | .bi b=>gv3 scr g==biV b | _=>true) pg.g=true:=by kernel_rfl
  exact beq_iff_eq.mp (zaM this e)⟩
theorem bi3 (H:Hd3 w h scr):BiOk (cn w h os scr) pg:=znT (nms3 H) (zii H) biv3 λg b e=>by
  have:=zaM (zjo w scr) e
  have:(Nat.ble b 9||Nat.beq b 20)=true:=this
  rw [Bool.or_eq_true,Nat.ble_eq,Nat.beq_eq] at this
  exact this
theorem gm (w:World) {y:PySem.Str} {g:P} (e:(y,g)∈gnL):mg3 w y=some (gv3 .none g)\/(mg3 w y=none/\mb3 w y=some (gv3 .none g)):=by
  have:=List.all_eq_true.mp (zmg w) (y,g) e
  unfold gB3 gBG at this
  simp only [Bool.or_eq_true,Bool.and_eq_true,beq_iff_eq] at this
  unfold mg3 mb3
  rw [zaB,zaB]
  exact this
noncomputable def valB:V->Value->Bool
  | .int i,.int j _=>i==j
  | .ref p,.ref a=>l0T.at p==some a
  | _,_=>false
theorem zhX {v:V} {u:Value} (e:valB v u=true):∀l,(cn w h os scr).l0.Le l->DV (cn w h os scr) l v u:=by
  intro l hl
  cases v <;> first | exact nb e | skip
  · cases u <;> first | exact nb e | skip
    rename_i i j t
    have e:(i==j)=true:=e
    rw [beq_iff_eq] at e;subst e
    exact ⟨t,rfl⟩
  · cases u <;> first | exact nb e | skip
    rename_i p a
    have e:(l0T.at p==some a)=true:=e
    rw [beq_iff_eq] at e
    exact ⟨a,hl.1 _ _ e,rfl⟩
theorem gis (w:World) (h:Heap) (os:OsState) (scr:Value) (g:P) (hg:peq g .h=false):GIs (cn w h os scr) pg g (gv3 .none g):=by
  have e0:gv3 .none g=gv3 scr g:=match g,hg with | .o _,_=>rfl | .i _,_=>rfl
  have q:tAll (λg G=>match G with | .val v=>valB v (gv3 scr g) | _=>true) pg.g=true:=by kernel_rfl
  rw [e0]
  unfold GIs
  cases e:pg.g.at g with
  | none=>trivial
  | some G=>
    cases G with
    | val v=>exact zhX (zaM q e)
    | _=>rfl
theorem hm3 (w:World) (h:Heap) (os:OsState) (scr:Value):(cn w h os scr).nm 0="append"/\(cn w h os scr).nm 1="pop"/\(cn w h os scr).nm 2="extend":=⟨rfl,rfl,rfl⟩
theorem all3 (H:Hd3 w h scr) (D:DrOk (cn w h os scr) pg):All (cn w h os scr) pg atts (mg3 w) (mb3 w):=⟨nms3 H,fx3 H,gx3 H,zii H,bi3 H,D,xc3 rfl⟩
theorem znW (H:Hd3 w h scr):All (cn w h os scr) ⟨.nil,cT,[]⟩ atts (mg3 w) (mb3 w) where
  n:=nms3 H
  f:=fx3' H
  x:=gx3 H
  m:=zii H
  b:=⟨(λg b e=>by exact no e),(λg b e=>by exact no e)⟩
  d:=⟨(λg e=>by exact no e),(λg e=>by exact no e)⟩
  e:=⟨(λg i C e=>by exact no e),(λg i C e=>by exact no e)⟩
theorem scr3 (H:Hd3 w h scr):∃a us m,ScrOk (cn w h os scr) .h a us m:=let ⟨a,us,m,h1,h2,h3,h4⟩:=H.scr;⟨a,us,m,h1,h2,h3,h4⟩
noncomputable def T3:Nt:=⟨nm3,λy=>znj (skey y) nmL 0,gxOf gnL,atts,[]⟩
theorem znz:gnL.all (λq=>!eqS q.1 "__debug__"&&!peq q.2 .h)=true:=by kernel_rfl
theorem zfP {y:PySem.Str} {g:P} (e:(y,g)∈gnL):(y==("__debug__":PySem.Str))=false/\peq g .h=false:=by
  have:=List.all_eq_true.mp znz _ e
  have this:(!eqS y "__debug__"&&!peq g .h)=true:=this
  rw [Bool.and_eq_true,Bool.not_eq_true',Bool.not_eq_true'] at this
  exact ⟨beq_eq_false_iff_ne.mpr λq=>(by rw [show y=_ from q,zcP] at this;cases this.1),this.2⟩
theorem tok3:TOk (cn w h os scr) pg (mg3 w) (mb3 w) T3:=⟨rfl,λy g e=>⟨(zfP (zbe e)).1,_,gm w (zbe e),gis w h os scr g (zfP (zbe e)).2⟩,hm3 w h os scr⟩
theorem zlK:TOk (cn w h os scr) ⟨.nil,cT,[]⟩ (mg3 w) (mb3 w) T3:=⟨rfl,λy g e=>⟨(zfP (zbe e)).1,_,gm w (zbe e),trivial⟩,hm3 w h os scr⟩
end
end
end Mine
end
section
open PySem PySem.W PyProof.Rows PySem.Calls
set_option maxRecDepth 100000
namespace Mine
noncomputable def tP {α:Type} (w:P->P) (R:P->α->Prop):T α->Prop
  | .nil=>True
  | .node o l r=>(∀x,o=some x->R (w .h) x)/\tP (λp=>w (.o p)) R l/\tP (λp=>w (.i p)) R r
theorem zeZ {α:Type} {R:P->α->Prop}:∀(w:P->P) (t:T α),tP w R t->∀p x,t.at p=some x->R (w p) x
  | w,.nil,_,p,x,e=>by exact no e
  | w,.node o l r,h,.h,x,e=>h.1 x e
  | w,.node o l r,h,.o p,x,e=>zeZ _ l h.2.1 p x e
  | w,.node o l r,h,.i p,x,e=>zeZ _ r h.2.2 p x e
noncomputable def fdOf (K:Frag) (a:Addr):FuncData:=match K.lookup a with | some o=>(match o.data with | .func fd=>fd | _=>default) | none=>default
noncomputable abbrev fnO (fd:FuncData):Obj:=⟨.type "function",none,.func fd,#[]⟩
section
variable {c:Cn} {p:Pg}
theorem zdn {f:P} {F:Fn} {fd:FuncData} {sc:Scope} {body:List Stmt} {dvals:List Value} (bd:SExs c p (kdOf sc) F.bd body) (bind:∀(vals:List Value) (s:Shared),c.K.In s.heap->vals.length<=F.ps.length->F.ps.length<=vals.length + F.ds.length->BindsTo s fd ⟨vals,[]⟩ (zaj c F.ps (vals++dvals.drop (vals.length + F.ds.length - F.ps.length))))
    (dfl:∀l,DVs c l F.ds dvals) (tab:∀t,F.tb=some t->fd.code=.ref (c.tc t)/\fd.qualname++".<locals>."=c.tq t)
    (hh:(fd.scope,c.K.lookup (c.fv f),fd.body,fd.closure,fd.globals,fd.builtins,codeIn c.K fd.code fd.qualname,sc.kind,sc.isCoroutine,sc.isGenerator,zcj c.nm sc F.cl,locB c.nm sc F.ps F.cl,ndB F.ps,ndB F.cl)=(sc,some (fnO fd),.stmts body,[],mainGlobals,builtinsNs,true,.function,false,false,true,true,true,true)):
    ∃o fd body dvals,FnAt c p f F o fd body dvals:=by
  have q:=hh
  simp only [Prod.mk.injEq] at q
  refine zn4 q ?_
  intro hsc h1 h2 h3 h4 h5 h6 h7 h8 h9 h10 h11 h12 h13
  subst hsc
  exact ⟨_,_,_,_,h1,rfl,h2,h3,h4,h5,h6,h7,h8,h9,zes h10,zfF h11,zc9 h12,zc9 h13,dfl,bind,bd,tab⟩
variable {F:Fn} {fd:FuncData} {R:P->Fn->Prop}
theorem d0 (h:F.ds=[]):∀l,DVs c l F.ds []:=λl=>by rw [h];exact .nil
noncomputable abbrev BdOk (c:Cn) (F:Fn) (fd:FuncData):Prop:=∀(vals:List Value) (s:Shared),c.K.In s.heap->vals.length<=F.ps.length->F.ps.length<=vals.length + F.ds.length->BindsTo s fd ⟨vals,[]⟩ (zaj c F.ps (vals++List.drop (vals.length + F.ds.length - F.ps.length) []))
theorem be0 (h:PySem.bindArgs fd ⟨[],[]⟩=pure (zaj c F.ps [])) (hd:F.ds.length=0) (hp:F.ps.length=0):BdOk c F fd:=zbr hd rfl hp (len0 h)
theorem be1 (h:∀a,PySem.bindArgs fd ⟨[a],[]⟩=pure (zaj c F.ps [a])) (hd:F.ds.length=0) (hp:F.ps.length=1):BdOk c F fd:=zbr hd rfl hp (lenS λ_=>len0 (h _))
theorem be2 (h:∀a b,PySem.bindArgs fd ⟨[a,b],[]⟩=pure (zaj c F.ps [a,b])) (hd:F.ds.length=0) (hp:F.ps.length=2):BdOk c F fd:=zbr hd rfl hp (lenS λ_=>lenS λ_=>len0 (h _ _))
theorem be3 (h:∀a b d,PySem.bindArgs fd ⟨[a,b,d],[]⟩=pure (zaj c F.ps [a,b,d])) (hd:F.ds.length=0) (hp:F.ps.length=3):BdOk c F fd:=zbr hd rfl hp (lenS λ_=>lenS λ_=>lenS λ_=>len0 (h _ _ _))
theorem be4 (h:∀a b d e,PySem.bindArgs fd ⟨[a,b,d,e],[]⟩=pure (zaj c F.ps [a,b,d,e])) (hd:F.ds.length=0) (hp:F.ps.length=4):BdOk c F fd:=zbr hd rfl hp (lenS λ_=>lenS λ_=>lenS λ_=>lenS λ_=>len0 (h _ _ _ _))
theorem be5 (h:∀a b d e f,PySem.bindArgs fd ⟨[a,b,d,e,f],[]⟩=pure (zaj c F.ps [a,b,d,e,f])) (hd:F.ds.length=0) (hp:F.ps.length=5):BdOk c F fd:=zbr hd rfl hp (lenS λ_=>lenS λ_=>lenS λ_=>lenS λ_=>lenS λ_=>len0 (h _ _ _ _ _))
theorem fb0 {f:P} {sc:Scope} {body:List Stmt} (bd:SExs c p (kdOf sc) F.bd body) (tab:∀t,F.tb=some t->fd.code=.ref (c.tc t)/\fd.qualname++".<locals>."=c.tq t) (h:PySem.bindArgs fd ⟨[],[]⟩=pure (zaj c F.ps [])) (hd:F.ds=[]) (hp:F.ps.length=0)
    (hh:(fd.scope,c.K.lookup (c.fv f),fd.body,fd.closure,fd.globals,fd.builtins,codeIn c.K fd.code fd.qualname,sc.kind,sc.isCoroutine,sc.isGenerator,zcj c.nm sc F.cl,locB c.nm sc F.ps F.cl,ndB F.ps,ndB F.cl)=(sc,some (fnO fd),.stmts body,[],mainGlobals,builtinsNs,true,.function,false,false,true,true,true,true)):
    ∃o fd body dvals,FnAt c p f F o fd body dvals:=zdn bd (be0 h (by rw [hd];rfl) hp) (d0 hd) tab hh
theorem fb1 {f:P} {sc:Scope} {body:List Stmt} (bd:SExs c p (kdOf sc) F.bd body) (tab:∀t,F.tb=some t->fd.code=.ref (c.tc t)/\fd.qualname++".<locals>."=c.tq t) (h:∀a,PySem.bindArgs fd ⟨[a],[]⟩=pure (zaj c F.ps [a])) (hd:F.ds=[]) (hp:F.ps.length=1)
    (hh:(fd.scope,c.K.lookup (c.fv f),fd.body,fd.closure,fd.globals,fd.builtins,codeIn c.K fd.code fd.qualname,sc.kind,sc.isCoroutine,sc.isGenerator,zcj c.nm sc F.cl,locB c.nm sc F.ps F.cl,ndB F.ps,ndB F.cl)=(sc,some (fnO fd),.stmts body,[],mainGlobals,builtinsNs,true,.function,false,false,true,true,true,true)):
    ∃o fd body dvals,FnAt c p f F o fd body dvals:=zdn bd (be1 h (by rw [hd];rfl) hp) (d0 hd) tab hh
theorem fb2 {f:P} {sc:Scope} {body:List Stmt} (bd:SExs c p (kdOf sc) F.bd body) (tab:∀t,F.tb=some t->fd.code=.ref (c.tc t)/\fd.qualname++".<locals>."=c.tq t) (h:∀a b,PySem.bindArgs fd ⟨[a,b],[]⟩=pure (zaj c F.ps [a,b])) (hd:F.ds=[]) (hp:F.ps.length=2)
    (hh:(fd.scope,c.K.lookup (c.fv f),fd.body,fd.closure,fd.globals,fd.builtins,codeIn c.K fd.code fd.qualname,sc.kind,sc.isCoroutine,sc.isGenerator,zcj c.nm sc F.cl,locB c.nm sc F.ps F.cl,ndB F.ps,ndB F.cl)=(sc,some (fnO fd),.stmts body,[],mainGlobals,builtinsNs,true,.function,false,false,true,true,true,true)):
    ∃o fd body dvals,FnAt c p f F o fd body dvals:=zdn bd (be2 h (by rw [hd];rfl) hp) (d0 hd) tab hh
theorem fb3 {f:P} {sc:Scope} {body:List Stmt} (bd:SExs c p (kdOf sc) F.bd body) (tab:∀t,F.tb=some t->fd.code=.ref (c.tc t)/\fd.qualname++".<locals>."=c.tq t) (h:∀a b d,PySem.bindArgs fd ⟨[a,b,d],[]⟩=pure (zaj c F.ps [a,b,d])) (hd:F.ds=[]) (hp:F.ps.length=3)
    (hh:(fd.scope,c.K.lookup (c.fv f),fd.body,fd.closure,fd.globals,fd.builtins,codeIn c.K fd.code fd.qualname,sc.kind,sc.isCoroutine,sc.isGenerator,zcj c.nm sc F.cl,locB c.nm sc F.ps F.cl,ndB F.ps,ndB F.cl)=(sc,some (fnO fd),.stmts body,[],mainGlobals,builtinsNs,true,.function,false,false,true,true,true,true)):
    ∃o fd body dvals,FnAt c p f F o fd body dvals:=zdn bd (be3 h (by rw [hd];rfl) hp) (d0 hd) tab hh
theorem fb4 {f:P} {sc:Scope} {body:List Stmt} (bd:SExs c p (kdOf sc) F.bd body) (tab:∀t,F.tb=some t->fd.code=.ref (c.tc t)/\fd.qualname++".<locals>."=c.tq t) (h:∀a b d e,PySem.bindArgs fd ⟨[a,b,d,e],[]⟩=pure (zaj c F.ps [a,b,d,e])) (hd:F.ds=[]) (hp:F.ps.length=4)
    (hh:(fd.scope,c.K.lookup (c.fv f),fd.body,fd.closure,fd.globals,fd.builtins,codeIn c.K fd.code fd.qualname,sc.kind,sc.isCoroutine,sc.isGenerator,zcj c.nm sc F.cl,locB c.nm sc F.ps F.cl,ndB F.ps,ndB F.cl)=(sc,some (fnO fd),.stmts body,[],mainGlobals,builtinsNs,true,.function,false,false,true,true,true,true)):
    ∃o fd body dvals,FnAt c p f F o fd body dvals:=zdn bd (be4 h (by rw [hd];rfl) hp) (d0 hd) tab hh
theorem fb5 {f:P} {sc:Scope} {body:List Stmt} (bd:SExs c p (kdOf sc) F.bd body) (tab:∀t,F.tb=some t->fd.code=.ref (c.tc t)/\fd.qualname++".<locals>."=c.tq t) (h:∀a b d e f₁,PySem.bindArgs fd ⟨[a,b,d,e,f₁],[]⟩=pure (zaj c F.ps [a,b,d,e,f₁])) (hd:F.ds=[]) (hp:F.ps.length=5)
    (hh:(fd.scope,c.K.lookup (c.fv f),fd.body,fd.closure,fd.globals,fd.builtins,codeIn c.K fd.code fd.qualname,sc.kind,sc.isCoroutine,sc.isGenerator,zcj c.nm sc F.cl,locB c.nm sc F.ps F.cl,ndB F.ps,ndB F.cl)=(sc,some (fnO fd),.stmts body,[],mainGlobals,builtinsNs,true,.function,false,false,true,true,true,true)):
    ∃o fd body dvals,FnAt c p f F o fd body dvals:=zdn bd (be5 h (by rw [hd];rfl) hp) (d0 hd) tab hh
theorem oN {α:Type} {R:α->Prop}:∀x,(none:Option α)=some x->R x:=λx e=>by exact no e
theorem oI {f:P} {F:Fn} (h:∃o fd body dvals,FnAt c p f F o fd body dvals):∀x,some F=some x->(∃o fd body dvals,FnAt c p f x o fd body dvals)\/∃e,LamAt c p f x e:=λx e=>by (replace e:=si e;subst e);exact .inl h
end
end Mine
end
section
open PySem PySem.W PyProof.Rows PySem.Calls
set_option Elab.async false
set_option maxRecDepth 100000
set_option maxHeartbeats 0
namespace Mine
noncomputable section
variable {w:World} {h:Heap} {os:OsState} {scr:Value} (Y:Hd3 w h scr) (H:All (cn w h os scr) pg atts (mg3 w) (mb3 w))
include Y H
theorem eK {kd:Kd} {ex:Expr} {e:Ev} (q:(mmp T3 30).e kd ex=e):SEv (cn w h os scr) pg kd e ex:=zkL H tok3 rfl q
theorem aK {kd:Kd} {ex:Expr} {e:As} (q:(mmp T3 30).a kd ex=e):SAs (cn w h os scr) pg kd e ex:=q▸(zdb H tok3 rfl 30).a kd ex
theorem sK {sc:Scope} {s:Stmt} {e:Ex} (hk:sc.kind=.function) (q:(mmp T3 30).s sc s=e):SEx (cn w h os scr) pg (kdOf sc) e s:=zja H tok3 rfl hk q
theorem bK {sc:Scope} {body:List Stmt} {e:Ex} (hk:sc.kind=.function) (q:mSs (mmp T3 30) sc body=e):SExs (cn w h os scr) pg (kdOf sc) e body:=zhF H tok3 rfl hk q
theorem bN {sc:Scope} {body:List Stmt} {k:Nat} (hn:body[k]? =none):SExs (cn w h os scr) pg (kdOf sc) sNil (body.drop k):=by
  rw [List.drop_eq_nil_of_le (List.getElem?_eq_none_iff.mp hn)];exact zgH
theorem bS {sc:Scope} {body:List Stmt} {k:Nat} {e r:Ex} (hk:sc.kind=.function) (h1:(body[k]?).map ((mmp T3 30).s sc)=some e) (h2:SExs (cn w h os scr) pg (kdOf sc) r (body.drop (k + 1))):SExs (cn w h os scr) pg (kdOf sc) (zab e r) (body.drop k):=by
  refine E1_2 (Option.map_eq_some_iff.mp h1) λs q q2=>?_
  obtain ⟨hl,rfl⟩:=List.getElem?_eq_some_iff.mp q
  rw [List.drop_eq_getElem_cons hl]
  exact zcf (sK Y H hk q2) h2
structure SBd (c:Cn) (p:Pg) (kd:PySem.Str->Option NameKind) (e:Ex) (body:List Stmt):Prop where
  out:SExs c p kd e body
theorem bE {sc:Scope} {body:List Stmt} {e:Ex} (e':Ex) (q:e=e') (x:SExs (cn w h os scr) pg (kdOf sc) e' (body.drop 0)):SBd (cn w h os scr) pg (kdOf sc) e body:=⟨q▸x⟩
omit Y H in
theorem fy1 {f:P} {F:Fn} {fd:FuncData} {sc:Scope} {body:List Stmt} (bd:SBd (cn w h os scr) pg (kdOf sc) F.bd body) (tab:∀t,F.tb=some t->fd.code=.ref ((cn w h os scr).tc t)/\fd.qualname++".<locals>."=(cn w h os scr).tq t) (g:∀a,PySem.bindArgs fd ⟨[a],[]⟩=pure (zaj (cn w h os scr) F.ps [a])) (hd:F.ds=[]) (hp:F.ps.length=1)
    (hh:(fd.scope,(cn w h os scr).K.lookup ((cn w h os scr).fv f),fd.body,fd.closure,fd.globals,fd.builtins,codeIn (cn w h os scr).K fd.code fd.qualname,sc.kind,sc.isCoroutine,sc.isGenerator,zcj (cn w h os scr).nm sc F.cl,locB (cn w h os scr).nm sc F.ps F.cl,ndB F.ps,ndB F.cl)=(sc,some (fnO fd),.stmts body,[],mainGlobals,builtinsNs,true,.function,false,false,true,true,true,true)):
    ∃o fd body dvals,FnAt (cn w h os scr) pg f F o fd body dvals:=fb1 bd.out tab g hd hp hh
omit Y H in
theorem fy3 {f:P} {F:Fn} {fd:FuncData} {sc:Scope} {body:List Stmt} (bd:SBd (cn w h os scr) pg (kdOf sc) F.bd body) (tab:∀t,F.tb=some t->fd.code=.ref ((cn w h os scr).tc t)/\fd.qualname++".<locals>."=(cn w h os scr).tq t) (g:∀a b d,PySem.bindArgs fd ⟨[a,b,d],[]⟩=pure (zaj (cn w h os scr) F.ps [a,b,d])) (hd:F.ds=[]) (hp:F.ps.length=3)
    (hh:(fd.scope,(cn w h os scr).K.lookup ((cn w h os scr).fv f),fd.body,fd.closure,fd.globals,fd.builtins,codeIn (cn w h os scr).K fd.code fd.qualname,sc.kind,sc.isCoroutine,sc.isGenerator,zcj (cn w h os scr).nm sc F.cl,locB (cn w h os scr).nm sc F.ps F.cl,ndB F.ps,ndB F.cl)=(sc,some (fnO fd),.stmts body,[],mainGlobals,builtinsNs,true,.function,false,false,true,true,true,true)):
    ∃o fd body dvals,FnAt (cn w h os scr) pg f F o fd body dvals:=fb3 bd.out tab g hd hp hh
theorem b0:SExs (cn w h os scr) pg (kdOf (fnAt 224).2.2) fn0.bd (fnAt 224).2.1:=bK Y H rfl (by kernel_rfl)
theorem b1:SExs (cn w h os scr) pg (kdOf (fnAt 22).2.2) fn1.bd (fnAt 22).2.1:=bK Y H rfl (by kernel_rfl)
theorem b2:SExs (cn w h os scr) pg (kdOf (fnAt 213).2.2) bd2 (fnAt 213).2.1:=
  (@zcf _ _ _ _ _ _ _ (@zkJ _ _ _ _ _ _ _ _ _ (zlC H (scr3 Y) 12 (by kernel_rfl) (by kernel_rfl) (hLn w) (hLb w) (by kernel_rfl) (by kernel_rfl) (hIn w) (hIb w)) (aK Y H (by kernel_rfl)) (λ_ _ _=>by kernel_rfl)) (@zcf _ _ _ _ _ _ _ (sK Y H rfl (by kernel_rfl)) (@zcf _ _ _ _ _ _ _ (sK Y H rfl (by kernel_rfl)) (@zgH _ _ _))))
theorem b3:SExs (cn w h os scr) pg (kdOf (zaf 211 0).2.2) fn3.bd (zaf 211 0).2.1:=bK Y H rfl (by kernel_rfl)
theorem b4:SExs (cn w h os scr) pg (kdOf (zaf 211 1).2.2) fn4.bd (zaf 211 1).2.1:=bK Y H rfl (by kernel_rfl)
omit H in
theorem b6 (H:All (cn w h os scr) ⟨.nil,cT,[]⟩ atts (mg3 w) (mb3 w)):SExs (cn w h os scr) ⟨.nil,cT,[]⟩ (kdOf (fnAt 214).2.2) fn6.bd (fnAt 214).2.1:=zhF H zlK rfl rfl (by kernel_rfl)
theorem b7:SExs (cn w h os scr) pg (kdOf (zaf 206 0).2.2) fn7.bd (zaf 206 0).2.1:=bK Y H rfl (by kernel_rfl)
theorem b20:SExs (cn w h os scr) pg (kdOf (zaf 35 0).2.2) fn20.bd (zaf 35 0).2.1:=bK Y H rfl (by kernel_rfl)
theorem b21:SExs (cn w h os scr) pg (kdOf (zaf 35 1).2.2) fn21.bd (zaf 35 1).2.1:=bK Y H rfl (by kernel_rfl)
theorem b22:SExs (cn w h os scr) pg (kdOf (fnAt 217).2.2) fn22.bd (fnAt 217).2.1:=bK Y H rfl (by kernel_rfl)
theorem b23A {f:Ex} (x:SBd (cn w h os scr) pg (kdOf (fnAt 218).2.2) f (((fnAt 218).2.1.take 4).drop 2)):SBd (cn w h os scr) pg (kdOf (fnAt 218).2.2) (zgR f) ((fnAt 218).2.1.take 4):=
  @bE _ _ _ _ Y H _ _ _ (zab zhS (zab zhR f)) rfl (@bS _ _ _ _ Y H _ _ 0 _ _ (by kernel_rfl) (by kernel_rfl) (@bS _ _ _ _ Y H _ _ 1 _ _ (by kernel_rfl) (by kernel_rfl) x.out))
theorem b23B:SBd (cn w h os scr) pg (kdOf (fnAt 218).2.2) zlv ((fnAt 218).2.1.drop 4):=
  ⟨(@bS _ _ _ _ Y H _ _ 4 _ _ (by kernel_rfl) (by kernel_rfl) (@bS _ _ _ _ Y H _ _ 5 _ _ (by kernel_rfl) (by kernel_rfl) (@bS _ _ _ _ Y H _ _ 6 _ _ (by kernel_rfl) (by kernel_rfl) (@bS _ _ _ _ Y H _ _ 7 _ _ (by kernel_rfl) (by kernel_rfl) (@bS _ _ _ _ Y H _ _ 8 _ _ (by kernel_rfl) (by kernel_rfl) (@bS _ _ _ _ Y H _ _ 9 _ _ (by kernel_rfl) (by kernel_rfl) (@bN _ _ _ _ Y H _ _ 10 (by kernel_rfl))))))))⟩
theorem b25:SExs (cn w h os scr) pg (kdOf (fnAt 223).2.2) fn25.bd (fnAt 223).2.1:=bK Y H rfl (by kernel_rfl)
theorem b26:SExs (cn w h os scr) pg (kdOf (fnAt 210).2.2) fn26.bd (fnAt 210).2.1:=bK Y H rfl (by kernel_rfl)
theorem b27:SExs (cn w h os scr) pg (kdOf (fnAt 205).2.2) fn27.bd (fnAt 205).2.1:=bK Y H rfl (by kernel_rfl)
theorem b28:SExs (cn w h os scr) pg (kdOf (zaf 27 0).2.2) fn28.bd (zaf 27 0).2.1:=bK Y H rfl (by kernel_rfl)
theorem b30:SExs (cn w h os scr) pg (kdOf (zaf 27 2).2.2) fn30.bd (zaf 27 2).2.1:=bK Y H rfl (by kernel_rfl)
theorem b31:SExs (cn w h os scr) pg (kdOf (zaf 27 3).2.2) fn31.bd (zaf 27 3).2.1:=bK Y H rfl (by kernel_rfl)
theorem b32:SExs (cn w h os scr) pg (kdOf (zaf 27 4).2.2) fn32.bd (zaf 27 4).2.1:=bK Y H rfl (by kernel_rfl)
theorem b34:SExs (cn w h os scr) pg (kdOf (zaf 27 6).2.2) fn34.bd (zaf 27 6).2.1:=bK Y H rfl (by kernel_rfl)
theorem b39:SExs (cn w h os scr) pg (kdOf (zaf 27 11).2.2) fn39.bd (zaf 27 11).2.1:=bK Y H rfl (by kernel_rfl)
theorem b40:SExs (cn w h os scr) pg (kdOf (zaf 27 12).2.2) fn40.bd (zaf 27 12).2.1:=bK Y H rfl (by kernel_rfl)
theorem b42:SExs (cn w h os scr) pg (kdOf (zaf 27 14).2.2) fn42.bd (zaf 27 14).2.1:=bK Y H rfl (by kernel_rfl)
theorem b44:SExs (cn w h os scr) pg (kdOf (zaf 81 0).2.2) fn44.bd (zaf 81 0).2.1:=bK Y H rfl (by kernel_rfl)
theorem b59:SExs (cn w h os scr) pg (kdOf (zaf 83 0).2.2) fn59.bd (zaf 83 0).2.1:=bK Y H rfl (by kernel_rfl)
theorem b64:SExs (cn w h os scr) pg (kdOf (zaf 58 0).2.2) fn64.bd (zaf 58 0).2.1:=bK Y H rfl (by kernel_rfl)
theorem b69:SExs (cn w h os scr) pg (kdOf (fnAt 216).2.2) fn69.bd (fnAt 216).2.1:=bK Y H rfl (by kernel_rfl)
theorem b70:SExs (cn w h os scr) pg (kdOf (fnAt 101).2.2) fn70.bd (fnAt 101).2.1:=bK Y H rfl (by kernel_rfl)
theorem b71:SExs (cn w h os scr) pg (kdOf (fnAt 215).2.2) fn71.bd (fnAt 215).2.1:=bK Y H rfl (by kernel_rfl)
theorem b72:SBd (cn w h os scr) pg (kdOf (fnAt 219).2.2) fn72.bd (fnAt 219).2.1:=
  @bE _ _ _ _ Y H _ _ _ (zab zhP (zab zhO (zab zhN (zab zhM (zab zhL sNil))))) (by kernel_rfl) (@bS _ _ _ _ Y H _ _ 0 _ _ (by kernel_rfl) (by kernel_rfl) (@bS _ _ _ _ Y H _ _ 1 _ _ (by kernel_rfl) (by kernel_rfl) (@bS _ _ _ _ Y H _ _ 2 _ _ (by kernel_rfl) (by kernel_rfl) (@bS _ _ _ _ Y H _ _ 3 _ _ (by kernel_rfl) (by kernel_rfl) (@bS _ _ _ _ Y H _ _ 4 _ _ (by kernel_rfl) (by kernel_rfl) (@bN _ _ _ _ Y H _ _ 5 (by kernel_rfl)))))))
theorem b73:SExs (cn w h os scr) pg (kdOf (fnAt 30).2.2) fn73.bd (fnAt 30).2.1:=bK Y H rfl (by kernel_rfl)
theorem b74:SExs (cn w h os scr) pg (kdOf (fnAt 221).2.2) fn74.bd (fnAt 221).2.1:=bK Y H rfl (by kernel_rfl)
theorem b75:SExs (cn w h os scr) pg (kdOf (fnAt 31).2.2) fn75.bd (fnAt 31).2.1:=bK Y H rfl (by kernel_rfl)
theorem b76:SExs (cn w h os scr) pg (kdOf (fnAt 222).2.2) fn76.bd (fnAt 222).2.1:=bK Y H rfl (by kernel_rfl)
theorem b77:SExs (cn w h os scr) pg (kdOf (fnAt 21).2.2) fn77.bd (fnAt 21).2.1:=bK Y H rfl (by kernel_rfl)
theorem b78:SExs (cn w h os scr) pg (kdOf (zaf 209 0).2.2) fn78.bd (zaf 209 0).2.1:=bK Y H rfl (by kernel_rfl)
theorem b79:SExs (cn w h os scr) pg (kdOf (fnAt 25).2.2) fn79.bd (fnAt 25).2.1:=bK Y H rfl (by kernel_rfl)
theorem b80:SExs (cn w h os scr) pg (kdOf (zaf 26 0).2.2) fn80.bd (zaf 26 0).2.1:=bK Y H rfl (by kernel_rfl)
theorem b81:SExs (cn w h os scr) pg (kdOf (zaf 26 1).2.2) fn81.bd (zaf 26 1).2.1:=bK Y H rfl (by kernel_rfl)
theorem b82:SExs (cn w h os scr) pg (kdOf (zaf 26 2).2.2) fn82.bd (zaf 26 2).2.1:=bK Y H rfl (by kernel_rfl)
theorem b84:SExs (cn w h os scr) pg (kdOf (fnAt 16).2.2) fn84.bd (fnAt 16).2.1:=bK Y H rfl (by kernel_rfl)
theorem b85:SExs (cn w h os scr) pg (kdOf (zaf 100 0).2.2) fn85.bd (zaf 100 0).2.1:=bK Y H rfl (by kernel_rfl)
theorem b86:SExs (cn w h os scr) pg (kdOf (zaf 100 1).2.2) fn86.bd (zaf 100 1).2.1:=bK Y H rfl (by kernel_rfl)
theorem b87:SExs (cn w h os scr) pg (kdOf (zaf 100 2).2.2) fn87.bd (zaf 100 2).2.1:=bK Y H rfl (by kernel_rfl)
theorem b88:SExs (cn w h os scr) pg (kdOf (fnAt 94).2.2) fn88.bd (fnAt 94).2.1:=bK Y H rfl (by kernel_rfl)
theorem b89:SExs (cn w h os scr) pg (kdOf (zaf 28 0).2.2) fn89.bd (zaf 28 0).2.1:=bK Y H rfl (by kernel_rfl)
theorem b90:SExs (cn w h os scr) pg (kdOf (zaf 28 1).2.2) fn90.bd (zaf 28 1).2.1:=bK Y H rfl (by kernel_rfl)
theorem b91:SExs (cn w h os scr) pg (kdOf (zaf 99 0).2.2) fn91.bd (zaf 99 0).2.1:=bK Y H rfl (by kernel_rfl)
theorem b92:SExs (cn w h os scr) pg (kdOf (zaf 99 1).2.2) fn92.bd (zaf 99 1).2.1:=bK Y H rfl (by kernel_rfl)
theorem b93:SExs (cn w h os scr) pg (kdOf (zaf 99 2).2.2) fn93.bd (zaf 99 2).2.1:=bK Y H rfl (by kernel_rfl)
theorem b94:SExs (cn w h os scr) pg (kdOf (fnAt 13).2.2) fn94.bd (fnAt 13).2.1:=bK Y H rfl (by kernel_rfl)
theorem b95:SExs (cn w h os scr) pg (kdOf (fnAt 14).2.2) fn95.bd (fnAt 14).2.1:=bK Y H rfl (by kernel_rfl)
theorem b96:SExs (cn w h os scr) pg (kdOf (fnAt 92).2.2) fn96.bd (fnAt 92).2.1:=bK Y H rfl (by kernel_rfl)
theorem b97:SExs (cn w h os scr) pg (kdOf (fnAt 91).2.2) fn97.bd (fnAt 91).2.1:=bK Y H rfl (by kernel_rfl)
theorem b98:SExs (cn w h os scr) pg (kdOf (fnAt 90).2.2) fn98.bd (fnAt 90).2.1:=bK Y H rfl (by kernel_rfl)
end
end Mine
end
section
open PySem PySem.W PyProof.Rows PySem.Calls
set_option Elab.async false
set_option maxRecDepth 100000
set_option maxHeartbeats 0
namespace Mine
section
variable {w:World} {h:Heap} {os:OsState} {scr:Value} (Y:Hd3 w h scr) (H:All (cn w h os scr) pg atts (mg3 w) (mb3 w))
include Y H
theorem a0:∃o fd body dvals,FnAt (cn w h os scr) pg .h fn0 o fd body dvals:=fb1 (fd:=(fdOf (K3 w.params) 1983)) (b0 Y H) (tabN rfl) (λ_=>by kernel_rfl) rfl rfl (by kernel_rfl)
theorem a1:∃o fd body dvals,FnAt (cn w h os scr) pg ((.o .h)) fn1 o fd body dvals:=fb3 (fd:=(fdOf (K3 w.params) 184)) (b1 Y H) (tabN rfl) (λ_ _ _=>by kernel_rfl) rfl rfl (by kernel_rfl)
theorem a2:∃o fd body dvals,FnAt (cn w h os scr) pg ((.i .h)) fn2 o fd body dvals:=fb1 (fd:=(fdOf (K3 w.params) 1918)) (b2 Y H) (tabN rfl) (λ_=>by kernel_rfl) rfl rfl (by kernel_rfl)
theorem a3:∃o fd body dvals,FnAt (cn w h os scr) pg ((.o (.o .h))) fn3 o fd body dvals:=zdn (fd:=(mkF (zaf 211 0) "__init__" "World.__init__" [] (.ref 1883) .none .none (.str "chancore.world" 3107) none (.ref 1889) .none)) (dvals:=[.none]) (b3 Y H) (zet (n:=1) (T:=1883) (o:=⟨.type "tuple",none,.seq #[Value.none] 0,#[]⟩) (tk:=0) rfl rfl (by kernel_rfl) (by kernel_rfl) (by kernel_rfl) (lenS (λ_=>len0 ⟨_,rfl,rfl⟩)) (lenS (λ_=>lenS (λ_=>len0 ⟨_,rfl,rfl⟩)))) (λ_=>All2.cons rfl All2.nil) (tabN rfl) (by kernel_rfl)
theorem a4:∃o fd body dvals,FnAt (cn w h os scr) pg ((.i (.o .h))) fn4 o fd body dvals:=fb2 (fd:=(fdOf (K3 w.params) 1897)) (b4 Y H) (tabN rfl) (λ_ _=>by kernel_rfl) rfl rfl (by kernel_rfl)
omit H in
theorem a6 (H:All (cn w h os scr) ⟨.nil,cT,[]⟩ atts (mg3 w) (mb3 w)):FnAt (cn w h os scr) ⟨.nil,cT,[]⟩ ((.i (.i .h))) fn6 (fnO (mkF (fnAt 214) "_law_scoop" "_law_scoop" [] .none .none .none (.str "law_xm0204_01" 3224) none (.ref 1924) .none)) (mkF (fnAt 214) "_law_scoop" "_law_scoop" [] .none .none .none (.str "law_xm0204_01" 3224) none (.ref 1924) .none) (fnAt 214).2.1 []:=⟨by kernel_rfl,by kernel_rfl,by kernel_rfl,by kernel_rfl,by kernel_rfl,by kernel_rfl,by kernel_rfl,by kernel_rfl,by kernel_rfl,by kernel_rfl,zes (nm:=nm3) (by kernel_rfl),zfF (nm:=nm3) (by kernel_rfl),zc9 (by kernel_rfl),zc9 (by kernel_rfl),d0 rfl,be2 (λ_ _=>by kernel_rfl) rfl rfl,b6 Y H,tabN rfl⟩
theorem a7:∃o fd body dvals,FnAt (cn w h os scr) pg ((.o (.o (.o .h)))) fn7 o fd body dvals:=fb5 (fd:=(fdOf (K3 w.params) 1753)) (b7 Y H) (tabN rfl) (λ_ _ _ _ _=>by kernel_rfl) rfl rfl (by kernel_rfl)
theorem a20:∃o fd body dvals,FnAt (cn w h os scr) pg ((.i (.o (.i (.o .h))))) fn20 o fd body dvals:=fb2 (fd:=(fdOf (K3 w.params) 437)) (b20 Y H) (tabN rfl) (λ_ _=>by kernel_rfl) rfl rfl (by kernel_rfl)
theorem a21:∃o fd body dvals,FnAt (cn w h os scr) pg ((.o (.i (.i (.o .h))))) fn21 o fd body dvals:=fb2 (fd:=(fdOf (K3 w.params) 444)) (b21 Y H) (tabN rfl) (λ_ _=>by kernel_rfl) rfl rfl (by kernel_rfl)
theorem a22:∃o fd body dvals,FnAt (cn w h os scr) pg ((.i (.i (.i (.o .h))))) fn22 o fd body dvals:=fb2 (fd:=(fdOf (K3 w.params) 1944)) (b22 Y H) (tabN rfl) (λ_ _=>by kernel_rfl) rfl rfl (by kernel_rfl)
theorem a25:∃o fd body dvals,FnAt (cn w h os scr) pg ((.o (.i (.o (.i .h))))) fn25 o fd body dvals:=fb1 (fd:=(fdOf (K3 w.params) 1978)) (b25 Y H) (tabN rfl) (λ_=>by kernel_rfl) rfl rfl (by kernel_rfl)
theorem a26:∃o fd body dvals,FnAt (cn w h os scr) pg ((.i (.i (.o (.i .h))))) fn26 o fd body dvals:=fb0 (fd:=(fdOf (K3 w.params) 1875)) (b26 Y H) (tabN rfl) (by kernel_rfl) rfl rfl (by kernel_rfl)
theorem a27:∃o fd body dvals,FnAt (cn w h os scr) pg ((.o (.o (.i (.i .h))))) fn27 o fd body dvals:=fb1 (fd:=(fdOf (K3 w.params) 1739)) (b27 Y H) (tabN rfl) (λ_=>by kernel_rfl) rfl rfl (by kernel_rfl)
theorem a28:∃o fd body dvals,FnAt (cn w h os scr) pg ((.i (.o (.i (.i .h))))) fn28 o fd body dvals:=fb2 (fd:=(fdOf (K3 w.params) 259)) (b28 Y H) (tabN rfl) (λ_ _=>by kernel_rfl) rfl rfl (by kernel_rfl)
theorem a30:∃o fd body dvals,FnAt (cn w h os scr) pg ((.i (.i (.i (.i .h))))) fn30 o fd body dvals:=fb2 (fd:=(fdOf (K3 w.params) 273)) (b30 Y H) (tabN rfl) (λ_ _=>by kernel_rfl) rfl rfl (by kernel_rfl)
theorem a31:∃o fd body dvals,FnAt (cn w h os scr) pg ((.o (.o (.o (.o (.o .h)))))) fn31 o fd body dvals:=fb2 (fd:=(fdOf (K3 w.params) 280)) (b31 Y H) (tabN rfl) (λ_ _=>by kernel_rfl) rfl rfl (by kernel_rfl)
theorem a32:∃o fd body dvals,FnAt (cn w h os scr) pg ((.i (.o (.o (.o (.o .h)))))) fn32 o fd body dvals:=fb3 (fd:=(fdOf (K3 w.params) 287)) (b32 Y H) (tabN rfl) (λ_ _ _=>by kernel_rfl) rfl rfl (by kernel_rfl)
theorem a34:∃o fd body dvals,FnAt (cn w h os scr) pg ((.i (.i (.o (.o (.o .h)))))) fn34 o fd body dvals:=fb3 (fd:=(fdOf (K3 w.params) 301)) (b34 Y H) (tabN rfl) (λ_ _ _=>by kernel_rfl) rfl rfl (by kernel_rfl)
theorem a39:∃o fd body dvals,FnAt (cn w h os scr) pg ((.o (.o (.o (.i (.o .h)))))) fn39 o fd body dvals:=fb1 (fd:=(fdOf (K3 w.params) 334)) (b39 Y H) (tabN rfl) (λ_=>by kernel_rfl) rfl rfl (by kernel_rfl)
theorem a40:∃o fd body dvals,FnAt (cn w h os scr) pg ((.i (.o (.o (.i (.o .h)))))) fn40 o fd body dvals:=fb2 (fd:=(fdOf (K3 w.params) 341)) (b40 Y H) (tabN rfl) (λ_ _=>by kernel_rfl) rfl rfl (by kernel_rfl)
theorem a42:∃o fd body dvals,FnAt (cn w h os scr) pg ((.i (.i (.o (.i (.o .h)))))) fn42 o fd body dvals:=fb4 (fd:=(fdOf (K3 w.params) 355)) (b42 Y H) (tabN rfl) (λ_ _ _ _=>by kernel_rfl) rfl rfl (by kernel_rfl)
theorem a44:∃o fd body dvals,FnAt (cn w h os scr) pg ((.i (.o (.i (.i (.o .h)))))) fn44 o fd body dvals:=fb1 (fd:=(fdOf (K3 w.params) 838)) (b44 Y H) (tabN rfl) (λ_=>by kernel_rfl) rfl rfl (by kernel_rfl)
theorem a59:∃o fd body dvals,FnAt (cn w h os scr) pg ((.o (.o (.i (.i (.i .h)))))) fn59 o fd body dvals:=fb1 (fd:=(fdOf (K3 w.params) 955)) (b59 Y H) (tabN rfl) (λ_=>by kernel_rfl) rfl rfl (by kernel_rfl)
theorem a64:∃o fd body dvals,FnAt (cn w h os scr) pg ((.i (.o (.o (.o (.o (.o .h))))))) fn64 o fd body dvals:=fb2 (fd:=(fdOf (K3 w.params) 686)) (b64 Y H) (tabN rfl) (λ_ _=>by kernel_rfl) rfl rfl (by kernel_rfl)
theorem a69:∃o fd body dvals,FnAt (cn w h os scr) pg ((.o (.i (.i (.o (.o (.o .h))))))) fn69 o fd body dvals:=fb2 (fd:=(fdOf (K3 w.params) 1939)) (b69 Y H) (tabN rfl) (λ_ _=>by kernel_rfl) rfl rfl (by kernel_rfl)
theorem a70:∃o fd body dvals,FnAt (cn w h os scr) pg ((.i (.i (.i (.o (.o (.o .h))))))) fn70 o fd body dvals:=fb3 (fd:=(fdOf (K3 w.params) 1121)) (b70 Y H) (tabN rfl) (λ_ _ _=>by kernel_rfl) rfl rfl (by kernel_rfl)
theorem a71:∃o fd body dvals,FnAt (cn w h os scr) pg ((.o (.o (.o (.i (.o (.o .h))))))) fn71 o fd body dvals:=fb2 (fd:=(fdOf (K3 w.params) 1932)) (b71 Y H) (tabN rfl) (λ_ _=>by kernel_rfl) rfl rfl (by kernel_rfl)
theorem a72:∃o fd body dvals,FnAt (cn w h os scr) pg ((.i (.o (.o (.i (.o (.o .h))))))) fn72 o fd body dvals:=fy1 (fd:=(fdOf (K3 w.params) 1956)) (b72 Y H) (tabN rfl) (λ_=>by kernel_rfl) rfl rfl (by kernel_rfl)
theorem a73:∃o fd body dvals,FnAt (cn w h os scr) pg ((.o (.i (.o (.i (.o (.o .h))))))) fn73 o fd body dvals:=fb2 (fd:=(fdOf (K3 w.params) 402)) (b73 Y H) (tabN rfl) (λ_ _=>by kernel_rfl) rfl rfl (by kernel_rfl)
theorem a74:∃o fd body dvals,FnAt (cn w h os scr) pg ((.i (.i (.o (.i (.o (.o .h))))))) fn74 o fd body dvals:=fb1 (fd:=(fdOf (K3 w.params) 1968)) (b74 Y H) (tabN rfl) (λ_=>by kernel_rfl) rfl rfl (by kernel_rfl)
theorem a75:∃o fd body dvals,FnAt (cn w h os scr) pg ((.o (.o (.i (.i (.o (.o .h))))))) fn75 o fd body dvals:=fb2 (fd:=(fdOf (K3 w.params) 409)) (b75 Y H) (tabN rfl) (λ_ _=>by kernel_rfl) rfl rfl (by kernel_rfl)
theorem a76:∃o fd body dvals,FnAt (cn w h os scr) pg ((.i (.o (.i (.i (.o (.o .h))))))) fn76 o fd body dvals:=fb2 (fd:=(fdOf (K3 w.params) 1973)) (b76 Y H) (tabN rfl) (λ_ _=>by kernel_rfl) rfl rfl (by kernel_rfl)
theorem a77:∃o fd body dvals,FnAt (cn w h os scr) pg ((.o (.i (.i (.i (.o (.o .h))))))) fn77 o fd body dvals:=fb2 (fd:=(fdOf (K3 w.params) 177)) (b77 Y H) (tabN rfl) (λ_ _=>by kernel_rfl) rfl rfl (by kernel_rfl)
theorem a78:∃o fd body dvals,FnAt (cn w h os scr) pg ((.i (.i (.i (.i (.o (.o .h))))))) fn78 o fd body dvals:=fb5 (fd:=(fdOf (K3 w.params) 1861)) (b78 Y H) (tabN rfl) (λ_ _ _ _ _=>by kernel_rfl) rfl rfl (by kernel_rfl)
theorem a79:∃o fd body dvals,FnAt (cn w h os scr) pg ((.o (.o (.o (.o (.i (.o .h))))))) fn79 o fd body dvals:=fb2 (fd:=(fdOf (K3 w.params) 205)) (b79 Y H) (tabN rfl) (λ_ _=>by kernel_rfl) rfl rfl (by kernel_rfl)
theorem a80:∃o fd body dvals,FnAt (cn w h os scr) pg ((.i (.o (.o (.o (.i (.o .h))))))) fn80 o fd body dvals:=fb1 (fd:=(fdOf (K3 w.params) 219)) (b80 Y H) (tabN rfl) (λ_=>by kernel_rfl) rfl rfl (by kernel_rfl)
theorem a81:∃o fd body dvals,FnAt (cn w h os scr) pg ((.o (.i (.o (.o (.i (.o .h))))))) fn81 o fd body dvals:=fb2 (fd:=(fdOf (K3 w.params) 226)) (b81 Y H) (tabN rfl) (λ_ _=>by kernel_rfl) rfl rfl (by kernel_rfl)
theorem a82:∃o fd body dvals,FnAt (cn w h os scr) pg ((.i (.i (.o (.o (.i (.o .h))))))) fn82 o fd body dvals:=fb4 (fd:=(fdOf (K3 w.params) 233)) (b82 Y H) (tabN rfl) (λ_ _ _ _=>by kernel_rfl) rfl rfl (by kernel_rfl)
theorem a84:∃o fd body dvals,FnAt (cn w h os scr) pg ((.i (.o (.i (.o (.i (.o .h))))))) fn84 o fd body dvals:=zdn (fd:=(mkF (fnAt 16) "value_key" "value_key" [] (.ref 148) .none .none (.str "chancore.values" 337) none (.ref 154) .none)) (dvals:=[.none]) (b84 Y H) (zet (n:=2) (T:=148) (o:=⟨.type "tuple",none,.seq #[Value.none] 0,#[]⟩) (tk:=0) rfl rfl (by kernel_rfl) (by kernel_rfl) (by kernel_rfl) (lenS (λ_=>lenS (λ_=>len0 ⟨_,rfl,rfl⟩))) (lenS (λ_=>lenS (λ_=>lenS (λ_=>len0 ⟨_,rfl,rfl⟩))))) (λ_=>All2.cons rfl All2.nil) (tabN rfl) (by kernel_rfl)
theorem a85:∃o fd body dvals,FnAt (cn w h os scr) pg ((.o (.i (.i (.o (.i (.o .h))))))) fn85 o fd body dvals:=fb3 (fd:=(fdOf (K3 w.params) 1093)) (b85 Y H) (tabN rfl) (λ_ _ _=>by kernel_rfl) rfl rfl (by kernel_rfl)
theorem a86:∃o fd body dvals,FnAt (cn w h os scr) pg ((.i (.i (.i (.o (.i (.o .h))))))) fn86 o fd body dvals:=fb2 (fd:=(fdOf (K3 w.params) 1100)) (b86 Y H) (tabN rfl) (λ_ _=>by kernel_rfl) rfl rfl (by kernel_rfl)
theorem a87:∃o fd body dvals,FnAt (cn w h os scr) pg ((.o (.o (.o (.i (.i (.o .h))))))) fn87 o fd body dvals:=fb3 (fd:=(fdOf (K3 w.params) 1107)) (b87 Y H) (tabN rfl) (λ_ _ _=>by kernel_rfl) rfl rfl (by kernel_rfl)
theorem a88:∃o fd body dvals,FnAt (cn w h os scr) pg ((.i (.o (.o (.i (.i (.o .h))))))) fn88 o fd body dvals:=fb1 (fd:=(fdOf (K3 w.params) 1027)) (b88 Y H) (tabN rfl) (λ_=>by kernel_rfl) rfl rfl (by kernel_rfl)
theorem a89:∃o fd body dvals,FnAt (cn w h os scr) pg ((.o (.i (.o (.i (.i (.o .h))))))) fn89 o fd body dvals:=fb2 (fd:=(fdOf (K3 w.params) 383)) (b89 Y H) (tabN rfl) (λ_ _=>by kernel_rfl) rfl rfl (by kernel_rfl)
theorem a90:∃o fd body dvals,FnAt (cn w h os scr) pg ((.i (.i (.o (.i (.i (.o .h))))))) fn90 o fd body dvals:=fb2 (fd:=(fdOf (K3 w.params) 388)) (b90 Y H) (tabN rfl) (λ_ _=>by kernel_rfl) rfl rfl (by kernel_rfl)
theorem a91:∃o fd body dvals,FnAt (cn w h os scr) pg ((.o (.o (.i (.i (.i (.o .h))))))) fn91 o fd body dvals:=fb4 (fd:=(fdOf (K3 w.params) 1058)) (b91 Y H) (tabN rfl) (λ_ _ _ _=>by kernel_rfl) rfl rfl (by kernel_rfl)
theorem a92:∃o fd body dvals,FnAt (cn w h os scr) pg ((.i (.o (.i (.i (.i (.o .h))))))) fn92 o fd body dvals:=fb2 (fd:=(fdOf (K3 w.params) 1065)) (b92 Y H) (tabN rfl) (λ_ _=>by kernel_rfl) rfl rfl (by kernel_rfl)
theorem a93:∃o fd body dvals,FnAt (cn w h os scr) pg ((.o (.i (.i (.i (.i (.o .h))))))) fn93 o fd body dvals:=fb3 (fd:=(fdOf (K3 w.params) 1072)) (b93 Y H) (tabN rfl) (λ_ _ _=>by kernel_rfl) rfl rfl (by kernel_rfl)
theorem a94:∃o fd body dvals,FnAt (cn w h os scr) pg ((.i (.i (.i (.i (.i (.o .h))))))) fn94 o fd body dvals:=fb2 (fd:=(fdOf (K3 w.params) 132)) (b94 Y H) (tabN rfl) (λ_ _=>by kernel_rfl) rfl rfl (by kernel_rfl)
theorem a95:∃o fd body dvals,FnAt (cn w h os scr) pg ((.o (.o (.o (.o (.o (.i .h))))))) fn95 o fd body dvals:=fb1 (fd:=(fdOf (K3 w.params) 139)) (b95 Y H) (tabN rfl) (λ_=>by kernel_rfl) rfl rfl (by kernel_rfl)
theorem a96:∃o fd body dvals,FnAt (cn w h os scr) pg ((.i (.o (.o (.o (.o (.i .h))))))) fn96 o fd body dvals:=fb2 (fd:=(fdOf (K3 w.params) 1013)) (b96 Y H) (tabN rfl) (λ_ _=>by kernel_rfl) rfl rfl (by kernel_rfl)
theorem a97:∃o fd body dvals,FnAt (cn w h os scr) pg ((.o (.i (.o (.o (.o (.i .h))))))) fn97 o fd body dvals:=fb1 (fd:=(fdOf (K3 w.params) 1006)) (b97 Y H) (tabN rfl) (λ_=>by kernel_rfl) rfl rfl (by kernel_rfl)
theorem a98:∃o fd body dvals,FnAt (cn w h os scr) pg ((.i (.i (.o (.o (.o (.i .h))))))) fn98 o fd body dvals:=fb1 (fd:=(fdOf (K3 w.params) 999)) (b98 Y H) (tabN rfl) (λ_=>by kernel_rfl) rfl rfl (by kernel_rfl)
theorem zhv:tP (λp=>p) (λf F=>(∃o fd body dvals,FnAt (cn w h os scr) pg f F o fd body dvals)\/∃e,LamAt (cn w h os scr) pg f F e) fT:=⟨oI (a0 Y H),⟨oI (a1 Y H),⟨oI (a3 Y H),⟨oI (a7 Y H),⟨oN,⟨oI (a31 Y H),trivial,⟨oI (a95 Y H),trivial,trivial⟩⟩,⟨oN,⟨oI (a79 Y H),trivial,trivial⟩,trivial⟩⟩,⟨oN,⟨oI (a39 Y H),⟨oI (a71 Y H),trivial,trivial⟩,trivial⟩,⟨oN,⟨oI (a87 Y H),trivial,trivial⟩,trivial⟩⟩⟩,⟨oN,trivial,⟨oI (a27 Y H),⟨oN,⟨oI (a75 Y H),trivial,trivial⟩,trivial⟩,⟨oI (a59 Y H),⟨oI (a91 Y H),trivial,trivial⟩,trivial⟩⟩⟩⟩,⟨oN,⟨oN,⟨oN,⟨oN,trivial,⟨oI (a97 Y H),trivial,trivial⟩⟩,⟨oN,⟨oI (a81 Y H),trivial,trivial⟩,trivial⟩⟩,⟨oI (a25 Y H),⟨oN,⟨oI (a73 Y H),trivial,trivial⟩,trivial⟩,⟨oN,⟨oI (a89 Y H),trivial,trivial⟩,trivial⟩⟩⟩,⟨oN,⟨oI (a21 Y H),⟨oN,⟨oI (a69 Y H),trivial,trivial⟩,trivial⟩,⟨oN,⟨oI (a85 Y H),trivial,trivial⟩,trivial⟩⟩,⟨oN,⟨oN,⟨oI (a77 Y H),trivial,trivial⟩,trivial⟩,⟨oN,⟨oI (a93 Y H),trivial,trivial⟩,trivial⟩⟩⟩⟩⟩,⟨oI (a2 Y H),⟨oI (a4 Y H),⟨oN,⟨oN,⟨oI (a32 Y H),⟨oI (a64 Y H),trivial,trivial⟩,⟨oI (a96 Y H),trivial,trivial⟩⟩,⟨oN,⟨oI (a80 Y H),trivial,trivial⟩,trivial⟩⟩,⟨oN,⟨oI (a40 Y H),⟨oI (a72 Y H),trivial,trivial⟩,trivial⟩,⟨oN,⟨oI (a88 Y H),trivial,trivial⟩,trivial⟩⟩⟩,⟨oN,⟨oI (a20 Y H),trivial,⟨oN,⟨oI (a84 Y H),trivial,trivial⟩,trivial⟩⟩,⟨oI (a28 Y H),⟨oI (a44 Y H),⟨oI (a76 Y H),trivial,trivial⟩,trivial⟩,⟨oN,⟨oI (a92 Y H),trivial,trivial⟩,trivial⟩⟩⟩⟩,⟨oN,⟨oN,⟨oN,⟨oI (a34 Y H),trivial,⟨oI (a98 Y H),trivial,trivial⟩⟩,⟨oN,⟨oI (a82 Y H),trivial,trivial⟩,trivial⟩⟩,⟨oI (a26 Y H),⟨oI (a42 Y H),⟨oI (a74 Y H),trivial,trivial⟩,trivial⟩,⟨oN,⟨oI (a90 Y H),trivial,trivial⟩,trivial⟩⟩⟩,⟨oN,⟨oI (a22 Y H),⟨oN,⟨oI (a70 Y H),trivial,trivial⟩,trivial⟩,⟨oN,⟨oI (a86 Y H),trivial,trivial⟩,trivial⟩⟩,⟨oI (a30 Y H),⟨oN,⟨oI (a78 Y H),trivial,trivial⟩,trivial⟩,⟨oN,⟨oI (a94 Y H),trivial,trivial⟩,trivial⟩⟩⟩⟩⟩⟩
theorem ziO (n:Nat):CallOk (cn w h os scr) (go pg fT n):=ziA (nms3 Y) Y.kin (λf F e=>zeZ (λp=>p) fT (zhv Y H) f F e) n
end
section
variable {w:World} {h:Heap} {os:OsState} {scr:Value}
theorem dr3 (Y:Hd3 w h scr):DrOk (cn w h os scr) pg:=znJ (nms3 Y) Y.kin (a6 Y (znW Y)) (by kernel_rfl) (λg e=>by
  have q:tAll (λg G=>match G with | .drw=>gv3 scr g==.ref (fv3 (.i (.i .h))) | _=>true) pg.g=true:=by kernel_rfl
  exact beq_iff_eq.mp (zaM q e))
theorem zbK (Y:Hd3 w h scr):All (cn w h os scr) pg atts (mg3 w) (mb3 w):=all3 Y (dr3 Y)
theorem znQ (Y:Hd3 w h scr) (n:Nat):CallOk (cn w h os scr) (go pg fT n):=ziO Y (zbK Y) n
end
end Mine
end
section
namespace Mine
noncomputable section
noncomputable def g60:CF:=go pg fT 60
noncomputable def s22:St:=⟨(.node .junk (.node .junk (.node (.tup [.str 68,.str 81,.str 93]) (.node (.tup [.ref (.i (.o .h)),.ref (.o (.i .h)),.ref (.i (.i .h))]) .nil (.node .junk (.node (.lst [.ani,.sym 9 (.ofNat 0) (.ofNat 0) (.ofNat 2147483646)]) .nil .nil) .nil)) (.node .junk (.node .junk .nil (.node .junk .nil (.node (.ns [(14,.ref (.o (.i (.o (.i (.o .h)))))),(46,.ref (.o (.i (.o (.i (.i (.i .h))))))),(47,.ref (.o (.i (.o (.o (.i (.i .h))))))),(48,.int (.ofNat 9)),(50,.ref (.i (.i (.o (.o (.o (.o (.o .h)))))))),(51,.ref (.i (.o (.o (.i (.o (.o (.o .h)))))))),(52,.ref (.o (.i (.i (.i (.o (.o (.o .h)))))))),(53,.ref (.o (.o (.i (.o (.i (.o (.o .h)))))))),(54,.ref (.i (.i (.i (.o (.i (.o (.o .h)))))))),(55,.non),(27,.ref (.o (.o (.o (.i (.i (.o (.o .h))))))))]) .nil .nil))) .nil)) (.node (.tup [.int (.ofNat 224),.int (.ofNat 239),.int (.ofNat 2048)]) (.node (.cel (.ref (.o (.o (.o (.i (.o .h))))))) (.node .junk (.node .junk (.node .junk (.node (.ns [(49,.ref (.i (.o (.o (.o (.o (.o (.o .h)))))))),(60,.ref (.i (.o (.i (.o (.o (.o (.o .h)))))))),(123,.ref (.o (.i (.i (.o (.o (.o (.o .h)))))))),(124,.ref (.i (.i (.i (.o (.o (.o (.o .h))))))))]) .nil .nil) .nil) .nil) (.node .junk .nil (.node (.inst (.i .h) (.i (.o (.o (.o (.i (.i .h))))))) .nil .nil))) (.node .junk (.node (.inst .h (.i (.o (.o (.i (.o .h)))))) .nil (.node (.lst [.sym 2 (.ofNat 0) (.ofNat 0) (.ofNat 11),.sym 4 (.ofNat 0) (.ofNat 0) (.ofNat 11),.sym 6 (.ofNat 0) (.ofNat 0) (.ofNat 11),.sym 8 (.ofNat 0) (.ofNat 0) (.ofNat 11)]) .nil .nil)) .nil)) (.node .junk (.node .junk (.node .junk (.node .junk (.node (.lst []) .nil .nil) .nil) .nil) .nil) .nil))) (.node .junk (.node (.tup [.int (.ofNat 192),.int (.ofNat 223),.int (.ofNat 128)]) (.node .junk (.node .junk (.node .junk (.node .junk (.node (.bm (.i (.o (.o .h))) (.i (.o (.i (.o (.i (.i .h))))))) .nil .nil) .nil) .nil) (.node .junk .nil (.node (.ns [(16,.ref (.o (.i (.o (.i (.o (.i .h))))))),(58,.int (.ofNat 0))]) .nil .nil))) (.node .junk (.node (.ns [(24,.non),(26,.ref (.o (.i (.i (.o (.o (.o .h))))))),(27,.ref (.o (.o (.o (.i (.i (.o .h))))))),(28,.ref (.i (.o (.o (.i (.i (.o .h))))))),(29,.ref (.o (.i (.o (.i (.i (.o .h))))))),(30,.ref (.i (.i (.o (.i (.i (.o .h))))))),(31,.ref (.o (.o (.i (.i (.i (.o .h))))))),(32,.ref (.i (.o (.i (.i (.i (.o .h))))))),(33,.ref (.o (.i (.i (.i (.i (.o .h))))))),(34,.ref (.i (.i (.i (.i (.i (.o .h))))))),(35,.non),(36,.non),(37,.ref (.o (.o (.o (.o (.o (.i .h))))))),(38,.ref (.i (.o (.o (.o (.o (.i .h))))))),(7,.ref (.o (.i (.o (.o (.o (.i .h))))))),(39,.ref (.i (.i (.o (.o (.o (.i .h))))))),(40,.ref (.o (.o (.i (.o (.o (.i .h))))))),(41,.ref (.i (.o (.i (.o (.o (.i .h))))))),(42,.ref (.o (.i (.i (.o (.o (.i .h))))))),(43,.boo true)]) .nil .nil) .nil)) (.node .junk (.node .junk .nil (.node .junk .nil (.node (.inst (.o .h) (.o (.o (.i (.o (.i (.i .h))))))) .nil .nil))) .nil)) (.node (.tup [.int (.ofNat 240),.int (.ofNat 247),.int (.ofNat 65536)]) (.node .junk (.node .junk (.node .junk (.node .junk (.node (.inst (.o (.o .h)) (.o (.i (.o (.o (.o (.o (.o .h)))))))) .nil .nil) .nil) .nil) .nil) .nil) (.node .junk (.node .junk (.node .junk (.node .junk (.node (.lst []) .nil .nil) .nil) .nil) .nil) .nil)))),(.i (.i (.o (.i (.i (.o (.o .h))))))),10,[((.i (.o (.o .h))),[(12,.glo .h),(14,.ref (.o (.i (.o (.i (.o .h)))))),(16,.ref (.o (.i (.o (.i (.o (.i .h))))))),(17,.ref (.i (.o (.i (.o (.i (.i .h)))))))])]⟩
noncomputable def e22:St:=⟨(.node .junk (.node .junk (.node (.tup [.str 68,.str 81,.str 93]) (.node (.tup [.ref (.i (.o .h)),.ref (.o (.i .h)),.ref (.i (.i .h))]) .nil (.node .junk (.node (.lst [.ani,.sym 10 (.ofNat 0) (.ofNat 0) (.ofNat 2147483646)]) .nil .nil) .nil)) (.node .junk (.node .junk .nil (.node .junk .nil (.node (.ns [(14,.ref (.o (.i (.o (.i (.o .h)))))),(46,.ref (.o (.i (.o (.i (.i (.i .h))))))),(47,.ref (.o (.i (.o (.o (.i (.i .h))))))),(48,.int (.ofNat 9)),(50,.ref (.i (.i (.o (.o (.o (.o (.o .h)))))))),(51,.ref (.i (.o (.o (.i (.o (.o (.o .h)))))))),(52,.ref (.o (.i (.i (.i (.o (.o (.o .h)))))))),(53,.ref (.o (.o (.i (.o (.i (.o (.o .h)))))))),(54,.ref (.i (.i (.i (.o (.i (.o (.o .h)))))))),(55,.non),(27,.ref (.o (.o (.o (.i (.i (.o (.o .h))))))))]) .nil .nil))) .nil)) (.node (.tup [.int (.ofNat 224),.int (.ofNat 239),.int (.ofNat 2048)]) (.node (.cel (.ref (.o (.o (.o (.i (.o .h))))))) (.node .junk (.node .junk (.node .junk (.node (.ns [(49,.ref (.i (.o (.o (.o (.o (.o (.o .h)))))))),(60,.ref (.i (.o (.i (.o (.o (.o (.o .h)))))))),(123,.ref (.o (.i (.i (.o (.o (.o (.o .h)))))))),(124,.ref (.i (.i (.i (.o (.o (.o (.o .h))))))))]) .nil .nil) .nil) .nil) (.node .junk .nil (.node (.inst (.i .h) (.i (.o (.o (.o (.i (.i .h))))))) .nil .nil))) (.node .junk (.node (.inst .h (.i (.o (.o (.i (.o .h)))))) .nil (.node (.lst [.sym 2 (.ofNat 0) (.ofNat 0) (.ofNat 11),.sym 4 (.ofNat 0) (.ofNat 0) (.ofNat 11),.sym 6 (.ofNat 0) (.ofNat 0) (.ofNat 11),.sym 8 (.ofNat 0) (.ofNat 0) (.ofNat 11)]) .nil .nil)) .nil)) .nil)) (.node .junk (.node (.tup [.int (.ofNat 192),.int (.ofNat 223),.int (.ofNat 128)]) (.node .junk (.node .junk (.node .junk (.node .junk (.node (.bm (.i (.o (.o .h))) (.i (.o (.i (.o (.i (.i .h))))))) .nil .nil) .nil) .nil) (.node .junk .nil (.node (.ns [(16,.ref (.o (.i (.o (.i (.o (.i .h))))))),(58,.int (.ofNat 0))]) .nil .nil))) (.node .junk (.node (.ns [(24,.non),(26,.ref (.o (.i (.i (.o (.o (.o .h))))))),(27,.ref (.o (.o (.o (.i (.i (.o .h))))))),(28,.ref (.i (.o (.o (.i (.i (.o .h))))))),(29,.ref (.o (.i (.o (.i (.i (.o .h))))))),(30,.ref (.i (.i (.o (.i (.i (.o .h))))))),(31,.ref (.o (.o (.i (.i (.i (.o .h))))))),(32,.ref (.i (.o (.i (.i (.i (.o .h))))))),(33,.ref (.o (.i (.i (.i (.i (.o .h))))))),(34,.ref (.i (.i (.i (.i (.i (.o .h))))))),(35,.non),(36,.non),(37,.ref (.o (.o (.o (.o (.o (.i .h))))))),(38,.ref (.i (.o (.o (.o (.o (.i .h))))))),(7,.ref (.o (.i (.o (.o (.o (.i .h))))))),(39,.ref (.i (.i (.o (.o (.o (.i .h))))))),(40,.ref (.o (.o (.i (.o (.o (.i .h))))))),(41,.ref (.i (.o (.i (.o (.o (.i .h))))))),(42,.ref (.o (.i (.i (.o (.o (.i .h))))))),(43,.boo true)]) .nil .nil) .nil)) (.node .junk (.node .junk .nil (.node .junk .nil (.node (.inst (.o .h) (.o (.o (.i (.o (.i (.i .h))))))) .nil .nil))) .nil)) (.node (.tup [.int (.ofNat 240),.int (.ofNat 247),.int (.ofNat 65536)]) (.node .junk (.node .junk (.node .junk (.node .junk (.node (.inst (.o (.o .h)) (.o (.i (.o (.o (.o (.o (.o .h)))))))) .nil .nil) .nil) .nil) .nil) .nil) (.node .junk (.node .junk (.node .junk (.node .junk (.node (.lst []) .nil .nil) .nil) .nil) .nil) .nil)))),(.i (.i (.o (.i (.i (.o (.o .h))))))),11,[((.i (.o (.o .h))),[(12,.glo .h),(14,.ref (.o (.i (.o (.i (.o .h)))))),(16,.ref (.o (.i (.o (.i (.o (.i .h))))))),(17,.ref (.i (.o (.i (.o (.i (.i .h)))))))])]⟩
noncomputable def S22:Sm:=⟨(.i (.i (.i (.o .h)))),[.ref (.o (.o (.o (.i (.o .h))))),.ref (.i (.o (.i (.o (.i (.i .h))))))],21,s22,[e22],(.o (.o (.o (.i (.o .h))))),none⟩
noncomputable def s23:St:=⟨(.node .junk (.node .junk (.node (.tup [.str 68,.str 81,.str 93]) (.node (.tup [.ref (.i (.o .h)),.ref (.o (.i .h)),.ref (.i (.i .h))]) .nil (.node .junk (.node (.lst [.ani,.sym 11 (.ofNat 0) (.ofNat 0) (.ofNat 2147483646)]) .nil .nil) .nil)) (.node .junk (.node .junk .nil (.node .junk .nil (.node (.ns [(14,.ref (.o (.i (.o (.i (.o .h)))))),(46,.ref (.o (.i (.o (.i (.i (.i .h))))))),(47,.ref (.o (.i (.o (.o (.i (.i .h))))))),(48,.int (.ofNat 9)),(50,.ref (.i (.i (.o (.o (.o (.o (.o .h)))))))),(51,.ref (.i (.o (.o (.i (.o (.o (.o .h)))))))),(52,.ref (.o (.i (.i (.i (.o (.o (.o .h)))))))),(53,.ref (.o (.o (.i (.o (.i (.o (.o .h)))))))),(54,.ref (.i (.i (.i (.o (.i (.o (.o .h)))))))),(55,.non),(27,.ref (.o (.o (.o (.i (.i (.o (.o .h))))))))]) .nil .nil))) .nil)) (.node (.tup [.int (.ofNat 224),.int (.ofNat 239),.int (.ofNat 2048)]) (.node (.cel (.ref (.o (.o (.o (.i (.o .h))))))) (.node .junk (.node .junk (.node .junk (.node (.ns [(49,.ref (.i (.o (.o (.o (.o (.o (.o .h)))))))),(60,.ref (.i (.o (.i (.o (.o (.o (.o .h)))))))),(123,.ref (.o (.i (.i (.o (.o (.o (.o .h)))))))),(124,.ref (.i (.i (.i (.o (.o (.o (.o .h))))))))]) .nil .nil) .nil) .nil) (.node .junk .nil (.node (.inst (.i .h) (.i (.o (.o (.o (.i (.i .h))))))) .nil .nil))) (.node .junk (.node (.inst .h (.i (.o (.o (.i (.o .h)))))) .nil (.node (.lst [.sym 2 (.ofNat 0) (.ofNat 0) (.ofNat 11),.sym 4 (.ofNat 0) (.ofNat 0) (.ofNat 11),.sym 6 (.ofNat 0) (.ofNat 0) (.ofNat 11),.sym 8 (.ofNat 0) (.ofNat 0) (.ofNat 11)]) .nil .nil)) .nil)) .nil)) (.node .junk (.node (.tup [.int (.ofNat 192),.int (.ofNat 223),.int (.ofNat 128)]) (.node .junk (.node .junk (.node .junk (.node .junk (.node (.bm (.i (.o (.o .h))) (.i (.o (.i (.o (.i (.i .h))))))) .nil .nil) .nil) .nil) (.node .junk .nil (.node (.ns [(16,.ref (.o (.i (.o (.i (.o (.i .h))))))),(58,.int (.ofNat 0))]) .nil .nil))) (.node .junk (.node (.ns [(24,.non),(26,.ref (.o (.i (.i (.o (.o (.o .h))))))),(27,.ref (.o (.o (.o (.i (.i (.o .h))))))),(28,.ref (.i (.o (.o (.i (.i (.o .h))))))),(29,.ref (.o (.i (.o (.i (.i (.o .h))))))),(30,.ref (.i (.i (.o (.i (.i (.o .h))))))),(31,.ref (.o (.o (.i (.i (.i (.o .h))))))),(32,.ref (.i (.o (.i (.i (.i (.o .h))))))),(33,.ref (.o (.i (.i (.i (.i (.o .h))))))),(34,.ref (.i (.i (.i (.i (.i (.o .h))))))),(35,.non),(36,.non),(37,.ref (.o (.o (.o (.o (.o (.i .h))))))),(38,.ref (.i (.o (.o (.o (.o (.i .h))))))),(7,.ref (.o (.i (.o (.o (.o (.i .h))))))),(39,.ref (.i (.i (.o (.o (.o (.i .h))))))),(40,.ref (.o (.o (.i (.o (.o (.i .h))))))),(41,.ref (.i (.o (.i (.o (.o (.i .h))))))),(42,.ref (.o (.i (.i (.o (.o (.i .h))))))),(43,.boo true)]) .nil .nil) .nil)) (.node .junk (.node .junk .nil (.node .junk .nil (.node (.inst (.o .h) (.o (.o (.i (.o (.i (.i .h))))))) .nil .nil))) .nil)) (.node (.tup [.int (.ofNat 240),.int (.ofNat 247),.int (.ofNat 65536)]) (.node .junk (.node .junk (.node .junk (.node .junk (.node (.inst (.o (.o .h)) (.o (.i (.o (.o (.o (.o (.o .h)))))))) .nil .nil) .nil) .nil) .nil) .nil) (.node .junk (.node .junk (.node .junk (.node .junk (.node (.lst []) .nil .nil) .nil) .nil) .nil) .nil)))),(.i (.i (.o (.i (.i (.o (.o .h))))))),12,[((.i (.o (.o .h))),[(12,.glo .h),(14,.ref (.o (.i (.o (.i (.o .h)))))),(16,.ref (.o (.i (.o (.i (.o (.i .h))))))),(17,.ref (.i (.o (.i (.o (.i (.i .h)))))))])]⟩
noncomputable def e23:St:=⟨(.node .junk (.node .junk (.node .junk (.node .junk .nil (.node .junk (.node (.lst [.ani,.sym 12 (.ofNat 0) (.ofNat 0) (.ofNat 2147483646)]) .nil .nil) .nil)) .nil) (.node .junk (.node (.cel (.ref (.o (.o (.o (.i (.o .h))))))) .nil (.node .junk (.node (.inst .h (.i (.o (.o (.i (.o .h)))))) .nil .nil) .nil)) .nil)) (.node .junk (.node .junk (.node .junk .nil (.node .junk (.node (.ns [(24,.non),(26,.ref (.o (.i (.i (.o (.o (.o .h))))))),(27,.ref (.o (.o (.o (.i (.i (.o .h))))))),(28,.ref (.i (.o (.o (.i (.i (.o .h))))))),(29,.ref (.o (.i (.o (.i (.i (.o .h))))))),(30,.ref (.i (.i (.o (.i (.i (.o .h))))))),(31,.ref (.o (.o (.i (.i (.i (.o .h))))))),(32,.ref (.i (.o (.i (.i (.i (.o .h))))))),(33,.ref (.o (.i (.i (.i (.i (.o .h))))))),(34,.ref (.i (.i (.i (.i (.i (.o .h))))))),(35,.non),(36,.non),(37,.ref (.o (.o (.o (.o (.o (.i .h))))))),(38,.ref (.i (.o (.o (.o (.o (.i .h))))))),(7,.ref (.o (.i (.o (.o (.o (.i .h))))))),(39,.ref (.i (.i (.o (.o (.o (.i .h))))))),(40,.ref (.o (.o (.i (.o (.o (.i .h))))))),(41,.ref (.i (.o (.i (.o (.o (.i .h))))))),(42,.ref (.o (.i (.i (.o (.o (.i .h))))))),(43,.boo true)]) .nil .nil) .nil)) .nil) .nil)),(.i (.i (.o (.i (.i (.o (.o .h))))))),13,[((.i (.o (.o .h))),[(12,.glo .h),(14,.ref (.o (.i (.o (.i (.o .h)))))),(16,.ref (.o (.i (.o (.i (.o (.i .h))))))),(17,.ref (.i (.o (.i (.o (.i (.i .h)))))))])]⟩
noncomputable def S23:Sm:=⟨(.o (.o (.o (.i .h)))),[.ref (.o (.o (.o (.i (.o .h))))),.ref (.i (.o (.i (.o (.i (.i .h)))))),.ref (.o (.i (.o (.i (.o (.i .h))))))],21,s23,[e23],(.o (.o (.o (.i (.o .h))))),none⟩
noncomputable def pA23:St:=⟨(.node .junk (.node .junk (.node (.tup [.str 68,.str 81,.str 93]) (.node (.tup [.ref (.i (.o .h)),.ref (.o (.i .h)),.ref (.i (.i .h))]) .nil (.node .junk (.node (.lst [.ani,.sym 12 (.ofNat 0) (.ofNat 0) (.ofNat 2147483646)]) .nil .nil) .nil)) (.node .junk (.node .junk .nil (.node .junk .nil (.node (.ns [(14,.ref (.o (.i (.o (.i (.o .h)))))),(46,.ref (.o (.i (.o (.i (.i (.i .h))))))),(47,.ref (.o (.i (.o (.o (.i (.i .h))))))),(48,.int (.ofNat 9)),(50,.ref (.i (.i (.o (.o (.o (.o (.o .h)))))))),(51,.ref (.i (.o (.o (.i (.o (.o (.o .h)))))))),(52,.ref (.o (.i (.i (.i (.o (.o (.o .h)))))))),(53,.ref (.o (.o (.i (.o (.i (.o (.o .h)))))))),(54,.ref (.i (.i (.i (.o (.i (.o (.o .h)))))))),(55,.non),(27,.ref (.o (.o (.o (.i (.i (.o (.o .h))))))))]) .nil .nil))) .nil)) (.node (.tup [.int (.ofNat 224),.int (.ofNat 239),.int (.ofNat 2048)]) (.node (.cel (.ref (.o (.o (.o (.i (.o .h))))))) (.node .junk (.node .junk (.node .junk (.node (.ns [(49,.ref (.i (.o (.o (.o (.o (.o (.o .h)))))))),(60,.ref (.i (.o (.i (.o (.o (.o (.o .h)))))))),(123,.ref (.o (.i (.i (.o (.o (.o (.o .h)))))))),(124,.ref (.i (.i (.i (.o (.o (.o (.o .h))))))))]) .nil .nil) .nil) .nil) (.node .junk .nil (.node (.inst (.i .h) (.i (.o (.o (.o (.i (.i .h))))))) .nil .nil))) (.node .junk (.node (.inst .h (.i (.o (.o (.i (.o .h)))))) .nil (.node (.lst [.sym 2 (.ofNat 0) (.ofNat 0) (.ofNat 11),.sym 4 (.ofNat 0) (.ofNat 0) (.ofNat 11),.sym 6 (.ofNat 0) (.ofNat 0) (.ofNat 11),.sym 8 (.ofNat 0) (.ofNat 0) (.ofNat 11)]) .nil .nil)) .nil)) .nil)) (.node .junk (.node (.tup [.int (.ofNat 192),.int (.ofNat 223),.int (.ofNat 128)]) (.node .junk (.node .junk (.node .junk (.node .junk (.node (.bm (.i (.o (.o .h))) (.i (.o (.i (.o (.i (.i .h))))))) .nil .nil) .nil) .nil) (.node .junk .nil (.node (.ns [(16,.ref (.o (.i (.o (.i (.o (.i .h))))))),(58,.int (.ofNat 0))]) .nil .nil))) (.node .junk (.node (.ns [(24,.non),(26,.ref (.o (.i (.i (.o (.o (.o .h))))))),(27,.ref (.o (.o (.o (.i (.i (.o .h))))))),(28,.ref (.i (.o (.o (.i (.i (.o .h))))))),(29,.ref (.o (.i (.o (.i (.i (.o .h))))))),(30,.ref (.i (.i (.o (.i (.i (.o .h))))))),(31,.ref (.o (.o (.i (.i (.i (.o .h))))))),(32,.ref (.i (.o (.i (.i (.i (.o .h))))))),(33,.ref (.o (.i (.i (.i (.i (.o .h))))))),(34,.ref (.i (.i (.i (.i (.i (.o .h))))))),(35,.non),(36,.non),(37,.ref (.o (.o (.o (.o (.o (.i .h))))))),(38,.ref (.i (.o (.o (.o (.o (.i .h))))))),(7,.ref (.o (.i (.o (.o (.o (.i .h))))))),(39,.ref (.i (.i (.o (.o (.o (.i .h))))))),(40,.ref (.o (.o (.i (.o (.o (.i .h))))))),(41,.ref (.i (.o (.i (.o (.o (.i .h))))))),(42,.ref (.o (.i (.i (.o (.o (.i .h))))))),(43,.boo true)]) .nil .nil) .nil)) (.node .junk (.node .junk .nil (.node .junk .nil (.node (.inst (.o .h) (.o (.o (.i (.o (.i (.i .h))))))) .nil .nil))) .nil)) (.node (.tup [.int (.ofNat 240),.int (.ofNat 247),.int (.ofNat 65536)]) (.node .junk (.node .junk (.node .junk (.node .junk (.node (.inst (.o (.o .h)) (.o (.i (.o (.o (.o (.o (.o .h)))))))) .nil .nil) .nil) .nil) .nil) .nil) (.node .junk (.node .junk (.node .junk (.node .junk (.node (.lst []) .nil .nil) .nil) .nil) .nil) .nil)))),(.o (.o (.i (.i (.i (.o (.o .h))))))),13,[((.i (.i (.o (.i (.i (.o (.o .h))))))),[(13,.ref (.o (.o (.o (.i (.o .h)))))),(17,.ref (.i (.o (.i (.o (.i (.i .h))))))),(16,.ref (.o (.i (.o (.i (.o (.i .h)))))))]),((.i (.o (.o .h))),[(12,.glo .h),(14,.ref (.o (.i (.o (.i (.o .h)))))),(16,.ref (.o (.i (.o (.i (.o (.i .h))))))),(17,.ref (.i (.o (.i (.o (.i (.i .h)))))))])]⟩
noncomputable def qA23:St:=⟨(.node .junk (.node .junk (.node (.tup [.str 68,.str 81,.str 93]) (.node (.tup [.ref (.i (.o .h)),.ref (.o (.i .h)),.ref (.i (.i .h))]) .nil (.node .junk (.node (.lst [.ani,.sym 13 (.ofNat 0) (.ofNat 0) (.ofNat 2147483646)]) .nil .nil) .nil)) (.node .junk (.node .junk .nil (.node .junk .nil (.node (.ns [(14,.ref (.o (.i (.o (.i (.o .h)))))),(46,.ref (.o (.i (.o (.i (.i (.i .h))))))),(47,.ref (.o (.i (.o (.o (.i (.i .h))))))),(48,.int (.ofNat 9)),(50,.ref (.i (.i (.o (.o (.o (.o (.o .h)))))))),(51,.ref (.i (.o (.o (.i (.o (.o (.o .h)))))))),(52,.ref (.o (.i (.i (.i (.o (.o (.o .h)))))))),(53,.ref (.o (.o (.i (.o (.i (.o (.o .h)))))))),(54,.ref (.i (.i (.i (.o (.i (.o (.o .h)))))))),(55,.non),(27,.ref (.o (.o (.o (.i (.i (.o (.o .h))))))))]) .nil .nil))) .nil)) (.node (.tup [.int (.ofNat 224),.int (.ofNat 239),.int (.ofNat 2048)]) (.node (.cel (.ref (.o (.o (.o (.i (.o .h))))))) (.node .junk (.node .junk (.node .junk (.node (.ns [(49,.ref (.i (.o (.o (.o (.o (.o (.o .h)))))))),(60,.ref (.i (.o (.i (.o (.o (.o (.o .h)))))))),(123,.ref (.o (.i (.i (.o (.o (.o (.o .h)))))))),(124,.ref (.i (.i (.i (.o (.o (.o (.o .h))))))))]) .nil .nil) .nil) .nil) (.node .junk .nil (.node (.inst (.i .h) (.i (.o (.o (.o (.i (.i .h))))))) .nil .nil))) (.node .junk (.node (.inst .h (.i (.o (.o (.i (.o .h)))))) .nil (.node (.lst [.sym 2 (.ofNat 0) (.ofNat 0) (.ofNat 11),.sym 4 (.ofNat 0) (.ofNat 0) (.ofNat 11),.sym 6 (.ofNat 0) (.ofNat 0) (.ofNat 11),.sym 8 (.ofNat 0) (.ofNat 0) (.ofNat 11)]) .nil .nil)) .nil)) .nil)) (.node .junk (.node (.tup [.int (.ofNat 192),.int (.ofNat 223),.int (.ofNat 128)]) (.node .junk (.node .junk (.node .junk (.node .junk (.node (.bm (.i (.o (.o .h))) (.i (.o (.i (.o (.i (.i .h))))))) .nil .nil) .nil) .nil) (.node .junk .nil (.node (.ns [(16,.ref (.o (.i (.o (.i (.o (.i .h))))))),(58,.int (.ofNat 0))]) .nil .nil))) (.node .junk (.node (.ns [(24,.non),(26,.ref (.o (.i (.i (.o (.o (.o .h))))))),(27,.ref (.o (.o (.o (.i (.i (.o .h))))))),(28,.ref (.i (.o (.o (.i (.i (.o .h))))))),(29,.ref (.o (.i (.o (.i (.i (.o .h))))))),(30,.ref (.i (.i (.o (.i (.i (.o .h))))))),(31,.ref (.o (.o (.i (.i (.i (.o .h))))))),(32,.ref (.i (.o (.i (.i (.i (.o .h))))))),(33,.ref (.o (.i (.i (.i (.i (.o .h))))))),(34,.ref (.i (.i (.i (.i (.i (.o .h))))))),(35,.non),(36,.non),(37,.ref (.o (.o (.o (.o (.o (.i .h))))))),(38,.ref (.i (.o (.o (.o (.o (.i .h))))))),(7,.ref (.o (.i (.o (.o (.o (.i .h))))))),(39,.ref (.i (.i (.o (.o (.o (.i .h))))))),(40,.ref (.o (.o (.i (.o (.o (.i .h))))))),(41,.ref (.i (.o (.i (.o (.o (.i .h))))))),(42,.ref (.o (.i (.i (.o (.o (.i .h))))))),(43,.boo true)]) .nil .nil) .nil)) (.node .junk (.node .junk .nil (.node .junk .nil (.node (.inst (.o .h) (.o (.o (.i (.o (.i (.i .h))))))) .nil .nil))) .nil)) (.node (.tup [.int (.ofNat 240),.int (.ofNat 247),.int (.ofNat 65536)]) (.node .junk (.node .junk (.node .junk (.node .junk (.node (.inst (.o (.o .h)) (.o (.i (.o (.o (.o (.o (.o .h)))))))) .nil .nil) .nil) .nil) .nil) .nil) (.node .junk (.node .junk (.node .junk (.node .junk (.node (.lst []) .nil .nil) .nil) .nil) .nil) .nil)))),(.o (.o (.i (.i (.i (.o (.o .h))))))),14,[((.i (.i (.o (.i (.i (.o (.o .h))))))),[(13,.ref (.o (.o (.o (.i (.o .h)))))),(17,.ref (.i (.o (.i (.o (.i (.i .h))))))),(16,.ref (.o (.i (.o (.i (.o (.i .h)))))))]),((.i (.o (.o .h))),[(12,.glo .h),(14,.ref (.o (.i (.o (.i (.o .h)))))),(16,.ref (.o (.i (.o (.i (.o (.i .h))))))),(17,.ref (.i (.o (.i (.o (.i (.i .h)))))))])]⟩
noncomputable def A23:So:=⟨22,pA23,qA23,(.o (.o (.o (.i (.o .h)))))⟩
noncomputable def pF4a:St:=⟨(.node .junk (.node .junk (.node (.tup [.str 68,.str 81,.str 93]) (.node (.tup [.ref (.i (.o .h)),.ref (.o (.i .h)),.ref (.i (.i .h))]) (.node .junk (.node .junk .nil (.node .junk (.node (.lst [.ref (.o (.o (.i (.i (.i (.o (.o .h))))))),.ref (.i (.o (.i (.i (.i (.o (.o .h))))))),.ref (.o (.i (.i (.i (.i (.o (.o .h))))))),.ref (.i (.i (.i (.i (.i (.o (.o .h)))))))]) .nil .nil) .nil)) .nil) (.node .junk (.node (.lst [.ani,.sym 15 (.ofNat 0) (.ofNat 0) (.ofNat 2147483646)]) .nil (.node .junk (.node (.tup [.int (.ofNat 0),.int (.ofNat 97)]) .nil .nil) .nil)) .nil)) (.node .junk (.node .junk .nil (.node .junk .nil (.node (.ns [(14,.ref (.o (.i (.o (.i (.o .h)))))),(46,.ref (.o (.i (.o (.i (.i (.i .h))))))),(47,.ref (.o (.i (.o (.o (.i (.i .h))))))),(48,.int (.ofNat 9)),(50,.ref (.i (.i (.o (.o (.o (.o (.o .h)))))))),(51,.ref (.i (.o (.o (.i (.o (.o (.o .h)))))))),(52,.ref (.o (.i (.i (.i (.o (.o (.o .h)))))))),(53,.ref (.o (.o (.i (.o (.i (.o (.o .h)))))))),(54,.ref (.i (.i (.i (.o (.i (.o (.o .h)))))))),(55,.non),(27,.ref (.o (.o (.o (.i (.i (.o (.o .h))))))))]) .nil .nil))) (.node .junk .nil (.node .junk (.node .junk (.node (.tup [.byt [.n 97],.int (.ofNat 97)]) .nil .nil) .nil) .nil)))) (.node (.tup [.int (.ofNat 224),.int (.ofNat 239),.int (.ofNat 2048)]) (.node (.cel (.ref (.o (.o (.o (.i (.o .h))))))) (.node .junk (.node .junk (.node .junk (.node (.ns [(49,.ref (.i (.o (.o (.o (.o (.o (.o .h)))))))),(60,.ref (.i (.o (.i (.o (.o (.o (.o .h)))))))),(123,.ref (.o (.i (.i (.o (.o (.o (.o .h)))))))),(124,.ref (.i (.i (.i (.o (.o (.o (.o .h))))))))]) .nil .nil) .nil) .nil) (.node .junk .nil (.node (.inst (.i .h) (.i (.o (.o (.o (.i (.i .h))))))) .nil .nil))) (.node .junk (.node (.inst .h (.i (.o (.o (.i (.o .h)))))) .nil (.node (.lst [.sym 2 (.ofNat 0) (.ofNat 0) (.ofNat 11),.sym 4 (.ofNat 0) (.ofNat 0) (.ofNat 11),.sym 6 (.ofNat 0) (.ofNat 0) (.ofNat 11),.sym 8 (.ofNat 0) (.ofNat 0) (.ofNat 11)]) .nil .nil)) .nil)) (.node .junk .nil (.node .junk .nil (.node .junk (.node .junk (.node (.tup [.byt [.n 255],.int (.ofNat 65533)]) .nil .nil) .nil) .nil))))) (.node .junk (.node (.tup [.int (.ofNat 192),.int (.ofNat 223),.int (.ofNat 128)]) (.node .junk (.node .junk (.node .junk (.node .junk (.node (.bm (.i (.o (.o .h))) (.i (.o (.i (.o (.i (.i .h))))))) .nil .nil) .nil) (.node .junk (.node (.lst [.ref (.i (.o (.o (.i (.o (.i (.o .h)))))))]) .nil .nil) .nil)) (.node .junk .nil (.node (.ns [(16,.ref (.o (.i (.o (.i (.o (.i .h))))))),(58,.int (.ofNat 0))]) .nil .nil))) (.node .junk (.node (.ns [(24,.non),(26,.ref (.o (.i (.i (.o (.o (.o .h))))))),(27,.ref (.o (.o (.o (.i (.i (.o .h))))))),(28,.ref (.i (.o (.o (.i (.i (.o .h))))))),(29,.ref (.o (.i (.o (.i (.i (.o .h))))))),(30,.ref (.i (.i (.o (.i (.i (.o .h))))))),(31,.ref (.o (.o (.i (.i (.i (.o .h))))))),(32,.ref (.i (.o (.i (.i (.i (.o .h))))))),(33,.ref (.o (.i (.i (.i (.i (.o .h))))))),(34,.ref (.i (.i (.i (.i (.i (.o .h))))))),(35,.non),(36,.non),(37,.ref (.o (.o (.o (.o (.o (.i .h))))))),(38,.ref (.i (.o (.o (.o (.o (.i .h))))))),(7,.ref (.o (.i (.o (.o (.o (.i .h))))))),(39,.ref (.i (.i (.o (.o (.o (.i .h))))))),(40,.ref (.o (.o (.i (.o (.o (.i .h))))))),(41,.ref (.i (.o (.i (.o (.o (.i .h))))))),(42,.ref (.o (.i (.i (.o (.o (.i .h))))))),(43,.boo true)]) .nil (.node .junk (.node (.tup [.ref (.o (.o (.o (.i (.o (.i (.o .h))))))),.int (.ofNat 97)]) .nil .nil) .nil)) .nil)) (.node .junk (.node .junk (.node .junk .nil (.node .junk (.node (.rit (.ofNat 1) (.ofNat 4)) .nil .nil) .nil)) (.node .junk .nil (.node (.inst (.o .h) (.o (.o (.i (.o (.i (.i .h))))))) .nil .nil))) (.node .junk .nil (.node .junk (.node .junk (.node (.tup [.byt [.n 195,.n 169],.int (.ofNat 233)]) .nil .nil) .nil) .nil)))) (.node (.tup [.int (.ofNat 240),.int (.ofNat 247),.int (.ofNat 65536)]) (.node .junk (.node .junk (.node .junk (.node .junk (.node (.inst (.o (.o .h)) (.o (.i (.o (.o (.o (.o (.o .h)))))))) .nil .nil) .nil) .nil) .nil) .nil) (.node .junk (.node .junk (.node .junk (.node .junk (.node (.lst []) .nil .nil) .nil) .nil) .nil) (.node .junk .nil (.node .junk (.node .junk (.node (.tup [.byt [.n 226,.n 130,.n 172],.int (.ofNat 8364)]) .nil .nil) .nil) .nil)))))),(.o (.i (.o (.i (.o (.i (.o .h))))))),16,[((.i (.i (.o (.i (.i (.o (.o .h))))))),[(13,.ref (.o (.o (.o (.i (.o .h)))))),(17,.ref (.i (.o (.i (.o (.i (.i .h))))))),(16,.ref (.o (.i (.o (.i (.o (.i .h))))))),(72,.ref (.o (.o (.o (.o (.o (.i (.o .h)))))))),(70,.ref (.i (.o (.o (.o (.o (.i (.o .h)))))))),(73,.byt [.n 97])]),((.i (.o (.o .h))),[(12,.glo .h),(14,.ref (.o (.i (.o (.i (.o .h)))))),(16,.ref (.o (.i (.o (.i (.o (.i .h))))))),(17,.ref (.i (.o (.i (.o (.i (.i .h)))))))])]⟩
noncomputable def qF4a:St:=⟨(.node .junk (.node .junk (.node (.tup [.str 68,.str 81,.str 93]) (.node (.tup [.ref (.i (.o .h)),.ref (.o (.i .h)),.ref (.i (.i .h))]) .nil (.node .junk (.node (.lst [.ani,.sym 16 (.ofNat 0) (.ofNat 0) (.ofNat 2147483646)]) .nil .nil) .nil)) (.node .junk (.node .junk .nil (.node .junk .nil (.node (.ns [(14,.ref (.o (.i (.o (.i (.o .h)))))),(46,.ref (.o (.i (.o (.i (.i (.i .h))))))),(47,.ref (.o (.i (.o (.o (.i (.i .h))))))),(48,.int (.ofNat 9)),(50,.ref (.i (.i (.o (.o (.o (.o (.o .h)))))))),(51,.ref (.i (.o (.o (.i (.o (.o (.o .h)))))))),(52,.ref (.o (.i (.i (.i (.o (.o (.o .h)))))))),(53,.ref (.o (.o (.i (.o (.i (.o (.o .h)))))))),(54,.ref (.i (.i (.i (.o (.i (.o (.o .h)))))))),(55,.non),(27,.ref (.o (.o (.o (.i (.i (.o (.o .h))))))))]) .nil .nil))) .nil)) (.node (.tup [.int (.ofNat 224),.int (.ofNat 239),.int (.ofNat 2048)]) (.node (.cel (.ref (.o (.o (.o (.i (.o .h))))))) (.node .junk (.node .junk (.node .junk (.node (.ns [(49,.ref (.i (.o (.o (.o (.o (.o (.o .h)))))))),(60,.ref (.i (.o (.i (.o (.o (.o (.o .h)))))))),(123,.ref (.o (.i (.i (.o (.o (.o (.o .h)))))))),(124,.ref (.i (.i (.i (.o (.o (.o (.o .h))))))))]) .nil .nil) .nil) .nil) (.node .junk .nil (.node (.inst (.i .h) (.i (.o (.o (.o (.i (.i .h))))))) .nil .nil))) (.node .junk (.node (.inst .h (.i (.o (.o (.i (.o .h)))))) .nil (.node (.lst [.sym 2 (.ofNat 0) (.ofNat 0) (.ofNat 11),.sym 4 (.ofNat 0) (.ofNat 0) (.ofNat 11),.sym 6 (.ofNat 0) (.ofNat 0) (.ofNat 11),.sym 8 (.ofNat 0) (.ofNat 0) (.ofNat 11)]) .nil .nil)) .nil)) .nil)) (.node .junk (.node (.tup [.int (.ofNat 192),.int (.ofNat 223),.int (.ofNat 128)]) (.node .junk (.node .junk (.node .junk (.node .junk (.node (.bm (.i (.o (.o .h))) (.i (.o (.i (.o (.i (.i .h))))))) .nil .nil) .nil) .nil) (.node .junk .nil (.node (.ns [(16,.ref (.o (.i (.o (.i (.o (.i .h))))))),(58,.int (.ofNat 0))]) .nil .nil))) (.node .junk (.node (.ns [(24,.non),(26,.ref (.o (.i (.i (.o (.o (.o .h))))))),(27,.ref (.o (.o (.o (.i (.i (.o .h))))))),(28,.ref (.i (.o (.o (.i (.i (.o .h))))))),(29,.ref (.o (.i (.o (.i (.i (.o .h))))))),(30,.ref (.i (.i (.o (.i (.i (.o .h))))))),(31,.ref (.o (.o (.i (.i (.i (.o .h))))))),(32,.ref (.i (.o (.i (.i (.i (.o .h))))))),(33,.ref (.o (.i (.i (.i (.i (.o .h))))))),(34,.ref (.i (.i (.i (.i (.i (.o .h))))))),(35,.non),(36,.non),(37,.ref (.o (.o (.o (.o (.o (.i .h))))))),(38,.ref (.i (.o (.o (.o (.o (.i .h))))))),(7,.ref (.o (.i (.o (.o (.o (.i .h))))))),(39,.ref (.i (.i (.o (.o (.o (.i .h))))))),(40,.ref (.o (.o (.i (.o (.o (.i .h))))))),(41,.ref (.i (.o (.i (.o (.o (.i .h))))))),(42,.ref (.o (.i (.i (.o (.o (.i .h))))))),(43,.boo true)]) .nil .nil) .nil)) (.node .junk (.node .junk .nil (.node .junk .nil (.node (.inst (.o .h) (.o (.o (.i (.o (.i (.i .h))))))) .nil .nil))) .nil)) (.node (.tup [.int (.ofNat 240),.int (.ofNat 247),.int (.ofNat 65536)]) (.node .junk (.node .junk (.node .junk (.node .junk (.node (.inst (.o (.o .h)) (.o (.i (.o (.o (.o (.o (.o .h)))))))) .nil .nil) .nil) .nil) .nil) .nil) (.node .junk (.node .junk (.node .junk (.node .junk (.node (.lst []) .nil .nil) .nil) .nil) .nil) .nil)))),(.o (.i (.o (.i (.o (.i (.o .h))))))),17,[((.i (.i (.o (.i (.i (.o (.o .h))))))),[(13,.ref (.o (.o (.o (.i (.o .h)))))),(17,.ref (.i (.o (.i (.o (.i (.i .h))))))),(16,.ref (.o (.i (.o (.i (.o (.i .h)))))))]),((.i (.o (.o .h))),[(12,.glo .h),(14,.ref (.o (.i (.o (.i (.o .h)))))),(16,.ref (.o (.i (.o (.i (.o (.i .h))))))),(17,.ref (.i (.o (.i (.o (.i (.i .h)))))))])]⟩
noncomputable def F4a:So:=⟨22,pF4a,qF4a,(.o (.o (.o (.i (.o .h)))))⟩
noncomputable def pF4c:St:=⟨(.node .junk (.node .junk (.node (.tup [.str 68,.str 81,.str 93]) (.node (.tup [.ref (.i (.o .h)),.ref (.o (.i .h)),.ref (.i (.i .h))]) (.node .junk (.node .junk .nil (.node .junk (.node (.lst [.ref (.o (.o (.i (.i (.i (.o (.o .h))))))),.ref (.i (.o (.i (.i (.i (.o (.o .h))))))),.ref (.o (.i (.i (.i (.i (.o (.o .h))))))),.ref (.i (.i (.i (.i (.i (.o (.o .h)))))))]) .nil .nil) .nil)) .nil) (.node .junk (.node (.lst [.ani,.sym 16 (.ofNat 0) (.ofNat 0) (.ofNat 2147483646)]) .nil (.node .junk (.node (.tup [.int (.ofNat 0),.int (.ofNat 8364)]) .nil .nil) .nil)) .nil)) (.node .junk (.node .junk .nil (.node .junk .nil (.node (.ns [(14,.ref (.o (.i (.o (.i (.o .h)))))),(46,.ref (.o (.i (.o (.i (.i (.i .h))))))),(47,.ref (.o (.i (.o (.o (.i (.i .h))))))),(48,.int (.ofNat 9)),(50,.ref (.i (.i (.o (.o (.o (.o (.o .h)))))))),(51,.ref (.i (.o (.o (.i (.o (.o (.o .h)))))))),(52,.ref (.o (.i (.i (.i (.o (.o (.o .h)))))))),(53,.ref (.o (.o (.i (.o (.i (.o (.o .h)))))))),(54,.ref (.i (.i (.i (.o (.i (.o (.o .h)))))))),(55,.non),(27,.ref (.o (.o (.o (.i (.i (.o (.o .h))))))))]) .nil .nil))) (.node .junk .nil (.node .junk (.node .junk (.node (.tup [.byt [.n 97],.int (.ofNat 97)]) .nil .nil) .nil) .nil)))) (.node (.tup [.int (.ofNat 224),.int (.ofNat 239),.int (.ofNat 2048)]) (.node (.cel (.ref (.o (.o (.o (.i (.o .h))))))) (.node .junk (.node .junk (.node .junk (.node (.ns [(49,.ref (.i (.o (.o (.o (.o (.o (.o .h)))))))),(60,.ref (.i (.o (.i (.o (.o (.o (.o .h)))))))),(123,.ref (.o (.i (.i (.o (.o (.o (.o .h)))))))),(124,.ref (.i (.i (.i (.o (.o (.o (.o .h))))))))]) .nil .nil) .nil) .nil) (.node .junk .nil (.node (.inst (.i .h) (.i (.o (.o (.o (.i (.i .h))))))) .nil .nil))) (.node .junk (.node (.inst .h (.i (.o (.o (.i (.o .h)))))) .nil (.node (.lst [.sym 2 (.ofNat 0) (.ofNat 0) (.ofNat 11),.sym 4 (.ofNat 0) (.ofNat 0) (.ofNat 11),.sym 6 (.ofNat 0) (.ofNat 0) (.ofNat 11),.sym 8 (.ofNat 0) (.ofNat 0) (.ofNat 11)]) .nil .nil)) .nil)) (.node .junk .nil (.node .junk .nil (.node .junk (.node .junk (.node (.tup [.byt [.n 255],.int (.ofNat 65533)]) .nil .nil) .nil) .nil))))) (.node .junk (.node (.tup [.int (.ofNat 192),.int (.ofNat 223),.int (.ofNat 128)]) (.node .junk (.node .junk (.node .junk (.node .junk (.node (.bm (.i (.o (.o .h))) (.i (.o (.i (.o (.i (.i .h))))))) .nil .nil) .nil) (.node .junk (.node (.lst [.ref (.i (.o (.o (.i (.o (.i (.o .h)))))))]) .nil .nil) .nil)) (.node .junk .nil (.node (.ns [(16,.ref (.o (.i (.o (.i (.o (.i .h))))))),(58,.int (.ofNat 0))]) .nil .nil))) (.node .junk (.node (.ns [(24,.non),(26,.ref (.o (.i (.i (.o (.o (.o .h))))))),(27,.ref (.o (.o (.o (.i (.i (.o .h))))))),(28,.ref (.i (.o (.o (.i (.i (.o .h))))))),(29,.ref (.o (.i (.o (.i (.i (.o .h))))))),(30,.ref (.i (.i (.o (.i (.i (.o .h))))))),(31,.ref (.o (.o (.i (.i (.i (.o .h))))))),(32,.ref (.i (.o (.i (.i (.i (.o .h))))))),(33,.ref (.o (.i (.i (.i (.i (.o .h))))))),(34,.ref (.i (.i (.i (.i (.i (.o .h))))))),(35,.non),(36,.non),(37,.ref (.o (.o (.o (.o (.o (.i .h))))))),(38,.ref (.i (.o (.o (.o (.o (.i .h))))))),(7,.ref (.o (.i (.o (.o (.o (.i .h))))))),(39,.ref (.i (.i (.o (.o (.o (.i .h))))))),(40,.ref (.o (.o (.i (.o (.o (.i .h))))))),(41,.ref (.i (.o (.i (.o (.o (.i .h))))))),(42,.ref (.o (.i (.i (.o (.o (.i .h))))))),(43,.boo true)]) .nil (.node .junk (.node (.tup [.ref (.o (.o (.o (.i (.o (.i (.o .h))))))),.int (.ofNat 8364)]) .nil .nil) .nil)) .nil)) (.node .junk (.node .junk (.node .junk .nil (.node .junk (.node (.rit (.ofNat 1) (.ofNat 4)) .nil .nil) .nil)) (.node .junk .nil (.node (.inst (.o .h) (.o (.o (.i (.o (.i (.i .h))))))) .nil .nil))) (.node .junk .nil (.node .junk (.node .junk (.node (.tup [.byt [.n 195,.n 169],.int (.ofNat 233)]) .nil .nil) .nil) .nil)))) (.node (.tup [.int (.ofNat 240),.int (.ofNat 247),.int (.ofNat 65536)]) (.node .junk (.node .junk (.node .junk (.node .junk (.node (.inst (.o (.o .h)) (.o (.i (.o (.o (.o (.o (.o .h)))))))) .nil .nil) .nil) .nil) .nil) .nil) (.node .junk (.node .junk (.node .junk (.node .junk (.node (.lst []) .nil .nil) .nil) .nil) .nil) (.node .junk .nil (.node .junk (.node .junk (.node (.tup [.byt [.n 226,.n 130,.n 172],.int (.ofNat 8364)]) .nil .nil) .nil) .nil)))))),(.o (.i (.o (.i (.o (.i (.o .h))))))),17,[((.i (.i (.o (.i (.i (.o (.o .h))))))),[(13,.ref (.o (.o (.o (.i (.o .h)))))),(17,.ref (.i (.o (.i (.o (.i (.i .h))))))),(16,.ref (.o (.i (.o (.i (.o (.i .h))))))),(72,.ref (.o (.o (.o (.o (.o (.i (.o .h)))))))),(70,.ref (.i (.o (.o (.o (.o (.i (.o .h)))))))),(73,.byt [.n 226,.n 130,.n 172])]),((.i (.o (.o .h))),[(12,.glo .h),(14,.ref (.o (.i (.o (.i (.o .h)))))),(16,.ref (.o (.i (.o (.i (.o (.i .h))))))),(17,.ref (.i (.o (.i (.o (.i (.i .h)))))))])]⟩
noncomputable def qF4c:St:=⟨(.node .junk (.node .junk (.node (.tup [.str 68,.str 81,.str 93]) (.node (.tup [.ref (.i (.o .h)),.ref (.o (.i .h)),.ref (.i (.i .h))]) .nil (.node .junk (.node (.lst [.ani,.sym 17 (.ofNat 0) (.ofNat 0) (.ofNat 2147483646)]) .nil .nil) .nil)) (.node .junk (.node .junk .nil (.node .junk .nil (.node (.ns [(14,.ref (.o (.i (.o (.i (.o .h)))))),(46,.ref (.o (.i (.o (.i (.i (.i .h))))))),(47,.ref (.o (.i (.o (.o (.i (.i .h))))))),(48,.int (.ofNat 9)),(50,.ref (.i (.i (.o (.o (.o (.o (.o .h)))))))),(51,.ref (.i (.o (.o (.i (.o (.o (.o .h)))))))),(52,.ref (.o (.i (.i (.i (.o (.o (.o .h)))))))),(53,.ref (.o (.o (.i (.o (.i (.o (.o .h)))))))),(54,.ref (.i (.i (.i (.o (.i (.o (.o .h)))))))),(55,.non),(27,.ref (.o (.o (.o (.i (.i (.o (.o .h))))))))]) .nil .nil))) .nil)) (.node (.tup [.int (.ofNat 224),.int (.ofNat 239),.int (.ofNat 2048)]) (.node (.cel (.ref (.o (.o (.o (.i (.o .h))))))) (.node .junk (.node .junk (.node .junk (.node (.ns [(49,.ref (.i (.o (.o (.o (.o (.o (.o .h)))))))),(60,.ref (.i (.o (.i (.o (.o (.o (.o .h)))))))),(123,.ref (.o (.i (.i (.o (.o (.o (.o .h)))))))),(124,.ref (.i (.i (.i (.o (.o (.o (.o .h))))))))]) .nil .nil) .nil) .nil) (.node .junk .nil (.node (.inst (.i .h) (.i (.o (.o (.o (.i (.i .h))))))) .nil .nil))) (.node .junk (.node (.inst .h (.i (.o (.o (.i (.o .h)))))) .nil (.node (.lst [.sym 2 (.ofNat 0) (.ofNat 0) (.ofNat 11),.sym 4 (.ofNat 0) (.ofNat 0) (.ofNat 11),.sym 6 (.ofNat 0) (.ofNat 0) (.ofNat 11),.sym 8 (.ofNat 0) (.ofNat 0) (.ofNat 11)]) .nil .nil)) .nil)) .nil)) (.node .junk (.node (.tup [.int (.ofNat 192),.int (.ofNat 223),.int (.ofNat 128)]) (.node .junk (.node .junk (.node .junk (.node .junk (.node (.bm (.i (.o (.o .h))) (.i (.o (.i (.o (.i (.i .h))))))) .nil .nil) .nil) .nil) (.node .junk .nil (.node (.ns [(16,.ref (.o (.i (.o (.i (.o (.i .h))))))),(58,.int (.ofNat 0))]) .nil .nil))) (.node .junk (.node (.ns [(24,.non),(26,.ref (.o (.i (.i (.o (.o (.o .h))))))),(27,.ref (.o (.o (.o (.i (.i (.o .h))))))),(28,.ref (.i (.o (.o (.i (.i (.o .h))))))),(29,.ref (.o (.i (.o (.i (.i (.o .h))))))),(30,.ref (.i (.i (.o (.i (.i (.o .h))))))),(31,.ref (.o (.o (.i (.i (.i (.o .h))))))),(32,.ref (.i (.o (.i (.i (.i (.o .h))))))),(33,.ref (.o (.i (.i (.i (.i (.o .h))))))),(34,.ref (.i (.i (.i (.i (.i (.o .h))))))),(35,.non),(36,.non),(37,.ref (.o (.o (.o (.o (.o (.i .h))))))),(38,.ref (.i (.o (.o (.o (.o (.i .h))))))),(7,.ref (.o (.i (.o (.o (.o (.i .h))))))),(39,.ref (.i (.i (.o (.o (.o (.i .h))))))),(40,.ref (.o (.o (.i (.o (.o (.i .h))))))),(41,.ref (.i (.o (.i (.o (.o (.i .h))))))),(42,.ref (.o (.i (.i (.o (.o (.i .h))))))),(43,.boo true)]) .nil .nil) .nil)) (.node .junk (.node .junk .nil (.node .junk .nil (.node (.inst (.o .h) (.o (.o (.i (.o (.i (.i .h))))))) .nil .nil))) .nil)) (.node (.tup [.int (.ofNat 240),.int (.ofNat 247),.int (.ofNat 65536)]) (.node .junk (.node .junk (.node .junk (.node .junk (.node (.inst (.o (.o .h)) (.o (.i (.o (.o (.o (.o (.o .h)))))))) .nil .nil) .nil) .nil) .nil) .nil) (.node .junk (.node .junk (.node .junk (.node .junk (.node (.lst []) .nil .nil) .nil) .nil) .nil) .nil)))),(.o (.i (.o (.i (.o (.i (.o .h))))))),18,[((.i (.i (.o (.i (.i (.o (.o .h))))))),[(13,.ref (.o (.o (.o (.i (.o .h)))))),(17,.ref (.i (.o (.i (.o (.i (.i .h))))))),(16,.ref (.o (.i (.o (.i (.o (.i .h)))))))]),((.i (.o (.o .h))),[(12,.glo .h),(14,.ref (.o (.i (.o (.i (.o .h)))))),(16,.ref (.o (.i (.o (.i (.o (.i .h))))))),(17,.ref (.i (.o (.i (.o (.i (.i .h)))))))])]⟩
noncomputable def F4c:So:=⟨22,pF4c,qF4c,(.o (.o (.o (.i (.o .h)))))⟩
noncomputable def pF4d:St:=⟨(.node .junk (.node .junk (.node (.tup [.str 68,.str 81,.str 93]) (.node (.tup [.ref (.i (.o .h)),.ref (.o (.i .h)),.ref (.i (.i .h))]) (.node .junk (.node .junk .nil (.node .junk (.node (.lst [.ref (.o (.o (.i (.i (.i (.o (.o .h))))))),.ref (.i (.o (.i (.i (.i (.o (.o .h))))))),.ref (.o (.i (.i (.i (.i (.o (.o .h))))))),.ref (.i (.i (.i (.i (.i (.o (.o .h)))))))]) .nil .nil) .nil)) .nil) (.node .junk (.node (.lst [.ani,.sym 16 (.ofNat 0) (.ofNat 0) (.ofNat 2147483646)]) .nil (.node .junk (.node (.tup [.int (.ofNat 0),.int (.ofNat 65533)]) .nil .nil) .nil)) .nil)) (.node .junk (.node .junk .nil (.node .junk .nil (.node (.ns [(14,.ref (.o (.i (.o (.i (.o .h)))))),(46,.ref (.o (.i (.o (.i (.i (.i .h))))))),(47,.ref (.o (.i (.o (.o (.i (.i .h))))))),(48,.int (.ofNat 9)),(50,.ref (.i (.i (.o (.o (.o (.o (.o .h)))))))),(51,.ref (.i (.o (.o (.i (.o (.o (.o .h)))))))),(52,.ref (.o (.i (.i (.i (.o (.o (.o .h)))))))),(53,.ref (.o (.o (.i (.o (.i (.o (.o .h)))))))),(54,.ref (.i (.i (.i (.o (.i (.o (.o .h)))))))),(55,.non),(27,.ref (.o (.o (.o (.i (.i (.o (.o .h))))))))]) .nil .nil))) (.node .junk .nil (.node .junk (.node .junk (.node (.tup [.byt [.n 97],.int (.ofNat 97)]) .nil .nil) .nil) .nil)))) (.node (.tup [.int (.ofNat 224),.int (.ofNat 239),.int (.ofNat 2048)]) (.node (.cel (.ref (.o (.o (.o (.i (.o .h))))))) (.node .junk (.node .junk (.node .junk (.node (.ns [(49,.ref (.i (.o (.o (.o (.o (.o (.o .h)))))))),(60,.ref (.i (.o (.i (.o (.o (.o (.o .h)))))))),(123,.ref (.o (.i (.i (.o (.o (.o (.o .h)))))))),(124,.ref (.i (.i (.i (.o (.o (.o (.o .h))))))))]) .nil .nil) .nil) .nil) (.node .junk .nil (.node (.inst (.i .h) (.i (.o (.o (.o (.i (.i .h))))))) .nil .nil))) (.node .junk (.node (.inst .h (.i (.o (.o (.i (.o .h)))))) .nil (.node (.lst [.sym 2 (.ofNat 0) (.ofNat 0) (.ofNat 11),.sym 4 (.ofNat 0) (.ofNat 0) (.ofNat 11),.sym 6 (.ofNat 0) (.ofNat 0) (.ofNat 11),.sym 8 (.ofNat 0) (.ofNat 0) (.ofNat 11)]) .nil .nil)) .nil)) (.node .junk .nil (.node .junk .nil (.node .junk (.node .junk (.node (.tup [.byt [.n 255],.int (.ofNat 65533)]) .nil .nil) .nil) .nil))))) (.node .junk (.node (.tup [.int (.ofNat 192),.int (.ofNat 223),.int (.ofNat 128)]) (.node .junk (.node .junk (.node .junk (.node .junk (.node (.bm (.i (.o (.o .h))) (.i (.o (.i (.o (.i (.i .h))))))) .nil .nil) .nil) (.node .junk (.node (.lst [.ref (.i (.o (.o (.i (.o (.i (.o .h)))))))]) .nil .nil) .nil)) (.node .junk .nil (.node (.ns [(16,.ref (.o (.i (.o (.i (.o (.i .h))))))),(58,.int (.ofNat 0))]) .nil .nil))) (.node .junk (.node (.ns [(24,.non),(26,.ref (.o (.i (.i (.o (.o (.o .h))))))),(27,.ref (.o (.o (.o (.i (.i (.o .h))))))),(28,.ref (.i (.o (.o (.i (.i (.o .h))))))),(29,.ref (.o (.i (.o (.i (.i (.o .h))))))),(30,.ref (.i (.i (.o (.i (.i (.o .h))))))),(31,.ref (.o (.o (.i (.i (.i (.o .h))))))),(32,.ref (.i (.o (.i (.i (.i (.o .h))))))),(33,.ref (.o (.i (.i (.i (.i (.o .h))))))),(34,.ref (.i (.i (.i (.i (.i (.o .h))))))),(35,.non),(36,.non),(37,.ref (.o (.o (.o (.o (.o (.i .h))))))),(38,.ref (.i (.o (.o (.o (.o (.i .h))))))),(7,.ref (.o (.i (.o (.o (.o (.i .h))))))),(39,.ref (.i (.i (.o (.o (.o (.i .h))))))),(40,.ref (.o (.o (.i (.o (.o (.i .h))))))),(41,.ref (.i (.o (.i (.o (.o (.i .h))))))),(42,.ref (.o (.i (.i (.o (.o (.i .h))))))),(43,.boo true)]) .nil (.node .junk (.node (.tup [.ref (.o (.o (.o (.i (.o (.i (.o .h))))))),.int (.ofNat 65533)]) .nil .nil) .nil)) .nil)) (.node .junk (.node .junk (.node .junk .nil (.node .junk (.node (.rit (.ofNat 1) (.ofNat 4)) .nil .nil) .nil)) (.node .junk .nil (.node (.inst (.o .h) (.o (.o (.i (.o (.i (.i .h))))))) .nil .nil))) (.node .junk .nil (.node .junk (.node .junk (.node (.tup [.byt [.n 195,.n 169],.int (.ofNat 233)]) .nil .nil) .nil) .nil)))) (.node (.tup [.int (.ofNat 240),.int (.ofNat 247),.int (.ofNat 65536)]) (.node .junk (.node .junk (.node .junk (.node .junk (.node (.inst (.o (.o .h)) (.o (.i (.o (.o (.o (.o (.o .h)))))))) .nil .nil) .nil) .nil) .nil) .nil) (.node .junk (.node .junk (.node .junk (.node .junk (.node (.lst []) .nil .nil) .nil) .nil) .nil) (.node .junk .nil (.node .junk (.node .junk (.node (.tup [.byt [.n 226,.n 130,.n 172],.int (.ofNat 8364)]) .nil .nil) .nil) .nil)))))),(.o (.i (.o (.i (.o (.i (.o .h))))))),17,[((.i (.i (.o (.i (.i (.o (.o .h))))))),[(13,.ref (.o (.o (.o (.i (.o .h)))))),(17,.ref (.i (.o (.i (.o (.i (.i .h))))))),(16,.ref (.o (.i (.o (.i (.o (.i .h))))))),(72,.ref (.o (.o (.o (.o (.o (.i (.o .h)))))))),(70,.ref (.i (.o (.o (.o (.o (.i (.o .h)))))))),(73,.byt [.n 255])]),((.i (.o (.o .h))),[(12,.glo .h),(14,.ref (.o (.i (.o (.i (.o .h)))))),(16,.ref (.o (.i (.o (.i (.o (.i .h))))))),(17,.ref (.i (.o (.i (.o (.i (.i .h)))))))])]⟩
noncomputable def qF4d:St:=⟨(.node .junk (.node .junk (.node (.tup [.str 68,.str 81,.str 93]) (.node (.tup [.ref (.i (.o .h)),.ref (.o (.i .h)),.ref (.i (.i .h))]) .nil (.node .junk (.node (.lst [.ani,.sym 17 (.ofNat 0) (.ofNat 0) (.ofNat 2147483646)]) .nil .nil) .nil)) (.node .junk (.node .junk .nil (.node .junk .nil (.node (.ns [(14,.ref (.o (.i (.o (.i (.o .h)))))),(46,.ref (.o (.i (.o (.i (.i (.i .h))))))),(47,.ref (.o (.i (.o (.o (.i (.i .h))))))),(48,.int (.ofNat 9)),(50,.ref (.i (.i (.o (.o (.o (.o (.o .h)))))))),(51,.ref (.i (.o (.o (.i (.o (.o (.o .h)))))))),(52,.ref (.o (.i (.i (.i (.o (.o (.o .h)))))))),(53,.ref (.o (.o (.i (.o (.i (.o (.o .h)))))))),(54,.ref (.i (.i (.i (.o (.i (.o (.o .h)))))))),(55,.non),(27,.ref (.o (.o (.o (.i (.i (.o (.o .h))))))))]) .nil .nil))) .nil)) (.node (.tup [.int (.ofNat 224),.int (.ofNat 239),.int (.ofNat 2048)]) (.node (.cel (.ref (.o (.o (.o (.i (.o .h))))))) (.node .junk (.node .junk (.node .junk (.node (.ns [(49,.ref (.i (.o (.o (.o (.o (.o (.o .h)))))))),(60,.ref (.i (.o (.i (.o (.o (.o (.o .h)))))))),(123,.ref (.o (.i (.i (.o (.o (.o (.o .h)))))))),(124,.ref (.i (.i (.i (.o (.o (.o (.o .h))))))))]) .nil .nil) .nil) .nil) (.node .junk .nil (.node (.inst (.i .h) (.i (.o (.o (.o (.i (.i .h))))))) .nil .nil))) (.node .junk (.node (.inst .h (.i (.o (.o (.i (.o .h)))))) .nil (.node (.lst [.sym 2 (.ofNat 0) (.ofNat 0) (.ofNat 11),.sym 4 (.ofNat 0) (.ofNat 0) (.ofNat 11),.sym 6 (.ofNat 0) (.ofNat 0) (.ofNat 11),.sym 8 (.ofNat 0) (.ofNat 0) (.ofNat 11)]) .nil .nil)) .nil)) .nil)) (.node .junk (.node (.tup [.int (.ofNat 192),.int (.ofNat 223),.int (.ofNat 128)]) (.node .junk (.node .junk (.node .junk (.node .junk (.node (.bm (.i (.o (.o .h))) (.i (.o (.i (.o (.i (.i .h))))))) .nil .nil) .nil) .nil) (.node .junk .nil (.node (.ns [(16,.ref (.o (.i (.o (.i (.o (.i .h))))))),(58,.int (.ofNat 0))]) .nil .nil))) (.node .junk (.node (.ns [(24,.non),(26,.ref (.o (.i (.i (.o (.o (.o .h))))))),(27,.ref (.o (.o (.o (.i (.i (.o .h))))))),(28,.ref (.i (.o (.o (.i (.i (.o .h))))))),(29,.ref (.o (.i (.o (.i (.i (.o .h))))))),(30,.ref (.i (.i (.o (.i (.i (.o .h))))))),(31,.ref (.o (.o (.i (.i (.i (.o .h))))))),(32,.ref (.i (.o (.i (.i (.i (.o .h))))))),(33,.ref (.o (.i (.i (.i (.i (.o .h))))))),(34,.ref (.i (.i (.i (.i (.i (.o .h))))))),(35,.non),(36,.non),(37,.ref (.o (.o (.o (.o (.o (.i .h))))))),(38,.ref (.i (.o (.o (.o (.o (.i .h))))))),(7,.ref (.o (.i (.o (.o (.o (.i .h))))))),(39,.ref (.i (.i (.o (.o (.o (.i .h))))))),(40,.ref (.o (.o (.i (.o (.o (.i .h))))))),(41,.ref (.i (.o (.i (.o (.o (.i .h))))))),(42,.ref (.o (.i (.i (.o (.o (.i .h))))))),(43,.boo true)]) .nil .nil) .nil)) (.node .junk (.node .junk .nil (.node .junk .nil (.node (.inst (.o .h) (.o (.o (.i (.o (.i (.i .h))))))) .nil .nil))) .nil)) (.node (.tup [.int (.ofNat 240),.int (.ofNat 247),.int (.ofNat 65536)]) (.node .junk (.node .junk (.node .junk (.node .junk (.node (.inst (.o (.o .h)) (.o (.i (.o (.o (.o (.o (.o .h)))))))) .nil .nil) .nil) .nil) .nil) .nil) (.node .junk (.node .junk (.node .junk (.node .junk (.node (.lst []) .nil .nil) .nil) .nil) .nil) .nil)))),(.o (.i (.o (.i (.o (.i (.o .h))))))),18,[((.i (.i (.o (.i (.i (.o (.o .h))))))),[(13,.ref (.o (.o (.o (.i (.o .h)))))),(17,.ref (.i (.o (.i (.o (.i (.i .h))))))),(16,.ref (.o (.i (.o (.i (.o (.i .h)))))))]),((.i (.o (.o .h))),[(12,.glo .h),(14,.ref (.o (.i (.o (.i (.o .h)))))),(16,.ref (.o (.i (.o (.i (.o (.i .h))))))),(17,.ref (.i (.o (.i (.o (.i (.i .h)))))))])]⟩
noncomputable def F4d:So:=⟨22,pF4d,qF4d,(.o (.o (.o (.i (.o .h)))))⟩
noncomputable def pF4b:St:=⟨(.node .junk (.node .junk (.node (.tup [.str 68,.str 81,.str 93]) (.node (.tup [.ref (.i (.o .h)),.ref (.o (.i .h)),.ref (.i (.i .h))]) (.node .junk (.node .junk .nil (.node .junk (.node (.lst [.ref (.o (.o (.i (.i (.i (.o (.o .h))))))),.ref (.i (.o (.i (.i (.i (.o (.o .h))))))),.ref (.o (.i (.i (.i (.i (.o (.o .h))))))),.ref (.i (.i (.i (.i (.i (.o (.o .h)))))))]) .nil .nil) .nil)) .nil) (.node .junk (.node (.lst [.ani,.sym 16 (.ofNat 0) (.ofNat 0) (.ofNat 2147483646)]) .nil (.node .junk (.node (.tup [.int (.ofNat 0),.int (.ofNat 233)]) .nil .nil) .nil)) .nil)) (.node .junk (.node .junk .nil (.node .junk .nil (.node (.ns [(14,.ref (.o (.i (.o (.i (.o .h)))))),(46,.ref (.o (.i (.o (.i (.i (.i .h))))))),(47,.ref (.o (.i (.o (.o (.i (.i .h))))))),(48,.int (.ofNat 9)),(50,.ref (.i (.i (.o (.o (.o (.o (.o .h)))))))),(51,.ref (.i (.o (.o (.i (.o (.o (.o .h)))))))),(52,.ref (.o (.i (.i (.i (.o (.o (.o .h)))))))),(53,.ref (.o (.o (.i (.o (.i (.o (.o .h)))))))),(54,.ref (.i (.i (.i (.o (.i (.o (.o .h)))))))),(55,.non),(27,.ref (.o (.o (.o (.i (.i (.o (.o .h))))))))]) .nil .nil))) (.node .junk .nil (.node .junk (.node .junk (.node (.tup [.byt [.n 97],.int (.ofNat 97)]) .nil .nil) .nil) .nil)))) (.node (.tup [.int (.ofNat 224),.int (.ofNat 239),.int (.ofNat 2048)]) (.node (.cel (.ref (.o (.o (.o (.i (.o .h))))))) (.node .junk (.node .junk (.node .junk (.node (.ns [(49,.ref (.i (.o (.o (.o (.o (.o (.o .h)))))))),(60,.ref (.i (.o (.i (.o (.o (.o (.o .h)))))))),(123,.ref (.o (.i (.i (.o (.o (.o (.o .h)))))))),(124,.ref (.i (.i (.i (.o (.o (.o (.o .h))))))))]) .nil .nil) .nil) .nil) (.node .junk .nil (.node (.inst (.i .h) (.i (.o (.o (.o (.i (.i .h))))))) .nil .nil))) (.node .junk (.node (.inst .h (.i (.o (.o (.i (.o .h)))))) .nil (.node (.lst [.sym 2 (.ofNat 0) (.ofNat 0) (.ofNat 11),.sym 4 (.ofNat 0) (.ofNat 0) (.ofNat 11),.sym 6 (.ofNat 0) (.ofNat 0) (.ofNat 11),.sym 8 (.ofNat 0) (.ofNat 0) (.ofNat 11)]) .nil .nil)) .nil)) (.node .junk .nil (.node .junk .nil (.node .junk (.node .junk (.node (.tup [.byt [.n 255],.int (.ofNat 65533)]) .nil .nil) .nil) .nil))))) (.node .junk (.node (.tup [.int (.ofNat 192),.int (.ofNat 223),.int (.ofNat 128)]) (.node .junk (.node .junk (.node .junk (.node .junk (.node (.bm (.i (.o (.o .h))) (.i (.o (.i (.o (.i (.i .h))))))) .nil .nil) .nil) (.node .junk (.node (.lst [.ref (.i (.o (.o (.i (.o (.i (.o .h)))))))]) .nil .nil) .nil)) (.node .junk .nil (.node (.ns [(16,.ref (.o (.i (.o (.i (.o (.i .h))))))),(58,.int (.ofNat 0))]) .nil .nil))) (.node .junk (.node (.ns [(24,.non),(26,.ref (.o (.i (.i (.o (.o (.o .h))))))),(27,.ref (.o (.o (.o (.i (.i (.o .h))))))),(28,.ref (.i (.o (.o (.i (.i (.o .h))))))),(29,.ref (.o (.i (.o (.i (.i (.o .h))))))),(30,.ref (.i (.i (.o (.i (.i (.o .h))))))),(31,.ref (.o (.o (.i (.i (.i (.o .h))))))),(32,.ref (.i (.o (.i (.i (.i (.o .h))))))),(33,.ref (.o (.i (.i (.i (.i (.o .h))))))),(34,.ref (.i (.i (.i (.i (.i (.o .h))))))),(35,.non),(36,.non),(37,.ref (.o (.o (.o (.o (.o (.i .h))))))),(38,.ref (.i (.o (.o (.o (.o (.i .h))))))),(7,.ref (.o (.i (.o (.o (.o (.i .h))))))),(39,.ref (.i (.i (.o (.o (.o (.i .h))))))),(40,.ref (.o (.o (.i (.o (.o (.i .h))))))),(41,.ref (.i (.o (.i (.o (.o (.i .h))))))),(42,.ref (.o (.i (.i (.o (.o (.i .h))))))),(43,.boo true)]) .nil (.node .junk (.node (.tup [.ref (.o (.o (.o (.i (.o (.i (.o .h))))))),.int (.ofNat 233)]) .nil .nil) .nil)) .nil)) (.node .junk (.node .junk (.node .junk .nil (.node .junk (.node (.rit (.ofNat 1) (.ofNat 4)) .nil .nil) .nil)) (.node .junk .nil (.node (.inst (.o .h) (.o (.o (.i (.o (.i (.i .h))))))) .nil .nil))) (.node .junk .nil (.node .junk (.node .junk (.node (.tup [.byt [.n 195,.n 169],.int (.ofNat 233)]) .nil .nil) .nil) .nil)))) (.node (.tup [.int (.ofNat 240),.int (.ofNat 247),.int (.ofNat 65536)]) (.node .junk (.node .junk (.node .junk (.node .junk (.node (.inst (.o (.o .h)) (.o (.i (.o (.o (.o (.o (.o .h)))))))) .nil .nil) .nil) .nil) .nil) .nil) (.node .junk (.node .junk (.node .junk (.node .junk (.node (.lst []) .nil .nil) .nil) .nil) .nil) (.node .junk .nil (.node .junk (.node .junk (.node (.tup [.byt [.n 226,.n 130,.n 172],.int (.ofNat 8364)]) .nil .nil) .nil) .nil)))))),(.o (.i (.o (.i (.o (.i (.o .h))))))),17,[((.i (.i (.o (.i (.i (.o (.o .h))))))),[(13,.ref (.o (.o (.o (.i (.o .h)))))),(17,.ref (.i (.o (.i (.o (.i (.i .h))))))),(16,.ref (.o (.i (.o (.i (.o (.i .h))))))),(72,.ref (.o (.o (.o (.o (.o (.i (.o .h)))))))),(70,.ref (.i (.o (.o (.o (.o (.i (.o .h)))))))),(73,.byt [.n 195,.n 169])]),((.i (.o (.o .h))),[(12,.glo .h),(14,.ref (.o (.i (.o (.i (.o .h)))))),(16,.ref (.o (.i (.o (.i (.o (.i .h))))))),(17,.ref (.i (.o (.i (.o (.i (.i .h)))))))])]⟩
noncomputable def qF4b:St:=⟨(.node .junk (.node .junk (.node (.tup [.str 68,.str 81,.str 93]) (.node (.tup [.ref (.i (.o .h)),.ref (.o (.i .h)),.ref (.i (.i .h))]) .nil (.node .junk (.node (.lst [.ani,.sym 17 (.ofNat 0) (.ofNat 0) (.ofNat 2147483646)]) .nil .nil) .nil)) (.node .junk (.node .junk .nil (.node .junk .nil (.node (.ns [(14,.ref (.o (.i (.o (.i (.o .h)))))),(46,.ref (.o (.i (.o (.i (.i (.i .h))))))),(47,.ref (.o (.i (.o (.o (.i (.i .h))))))),(48,.int (.ofNat 9)),(50,.ref (.i (.i (.o (.o (.o (.o (.o .h)))))))),(51,.ref (.i (.o (.o (.i (.o (.o (.o .h)))))))),(52,.ref (.o (.i (.i (.i (.o (.o (.o .h)))))))),(53,.ref (.o (.o (.i (.o (.i (.o (.o .h)))))))),(54,.ref (.i (.i (.i (.o (.i (.o (.o .h)))))))),(55,.non),(27,.ref (.o (.o (.o (.i (.i (.o (.o .h))))))))]) .nil .nil))) .nil)) (.node (.tup [.int (.ofNat 224),.int (.ofNat 239),.int (.ofNat 2048)]) (.node (.cel (.ref (.o (.o (.o (.i (.o .h))))))) (.node .junk (.node .junk (.node .junk (.node (.ns [(49,.ref (.i (.o (.o (.o (.o (.o (.o .h)))))))),(60,.ref (.i (.o (.i (.o (.o (.o (.o .h)))))))),(123,.ref (.o (.i (.i (.o (.o (.o (.o .h)))))))),(124,.ref (.i (.i (.i (.o (.o (.o (.o .h))))))))]) .nil .nil) .nil) .nil) (.node .junk .nil (.node (.inst (.i .h) (.i (.o (.o (.o (.i (.i .h))))))) .nil .nil))) (.node .junk (.node (.inst .h (.i (.o (.o (.i (.o .h)))))) .nil (.node (.lst [.sym 2 (.ofNat 0) (.ofNat 0) (.ofNat 11),.sym 4 (.ofNat 0) (.ofNat 0) (.ofNat 11),.sym 6 (.ofNat 0) (.ofNat 0) (.ofNat 11),.sym 8 (.ofNat 0) (.ofNat 0) (.ofNat 11)]) .nil .nil)) .nil)) .nil)) (.node .junk (.node (.tup [.int (.ofNat 192),.int (.ofNat 223),.int (.ofNat 128)]) (.node .junk (.node .junk (.node .junk (.node .junk (.node (.bm (.i (.o (.o .h))) (.i (.o (.i (.o (.i (.i .h))))))) .nil .nil) .nil) .nil) (.node .junk .nil (.node (.ns [(16,.ref (.o (.i (.o (.i (.o (.i .h))))))),(58,.int (.ofNat 0))]) .nil .nil))) (.node .junk (.node (.ns [(24,.non),(26,.ref (.o (.i (.i (.o (.o (.o .h))))))),(27,.ref (.o (.o (.o (.i (.i (.o .h))))))),(28,.ref (.i (.o (.o (.i (.i (.o .h))))))),(29,.ref (.o (.i (.o (.i (.i (.o .h))))))),(30,.ref (.i (.i (.o (.i (.i (.o .h))))))),(31,.ref (.o (.o (.i (.i (.i (.o .h))))))),(32,.ref (.i (.o (.i (.i (.i (.o .h))))))),(33,.ref (.o (.i (.i (.i (.i (.o .h))))))),(34,.ref (.i (.i (.i (.i (.i (.o .h))))))),(35,.non),(36,.non),(37,.ref (.o (.o (.o (.o (.o (.i .h))))))),(38,.ref (.i (.o (.o (.o (.o (.i .h))))))),(7,.ref (.o (.i (.o (.o (.o (.i .h))))))),(39,.ref (.i (.i (.o (.o (.o (.i .h))))))),(40,.ref (.o (.o (.i (.o (.o (.i .h))))))),(41,.ref (.i (.o (.i (.o (.o (.i .h))))))),(42,.ref (.o (.i (.i (.o (.o (.i .h))))))),(43,.boo true)]) .nil .nil) .nil)) (.node .junk (.node .junk .nil (.node .junk .nil (.node (.inst (.o .h) (.o (.o (.i (.o (.i (.i .h))))))) .nil .nil))) .nil)) (.node (.tup [.int (.ofNat 240),.int (.ofNat 247),.int (.ofNat 65536)]) (.node .junk (.node .junk (.node .junk (.node .junk (.node (.inst (.o (.o .h)) (.o (.i (.o (.o (.o (.o (.o .h)))))))) .nil .nil) .nil) .nil) .nil) .nil) (.node .junk (.node .junk (.node .junk (.node .junk (.node (.lst []) .nil .nil) .nil) .nil) .nil) .nil)))),(.o (.i (.o (.i (.o (.i (.o .h))))))),18,[((.i (.i (.o (.i (.i (.o (.o .h))))))),[(13,.ref (.o (.o (.o (.i (.o .h)))))),(17,.ref (.i (.o (.i (.o (.i (.i .h))))))),(16,.ref (.o (.i (.o (.i (.o (.i .h)))))))]),((.i (.o (.o .h))),[(12,.glo .h),(14,.ref (.o (.i (.o (.i (.o .h)))))),(16,.ref (.o (.i (.o (.i (.o (.i .h))))))),(17,.ref (.i (.o (.i (.o (.i (.i .h)))))))])]⟩
noncomputable def F4b:So:=⟨22,pF4b,qF4b,(.o (.o (.o (.i (.o .h)))))⟩
noncomputable def pF3:St:=⟨(.node .junk (.node .junk (.node (.tup [.str 68,.str 81,.str 93]) (.node (.tup [.ref (.i (.o .h)),.ref (.o (.i .h)),.ref (.i (.i .h))]) (.node .junk (.node .junk .nil (.node .junk (.node (.lst [.ref (.o (.o (.i (.i (.i (.o (.o .h))))))),.ref (.i (.o (.i (.i (.i (.o (.o .h))))))),.ref (.o (.i (.i (.i (.i (.o (.o .h))))))),.ref (.i (.i (.i (.i (.i (.o (.o .h)))))))]) .nil .nil) .nil)) .nil) (.node .junk (.node (.lst [.ani,.sym 14 (.ofNat 0) (.ofNat 0) (.ofNat 2147483646)]) .nil .nil) .nil)) (.node .junk (.node .junk .nil (.node .junk .nil (.node (.ns [(14,.ref (.o (.i (.o (.i (.o .h)))))),(46,.ref (.o (.i (.o (.i (.i (.i .h))))))),(47,.ref (.o (.i (.o (.o (.i (.i .h))))))),(48,.int (.ofNat 9)),(50,.ref (.i (.i (.o (.o (.o (.o (.o .h)))))))),(51,.ref (.i (.o (.o (.i (.o (.o (.o .h)))))))),(52,.ref (.o (.i (.i (.i (.o (.o (.o .h)))))))),(53,.ref (.o (.o (.i (.o (.i (.o (.o .h)))))))),(54,.ref (.i (.i (.i (.o (.i (.o (.o .h)))))))),(55,.non),(27,.ref (.o (.o (.o (.i (.i (.o (.o .h))))))))]) .nil .nil))) (.node .junk .nil (.node .junk (.node .junk (.node (.tup [.byt [.n 97],.int (.ofNat 97)]) .nil .nil) .nil) .nil)))) (.node (.tup [.int (.ofNat 224),.int (.ofNat 239),.int (.ofNat 2048)]) (.node (.cel (.ref (.o (.o (.o (.i (.o .h))))))) (.node .junk (.node .junk (.node .junk (.node (.ns [(49,.ref (.i (.o (.o (.o (.o (.o (.o .h)))))))),(60,.ref (.i (.o (.i (.o (.o (.o (.o .h)))))))),(123,.ref (.o (.i (.i (.o (.o (.o (.o .h)))))))),(124,.ref (.i (.i (.i (.o (.o (.o (.o .h))))))))]) .nil .nil) .nil) .nil) (.node .junk .nil (.node (.inst (.i .h) (.i (.o (.o (.o (.i (.i .h))))))) .nil .nil))) (.node .junk (.node (.inst .h (.i (.o (.o (.i (.o .h)))))) .nil (.node (.lst [.sym 2 (.ofNat 0) (.ofNat 0) (.ofNat 11),.sym 4 (.ofNat 0) (.ofNat 0) (.ofNat 11),.sym 6 (.ofNat 0) (.ofNat 0) (.ofNat 11),.sym 8 (.ofNat 0) (.ofNat 0) (.ofNat 11)]) .nil .nil)) .nil)) (.node .junk .nil (.node .junk .nil (.node .junk (.node .junk (.node (.tup [.byt [.n 255],.int (.ofNat 65533)]) .nil .nil) .nil) .nil))))) (.node .junk (.node (.tup [.int (.ofNat 192),.int (.ofNat 223),.int (.ofNat 128)]) (.node .junk (.node .junk (.node .junk (.node .junk (.node (.bm (.i (.o (.o .h))) (.i (.o (.i (.o (.i (.i .h))))))) .nil .nil) .nil) (.node .junk (.node (.lst []) .nil .nil) .nil)) (.node .junk .nil (.node (.ns [(16,.ref (.o (.i (.o (.i (.o (.i .h))))))),(58,.int (.ofNat 0))]) .nil .nil))) (.node .junk (.node (.ns [(24,.non),(26,.ref (.o (.i (.i (.o (.o (.o .h))))))),(27,.ref (.o (.o (.o (.i (.i (.o .h))))))),(28,.ref (.i (.o (.o (.i (.i (.o .h))))))),(29,.ref (.o (.i (.o (.i (.i (.o .h))))))),(30,.ref (.i (.i (.o (.i (.i (.o .h))))))),(31,.ref (.o (.o (.i (.i (.i (.o .h))))))),(32,.ref (.i (.o (.i (.i (.i (.o .h))))))),(33,.ref (.o (.i (.i (.i (.i (.o .h))))))),(34,.ref (.i (.i (.i (.i (.i (.o .h))))))),(35,.non),(36,.non),(37,.ref (.o (.o (.o (.o (.o (.i .h))))))),(38,.ref (.i (.o (.o (.o (.o (.i .h))))))),(7,.ref (.o (.i (.o (.o (.o (.i .h))))))),(39,.ref (.i (.i (.o (.o (.o (.i .h))))))),(40,.ref (.o (.o (.i (.o (.o (.i .h))))))),(41,.ref (.i (.o (.i (.o (.o (.i .h))))))),(42,.ref (.o (.i (.i (.o (.o (.i .h))))))),(43,.boo true)]) .nil .nil) .nil)) (.node .junk (.node .junk (.node .junk .nil (.node .junk (.node (.rit (.ofNat 0) (.ofNat 3)) .nil .nil) .nil)) (.node .junk .nil (.node (.inst (.o .h) (.o (.o (.i (.o (.i (.i .h))))))) .nil .nil))) (.node .junk .nil (.node .junk (.node .junk (.node (.tup [.byt [.n 195,.n 169],.int (.ofNat 233)]) .nil .nil) .nil) .nil)))) (.node (.tup [.int (.ofNat 240),.int (.ofNat 247),.int (.ofNat 65536)]) (.node .junk (.node .junk (.node .junk (.node .junk (.node (.inst (.o (.o .h)) (.o (.i (.o (.o (.o (.o (.o .h)))))))) .nil .nil) .nil) .nil) .nil) .nil) (.node .junk (.node .junk (.node .junk (.node .junk (.node (.lst []) .nil .nil) .nil) .nil) .nil) (.node .junk .nil (.node .junk (.node .junk (.node (.tup [.byt [.n 226,.n 130,.n 172],.int (.ofNat 8364)]) .nil .nil) .nil) .nil)))))),(.o (.i (.i (.o (.o (.i (.o .h))))))),15,[((.i (.i (.o (.i (.i (.o (.o .h))))))),[(13,.ref (.o (.o (.o (.i (.o .h)))))),(17,.ref (.i (.o (.i (.o (.i (.i .h))))))),(16,.ref (.o (.i (.o (.i (.o (.i .h))))))),(72,.ref (.o (.o (.o (.o (.o (.i (.o .h)))))))),(70,.ref (.i (.o (.o (.o (.o (.i (.o .h)))))))),(73,.byt [])]),((.i (.o (.o .h))),[(12,.glo .h),(14,.ref (.o (.i (.o (.i (.o .h)))))),(16,.ref (.o (.i (.o (.i (.o (.i .h))))))),(17,.ref (.i (.o (.i (.o (.i (.i .h)))))))])]⟩
noncomputable def qF3:St:=⟨(.node .junk (.node .junk (.node (.tup [.str 68,.str 81,.str 93]) (.node (.tup [.ref (.i (.o .h)),.ref (.o (.i .h)),.ref (.i (.i .h))]) .nil (.node .junk (.node (.lst [.ani,.sym 15 (.ofNat 0) (.ofNat 0) (.ofNat 2147483646)]) .nil .nil) .nil)) (.node .junk (.node .junk .nil (.node .junk .nil (.node (.ns [(14,.ref (.o (.i (.o (.i (.o .h)))))),(46,.ref (.o (.i (.o (.i (.i (.i .h))))))),(47,.ref (.o (.i (.o (.o (.i (.i .h))))))),(48,.int (.ofNat 9)),(50,.ref (.i (.i (.o (.o (.o (.o (.o .h)))))))),(51,.ref (.i (.o (.o (.i (.o (.o (.o .h)))))))),(52,.ref (.o (.i (.i (.i (.o (.o (.o .h)))))))),(53,.ref (.o (.o (.i (.o (.i (.o (.o .h)))))))),(54,.ref (.i (.i (.i (.o (.i (.o (.o .h)))))))),(55,.non),(27,.ref (.o (.o (.o (.i (.i (.o (.o .h))))))))]) .nil .nil))) .nil)) (.node (.tup [.int (.ofNat 224),.int (.ofNat 239),.int (.ofNat 2048)]) (.node (.cel (.ref (.o (.o (.o (.i (.o .h))))))) (.node .junk (.node .junk (.node .junk (.node (.ns [(49,.ref (.i (.o (.o (.o (.o (.o (.o .h)))))))),(60,.ref (.i (.o (.i (.o (.o (.o (.o .h)))))))),(123,.ref (.o (.i (.i (.o (.o (.o (.o .h)))))))),(124,.ref (.i (.i (.i (.o (.o (.o (.o .h))))))))]) .nil .nil) .nil) .nil) (.node .junk .nil (.node (.inst (.i .h) (.i (.o (.o (.o (.i (.i .h))))))) .nil .nil))) (.node .junk (.node (.inst .h (.i (.o (.o (.i (.o .h)))))) .nil (.node (.lst [.sym 2 (.ofNat 0) (.ofNat 0) (.ofNat 11),.sym 4 (.ofNat 0) (.ofNat 0) (.ofNat 11),.sym 6 (.ofNat 0) (.ofNat 0) (.ofNat 11),.sym 8 (.ofNat 0) (.ofNat 0) (.ofNat 11)]) .nil .nil)) .nil)) .nil)) (.node .junk (.node (.tup [.int (.ofNat 192),.int (.ofNat 223),.int (.ofNat 128)]) (.node .junk (.node .junk (.node .junk (.node .junk (.node (.bm (.i (.o (.o .h))) (.i (.o (.i (.o (.i (.i .h))))))) .nil .nil) .nil) .nil) (.node .junk .nil (.node (.ns [(16,.ref (.o (.i (.o (.i (.o (.i .h))))))),(58,.int (.ofNat 0))]) .nil .nil))) (.node .junk (.node (.ns [(24,.non),(26,.ref (.o (.i (.i (.o (.o (.o .h))))))),(27,.ref (.o (.o (.o (.i (.i (.o .h))))))),(28,.ref (.i (.o (.o (.i (.i (.o .h))))))),(29,.ref (.o (.i (.o (.i (.i (.o .h))))))),(30,.ref (.i (.i (.o (.i (.i (.o .h))))))),(31,.ref (.o (.o (.i (.i (.i (.o .h))))))),(32,.ref (.i (.o (.i (.i (.i (.o .h))))))),(33,.ref (.o (.i (.i (.i (.i (.o .h))))))),(34,.ref (.i (.i (.i (.i (.i (.o .h))))))),(35,.non),(36,.non),(37,.ref (.o (.o (.o (.o (.o (.i .h))))))),(38,.ref (.i (.o (.o (.o (.o (.i .h))))))),(7,.ref (.o (.i (.o (.o (.o (.i .h))))))),(39,.ref (.i (.i (.o (.o (.o (.i .h))))))),(40,.ref (.o (.o (.i (.o (.o (.i .h))))))),(41,.ref (.i (.o (.i (.o (.o (.i .h))))))),(42,.ref (.o (.i (.i (.o (.o (.i .h))))))),(43,.boo true)]) .nil .nil) .nil)) (.node .junk (.node .junk .nil (.node .junk .nil (.node (.inst (.o .h) (.o (.o (.i (.o (.i (.i .h))))))) .nil .nil))) .nil)) (.node (.tup [.int (.ofNat 240),.int (.ofNat 247),.int (.ofNat 65536)]) (.node .junk (.node .junk (.node .junk (.node .junk (.node (.inst (.o (.o .h)) (.o (.i (.o (.o (.o (.o (.o .h)))))))) .nil .nil) .nil) .nil) .nil) .nil) (.node .junk (.node .junk (.node .junk (.node .junk (.node (.lst []) .nil .nil) .nil) .nil) .nil) .nil)))),(.o (.i (.i (.o (.o (.i (.o .h))))))),16,[((.i (.i (.o (.i (.i (.o (.o .h))))))),[(13,.ref (.o (.o (.o (.i (.o .h)))))),(17,.ref (.i (.o (.i (.o (.i (.i .h))))))),(16,.ref (.o (.i (.o (.i (.o (.i .h)))))))]),((.i (.o (.o .h))),[(12,.glo .h),(14,.ref (.o (.i (.o (.i (.o .h)))))),(16,.ref (.o (.i (.o (.i (.o (.i .h))))))),(17,.ref (.i (.o (.i (.o (.i (.i .h)))))))])]⟩
noncomputable def F3:So:=⟨22,pF3,qF3,(.o (.o (.o (.i (.o .h)))))⟩
noncomputable def itF:P:=(.i (.o (.i (.o (.o (.i (.o .h)))))))
noncomputable def zlu:Ex:=zab zlt sNil
noncomputable def zgQ:Ex:=zjl [F3,F4a,F4b,F4c,F4d] itF (aLoc 15) zlm zhQ zlu
noncomputable def evFo (S:So):Bool:=evF pg g60 (aLoc 15) zhQ zlu itF S
noncomputable def s24:St:=⟨(.node .junk (.node .junk (.node .junk (.node .junk .nil (.node .junk (.node (.lst [.ani,.sym 13 (.ofNat 0) (.ofNat 0) (.ofNat 2147483646)]) .nil .nil) .nil)) .nil) (.node .junk (.node (.cel (.ref (.o (.o (.o (.i (.o .h))))))) .nil (.node .junk (.node (.inst .h (.i (.o (.o (.i (.o .h)))))) .nil .nil) .nil)) .nil)) (.node .junk (.node .junk (.node .junk .nil (.node .junk (.node (.ns [(24,.non),(26,.ref (.o (.i (.i (.o (.o (.o .h))))))),(27,.ref (.o (.o (.o (.i (.i (.o .h))))))),(28,.ref (.i (.o (.o (.i (.i (.o .h))))))),(29,.ref (.o (.i (.o (.i (.i (.o .h))))))),(30,.ref (.i (.i (.o (.i (.i (.o .h))))))),(31,.ref (.o (.o (.i (.i (.i (.o .h))))))),(32,.ref (.i (.o (.i (.i (.i (.o .h))))))),(33,.ref (.o (.i (.i (.i (.i (.o .h))))))),(34,.ref (.i (.i (.i (.i (.i (.o .h))))))),(35,.non),(36,.non),(37,.ref (.o (.o (.o (.o (.o (.i .h))))))),(38,.ref (.i (.o (.o (.o (.o (.i .h))))))),(7,.ref (.o (.i (.o (.o (.o (.i .h))))))),(39,.ref (.i (.i (.o (.o (.o (.i .h))))))),(40,.ref (.o (.o (.i (.o (.o (.i .h))))))),(41,.ref (.i (.o (.i (.o (.o (.i .h))))))),(42,.ref (.o (.i (.i (.o (.o (.i .h))))))),(43,.boo true)]) .nil .nil) .nil)) .nil) .nil)),(.i (.i (.o (.i (.i (.o (.o .h))))))),14,[((.i (.o (.o .h))),[(12,.glo .h),(14,.ref (.o (.i (.o (.i (.o .h)))))),(16,.ref (.o (.i (.o (.i (.o (.i .h))))))),(17,.ref (.i (.o (.i (.o (.i (.i .h)))))))])]⟩
noncomputable def e24:St:=⟨(.node .junk (.node .junk (.node .junk (.node .junk .nil (.node .junk (.node (.lst [.ani,.sym 14 (.ofNat 0) (.ofNat 0) (.ofNat 2147483646)]) .nil .nil) .nil)) .nil) (.node .junk (.node (.cel (.ref (.o (.o (.o (.i (.o .h))))))) .nil .nil) .nil)) .nil),(.i (.i (.o (.i (.i (.o (.o .h))))))),15,[((.i (.o (.o .h))),[(12,.glo .h),(14,.ref (.o (.i (.o (.i (.o .h)))))),(16,.ref (.o (.i (.o (.i (.o (.i .h))))))),(17,.ref (.i (.o (.i (.o (.i (.i .h)))))))])]⟩
noncomputable def S24:Sm:=⟨(.i (.o (.o (.i .h)))),[.ref (.o (.o (.o (.i (.o .h))))),.ref (.o (.i (.o (.i (.o .h)))))],21,s24,[e24],(.o (.o (.o (.i (.o .h))))),none⟩
noncomputable def pL0:St:=⟨(.node .junk (.node .junk (.node .junk (.node .junk .nil (.node .junk (.node (.lst [.ani,.sym 14 (.ofNat 0) (.ofNat 0) (.ofNat 2147483646)]) .nil .nil) .nil)) .nil) (.node .junk (.node (.cel (.ref (.o (.o (.o (.i (.o .h))))))) .nil (.node .junk (.node (.inst .h (.i (.o (.o (.i (.o .h)))))) .nil .nil) .nil)) .nil)) (.node .junk (.node .junk (.node .junk .nil (.node .junk (.node (.ns [(24,.non),(26,.ref (.o (.i (.i (.o (.o (.o .h))))))),(27,.ref (.o (.o (.o (.i (.i (.o .h))))))),(28,.ref (.i (.o (.o (.i (.i (.o .h))))))),(29,.ref (.o (.i (.o (.i (.i (.o .h))))))),(30,.ref (.i (.i (.o (.i (.i (.o .h))))))),(31,.ref (.o (.o (.i (.i (.i (.o .h))))))),(32,.ref (.i (.o (.i (.i (.i (.o .h))))))),(33,.ref (.o (.i (.i (.i (.i (.o .h))))))),(34,.ref (.i (.i (.i (.i (.i (.o .h))))))),(35,.non),(36,.non),(37,.ref (.o (.o (.o (.o (.o (.i .h))))))),(38,.ref (.i (.o (.o (.o (.o (.i .h))))))),(7,.ref (.o (.i (.o (.o (.o (.i .h))))))),(39,.ref (.i (.i (.o (.o (.o (.i .h))))))),(40,.ref (.o (.o (.i (.o (.o (.i .h))))))),(41,.ref (.i (.o (.i (.o (.o (.i .h))))))),(42,.ref (.o (.i (.i (.o (.o (.i .h))))))),(43,.boo true)]) .nil .nil) .nil)) (.node .junk .nil (.node .junk .nil (.node .junk (.node .junk (.node (.rit (.ofNat 1) (.ofNat 3)) .nil .nil) .nil) .nil)))) .nil)),(.o (.i (.i (.i (.i (.o (.o .h))))))),15,[((.i (.i (.o (.i (.i (.o (.o .h))))))),[(13,.ref (.o (.o (.o (.i (.o .h)))))),(14,.ref (.o (.i (.o (.i (.o .h)))))),(15,.int (.ofNat 0))]),((.i (.o (.o .h))),[(12,.glo .h),(14,.ref (.o (.i (.o (.i (.o .h)))))),(16,.ref (.o (.i (.o (.i (.o (.i .h))))))),(17,.ref (.i (.o (.i (.o (.i (.i .h)))))))])]⟩
noncomputable def qL0:St:=⟨(.node .junk (.node .junk (.node .junk (.node .junk .nil (.node .junk (.node (.lst [.ani,.sym 15 (.ofNat 0) (.ofNat 0) (.ofNat 2147483646)]) .nil .nil) .nil)) .nil) (.node .junk (.node (.cel (.ref (.o (.o (.o (.i (.o .h))))))) .nil (.node .junk (.node (.inst .h (.i (.o (.o (.i (.o .h)))))) .nil .nil) .nil)) .nil)) (.node .junk (.node .junk (.node .junk .nil (.node .junk (.node (.ns [(24,.non),(26,.ref (.o (.i (.i (.o (.o (.o .h))))))),(27,.ref (.o (.o (.o (.i (.i (.o .h))))))),(28,.ref (.i (.o (.o (.i (.i (.o .h))))))),(29,.ref (.o (.i (.o (.i (.i (.o .h))))))),(30,.ref (.i (.i (.o (.i (.i (.o .h))))))),(31,.ref (.o (.o (.i (.i (.i (.o .h))))))),(32,.ref (.i (.o (.i (.i (.i (.o .h))))))),(33,.ref (.o (.i (.i (.i (.i (.o .h))))))),(34,.ref (.i (.i (.i (.i (.i (.o .h))))))),(35,.non),(36,.non),(37,.ref (.o (.o (.o (.o (.o (.i .h))))))),(38,.ref (.i (.o (.o (.o (.o (.i .h))))))),(7,.ref (.o (.i (.o (.o (.o (.i .h))))))),(39,.ref (.i (.i (.o (.o (.o (.i .h))))))),(40,.ref (.o (.o (.i (.o (.o (.i .h))))))),(41,.ref (.i (.o (.i (.o (.o (.i .h))))))),(42,.ref (.o (.i (.i (.o (.o (.i .h))))))),(43,.boo true)]) .nil .nil) .nil)) (.node .junk .nil (.node .junk .nil (.node .junk (.node .junk (.node (.rit (.ofNat 1) (.ofNat 3)) .nil .nil) .nil) .nil)))) .nil)),(.o (.i (.i (.i (.i (.o (.o .h))))))),16,[((.i (.i (.o (.i (.i (.o (.o .h))))))),[(13,.ref (.o (.o (.o (.i (.o .h)))))),(14,.ref (.o (.i (.o (.i (.o .h)))))),(15,.int (.ofNat 0))]),((.i (.o (.o .h))),[(12,.glo .h),(14,.ref (.o (.i (.o (.i (.o .h)))))),(16,.ref (.o (.i (.o (.i (.o (.i .h))))))),(17,.ref (.i (.o (.i (.o (.i (.i .h)))))))])]⟩
noncomputable def L0:So:=⟨22,pL0,qL0,(.o (.o (.o (.i (.o .h)))))⟩
noncomputable def pL1:St:=⟨(.node .junk (.node .junk (.node .junk (.node .junk .nil (.node .junk (.node (.lst [.ani,.sym 16 (.ofNat 0) (.ofNat 0) (.ofNat 2147483646)]) .nil .nil) .nil)) .nil) (.node .junk (.node (.cel (.ref (.o (.o (.o (.i (.o .h))))))) .nil (.node .junk (.node (.inst .h (.i (.o (.o (.i (.o .h)))))) .nil .nil) .nil)) .nil)) (.node .junk (.node .junk (.node .junk .nil (.node .junk (.node (.ns [(24,.non),(26,.ref (.o (.i (.i (.o (.o (.o .h))))))),(27,.ref (.o (.o (.o (.i (.i (.o .h))))))),(28,.ref (.i (.o (.o (.i (.i (.o .h))))))),(29,.ref (.o (.i (.o (.i (.i (.o .h))))))),(30,.ref (.i (.i (.o (.i (.i (.o .h))))))),(31,.ref (.o (.o (.i (.i (.i (.o .h))))))),(32,.ref (.i (.o (.i (.i (.i (.o .h))))))),(33,.ref (.o (.i (.i (.i (.i (.o .h))))))),(34,.ref (.i (.i (.i (.i (.i (.o .h))))))),(35,.non),(36,.non),(37,.ref (.o (.o (.o (.o (.o (.i .h))))))),(38,.ref (.i (.o (.o (.o (.o (.i .h))))))),(7,.ref (.o (.i (.o (.o (.o (.i .h))))))),(39,.ref (.i (.i (.o (.o (.o (.i .h))))))),(40,.ref (.o (.o (.i (.o (.o (.i .h))))))),(41,.ref (.i (.o (.i (.o (.o (.i .h))))))),(42,.ref (.o (.i (.i (.o (.o (.i .h))))))),(43,.boo true)]) .nil .nil) .nil)) (.node .junk .nil (.node .junk .nil (.node .junk (.node .junk (.node (.rit (.ofNat 2) (.ofNat 3)) .nil .nil) .nil) .nil)))) .nil)),(.o (.i (.i (.i (.i (.o (.o .h))))))),17,[((.i (.i (.o (.i (.i (.o (.o .h))))))),[(13,.ref (.o (.o (.o (.i (.o .h)))))),(14,.ref (.o (.i (.o (.i (.o .h)))))),(15,.int (.ofNat 1))]),((.i (.o (.o .h))),[(12,.glo .h),(14,.ref (.o (.i (.o (.i (.o .h)))))),(16,.ref (.o (.i (.o (.i (.o (.i .h))))))),(17,.ref (.i (.o (.i (.o (.i (.i .h)))))))])]⟩
noncomputable def qL1:St:=⟨(.node .junk (.node .junk (.node .junk (.node .junk .nil (.node .junk (.node (.lst [.ani,.sym 17 (.ofNat 0) (.ofNat 0) (.ofNat 2147483646)]) .nil .nil) .nil)) .nil) (.node .junk (.node (.cel (.ref (.o (.o (.o (.i (.o .h))))))) .nil (.node .junk (.node (.inst .h (.i (.o (.o (.i (.o .h)))))) .nil .nil) .nil)) .nil)) (.node .junk (.node .junk (.node .junk .nil (.node .junk (.node (.ns [(24,.non),(26,.ref (.o (.i (.i (.o (.o (.o .h))))))),(27,.ref (.o (.o (.o (.i (.i (.o .h))))))),(28,.ref (.i (.o (.o (.i (.i (.o .h))))))),(29,.ref (.o (.i (.o (.i (.i (.o .h))))))),(30,.ref (.i (.i (.o (.i (.i (.o .h))))))),(31,.ref (.o (.o (.i (.i (.i (.o .h))))))),(32,.ref (.i (.o (.i (.i (.i (.o .h))))))),(33,.ref (.o (.i (.i (.i (.i (.o .h))))))),(34,.ref (.i (.i (.i (.i (.i (.o .h))))))),(35,.non),(36,.non),(37,.ref (.o (.o (.o (.o (.o (.i .h))))))),(38,.ref (.i (.o (.o (.o (.o (.i .h))))))),(7,.ref (.o (.i (.o (.o (.o (.i .h))))))),(39,.ref (.i (.i (.o (.o (.o (.i .h))))))),(40,.ref (.o (.o (.i (.o (.o (.i .h))))))),(41,.ref (.i (.o (.i (.o (.o (.i .h))))))),(42,.ref (.o (.i (.i (.o (.o (.i .h))))))),(43,.boo true)]) .nil .nil) .nil)) (.node .junk .nil (.node .junk .nil (.node .junk (.node .junk (.node (.rit (.ofNat 2) (.ofNat 3)) .nil .nil) .nil) .nil)))) .nil)),(.o (.i (.i (.i (.i (.o (.o .h))))))),18,[((.i (.i (.o (.i (.i (.o (.o .h))))))),[(13,.ref (.o (.o (.o (.i (.o .h)))))),(14,.ref (.o (.i (.o (.i (.o .h)))))),(15,.int (.ofNat 1))]),((.i (.o (.o .h))),[(12,.glo .h),(14,.ref (.o (.i (.o (.i (.o .h)))))),(16,.ref (.o (.i (.o (.i (.o (.i .h))))))),(17,.ref (.i (.o (.i (.o (.i (.i .h)))))))])]⟩
noncomputable def L1:So:=⟨22,pL1,qL1,(.o (.o (.o (.i (.o .h)))))⟩
noncomputable def pL2:St:=⟨(.node .junk (.node .junk (.node .junk (.node .junk .nil (.node .junk (.node (.lst [.ani,.sym 18 (.ofNat 0) (.ofNat 0) (.ofNat 2147483646)]) .nil .nil) .nil)) .nil) (.node .junk (.node (.cel (.ref (.o (.o (.o (.i (.o .h))))))) .nil (.node .junk (.node (.inst .h (.i (.o (.o (.i (.o .h)))))) .nil .nil) .nil)) .nil)) (.node .junk (.node .junk (.node .junk .nil (.node .junk (.node (.ns [(24,.non),(26,.ref (.o (.i (.i (.o (.o (.o .h))))))),(27,.ref (.o (.o (.o (.i (.i (.o .h))))))),(28,.ref (.i (.o (.o (.i (.i (.o .h))))))),(29,.ref (.o (.i (.o (.i (.i (.o .h))))))),(30,.ref (.i (.i (.o (.i (.i (.o .h))))))),(31,.ref (.o (.o (.i (.i (.i (.o .h))))))),(32,.ref (.i (.o (.i (.i (.i (.o .h))))))),(33,.ref (.o (.i (.i (.i (.i (.o .h))))))),(34,.ref (.i (.i (.i (.i (.i (.o .h))))))),(35,.non),(36,.non),(37,.ref (.o (.o (.o (.o (.o (.i .h))))))),(38,.ref (.i (.o (.o (.o (.o (.i .h))))))),(7,.ref (.o (.i (.o (.o (.o (.i .h))))))),(39,.ref (.i (.i (.o (.o (.o (.i .h))))))),(40,.ref (.o (.o (.i (.o (.o (.i .h))))))),(41,.ref (.i (.o (.i (.o (.o (.i .h))))))),(42,.ref (.o (.i (.i (.o (.o (.i .h))))))),(43,.boo true)]) .nil .nil) .nil)) (.node .junk .nil (.node .junk .nil (.node .junk (.node .junk (.node (.rit (.ofNat 3) (.ofNat 3)) .nil .nil) .nil) .nil)))) .nil)),(.o (.i (.i (.i (.i (.o (.o .h))))))),19,[((.i (.i (.o (.i (.i (.o (.o .h))))))),[(13,.ref (.o (.o (.o (.i (.o .h)))))),(14,.ref (.o (.i (.o (.i (.o .h)))))),(15,.int (.ofNat 2))]),((.i (.o (.o .h))),[(12,.glo .h),(14,.ref (.o (.i (.o (.i (.o .h)))))),(16,.ref (.o (.i (.o (.i (.o (.i .h))))))),(17,.ref (.i (.o (.i (.o (.i (.i .h)))))))])]⟩
noncomputable def qL2:St:=⟨(.node .junk (.node .junk (.node .junk (.node .junk .nil (.node .junk (.node (.lst [.ani,.sym 19 (.ofNat 0) (.ofNat 0) (.ofNat 2147483646)]) .nil .nil) .nil)) .nil) (.node .junk (.node (.cel (.ref (.o (.o (.o (.i (.o .h))))))) .nil (.node .junk (.node (.inst .h (.i (.o (.o (.i (.o .h)))))) .nil .nil) .nil)) .nil)) (.node .junk (.node .junk (.node .junk .nil (.node .junk (.node (.ns [(24,.non),(26,.ref (.o (.i (.i (.o (.o (.o .h))))))),(27,.ref (.o (.o (.o (.i (.i (.o .h))))))),(28,.ref (.i (.o (.o (.i (.i (.o .h))))))),(29,.ref (.o (.i (.o (.i (.i (.o .h))))))),(30,.ref (.i (.i (.o (.i (.i (.o .h))))))),(31,.ref (.o (.o (.i (.i (.i (.o .h))))))),(32,.ref (.i (.o (.i (.i (.i (.o .h))))))),(33,.ref (.o (.i (.i (.i (.i (.o .h))))))),(34,.ref (.i (.i (.i (.i (.i (.o .h))))))),(35,.non),(36,.non),(37,.ref (.o (.o (.o (.o (.o (.i .h))))))),(38,.ref (.i (.o (.o (.o (.o (.i .h))))))),(7,.ref (.o (.i (.o (.o (.o (.i .h))))))),(39,.ref (.i (.i (.o (.o (.o (.i .h))))))),(40,.ref (.o (.o (.i (.o (.o (.i .h))))))),(41,.ref (.i (.o (.i (.o (.o (.i .h))))))),(42,.ref (.o (.i (.i (.o (.o (.i .h))))))),(43,.boo true)]) .nil .nil) .nil)) (.node .junk .nil (.node .junk .nil (.node .junk (.node .junk (.node (.rit (.ofNat 3) (.ofNat 3)) .nil .nil) .nil) .nil)))) .nil)),(.o (.i (.i (.i (.i (.o (.o .h))))))),20,[((.i (.i (.o (.i (.i (.o (.o .h))))))),[(13,.ref (.o (.o (.o (.i (.o .h)))))),(14,.ref (.o (.i (.o (.i (.o .h)))))),(15,.int (.ofNat 2))]),((.i (.o (.o .h))),[(12,.glo .h),(14,.ref (.o (.i (.o (.i (.o .h)))))),(16,.ref (.o (.i (.o (.i (.o (.i .h))))))),(17,.ref (.i (.o (.i (.o (.i (.i .h)))))))])]⟩
noncomputable def L2:So:=⟨22,pL2,qL2,(.o (.o (.o (.i (.o .h)))))⟩
noncomputable def s25:St:=⟨(.node .junk (.node .junk (.node .junk (.node .junk .nil (.node .junk (.node (.lst [.ani,.sym 15 (.ofNat 0) (.ofNat 0) (.ofNat 2147483646)]) .nil .nil) .nil)) .nil) (.node .junk (.node (.cel (.ref (.o (.o (.o (.i (.o .h))))))) .nil .nil) .nil)) .nil),(.i (.i (.o (.i (.i (.o (.o .h))))))),16,[((.i (.o (.o .h))),[(12,.glo .h),(14,.ref (.o (.i (.o (.i (.o .h)))))),(16,.ref (.o (.i (.o (.i (.o (.i .h))))))),(17,.ref (.i (.o (.i (.o (.i (.i .h)))))))])]⟩
noncomputable def e25:St:=⟨(.node .junk (.node .junk (.node .junk (.node .junk .nil (.node .junk (.node (.lst [.ani,.sym 16 (.ofNat 0) (.ofNat 0) (.ofNat 2147483646)]) .nil .nil) .nil)) .nil) (.node .junk (.node (.cel (.ref (.o (.o (.o (.i (.o .h))))))) .nil .nil) .nil)) .nil),(.i (.i (.o (.i (.i (.o (.o .h))))))),17,[((.i (.o (.o .h))),[(12,.glo .h),(14,.ref (.o (.i (.o (.i (.o .h)))))),(16,.ref (.o (.i (.o (.i (.o (.i .h))))))),(17,.ref (.i (.o (.i (.o (.i (.i .h)))))))])]⟩
noncomputable def S25:Sm:=⟨(.o (.i (.o (.i .h)))),[.ref (.o (.o (.o (.i (.o .h)))))],21,s25,[e25],(.o (.o (.o (.i (.o .h))))),none⟩
noncomputable def fn23:Fn:=⟨[13,17,16],[],[],zab (sOr [A23]) zlv,none⟩
noncomputable def fn24:Fn:=⟨[13,14],[],[],zll (sOr [L0,L1,L2]),none⟩
noncomputable def T2:T Fn:=(.node none (.node none (.node none (.node none .nil (.node (some fn23) .nil .nil)) .nil) .nil) (.node none (.node none (.node none .nil (.node (some fn24) .nil .nil)) .nil) .nil))
theorem zh7 (b:Bool):@Bool.rec (λ_=>Bool) false true b=b:=by cases b <;> rfl
noncomputable def nesP:P:=(.i (.o (.i (.i (.o (.o .h))))))
noncomputable def oneP:P:=(.o (.o (.o (.i (.o (.o .h))))))
noncomputable def twr:Nat->CF:=λn=>Nat.rec g60 (λ_ D=>dsCF nesP oneP (cfS pg fT D)) n
noncomputable def gp:CF:=cfS pg fT (twr 4)
noncomputable def goS:CF:=ze0 S22 (ze0 S23 (ze0 S24 (ze0 S25 g60)))
noncomputable def g2:CF:=cfS pg T2 g60
noncomputable def ev2 (S:Sm):Bool:=g2 S.f S.args [] S.dp S.pre (zdh S) noX
noncomputable def ev (S:Sm):Bool:=g60 S.f S.args [] S.dp S.pre (zdh S) noX
noncomputable def ev25:Bool:=gp S25.f S25.args [] S25.dp S25.pre (zdh S25) noX
noncomputable def sok:Bool:=bq (smOk S22) (bq (smOk S23) (bq (smOk S24) (smOk S25) false) false) false
noncomputable def kT:KV:=λv _=>V.rec false (λb=>b) f1 f1 f1 f1 f1 f4 false false f2 v
noncomputable def lawB:Bool:=cfS pg fT goS .h [.glo .h] [] 20 st0 kT noX
end
end Mine
end
section
set_option maxRecDepth 100000
set_option maxHeartbeats 0
namespace Mine
theorem sokq:@Bool.rec (λ_=>Bool) false true sok=true:=by kernel_rfl
theorem lawq:@Bool.rec (λ_=>Bool) false true lawB=true:=by kernel_rfl
theorem e22q:@Bool.rec (λ_=>Bool) false true (ev S22)=true:=by kernel_rfl
theorem e24q:@Bool.rec (λ_=>Bool) false true (ev2 S24)=true:=by kernel_rfl
theorem e23q:@Bool.rec (λ_=>Bool) false true (ev2 S23)=true:=by kernel_rfl
end Mine
end
section
set_option maxRecDepth 100000
set_option maxHeartbeats 0
namespace Mine
theorem eAq:@Bool.rec (λ_=>Bool) false true (evO pg g60 (zgR zgQ) A23)=true:=by kernel_rfl
theorem eF3q:@Bool.rec (λ_=>Bool) false true (evFo F3)=true:=by kernel_rfl
theorem eFaq:@Bool.rec (λ_=>Bool) false true (evFo F4a)=true:=by kernel_rfl
theorem eFbq:@Bool.rec (λ_=>Bool) false true (evFo F4b)=true:=by kernel_rfl
theorem eFcq:@Bool.rec (λ_=>Bool) false true (evFo F4c)=true:=by kernel_rfl
theorem eFdq:@Bool.rec (λ_=>Bool) false true (evFo F4d)=true:=by kernel_rfl
end Mine
end
section
set_option maxRecDepth 100000
set_option maxHeartbeats 0
namespace Mine
theorem eL0q:@Bool.rec (λ_=>Bool) false true (evO pg g60 zdu L0)=true:=by kernel_rfl
theorem eL1q:@Bool.rec (λ_=>Bool) false true (evO pg g60 zdu L1)=true:=by kernel_rfl
theorem eL2q:@Bool.rec (λ_=>Bool) false true (evO pg g60 zdu L2)=true:=by kernel_rfl
end Mine
end
section
set_option maxRecDepth 100000
namespace Mine
theorem e25q:@Bool.rec (λ_=>Bool) false true ev25=true:=by kernel_rfl
end Mine
end
section
open PySem PySem.W PyProof.Rows PySem.Calls
set_option Elab.async false
set_option maxRecDepth 100000
set_option maxHeartbeats 0
namespace Mine
theorem okB {b:Bool} (h:@Bool.rec (λ_=>Bool) false true b=true):b=true:=(zh7 b).symm.trans h
theorem evS (S:Sm):ev S=g60 S.f S.args [] S.dp S.pre (zdh S) noX:=rfl
theorem evS2 (S:Sm):ev2 S=cfS pg T2 g60 S.f S.args [] S.dp S.pre (zdh S) noX:=rfl
theorem ev25E:ev25=cfS pg fT (twr 4) S25.f S25.args [] S25.dp S25.pre (zdh S25) noX:=rfl
theorem lawE:lawB=cfS pg fT goS .h [.glo .h] [] 20 st0 kT noX:=rfl
theorem sok1:smOk S22=true/\smOk S23=true/\smOk S24=true/\smOk S25=true:=by
  have h:sok=true:=okB (b:=sok) sokq
  refine E0_2 (zac (show bq (smOk S22) (bq (smOk S23) (bq (smOk S24) (smOk S25) false) false) false=true from h)) λh1 h=>?_
  refine E0_2 (zac h) λh2 h=>?_
  refine E0_2 (zac h) λh3 h=>?_
  exact ⟨h1,h2,h3,h⟩
theorem mem1 {α:Type} {R:α->Prop} {a:α} (h:R a):∀x∈[a],R x:=λx hx=>by
  rcases List.mem_cons.mp hx with rfl | hx
  · exact h
  · cases hx
theorem mem3 {α:Type} {R:α->Prop} {a b d:α} (h:R a) (h2:R b) (h3:R d):∀x∈[a,b,d],R x:=λx hx=>by
  rcases List.mem_cons.mp hx with rfl | hx
  · exact h
  · rcases List.mem_cons.mp hx with rfl | hx
    · exact h2
    · exact mem1 h3 x hx
theorem mem5 {α:Type} {R:α->Prop} {a b d e f:α} (h:R a) (h2:R b) (h3:R d) (h4:R e) (h5:R f):∀x∈[a,b,d,e,f],R x:=λx hx=>by
  rcases List.mem_cons.mp hx with rfl | hx
  · exact h
  · rcases List.mem_cons.mp hx with rfl | hx
    · exact h2
    · exact mem3 h3 h4 h5 x hx
section
variable {w:World} {h:Heap} {os:OsState} {scr:Value}
theorem bC {sc:Scope} {body:List Stmt} {n:Nat} {a b:Ex} {Ss:List So} {r:CF} (h1:SBd (cn w h os scr) pg (kdOf sc) a (body.take n)) (h2:SBd (cn w h os scr) pg (kdOf sc) b (body.drop n)) (hr:CallOk (cn w h os scr) r) (hE:∀S∈Ss,evO pg r a S=true):
    SBd (cn w h os scr) pg (kdOf sc) (zab (sOr Ss) b) body:=⟨by
  have q:=znF (f_or h1.out hr hE) h2.out
  rw [List.take_append_drop] at q
  exact q⟩
variable (Y:Hd3 w h scr)
include Y
theorem zh2 {r:CF} (hr:CallOk (cn w h os scr) r):CallOk (cn w h os scr) (cfS pg fT r):=ze3 (nms3 Y) Y.kin (λf F e=>zeZ (λp=>p) fT (zhv Y (zbK Y)) f F e) hr
theorem zcd:CallOk (cn w h os scr) g60:=znQ Y 60
theorem b23F:SBd (cn w h os scr) pg (kdOf (fnAt 218).2.2) zgQ (((fnAt 218).2.1.take 4).drop 2):=⟨@zkH _ _ _ _ _ _ _ _ _ _ _ _ _ _ _ (eK Y (zbK Y) (by kernel_rfl)) (λ_ _=>by kernel_rfl) (aK Y (zbK Y) (by kernel_rfl)) (bK Y (zbK Y) rfl (by kernel_rfl)) (bK Y (zbK Y) rfl (by kernel_rfl)) (zcd Y)
  (mem5 (R:=λS=>evFo S=true) (okB (b:=evFo F3) eF3q) (okB (b:=evFo F4a) eFaq) (okB (b:=evFo F4b) eFbq) (okB (b:=evFo F4c) eFcq) (okB (b:=evFo F4d) eFdq))⟩
theorem b23:SBd (cn w h os scr) pg (kdOf (fnAt 218).2.2) fn23.bd (fnAt 218).2.1:=bC (b23A Y (zbK Y) (b23F Y)) (b23B Y (zbK Y)) (zcd Y) (mem1 (R:=λS=>evO pg g60 (zgR zgQ) S=true) (okB (b:=evO pg g60 (zgR zgQ) A23) eAq))
theorem b24:SExs (cn w h os scr) pg (kdOf (fnAt 220).2.2) (zll (sOr [L0,L1,L2])) (fnAt 220).2.1:=
  (@zcf _ _ _ _ _ _ _ (@zkI _ _ _ _ _ _ _ _ _ _ (eK Y (zbK Y) (by kernel_rfl)) (λ_ _=>by kernel_rfl) (aK Y (zbK Y) (by kernel_rfl)) (f_or (a:=zdu) (bK Y (zbK Y) rfl (by kernel_rfl)) (zcd Y) (mem3 (R:=λS=>evO pg g60 zdu S=true) (okB (b:=evO pg g60 zdu L0) eL0q) (okB (b:=evO pg g60 zdu L1) eL1q) (okB (b:=evO pg g60 zdu L2) eL2q)))) (@zcf _ _ _ _ _ _ _ (sK Y (zbK Y) rfl (by kernel_rfl)) (@zgH _ _ _)))
theorem a23:∃o fd body dvals,FnAt (cn w h os scr) pg ((.o (.o (.o (.i .h))))) fn23 o fd body dvals:=fy3 (fd:=(fdOf (K3 w.params) 1949)) (b23 Y) (tabN rfl) (λ_ _ _=>by kernel_rfl) rfl rfl (by kernel_rfl)
theorem a24:∃o fd body dvals,FnAt (cn w h os scr) pg ((.i (.o (.o (.i .h))))) fn24 o fd body dvals:=fb2 (fd:=(fdOf (K3 w.params) 1963)) (b24 Y) (tabN rfl) (λ_ _=>by kernel_rfl) rfl rfl (by kernel_rfl)
theorem zkF:CallOk (cn w h os scr) (cfS pg T2 g60):=ze3 (nms3 Y) Y.kin (λf F e=>zeZ (λp=>p) T2 (R:=λf F=>(∃o fd body dvals,FnAt (cn w h os scr) pg f F o fd body dvals)\/∃e,LamAt (cn w h os scr) pg f F e)
  ⟨oN,⟨oN,⟨oN,⟨oN,trivial,⟨oI (a23 Y),trivial,trivial⟩⟩,trivial⟩,trivial⟩,⟨oN,⟨oN,⟨oN,trivial,⟨oI (a24 Y),trivial,trivial⟩⟩,trivial⟩,trivial⟩⟩ f F e) (zcd Y)
theorem zgU:∀n,CallOk (cn w h os scr) (twr n)
  | 0=>zcd Y
  | n + 1=>znI (zh2 Y (zgU n)) (by kernel_rfl) (by kernel_rfl)
theorem zkE:CallOk (cn w h os scr) goS:=by
  obtain ⟨h1,h2,h3,h4⟩:=sok1
  have c4:=zd5 (c:=cn w h os scr) (S:=S25) (zcd Y) (zh2 Y (zgU Y 4)) (ev25E.symm.trans (okB (b:=ev25) e25q)) h4 (by kernel_rfl)
  have c3:=zd5 (S:=S24) c4 (zkF Y) ((evS2 S24).symm.trans (okB (b:=ev2 S24) e24q)) h3 (by kernel_rfl)
  have c2:=zd5 (S:=S23) c3 (zkF Y) ((evS2 S23).symm.trans (okB (b:=ev2 S23) e23q)) h2 (by kernel_rfl)
  exact zd5 (S:=S22) c2 (zcd Y) ((evS S22).symm.trans (okB (b:=ev S22) e22q)) h1 (by kernel_rfl)
theorem zgv {s:Shared} {A:Around} (ok0:Ok (cn w h os scr) [] (cn w h os scr).l0 st0 s) (hd:A.depth<=305) (hu:A.units<=215) (hh:A.handled=none) (hfr:A.frames=some []):
    codeAny (Md (cn w h os scr)) A (.call (.ref 1983) ⟨[scr],[]⟩) (RetP (λu s'=>u=.bool true/\(∀b o,h.get? b=some o->s'.heap.get? b=some o)/\s'.os=os/\s'.gens=#[]) (λ_ _=>False)) s:=by
  refine (zh2 Y (zkE Y)).fn .h [.glo .h] 20 [] _ st0 s kT noX A [scr] _ _ (by kernel_rfl) (lawE.symm.trans (okB (b:=lawB) lawq)) ok0 (.cons rfl .nil) ⟨hd,by omega,hh,⟨[],hfr,λenv he=>by cases he⟩⟩ (.refl _) (λl' v st' u s' g le ok' d=>?_) zaT
  cases v with
  | boo b=>
    have g:b=true:=g
    subst g
    exact ⟨d,ok'.keep,ok'.oss,ok'.gns⟩
  | _=>exact nb g
end
end Mine
end
section
open PySem PySem.W PyProof.Rows
set_option Elab.async false
set_option maxRecDepth 100000
set_option maxHeartbeats 0
namespace Mine
noncomputable abbrev zdN (P:Params):List (Addr×Obj):=((((((((((((([]++ko1 P)++ko2 P)++ko3 P)++ko4 P)++ko5 P)++ko6 P)++ko7 P)++ko8 P)++ko9 P)++ko10 P)++ko11 P)++ko12 P)++ko13 P)
noncomputable def TopEnds:Prop:=∀(w:World) (os:OsState),∃M s,topRun treeTable Pw w 11 ann0 M ⟨boot_heap w.params,#[],boot_drawn,boot_toks,os⟩ (topStub Pw)=some s/\Is (kb13 w.params) 1984 3331 os s/\∀p∈zdN w.params,s.heap.objs[p.1]? =some p.2
theorem zaS {h h':Heap} {a:Addr} (e:h.get? a=h'.get? a) (x:PySem.Str):h.nsMap a x=h'.nsMap a x:=by unfold Heap.nsMap;rw [e]
theorem za6 {h h':Heap} {a:Addr} (e:h.get? a=h'.get? a):h.isNs a=h'.isNs a:=by unfold Heap.isNs;rw [e]
theorem zb0 {h h':Heap} {a:Addr} (e:h.get? a=h'.get? a):h.nsKeys a=h'.nsKeys a:=by unfold Heap.nsKeys;rw [e]
theorem zeD:opening Pw=plainProg Pw.main.scope.names:=by kernel_rfl
theorem zeK (s:Shared):fenceModules? Pw s=some s:=by rfl
theorem zgP (w:World):(boot_heap w.params).nsMap mainGlobals "__annotations__"=ann0:=by kernel_rfl
theorem zf5 (w:World):(boot_heap w.params).isNs mainGlobals=true:=by kernel_rfl
theorem zgO (w:World):(boot_heap w.params).get? 1=some (boot_o_1 w.params):=by kernel_rfl
theorem zf7 (TE:TopEnds) (w:World):(∃s,AfterRun (opening Pw) w s)/\∀s,AfterRun (opening Pw) w s->∃s₀,fenceModules? Pw s=some s₀/\s₀.gens=#[]/\∃s₁,PySem.W.TopRan Pw w s₀ s₁/\s₁.asleep/\s₁.gens=#[]/\s₁.heap.isNs mainGlobals=true/\s₁.heap.isNs builtinsNs=true/\
    (∃o,s₁.heap.get? sysModules=some o)/\(∃os,Is (kb13 w.params) 1984 3331 os s₁)/\∀p∈zdN w.params,s₁.heap.objs[p.1]? =some p.2:=by
  have hb:=boot_open (p:=Pw) (N:=600) zeD (by decide) zeK w
  obtain ⟨s₀,h2,hv⟩:=Option.map_eq_some_iff.mp hb
  obtain ⟨s,h4,h5⟩:=Option.bind_eq_some_iff.mp h2
  rw [<- table_eq_tree] at h4
  have A:=AfterImport.of_importEnds h4
  refine ⟨⟨s,A⟩,λs' hs'=>?_⟩
  obtain rfl:s'=s:=AfterImport.unique hs' A
  have z:s₀.asleep:=Shared.asleep_of_life (fence_lifeW h5) A.life
  obtain ⟨hp,gg,dd,tk,os⟩:=s₀
  simp only [Prod.mk.injEq] at hv
  obtain ⟨rfl,rfl,rfl,rfl⟩:=hv
  obtain ⟨M,s₁,h6,I,hk⟩:=TE w os
  rw [<- table_eq_tree] at h6
  obtain ⟨a,l,eos,fr⟩:=topRun_spec _ _ _ _ z h6
  obtain ⟨e0,e2,e3,e4⟩:=zbN I
  have L:=zgu w
  unfold zfD looksG at L
  simp only [Bool.and_eq_true] at L
  obtain ⟨⟨⟨⟨⟨L1,L2⟩,L3⟩,L4⟩,L5⟩,L6⟩:=L
  have st:staticsOk [] (boot_heap w.params) s₁.heap=true:=by
    unfold staticsOk at L1 ⊢
    rw [za6 (show s₁.heap.get? cStatics=_ from e2),zb0 (show s₁.heap.get? cStatics=_ from e2),show s₁.heap.nsMap cStatics=(mini w.params).nsMap cStatics from funext (zaS e2)]
    exact L1
  have nb:namesBound Pw s₁.heap=true:=by
    unfold namesBound at L2 ⊢
    rw [za6 (show s₁.heap.get? mainGlobals=_ from e3),zb0 (show s₁.heap.get? mainGlobals=_ from e3)]
    exact L2
  have lk:laidKept (boot_heap w.params) s₁.heap=true:=by
    unfold laidKept at L3 ⊢
    rw [za6 (show s₁.heap.get? mainGlobals=_ from e3),show s₁.heap.nsMap mainGlobals=(mini w.params).nsMap mainGlobals from funext (zaS e3)]
    exact L3
  have ac:s₁.heap.accountedOkI []=true:=by
    unfold Heap.accountedOkI at L4 ⊢
    rw [za6 (show s₁.heap.get? cStatics=_ from e2),zb0 (show s₁.heap.get? cStatics=_ from e2),show s₁.heap.nsMap cStatics=(mini w.params).nsMap cStatics from funext (zaS e2)]
    exact L4
  have hm:s₁.heap.isNs mainGlobals=true:=(za6 e3).trans L5
  have hbi:s₁.heap.isNs builtinsNs=true:=(za6 e0).trans L6
  have bv:s₁.heap.bltView=bltViewBooted:=by
    rw [<- blt_eq w]
    unfold Heap.bltView Heap.nsPairs
    rw [show s₁.heap.get? builtinsNs=(mini w.params).get? builtinsNs from e0]
  refine ⟨_,h5,rfl,s₁,⟨a,l,Shared.rest_eq eos,λb o hb hn=>fr b o (Heap.lt_size hb) (λq=>hn (.inl q)) (λq=>hn (.inr (.inl q))) (λq=>hn (.inr (.inr ((Pin.globalOf_eq (zf5 w) _).trans ((zgP w).trans q))))) hb,
    imps▸Heap.accountedI_of_ok ac,imps▸statics_of_ok st,Pin.keysAreStrs_of hm,λx hx=>(Pin.builtinOf_eq hbi x).trans (Heap.of_bltView hbi bv x hx),?_,λg hg=>?_,names_of_bound nb,laid_of_kept lk⟩,Shared.asleep_of_life l z,I.2.1,hm,hbi,⟨_,fr 1 _ (by decide) (by decide) (by decide) (by decide) (zgO w)⟩,⟨os,I⟩,hk⟩
  · refine ⟨4,⟨.type "module",some 0,.plain,#[]⟩,(Pin.globalOf_eq hm _).trans ((zaS e3 _).trans (by kernel_rfl)),e4.trans (by kernel_rfl),rfl,rfl⟩
  · rw [I.2.1] at hg;simp at hg
end Mine
end
section
open PySem PySem.W PyProof.Rows PySem.Calls
set_option Elab.async false
set_option maxRecDepth 100000
set_option maxHeartbeats 0
namespace Mine
theorem zb3 {α:Type}:∀{l:List (Addr×α)} {a:Addr} {o:α},l.lookup a=some o->(a,o)∈l
  | [],a,o,e=>by exact no e
  | (b,p)::l,a,o,e=>by
    rw [List.lookup_cons] at e
    cases q:a==b with
    | true=>rw [q] at e;(replace e:=si e;subst e);rw [beq_iff_eq.mp q];exact .head _
    | false=>rw [q] at e;exact .tail _ (zb3 e)
theorem ziu (w:World):(K3 w.params).all (λp=>!p.2.isFreed)=true:=by kernel_rfl
theorem zko {P:Params} {p:Addr×Obj} (h:p∈K3 P):p∈kb13 P\/p∈zdN P:=by
  rcases List.mem_append.mp h with h | h
  · exact .inl h
  refine .inr ?_
  rcases List.mem_append.mp h with h | h
  · exact List.mem_append_right _ h
  refine List.mem_append_left _ ?_
  rcases List.mem_append.mp h with h | h
  · exact List.mem_append_right _ h
  refine List.mem_append_left _ ?_
  rcases List.mem_append.mp h with h | h
  · exact List.mem_append_right _ h
  refine List.mem_append_left _ ?_
  rcases List.mem_append.mp h with h | h
  · exact List.mem_append_right _ h
  refine List.mem_append_left _ ?_
  rcases List.mem_append.mp h with h | h
  · exact List.mem_append_right _ h
  refine List.mem_append_left _ ?_
  rcases List.mem_append.mp h with h | h
  · exact List.mem_append_right _ h
  refine List.mem_append_left _ ?_
  rcases List.mem_append.mp h with h | h
  · exact List.mem_append_right _ h
  refine List.mem_append_left _ ?_
  rcases List.mem_append.mp h with h | h
  · exact List.mem_append_right _ h
  refine List.mem_append_left _ ?_
  rcases List.mem_append.mp h with h | h
  · exact List.mem_append_right _ h
  refine List.mem_append_left _ ?_
  rcases List.mem_append.mp h with h | h
  · exact List.mem_append_right _ h
  refine List.mem_append_left _ ?_
  rcases List.mem_append.mp h with h | h
  · exact List.mem_append_right _ h
  refine List.mem_append_left _ ?_
  rcases List.mem_append.mp h with h | h
  · exact List.mem_append_right _ h
  exact List.mem_append_left _ (List.mem_append_right _ h)
theorem zfI {w:World} {os:OsState} {s:Shared} (I:Is (kb13 w.params) 1984 3331 os s) (hk:∀p∈zdN w.params,s.heap.objs[p.1]? =some p.2) {h':Heap} (keeps:∀b o,s.heap.get? b=some o->h'.get? b=some o):(K3 w.params).In h':=by
  intro a o e
  have m:=zb3 e
  have f:=List.all_eq_true.mp (ziu w) _ m
  have g:s.heap.objs[a]? =some o:=by
    rcases zko m with q | q
    · exact I.2.2.2.2.2 _ q
    · exact hk _ q
  exact keeps _ _ (Heap.get?_some_iff.mpr ⟨g,by simpa using f⟩)
theorem zgr (w:World):(mini w.params).nsMap cStatics "sys.recursionlimit"=none:=by kernel_rfl
theorem zij (w:World):(mini w.params).isNs cStatics=true:=by kernel_rfl
theorem zny {w:World} {os:OsState} {s s₂:Shared} {a:Addr} {us:List Value} {m:Nat} (I:Is (kb13 w.params) 1984 3331 os s) (hk:∀p∈zdN w.params,s.heap.objs[p.1]? =some p.2) (keeps:∀b o,s.heap.get? b=some o->s₂.heap.get? b=some o)
    (sys:∃o,s.heap.get? sysModules=some o) (hl:s₂.heap.get? a=some { cls:=.type "list",data:=.seq (List.toArray us) m}) (hi:∀u∈us,∃i t,u=.int i t) (hz:us.length<=100):Hd3 w s₂.heap (.ref a) where
  kin:=zfI I hk keeps
  lim:=by
    refine E0_4 (zbN I) λ_ e2 _ _=>?_
    have hn:s.heap.Ns cStatics (s.heap.nsMap cStatics):=Heap.Ns.of_isNs ((za6 e2).trans (zij w))
    have hm:s.heap.nsMap cStatics "sys.recursionlimit"=none:=(zaS e2 _).trans (zgr w)
    refine E3_2 hn ?_;clear hn;intro o es ep g r
    exact ⟨s.heap.nsMap cStatics,⟨o,es,ep,keeps _ _ g,r⟩,hm⟩
  mods:=let ⟨o,e⟩:=sys;⟨o,keeps _ _ e⟩
  scr:=⟨a,us,m,rfl,hl,hi,hz⟩
noncomputable def zew {α:Type}:T α->(P->P)->List (P×α)
  | .nil,_=>[]
  | .node o l r,w=>(match o with | some x=>[(w .h,x)] | none=>[])++(zew l (λp=>w (.o p))++zew r (λp=>w (.i p)))
theorem za9 {α:Type}:∀{t:T α} {w:P->P} {p:P} {x:α},t.at p=some x->(w p,x)∈zew t w
  | .nil,w,p,x,e=>by exact no e
  | .node o l r,w,.h,x,e=>by
    have e:o=some x:=e
    subst e;exact List.mem_append_left _ (.head _)
  | .node o l r,w,.o p,x,e=>List.mem_append_right _ (List.mem_append_left _ (za9 (w:=λp=>w (.o p)) e))
  | .node o l r,w,.i p,x,e=>List.mem_append_right _ (List.mem_append_right _ (za9 (w:=λp=>w (.i p)) e))
noncomputable def zgo:TO->(P->P)->List (P×O)
  | .nil,_=>[]
  | .node o l r,w=>(w .h,o)::(zgo l (λp=>w (.o p))++zgo r (λp=>w (.i p)))
theorem zcF:∀{t:TO} {w:P->P} {p:P},t.at p=.junk\/(w p,t.at p)∈zgo t w
  | .nil,w,p=>.inl (TO.nil_at p)
  | .node o l r,w,.h=>.inr (.head _)
  | .node o l r,w,.o p=>(zcF (t:=l) (w:=λp=>w (.o p)) (p:=p)).imp id λh=>.tail _ (List.mem_append_left _ h)
  | .node o l r,w,.i p=>(zcF (t:=r) (w:=λp=>w (.i p)) (p:=p)).imp id λh=>.tail _ (List.mem_append_right _ h)
theorem zj4:∀p∈zew l0T (λp=>p),∀q∈zew l0T (λp=>p),p.2=q.2->p.1=q.1:=by decide +kernel
theorem zj3:∀p∈zew l0T (λp=>p),p.1.num < 9:=by decide +kernel
theorem zmj {w:World} {os:OsState} {s s₂:Shared} {scr:Value} (I:Is (kb13 w.params) 1984 3331 os s) (hk:∀p∈zdN w.params,s.heap.objs[p.1]? =some p.2) (keeps:∀b o,s.heap.get? b=some o->s₂.heap.get? b=some o) (hg:s₂.gens=#[]):
    Ok (cn w s₂.heap s₂.os scr) [] (cn w s₂.heap s₂.os scr).l0 st0 s₂:=by
  have X:=zfI I hk keeps
  have get:∀a o,(K3 w.params).lookup a=some o->s₂.heap.get? a=some o:=λa o e=>X a o e
  refine ⟨λb o e=>e,λb o e=>e,λi=>?_,(λL m q=>by cases q),rfl,.nil,(λL q=>by cases q),λi j a _ _ ei ej=>?_,λi hi=>?_,λj _=>rfl,rfl,hg⟩
  · rcases zcF (t:=st0.t) (w:=λp=>p) (p:=i) with q | q
    · exact .inl q
    · generalize st0.t.at i=o at q
      simp only [st0,zgo,List.append_nil,List.nil_append,List.cons_append,List.mem_cons,List.not_mem_nil,or_false,Prod.mk.injEq] at q
      have tup:∀(xs:List V) (a:Addr) (us:List Value),l0T.at i=some a->(K3 w.params).lookup a=some ⟨.type "tuple",none,.seq us.toArray 0,#[]⟩->DVs (cn w s₂.heap s₂.os scr) (cn w s₂.heap s₂.os scr).l0 xs us->∃a ob,l0T.at i=some a/\s₂.heap.get? a=some ob/\DO (cn w s₂.heap s₂.os scr) (cn w s₂.heap s₂.os scr).l0 (.tup xs) ob/\((O.tup xs).mut=true->s₂.heap.get? a=none):=λxs a us e1 e2 d=>
        ⟨a,_,e1,get a _ e2,⟨us,0,rfl,d⟩,by rintro ⟨⟩⟩
      rcases q with ⟨rfl,rfl⟩ | ⟨rfl,rfl⟩ | ⟨rfl,rfl⟩ | ⟨rfl,rfl⟩ | ⟨rfl,rfl⟩ | ⟨rfl,rfl⟩ | ⟨rfl,rfl⟩ | ⟨rfl,rfl⟩
      · exact .inr (tup [] 1845 [] (by kernel_rfl) (by kernel_rfl) .nil)
      · exact .inr (tup [] 1846 [] (by kernel_rfl) (by kernel_rfl) .nil)
      · exact .inr (tup _ 125 [.str "slice" 339,.str "map" 340,.str "func" 341] (by kernel_rfl) (by kernel_rfl) (.cons ⟨339,by kernel_rfl⟩ (.cons ⟨340,by kernel_rfl⟩ (.cons ⟨341,by kernel_rfl⟩ .nil))))
      · exact .inr (tup _ 992 [.ref 989,.ref 990,.ref 991] (by kernel_rfl) (by kernel_rfl) (.cons ⟨989,by kernel_rfl,rfl⟩ (.cons ⟨990,by kernel_rfl,rfl⟩ (.cons ⟨991,by kernel_rfl,rfl⟩ .nil))))
      · exact .inr (tup _ 990 [.int 224 1655,.int 239 1656,.int 2048 1657] (by kernel_rfl) (by kernel_rfl) (.cons ⟨1655,rfl⟩ (.cons ⟨1656,rfl⟩ (.cons ⟨1657,rfl⟩ .nil))))
      · exact .inr (tup _ 1847 [.str "func" 3109,.ref 1845,.ref 1846,.bool false] (by kernel_rfl) (by kernel_rfl) (.cons ⟨3109,by kernel_rfl⟩ (.cons ⟨1845,by kernel_rfl,rfl⟩ (.cons ⟨1846,by kernel_rfl,rfl⟩ (.cons rfl .nil)))))
      · exact .inr (tup _ 989 [.int 192 1652,.int 223 1653,.int 128 1654] (by kernel_rfl) (by kernel_rfl) (.cons ⟨1652,rfl⟩ (.cons ⟨1653,rfl⟩ (.cons ⟨1654,rfl⟩ .nil))))
      · exact .inr (tup _ 991 [.int 240 1658,.int 247 1659,.int 65536 1660] (by kernel_rfl) (by kernel_rfl) (.cons ⟨1658,rfl⟩ (.cons ⟨1659,rfl⟩ (.cons ⟨1660,rfl⟩ .nil))))
  · have h1:=za9 (t:=l0T) (w:=λp=>p) ei
    have h2:=za9 (t:=l0T) (w:=λp=>p) ej
    exact zj4 _ h1 _ h2 rfl
  · cases e:l0T.at i with
    | none=>exact e
    | some a=>
      have h1:i.num < 9:=zj3 _ (za9 (t:=l0T) (w:=λp=>p) e)
      have hi:9<=i.num:=hi
      exact absurd h1 (Nat.not_lt.mpr hi)
end Mine
end
section
open PySem PySem.W PyProof.Rows PySem.Calls
set_option maxRecDepth 100000
namespace Mine
noncomputable abbrev rl:RowW:=PySem.Challenge.rw_xm0204_01.row.toRowW
theorem ziy {R:WRecords} (xs:List WData):WShape.hasItems R xs .int=true->∃ns:List Int,xs=ofPys (ns.map PyData.int):=by
  induction xs with
  | nil=>exact λ_=>⟨[],rfl⟩
  | cons x xs ih=>
    intro h
    have h:=Bool.and_eq_true_iff.mp (show (WShape.has R x .int&&WShape.hasItems R xs .int)=true from h)
    obtain ⟨i,rfl⟩:=hasW_int h.1
    obtain ⟨ns,rfl⟩:=ih h.2
    exact ⟨i::ns,rfl⟩
theorem zin {R:WRecords} {d:WData} (h:WShape.has R d (.list .int)=true):∃ns:List Int,d=ofPy (PyData.list (ns.map PyData.int)):=by
  cases d with
  | list xs=>obtain ⟨ns,rfl⟩:=ziy xs ((Bool.or_false _).symm.trans (show (WShape.hasItems R xs .int||false)=true from h));exact ⟨ns,rfl⟩
  | _=>exact Bool.noConfusion (show false=true from h)
theorem zc6 (ns:List Int):(ofPys (ns.map PyData.int)).length=ns.length:=by rw [ofPys_eq];simp
theorem zc2 {args:List WData} (x:rl.claim.pre args=true):∃ns:List Int,args=[ofPy (PyData.list (ns.map PyData.int))]/\ns.length<=63:=by
  obtain ⟨h1,h2⟩:=pre_splitW x
  obtain ⟨d,r,rfl,h3,h4⟩:=hasAllW_cons (show WShape.hasAll rl.records args [.list .int]=true from h1)
  cases hasAllW_nil h4
  obtain ⟨ns,rfl⟩:=zin h3
  refine ⟨ns,rfl,?_⟩
  by_cases q:ns.length<=63
  · exact q
  · have hl:decide ((63:Int) < ((ofPys (ns.map PyData.int)).length:Int))=true:=by rw [zc6];exact decide_eq_true (by omega)
    have hv:WTm.value [] (.and (.not (.lt (.lit (.int 63)) (.len (.arg 0)))) (.lit (.bool true))) { args:=[.list (ofPys (ns.map PyData.int))]}=WTm.value [] (.and (.not (.lit (.bool (decide ((63:Int) < ((ofPys (ns.map PyData.int)).length:Int)))))) (.lit (.bool true))) { args:=[]}:=rfl
    rw [hl] at hv
    exact Bool.noConfusion ((holdsW_of_value (X:=false) (hv.trans rfl)).symm.trans h2)
theorem zfH {R:WRecords} {cl:Str->Option Addr} {h:Heap} (ns:List Int):∀us as,ReadsAllW R cl h us (ofPys (ns.map PyData.int)) as->∀u∈us,∃i t,u=.int i t:=by
  induction ns with
  | nil=>exact λus as r=>by rw [(readsAllW_nil_inv r).1];exact λu h=>absurd h List.not_mem_nil
  | cons i ns ih=>
    intro us as r u hu
    obtain ⟨v,vs,a,b,rfl,_,r1,r2⟩:=readsAllW_cons_inv r
    rcases List.mem_cons.mp hu with rfl | hu
    · obtain ⟨t,e,_⟩:=readsW_int_inv r1;exact ⟨_,t,e⟩
    · exact ih _ _ r2 u hu
theorem zdM {w:World} {s s₂:Shared} {ns:List Int} {vs:List Value} {as:List Addr} (L:Laid [] w s s₂ [ofPy (PyData.list (ns.map PyData.int))] vs as) (hn:s.heap.objs.size=1984):∃us,vs=[.ref 1984]/\s₂.heap.get? 1984=some { cls:=.type "list",data:=.seq (List.toArray us)}/\(∀u∈us,∃i t,u=.int i t)/\us.length=ns.length:=by
  obtain ⟨v,vs,a,b,rfl,_,r1,r2⟩:=readsAllW_cons_inv L.reads
  rw [(readsAllW_nil_inv r2).1] at L ⊢
  obtain ⟨x,us,as',rfl,hL,g,_⟩:=readsW_list_inv r1
  have e:=(X.script_at L).1
  rw [hn] at e
  subst e
  exact ⟨us.toList,rfl,by simpa using X.script_obj L hL,zfH ns _ _ g,g.length.trans (zc6 ns)⟩
end Mine
end
section
open PySem PySem.W PyProof.Rows PySem.Calls
set_option Elab.async false
set_option maxRecDepth 100000
set_option maxHeartbeats 0
namespace Mine
theorem zgm:opensWell Pw=true:=by kernel_rfl
theorem zeh (w:World):(mini w.params).nsMap mainGlobals "law"=some (.ref 1983):=by kernel_rfl
theorem zgE {w:World} {s s₂ s':Shared} {ns:List Int} {u:Value}
    (h1:u=.bool true) (h2:∀b o,s₂.heap.get? b=some o->s'.heap.get? b=some o) (h3:s'.os=s₂.os) (h4:s'.gens=#[]):
    GoodWG rl.claim (classAt s.heap) (ExcName.means s.heap) [ofPy (PyData.list (ns.map PyData.int))] s₂ (.ok (.ret u)) s':=by
  subst h1
  refine ⟨.inl ⟨.bool true,.bool true,[],rfl,λ_=>rfl,.bool true,?_,λ_=>⟨.nil,λa ha=>by cases ha⟩⟩,⟨λb o e=>.inl (h2 b o e),λb o e=>⟨o,h2 b o e⟩⟩,h3,.of_eq h4⟩
  refine postW_of (r:=rl) (X:=true) (by rfl) ?_ rfl
  show WTm.value [] (.eq .res (.lit (.bool true))) { args:=_,res:=some (.bool true),after:=_}=_
  simp only [WTm.value]
  first | rfl | kernel_rfl
noncomputable def fdL:FuncData:=mkF (fnAt 224) "law" "law" [] .none .none .none (.str "law_xm0204_01" 3224) none (.ref 1982) .none
theorem ziq {w:World} {s:Shared} {os:OsState} (I:Is (kb13 w.params) 1984 3331 os s) (hk:∀p∈zdN w.params,s.heap.objs[p.1]? =some p.2) (hg:s.heap.isNs mainGlobals=true):isTheDefsW Pw s.heap "law":=by
  have X:(K3 w.params).In s.heap:=λa o e=>zfI I hk (λ_ _ e=>e) a o e
  refine E0_4 (zbN I) λ_ _ e3 _=>?_
  refine ⟨1983,⟨.type "function",none,.func fdL,#[]⟩,fdL,(fnAt 224).1,(fnAt 224).2.1,(fnAt 224).2.2,(Pin.globalOf_eq hg _).trans ((zaS e3 _).trans (zeh w)),X 1983 _ (by kernel_rfl),rfl,by kernel_rfl,by kernel_rfl,by kernel_rfl,rfl,rfl,rfl,rfl,rfl,rfl,.inl ⟨by kernel_rfl,by kernel_rfl⟩,[],by kernel_rfl,.inl ⟨rfl,by kernel_rfl⟩⟩
theorem row_holds (TE:TopEnds) (TW:Pw.tablesWhole=true) (k1:PySem.Challenge.rw_xm0204_01.row.wellSaid=true):PySem.Challenge.rw_xm0204_01.row.Holds:=by
  have hw:rl.promised:=⟨[.list []],by decide +kernel,by decide +kernel⟩
  refine ⟨k1,hw,⟨⟨rfl,rfl,rfl,rfl,rfl,TW⟩,zgm,rfl⟩,hw.witness,λw=>⟨(zf7 TE w).1,λs' hs'=>?_⟩⟩
  obtain ⟨s₀,hf,hg0,s,hT,hz,hgens,hg,hbi,sys,⟨os,I⟩,hk⟩:=(zf7 TE w).2 s' hs'
  refine ⟨s₀,hf,hg0,s,hT,λn hn=>?_,(λx hx=>by cases hx),(λx hx=>by cases hx),?_⟩
  · have hn:n∈(["law"]:List PySem.Str):=hn
    rcases List.mem_cons.mp hn with rfl | hn
    · exact ziq I hk hg
    · cases hn
  refine ClaimW.callFrom_of_specG (c:=rl.claim) (tree:=λvs=>do match <- nsGet mainNs "law" with
      | some f=>do ret (<- PySem.call f vs)
      | none=>unsupported "claim.caller:no-such-global") hz hgens λargs hpre hlay ord hord=>?_
  refine E1_2 (zc2 hpre) ?_;rintro ns rfl hz63
  obtain ⟨⟨vs,s₂⟩,hlaid⟩:=Option.isSome_iff_exists.mp (layAllW_isSome (P:=w.params) (ord:=ord) (R:=rl.records) (cl:=classAt s.heap) (λc hc=>by exact nb hc) _ rl.args s (pre_splitW hpre).1)
  have keeps:=layAllW_keeps _ _ _ hlaid
  have hal:=layAllW_rest _ _ _ hlaid
  refine E1_3 (reads_layAllW hord _ _ _ hlaid hlay s₂.heap (λ_ _ e=>e)) λas hrd hin hold=>?_
  have L:Laid rl.records w s s₂ [ofPy (PyData.list (ns.map PyData.int))] vs as:=⟨⟨ord,hord,hlaid⟩,hrd,hin,hold,keeps,hal.1.trans hgens,hal.2.2.1⟩
  refine E1_4 (zdM L I.1) ?_;rintro us rfl hobj hints hlen
  have Y:Hd3 w s₂.heap (.ref 1984):=zny I hk keeps sys hobj hints (by omega)
  have ok0:=zmj (scr:=.ref 1984) I hk keeps L.gens
  have LT:=zgv Y ok0 (A:=callerA) (by decide) (by decide) rfl rfl
  have hNs:s₂.heap.Ns mainGlobals (s.heap.nsMap mainGlobals):=(Heap.Ns.of_isNs hg).keeps keeps
  have hlaw:s.heap.nsMap mainGlobals "law"=some (.ref 1983):=(zaS (zbN I).2.2.1 _).trans (zeh w)
  refine ⟨_,s₂,hlaid,wpAny_bind (wpAny_nsGet hNs ?_)⟩
  rw [hlaw]
  refine wpAny_bind (wpAny_call (codeAny_mono LT λr s' z=>?_))
  rcases r with e | (_ | _ | _ | v)
  · exact z.elim
  · exact z.elim
  · exact z.elim
  · exact z.elim
  · refine E0_4 z ?_;clear z;intro z1 z2 z3 z4
    have g:=zgE (w:=w) (s:=s) (ns:=ns) z1 z2 z3 z4
    have z:=g.laid (c:=rl.claim) rfl rfl (ident_freeW rfl rfl rfl) L
    exact wpAny_pure ⟨_,rfl,z.1,z.2.1,z.2.2,λq=>by exact nb q⟩
end Mine
end
open PySem PySem.W PyProof.Rows
theorem Mine.top_ends:Mine.TopEnds:=λw os=>Mine.top_run w os
theorem PySem.Challenge.cw_xm0204_01_holds : PySem.Challenge.rw_xm0204_01.Holds := by
  exact Mine.law_of (Mine.row_holds Mine.top_ends Mine.tw)
