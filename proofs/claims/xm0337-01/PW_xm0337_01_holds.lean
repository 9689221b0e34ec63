import PyProof.Rows.All
import PySem.Eval
import PyProof.TableCode
import PyProof.Raises
import PyProof.RulesTry
import PyProof.AssignAttr
import PyProof.AutoIntOps
import PyProof.SliceSyntax
import PyProof.CompUse
import PyProof.PlainList
import PyProof.CompFree
import PyProof.DictStraight
import PyProof.DictRoadsH
import PyProof.NeKinds
import PyProof.WalksMore
import PyProof.RangeFor
import PyProof.LetGo
import PyProof.ListCopy
import PyProof.Rows.TupMore
import PyProof.Rows.TupDisplay
import PyProof.TupleOfSeq
import OpenK.KLine
import PySem.Challenge.RW_xm0337_01
set_option Elab.async false
set_option maxRecDepth 100000
set_option maxHeartbeats 8000000
namespace Mine
theorem UL.{u}{α:Type u}{a b:α}:a∈[b]->a=b:=List.mem_singleton.mp
theorem UM.{u}{α:Type u}{a b:α}:some a=some b->a=b:=Option.some.inj
theorem UN.{u}{α:Type u}{a b:List α}:(a++b).length=a.length+b.length:=List.length_append
theorem UO.{u}{α:Type u}{a b:α}{l:List α}:a∈b::l->a=b∨a∈l:=List.mem_cons.mp
theorem UP.{u}{α:Type u}{a:α}{l:List α}(b:List α):a∈l->a∈l++b:=List.mem_append_left b
theorem UQ.{u,v}{α:Type u}{β:Type v}{l:List α}(f:α->β):(l.map f).length=l.length:=List.length_map f
theorem UR.{u}{α:Type u}{a:α}{l m:List α}:a∈l++m->a∈l∨a∈m:=List.mem_append.mp
theorem US{p:Prop}[Decidable p]:¬p->decide p=false:=decide_eq_false
theorem UT{p:Prop}[Decidable p]:p->decide p=true:=decide_eq_true
theorem UU{p:Prop}[Decidable p]:decide p=true->p:=of_decide_eq_true
theorem UW.{u}{α:Type u}{a:α}{l:List α}{i:Nat}:l[i]?=some a->∃h:i<l.length,l[i]=a:=List.getElem?_eq_some_iff.mp
section
theorem bY{A0 A1:Prop}{G:Prop}(h:A0/\A1)(k:A0->A1->G):G:=k h.1 h.2
theorem fU{A0 A1 A2:Prop}{G:Prop}(h:A0/\A1/\A2)(k:A0->A1->A2->G):G:=bY h fun a b=>bY b (k a)
theorem lI{A0 A1 A2 A3:Prop}{G:Prop}(h:A0/\A1/\A2/\A3)(k:A0->A1->A2->A3->G):G:=bY h fun a b=>fU b (k a)
theorem JY{A0 A1 A2 A3 A4:Prop}{G:Prop}(h:A0/\A1/\A2/\A3/\A4)(k:A0->A1->A2->A3->A4->G):G:=bY h fun a b=>lI b (k a)
theorem Dm{A0 A1 A2 A3 A4 A5:Prop}{G:Prop}(h:A0/\A1/\A2/\A3/\A4/\A5)(k:A0->A1->A2->A3->A4->A5->G):G:=bY h fun a b=>JY b (k a)
theorem Mp{A0 A1 A2 A3 A4 A5 A6:Prop}{G:Prop}(h:A0/\A1/\A2/\A3/\A4/\A5/\A6)(k:A0->A1->A2->A3->A4->A5->A6->G):G:=bY h fun a b=>Dm b (k a)
theorem Mq{A0 A1 A2 A3 A4 A5 A6 A7:Prop}{G:Prop}(h:A0/\A1/\A2/\A3/\A4/\A5/\A6/\A7)(k:A0->A1->A2->A3->A4->A5->A6->A7->G):G:=bY h fun a b=>Mp b (k a)
theorem cX{α0:Type}{A0:α0->Prop}{G:Prop}(h:∃ x0,A0 x0)(k:∀ x0,A0 x0->G):G:=h.elim k
theorem aM{α0:Type}{A0 A1:α0->Prop}{G:Prop}(h:∃ x0,A0 x0/\A1 x0)(k:∀ x0,A0 x0->A1 x0->G):G:=h.elim fun a b=>bY b (k a)
theorem dj{α0:Type}{A0 A1 A2:α0->Prop}{G:Prop}(h:∃ x0,A0 x0/\A1 x0/\A2 x0)(k:∀ x0,A0 x0->A1 x0->A2 x0->G):G:=h.elim fun a b=>fU b (k a)
theorem nY{α0:Type}{A0 A1 A2 A3:α0->Prop}{G:Prop}(h:∃ x0,A0 x0/\A1 x0/\A2 x0/\A3 x0)(k:∀ x0,A0 x0->A1 x0->A2 x0->A3 x0->G):G:=h.elim fun a b=>lI b (k a)
theorem JZ{α0:Type}{A0 A1 A2 A3 A4:α0->Prop}{G:Prop}(h:∃ x0,A0 x0/\A1 x0/\A2 x0/\A3 x0/\A4 x0)(k:∀ x0,A0 x0->A1 x0->A2 x0->A3 x0->A4 x0->G):G:=h.elim fun a b=>JY b (k a)
theorem OQ{α0:Type}{A0 A1 A2 A3 A4 A5:α0->Prop}{G:Prop}(h:∃ x0,A0 x0/\A1 x0/\A2 x0/\A3 x0/\A4 x0/\A5 x0)(k:∀ x0,A0 x0->A1 x0->A2 x0->A3 x0->A4 x0->A5 x0->G):G:=h.elim fun a b=>Dm b (k a)
theorem OS{α0:Type}{A0 A1 A2 A3 A4 A5 A6:α0->Prop}{G:Prop}(h:∃ x0,A0 x0/\A1 x0/\A2 x0/\A3 x0/\A4 x0/\A5 x0/\A6 x0)(k:∀ x0,A0 x0->A1 x0->A2 x0->A3 x0->A4 x0->A5 x0->A6 x0->G):G:=h.elim fun a b=>Mp b (k a)
theorem OT{α0:Type}{A0 A1 A2 A3 A4 A5 A6 A7:α0->Prop}{G:Prop}(h:∃ x0,A0 x0/\A1 x0/\A2 x0/\A3 x0/\A4 x0/\A5 x0/\A6 x0/\A7 x0)(k:∀ x0,A0 x0->A1 x0->A2 x0->A3 x0->A4 x0->A5 x0->A6 x0->A7 x0->G):G:=h.elim fun a b=>Mq b (k a)
theorem GX{α0 α1:Type}{A0:α0->α1->Prop}{G:Prop}(h:∃ x0 x1,A0 x0 x1)(k:∀ x0 x1,A0 x0 x1->G):G:=h.elim fun a b=>cX b (k a)
theorem xQ{α0 α1:Type}{A0 A1:α0->α1->Prop}{G:Prop}(h:∃ x0 x1,A0 x0 x1/\A1 x0 x1)(k:∀ x0 x1,A0 x0 x1->A1 x0 x1->G):G:=h.elim fun a b=>aM b (k a)
theorem fG{α0 α1:Type}{A0 A1 A2:α0->α1->Prop}{G:Prop}(h:∃ x0 x1,A0 x0 x1/\A1 x0 x1/\A2 x0 x1)(k:∀ x0 x1,A0 x0 x1->A1 x0 x1->A2 x0 x1->G):G:=h.elim fun a b=>dj b (k a)
theorem fH{α0 α1:Type}{A0 A1 A2 A3:α0->α1->Prop}{G:Prop}(h:∃ x0 x1,A0 x0 x1/\A1 x0 x1/\A2 x0 x1/\A3 x0 x1)(k:∀ x0 x1,A0 x0 x1->A1 x0 x1->A2 x0 x1->A3 x0 x1->G):G:=h.elim fun a b=>nY b (k a)
theorem sF{α0 α1:Type}{A0 A1 A2 A3 A4:α0->α1->Prop}{G:Prop}(h:∃ x0 x1,A0 x0 x1/\A1 x0 x1/\A2 x0 x1/\A3 x0 x1/\A4 x0 x1)(k:∀ x0 x1,A0 x0 x1->A1 x0 x1->A2 x0 x1->A3 x0 x1->A4 x0 x1->G):G:=h.elim fun a b=>JZ b (k a)
theorem BY{α0 α1:Type}{A0 A1 A2 A3 A4 A5:α0->α1->Prop}{G:Prop}(h:∃ x0 x1,A0 x0 x1/\A1 x0 x1/\A2 x0 x1/\A3 x0 x1/\A4 x0 x1/\A5 x0 x1)(k:∀ x0 x1,A0 x0 x1->A1 x0 x1->A2 x0 x1->A3 x0 x1->A4 x0 x1->A5 x0 x1->G):G:=h.elim fun a b=>OQ b (k a)
theorem Mr{α0 α1:Type}{A0 A1 A2 A3 A4 A5 A6:α0->α1->Prop}{G:Prop}(h:∃ x0 x1,A0 x0 x1/\A1 x0 x1/\A2 x0 x1/\A3 x0 x1/\A4 x0 x1/\A5 x0 x1/\A6 x0 x1)(k:∀ x0 x1,A0 x0 x1->A1 x0 x1->A2 x0 x1->A3 x0 x1->A4 x0 x1->A5 x0 x1->A6 x0 x1->G):G:=h.elim fun a b=>OS b (k a)
theorem Ms{α0 α1:Type}{A0 A1 A2 A3 A4 A5 A6 A7:α0->α1->Prop}{G:Prop}(h:∃ x0 x1,A0 x0 x1/\A1 x0 x1/\A2 x0 x1/\A3 x0 x1/\A4 x0 x1/\A5 x0 x1/\A6 x0 x1/\A7 x0 x1)(k:∀ x0 x1,A0 x0 x1->A1 x0 x1->A2 x0 x1->A3 x0 x1->A4 x0 x1->A5 x0 x1->A6 x0 x1->A7 x0 x1->G):G:=h.elim fun a b=>OT b (k a)
theorem GY{α0 α1 α2:Type}{A0:α0->α1->α2->Prop}{G:Prop}(h:∃ x0 x1 x2,A0 x0 x1 x2)(k:∀ x0 x1 x2,A0 x0 x1 x2->G):G:=h.elim fun a b=>GX b (k a)
theorem uB{α0 α1 α2:Type}{A0 A1:α0->α1->α2->Prop}{G:Prop}(h:∃ x0 x1 x2,A0 x0 x1 x2/\A1 x0 x1 x2)(k:∀ x0 x1 x2,A0 x0 x1 x2->A1 x0 x1 x2->G):G:=h.elim fun a b=>xQ b (k a)
theorem zH{α0 α1 α2:Type}{A0 A1 A2:α0->α1->α2->Prop}{G:Prop}(h:∃ x0 x1 x2,A0 x0 x1 x2/\A1 x0 x1 x2/\A2 x0 x1 x2)(k:∀ x0 x1 x2,A0 x0 x1 x2->A1 x0 x1 x2->A2 x0 x1 x2->G):G:=h.elim fun a b=>fG b (k a)
theorem dP{α0 α1 α2:Type}{A0 A1 A2 A3:α0->α1->α2->Prop}{G:Prop}(h:∃ x0 x1 x2,A0 x0 x1 x2/\A1 x0 x1 x2/\A2 x0 x1 x2/\A3 x0 x1 x2)(k:∀ x0 x1 x2,A0 x0 x1 x2->A1 x0 x1 x2->A2 x0 x1 x2->A3 x0 x1 x2->G):G:=h.elim fun a b=>fH b (k a)
theorem Mt{α0 α1 α2:Type}{A0 A1 A2 A3 A4:α0->α1->α2->Prop}{G:Prop}(h:∃ x0 x1 x2,A0 x0 x1 x2/\A1 x0 x1 x2/\A2 x0 x1 x2/\A3 x0 x1 x2/\A4 x0 x1 x2)(k:∀ x0 x1 x2,A0 x0 x1 x2->A1 x0 x1 x2->A2 x0 x1 x2->A3 x0 x1 x2->A4 x0 x1 x2->G):G:=h.elim fun a b=>sF b (k a)
theorem lC{α0 α1 α2:Type}{A0 A1 A2 A3 A4 A5:α0->α1->α2->Prop}{G:Prop}(h:∃ x0 x1 x2,A0 x0 x1 x2/\A1 x0 x1 x2/\A2 x0 x1 x2/\A3 x0 x1 x2/\A4 x0 x1 x2/\A5 x0 x1 x2)(k:∀ x0 x1 x2,A0 x0 x1 x2->A1 x0 x1 x2->A2 x0 x1 x2->A3 x0 x1 x2->A4 x0 x1 x2->A5 x0 x1 x2->G):G:=h.elim fun a b=>BY b (k a)
theorem OU{α0 α1 α2:Type}{A0 A1 A2 A3 A4 A5 A6:α0->α1->α2->Prop}{G:Prop}(h:∃ x0 x1 x2,A0 x0 x1 x2/\A1 x0 x1 x2/\A2 x0 x1 x2/\A3 x0 x1 x2/\A4 x0 x1 x2/\A5 x0 x1 x2/\A6 x0 x1 x2)(k:∀ x0 x1 x2,A0 x0 x1 x2->A1 x0 x1 x2->A2 x0 x1 x2->A3 x0 x1 x2->A4 x0 x1 x2->A5 x0 x1 x2->A6 x0 x1 x2->G):G:=h.elim fun a b=>Mr b (k a)
theorem OV{α0 α1 α2:Type}{A0 A1 A2 A3 A4 A5 A6 A7:α0->α1->α2->Prop}{G:Prop}(h:∃ x0 x1 x2,A0 x0 x1 x2/\A1 x0 x1 x2/\A2 x0 x1 x2/\A3 x0 x1 x2/\A4 x0 x1 x2/\A5 x0 x1 x2/\A6 x0 x1 x2/\A7 x0 x1 x2)(k:∀ x0 x1 x2,A0 x0 x1 x2->A1 x0 x1 x2->A2 x0 x1 x2->A3 x0 x1 x2->A4 x0 x1 x2->A5 x0 x1 x2->A6 x0 x1 x2->A7 x0 x1 x2->G):G:=h.elim fun a b=>Ms b (k a)
theorem OW{α0 α1 α2 α3:Type}{A0:α0->α1->α2->α3->Prop}{G:Prop}(h:∃ x0 x1 x2 x3,A0 x0 x1 x2 x3)(k:∀ x0 x1 x2 x3,A0 x0 x1 x2 x3->G):G:=h.elim fun a b=>GY b (k a)
theorem OX{α0 α1 α2 α3:Type}{A0 A1:α0->α1->α2->α3->Prop}{G:Prop}(h:∃ x0 x1 x2 x3,A0 x0 x1 x2 x3/\A1 x0 x1 x2 x3)(k:∀ x0 x1 x2 x3,A0 x0 x1 x2 x3->A1 x0 x1 x2 x3->G):G:=h.elim fun a b=>uB b (k a)
theorem Mw{α0 α1 α2 α3:Type}{A0 A1 A2:α0->α1->α2->α3->Prop}{G:Prop}(h:∃ x0 x1 x2 x3,A0 x0 x1 x2 x3/\A1 x0 x1 x2 x3/\A2 x0 x1 x2 x3)(k:∀ x0 x1 x2 x3,A0 x0 x1 x2 x3->A1 x0 x1 x2 x3->A2 x0 x1 x2 x3->G):G:=h.elim fun a b=>zH b (k a)
theorem GZ{α0 α1 α2 α3:Type}{A0 A1 A2 A3:α0->α1->α2->α3->Prop}{G:Prop}(h:∃ x0 x1 x2 x3,A0 x0 x1 x2 x3/\A1 x0 x1 x2 x3/\A2 x0 x1 x2 x3/\A3 x0 x1 x2 x3)(k:∀ x0 x1 x2 x3,A0 x0 x1 x2 x3->A1 x0 x1 x2 x3->A2 x0 x1 x2 x3->A3 x0 x1 x2 x3->G):G:=h.elim fun a b=>dP b (k a)
theorem OY{α0 α1 α2 α3:Type}{A0 A1 A2 A3 A4:α0->α1->α2->α3->Prop}{G:Prop}(h:∃ x0 x1 x2 x3,A0 x0 x1 x2 x3/\A1 x0 x1 x2 x3/\A2 x0 x1 x2 x3/\A3 x0 x1 x2 x3/\A4 x0 x1 x2 x3)(k:∀ x0 x1 x2 x3,A0 x0 x1 x2 x3->A1 x0 x1 x2 x3->A2 x0 x1 x2 x3->A3 x0 x1 x2 x3->A4 x0 x1 x2 x3->G):G:=h.elim fun a b=>Mt b (k a)
theorem BZ{α0 α1 α2 α3:Type}{A0 A1 A2 A3 A4 A5:α0->α1->α2->α3->Prop}{G:Prop}(h:∃ x0 x1 x2 x3,A0 x0 x1 x2 x3/\A1 x0 x1 x2 x3/\A2 x0 x1 x2 x3/\A3 x0 x1 x2 x3/\A4 x0 x1 x2 x3/\A5 x0 x1 x2 x3)(k:∀ x0 x1 x2 x3,A0 x0 x1 x2 x3->A1 x0 x1 x2 x3->A2 x0 x1 x2 x3->A3 x0 x1 x2 x3->A4 x0 x1 x2 x3->A5 x0 x1 x2 x3->G):G:=h.elim fun a b=>lC b (k a)
theorem OZ{α0 α1 α2 α3:Type}{A0 A1 A2 A3 A4 A5 A6:α0->α1->α2->α3->Prop}{G:Prop}(h:∃ x0 x1 x2 x3,A0 x0 x1 x2 x3/\A1 x0 x1 x2 x3/\A2 x0 x1 x2 x3/\A3 x0 x1 x2 x3/\A4 x0 x1 x2 x3/\A5 x0 x1 x2 x3/\A6 x0 x1 x2 x3)(k:∀ x0 x1 x2 x3,A0 x0 x1 x2 x3->A1 x0 x1 x2 x3->A2 x0 x1 x2 x3->A3 x0 x1 x2 x3->A4 x0 x1 x2 x3->A5 x0 x1 x2 x3->A6 x0 x1 x2 x3->G):G:=h.elim fun a b=>OU b (k a)
theorem O0{α0 α1 α2 α3:Type}{A0 A1 A2 A3 A4 A5 A6 A7:α0->α1->α2->α3->Prop}{G:Prop}(h:∃ x0 x1 x2 x3,A0 x0 x1 x2 x3/\A1 x0 x1 x2 x3/\A2 x0 x1 x2 x3/\A3 x0 x1 x2 x3/\A4 x0 x1 x2 x3/\A5 x0 x1 x2 x3/\A6 x0 x1 x2 x3/\A7 x0 x1 x2 x3)(k:∀ x0 x1 x2 x3,A0 x0 x1 x2 x3->A1 x0 x1 x2 x3->A2 x0 x1 x2 x3->A3 x0 x1 x2 x3->A4 x0 x1 x2 x3->A5 x0 x1 x2 x3->A6 x0 x1 x2 x3->A7 x0 x1 x2 x3->G):G:=h.elim fun a b=>OV b (k a)
theorem J0{α0 α1 α2 α3 α4:Type}{A0:α0->α1->α2->α3->α4->Prop}{G:Prop}(h:∃ x0 x1 x2 x3 x4,A0 x0 x1 x2 x3 x4)(k:∀ x0 x1 x2 x3 x4,A0 x0 x1 x2 x3 x4->G):G:=h.elim fun a b=>OW b (k a)
theorem O1{α0 α1 α2 α3 α4:Type}{A0 A1:α0->α1->α2->α3->α4->Prop}{G:Prop}(h:∃ x0 x1 x2 x3 x4,A0 x0 x1 x2 x3 x4/\A1 x0 x1 x2 x3 x4)(k:∀ x0 x1 x2 x3 x4,A0 x0 x1 x2 x3 x4->A1 x0 x1 x2 x3 x4->G):G:=h.elim fun a b=>OX b (k a)
theorem G0{α0 α1 α2 α3 α4:Type}{A0 A1 A2:α0->α1->α2->α3->α4->Prop}{G:Prop}(h:∃ x0 x1 x2 x3 x4,A0 x0 x1 x2 x3 x4/\A1 x0 x1 x2 x3 x4/\A2 x0 x1 x2 x3 x4)(k:∀ x0 x1 x2 x3 x4,A0 x0 x1 x2 x3 x4->A1 x0 x1 x2 x3 x4->A2 x0 x1 x2 x3 x4->G):G:=h.elim fun a b=>Mw b (k a)
theorem O2{α0 α1 α2 α3 α4:Type}{A0 A1 A2 A3:α0->α1->α2->α3->α4->Prop}{G:Prop}(h:∃ x0 x1 x2 x3 x4,A0 x0 x1 x2 x3 x4/\A1 x0 x1 x2 x3 x4/\A2 x0 x1 x2 x3 x4/\A3 x0 x1 x2 x3 x4)(k:∀ x0 x1 x2 x3 x4,A0 x0 x1 x2 x3 x4->A1 x0 x1 x2 x3 x4->A2 x0 x1 x2 x3 x4->A3 x0 x1 x2 x3 x4->G):G:=h.elim fun a b=>GZ b (k a)
theorem Mx{α0 α1 α2 α3 α4:Type}{A0 A1 A2 A3 A4:α0->α1->α2->α3->α4->Prop}{G:Prop}(h:∃ x0 x1 x2 x3 x4,A0 x0 x1 x2 x3 x4/\A1 x0 x1 x2 x3 x4/\A2 x0 x1 x2 x3 x4/\A3 x0 x1 x2 x3 x4/\A4 x0 x1 x2 x3 x4)(k:∀ x0 x1 x2 x3 x4,A0 x0 x1 x2 x3 x4->A1 x0 x1 x2 x3 x4->A2 x0 x1 x2 x3 x4->A3 x0 x1 x2 x3 x4->A4 x0 x1 x2 x3 x4->G):G:=h.elim fun a b=>OY b (k a)
theorem xR{α0 α1 α2 α3 α4:Type}{A0 A1 A2 A3 A4 A5:α0->α1->α2->α3->α4->Prop}{G:Prop}(h:∃ x0 x1 x2 x3 x4,A0 x0 x1 x2 x3 x4/\A1 x0 x1 x2 x3 x4/\A2 x0 x1 x2 x3 x4/\A3 x0 x1 x2 x3 x4/\A4 x0 x1 x2 x3 x4/\A5 x0 x1 x2 x3 x4)(k:∀ x0 x1 x2 x3 x4,A0 x0 x1 x2 x3 x4->A1 x0 x1 x2 x3 x4->A2 x0 x1 x2 x3 x4->A3 x0 x1 x2 x3 x4->A4 x0 x1 x2 x3 x4->A5 x0 x1 x2 x3 x4->G):G:=h.elim fun a b=>BZ b (k a)
theorem O3{α0 α1 α2 α3 α4:Type}{A0 A1 A2 A3 A4 A5 A6:α0->α1->α2->α3->α4->Prop}{G:Prop}(h:∃ x0 x1 x2 x3 x4,A0 x0 x1 x2 x3 x4/\A1 x0 x1 x2 x3 x4/\A2 x0 x1 x2 x3 x4/\A3 x0 x1 x2 x3 x4/\A4 x0 x1 x2 x3 x4/\A5 x0 x1 x2 x3 x4/\A6 x0 x1 x2 x3 x4)(k:∀ x0 x1 x2 x3 x4,A0 x0 x1 x2 x3 x4->A1 x0 x1 x2 x3 x4->A2 x0 x1 x2 x3 x4->A3 x0 x1 x2 x3 x4->A4 x0 x1 x2 x3 x4->A5 x0 x1 x2 x3 x4->A6 x0 x1 x2 x3 x4->G):G:=h.elim fun a b=>OZ b (k a)
theorem My{α0 α1 α2 α3 α4:Type}{A0 A1 A2 A3 A4 A5 A6 A7:α0->α1->α2->α3->α4->Prop}{G:Prop}(h:∃ x0 x1 x2 x3 x4,A0 x0 x1 x2 x3 x4/\A1 x0 x1 x2 x3 x4/\A2 x0 x1 x2 x3 x4/\A3 x0 x1 x2 x3 x4/\A4 x0 x1 x2 x3 x4/\A5 x0 x1 x2 x3 x4/\A6 x0 x1 x2 x3 x4/\A7 x0 x1 x2 x3 x4)(k:∀ x0 x1 x2 x3 x4,A0 x0 x1 x2 x3 x4->A1 x0 x1 x2 x3 x4->A2 x0 x1 x2 x3 x4->A3 x0 x1 x2 x3 x4->A4 x0 x1 x2 x3 x4->A5 x0 x1 x2 x3 x4->A6 x0 x1 x2 x3 x4->A7 x0 x1 x2 x3 x4->G):G:=h.elim fun a b=>O0 b (k a)
theorem O4{α0 α1 α2 α3 α4 α5:Type}{A0:α0->α1->α2->α3->α4->α5->Prop}{G:Prop}(h:∃ x0 x1 x2 x3 x4 x5,A0 x0 x1 x2 x3 x4 x5)(k:∀ x0 x1 x2 x3 x4 x5,A0 x0 x1 x2 x3 x4 x5->G):G:=h.elim fun a b=>J0 b (k a)
theorem RQ{α0 α1 α2 α3 α4 α5:Type}{A0 A1:α0->α1->α2->α3->α4->α5->Prop}{G:Prop}(h:∃ x0 x1 x2 x3 x4 x5,A0 x0 x1 x2 x3 x4 x5/\A1 x0 x1 x2 x3 x4 x5)(k:∀ x0 x1 x2 x3 x4 x5,A0 x0 x1 x2 x3 x4 x5->A1 x0 x1 x2 x3 x4 x5->G):G:=h.elim fun a b=>O1 b (k a)
theorem RR{α0 α1 α2 α3 α4 α5:Type}{A0 A1 A2:α0->α1->α2->α3->α4->α5->Prop}{G:Prop}(h:∃ x0 x1 x2 x3 x4 x5,A0 x0 x1 x2 x3 x4 x5/\A1 x0 x1 x2 x3 x4 x5/\A2 x0 x1 x2 x3 x4 x5)(k:∀ x0 x1 x2 x3 x4 x5,A0 x0 x1 x2 x3 x4 x5->A1 x0 x1 x2 x3 x4 x5->A2 x0 x1 x2 x3 x4 x5->G):G:=h.elim fun a b=>G0 b (k a)
theorem RS{α0 α1 α2 α3 α4 α5:Type}{A0 A1 A2 A3:α0->α1->α2->α3->α4->α5->Prop}{G:Prop}(h:∃ x0 x1 x2 x3 x4 x5,A0 x0 x1 x2 x3 x4 x5/\A1 x0 x1 x2 x3 x4 x5/\A2 x0 x1 x2 x3 x4 x5/\A3 x0 x1 x2 x3 x4 x5)(k:∀ x0 x1 x2 x3 x4 x5,A0 x0 x1 x2 x3 x4 x5->A1 x0 x1 x2 x3 x4 x5->A2 x0 x1 x2 x3 x4 x5->A3 x0 x1 x2 x3 x4 x5->G):G:=h.elim fun a b=>O2 b (k a)
theorem RT{α0 α1 α2 α3 α4 α5:Type}{A0 A1 A2 A3 A4:α0->α1->α2->α3->α4->α5->Prop}{G:Prop}(h:∃ x0 x1 x2 x3 x4 x5,A0 x0 x1 x2 x3 x4 x5/\A1 x0 x1 x2 x3 x4 x5/\A2 x0 x1 x2 x3 x4 x5/\A3 x0 x1 x2 x3 x4 x5/\A4 x0 x1 x2 x3 x4 x5)(k:∀ x0 x1 x2 x3 x4 x5,A0 x0 x1 x2 x3 x4 x5->A1 x0 x1 x2 x3 x4 x5->A2 x0 x1 x2 x3 x4 x5->A3 x0 x1 x2 x3 x4 x5->A4 x0 x1 x2 x3 x4 x5->G):G:=h.elim fun a b=>Mx b (k a)
theorem RU{α0 α1 α2 α3 α4 α5:Type}{A0 A1 A2 A3 A4 A5:α0->α1->α2->α3->α4->α5->Prop}{G:Prop}(h:∃ x0 x1 x2 x3 x4 x5,A0 x0 x1 x2 x3 x4 x5/\A1 x0 x1 x2 x3 x4 x5/\A2 x0 x1 x2 x3 x4 x5/\A3 x0 x1 x2 x3 x4 x5/\A4 x0 x1 x2 x3 x4 x5/\A5 x0 x1 x2 x3 x4 x5)(k:∀ x0 x1 x2 x3 x4 x5,A0 x0 x1 x2 x3 x4 x5->A1 x0 x1 x2 x3 x4 x5->A2 x0 x1 x2 x3 x4 x5->A3 x0 x1 x2 x3 x4 x5->A4 x0 x1 x2 x3 x4 x5->A5 x0 x1 x2 x3 x4 x5->G):G:=h.elim fun a b=>xR b (k a)
theorem O5{α0 α1 α2 α3 α4 α5:Type}{A0 A1 A2 A3 A4 A5 A6:α0->α1->α2->α3->α4->α5->Prop}{G:Prop}(h:∃ x0 x1 x2 x3 x4 x5,A0 x0 x1 x2 x3 x4 x5/\A1 x0 x1 x2 x3 x4 x5/\A2 x0 x1 x2 x3 x4 x5/\A3 x0 x1 x2 x3 x4 x5/\A4 x0 x1 x2 x3 x4 x5/\A5 x0 x1 x2 x3 x4 x5/\A6 x0 x1 x2 x3 x4 x5)(k:∀ x0 x1 x2 x3 x4 x5,A0 x0 x1 x2 x3 x4 x5->A1 x0 x1 x2 x3 x4 x5->A2 x0 x1 x2 x3 x4 x5->A3 x0 x1 x2 x3 x4 x5->A4 x0 x1 x2 x3 x4 x5->A5 x0 x1 x2 x3 x4 x5->A6 x0 x1 x2 x3 x4 x5->G):G:=h.elim fun a b=>O3 b (k a)
theorem RV{α0 α1 α2 α3 α4 α5:Type}{A0 A1 A2 A3 A4 A5 A6 A7:α0->α1->α2->α3->α4->α5->Prop}{G:Prop}(h:∃ x0 x1 x2 x3 x4 x5,A0 x0 x1 x2 x3 x4 x5/\A1 x0 x1 x2 x3 x4 x5/\A2 x0 x1 x2 x3 x4 x5/\A3 x0 x1 x2 x3 x4 x5/\A4 x0 x1 x2 x3 x4 x5/\A5 x0 x1 x2 x3 x4 x5/\A6 x0 x1 x2 x3 x4 x5/\A7 x0 x1 x2 x3 x4 x5)(k:∀ x0 x1 x2 x3 x4 x5,A0 x0 x1 x2 x3 x4 x5->A1 x0 x1 x2 x3 x4 x5->A2 x0 x1 x2 x3 x4 x5->A3 x0 x1 x2 x3 x4 x5->A4 x0 x1 x2 x3 x4 x5->A5 x0 x1 x2 x3 x4 x5->A6 x0 x1 x2 x3 x4 x5->A7 x0 x1 x2 x3 x4 x5->G):G:=h.elim fun a b=>My b (k a)
end
section
theorem fJ{α:Type}{x:α}{p:Prop}(e:(none:Option α)=some x):p:=nomatch e
theorem gI{p:Prop}(e:false=true):p:=nomatch e
inductive V where
 | none|bool (b:Bool)|int (i:Int)|str (n:Nat)|tup (l:List V)|obj (n:Nat)|tab (t:Nat)|qF (l:List V)
noncomputable def V.Mz:V->Option Bool
 | .bool b=>some b
 | _=>.none
noncomputable def V.Ba:V->Option Int
 | .int i=>some i
 | _=>.none
noncomputable def V.O6:V->Option Nat
 | .str n=>some n
 | _=>.none
noncomputable def V.Ol:V->Option (List V)
 | .tup l=>some l
 | _=>.none
noncomputable def V.Di:V->Option Nat
 | .obj n=>some n
 | _=>.none
noncomputable def V.Qy:V->Option Nat
 | .tab n=>some n
 | _=>.none
noncomputable def V.Qz:V->Option (List V)
 | .qF l=>some l
 | _=>.none
noncomputable def V.zI:V->Bool
 | .none=>true
 | _=>false
mutual
noncomputable def V.Jc:V->V->Bool
 | .none,w=>w.zI
 | .bool a,w=>w.Mz.any (a==·)
 | .int a,w=>w.Ba.any (a==·)
 | .str a,w=>w.O6.any (a==·)
 | .tup a,w=>w.Ol.any fun b=>V.B0 a b
 | .obj a,w=>w.Di.any (a==·)
 | .tab a,w=>w.Qy.any (a==·)
 | .qF a,w=>w.Qz.any fun b=>V.B0 a b
noncomputable def V.B0:List V->List V->Bool
 | [],m=>m.isEmpty
 | a::l,m=>m.head?.any (fun b=>V.Jc a b)&&V.B0 l m.tail
end
theorem vG{v:V}{b:Bool}(e:v.Mz=some b):v=.bool b:=by
 cases v with
 | bool c=>exact congrArg V.bool (UM e)
 | _=>exact fJ e
theorem iF{v:V}{b:Int}(e:v.Ba=some b):v=.int b:=by
 cases v with
 | int c=>exact congrArg V.int (UM e)
 | _=>exact fJ e
theorem Dn{v:V}{b:Nat}(e:v.O6=some b):v=.str b:=by
 cases v with
 | str c=>exact congrArg V.str (UM e)
 | _=>exact fJ e
theorem vH{v:V}{b:List V}(e:v.Ol=some b):v=.tup b:=by
 cases v with
 | tup c=>exact congrArg V.tup (UM e)
 | _=>exact fJ e
theorem iG{v:V}{b:Nat}(e:v.Di=some b):v=.obj b:=by
 cases v with
 | obj c=>exact congrArg V.obj (UM e)
 | _=>exact fJ e
theorem J1{v:V}{b:Nat}(e:v.Qy=some b):v=.tab b:=by
 cases v with
 | tab c=>exact congrArg V.tab (UM e)
 | _=>exact fJ e
theorem J2{v:V}{b:List V}(e:v.Qz=some b):v=.qF b:=by
 cases v with
 | qF c=>exact congrArg V.qF (UM e)
 | _=>exact fJ e
theorem vI{v:V}(e:v.zI=true):v=.none:=by
 cases v with
 | none=>rfl
 | _=>exact gI e
theorem cU{α:Type}{o:Option α}{f:α->Bool}{G:Prop}(e:o.any f=true)(k:∀ a,o=some a->f a=true->G):G:=by
 cases o with
 | none=>exact gI e
 | some a=>exact k a rfl e
theorem aJ{a b:Bool}{G:Prop}(e:(a&&b)=true)(k:a=true->b=true->G):G:=by
 cases a with
 | false=>exact gI e
 | true=>exact k rfl e
theorem bN{a b:Bool}(e:(a&&b)=true):a=true:=aJ e fun p _=>p
theorem aE{a b:Bool}(e:(a&&b)=true):b=true:=aJ e fun _ q=>q
theorem qG{α:Type}{l:List α}(e:l.isEmpty=true):l=[]:=by
 cases l with
 | nil=>rfl
 | cons _ _=>exact gI e
theorem V.Dp(a:V):∀ w:V,a.Jc w=true->a=w:=
 V.rec (motive_1:=fun a=>∀ w:V,a.Jc w=true->a=w) (motive_2:=fun l=>∀ m:List V,V.B0 l m=true->l=m)
  (fun _ e=>(vI e).symm) (fun _ _ e=>cU e fun _ p q=>beq_iff_eq.mp q▸(vG p).symm) (fun _ _ e=>cU e fun _ p q=>beq_iff_eq.mp q▸(iF p).symm)
  (fun _ _ e=>cU e fun _ p q=>beq_iff_eq.mp q▸(Dn p).symm) (fun _ ih _ e=>cU e fun b p q=>(congrArg V.tup (ih b q)).trans (vH p).symm) (fun _ _ e=>cU e fun _ p q=>beq_iff_eq.mp q▸(iG p).symm)
  (fun _ _ e=>cU e fun _ p q=>beq_iff_eq.mp q▸(J1 p).symm) (fun _ ih _ e=>cU e fun b p q=>(congrArg V.qF (ih b q)).trans (J2 p).symm)
  (fun _ e=>(qG e).symm) (fun a l ih J3 m e=>aJ e fun p q=>cU p fun b r s=>by
   cases m with
   | nil=>exact fJ r
   | cons c m=>rw[ih b s,J3 m q];cases r;rfl) a
theorem V.Dq(a:V):a.Jc a=true:=
 V.rec (motive_1:=fun a=>a.Jc a=true) (motive_2:=fun l=>V.B0 l l=true)
  rfl (fun b=>beq_self_eq_true b) (fun b=>beq_self_eq_true b) (fun b=>beq_self_eq_true b) (fun _ ih=>ih) (fun b=>beq_self_eq_true b) (fun b=>beq_self_eq_true b) (fun _ ih=>ih) rfl
  (fun a l ih J3=>by show (a.Jc a&&V.B0 l l)=true;rw[ih,J3];rfl) a
theorem V.G1(a b:V):V.Jc a b=true↔a=b:=⟨V.Dp a b,fun e=>e▸V.Dq a⟩
noncomputable instance:DecidableEq V:=fun a b=>decidable_of_iff _ (V.G1 a b)
inductive O where
 | list (l:List V)
 | dict (kd:Nat) (kvs:List (V×V))
 | ins (c:Nat) (fs:List (Nat×V))
noncomputable abbrev Hp:=List O
noncomputable abbrev aU:=List (Option V)
noncomputable def O.ls:O->Option (List V)
 | .list l=>some l
 | _=>none
noncomputable def O.dc:O->Option (Nat×List (V×V))
 | .dict k l=>some (k,l)
 | _=>none
noncomputable def O.is:O->Option (Nat×List (Nat×V))
 | .ins c l=>some (c,l)
 | _=>none
noncomputable def fK(h:Hp)(n:Nat):Option (List V):=h[n]?.bind O.ls
noncomputable def lJ(h:Hp)(n:Nat):Option (Nat×List (V×V)):=h[n]?.bind O.dc
noncomputable def isAt(h:Hp)(n:Nat):Option (Nat×List (Nat×V)):=h[n]?.bind O.is
noncomputable def bf{α β:Type}(r:Option (α×Hp))(f:α->Hp->Option (β×Hp)):Option (β×Hp):=match r with
 | some (a,h)=>f a h
 | none=>none
@[simp] theorem bE {α β:Type} (a:α) (h:Hp) (f:α->Hp->Option (β×Hp)):bf (some (a,h)) f=f a h:=rfl
@[simp] theorem MA {α β:Type} (f:α->Hp->Option (β×Hp)):bf none f=none:=rfl
theorem bq{α β:Type}{r:Option (α×Hp)}{f:α->Hp->Option (β×Hp)}{x:β×Hp}{G:Prop}(e:bf r f=some x)(k:∀ a h,r=some (a,h)->f a h=some x->G):G:=by
 cases r with
 | none=>exact fJ e
 | some p=>exact k p.1 p.2 rfl e
theorem bc{α β:Type}{o:Option α}{f:α->Option β}{r:β}{G:Prop}(e:o.bind f=some r)(k:∀ a,o=some a->f a=some r->G):G:=by
 cases o with
 | none=>exact fJ e
 | some a=>exact k a rfl e
theorem cS{α:Type}{c:Prop}[Decidable c]{x:Option α}{r:α}{G:Prop}(e:(if c then x else none)=some r)(k:c->x=some r->G):G:=by
 by_cases q:c
 ·exact k q ((if_pos q).symm.trans e)
 ·exact fJ ((if_neg q).symm.trans e)
theorem eD{α β:Type}{a a':α}{h h':β}{P:α->β->Prop}(e:some (a,h)=some (a',h'))(k:P a h):P a' h':=by
 have q:=UM e;have q1:a=a':=congrArg Prod.fst q;have q2:h=h':=congrArg Prod.snd q;exact q1▸q2▸k
theorem xS{α β:Type}{o:Option α}{a:α}{h h':β}{P:β->Prop}(e:(o.map fun x=>(x,h))=some (a,h'))(k:o=some a->P h):P h':=by
 cases o with
 | none=>exact fJ e
 | some b=>
  have q:=UM e;have q2:h=h':=congrArg Prod.snd q;exact q2▸k (congrArg (fun z:α×β=>some z.1) q)
theorem Bb{h:Hp}{n:Nat}{l:List V}(e:fK h n=some l):h[n]?=some (.list l):=bc e fun o p q=>by
 cases o with
 | list m=>rw[p];exact congrArg (fun z=>some (O.list z)) (UM q)
 | _=>exact fJ q
theorem vJ{h:Hp}{n:Nat}{l:Nat×List (V×V)}(e:lJ h n=some l):h[n]?=some (.dict l.1 l.2):=bc e fun o p q=>by
 cases o with
 | dict k m=>rw[p];exact congrArg (fun z:Nat×List (V×V)=>some (O.dict z.1 z.2)) (UM q)
 | _=>exact fJ q
theorem G2{h:Hp}{n:Nat}{l:Nat×List (Nat×V)}(e:isAt h n=some l):h[n]?=some (.ins l.1 l.2):=bc e fun o p q=>by
 cases o with
 | ins k m=>rw[p];exact congrArg (fun z:Nat×List (Nat×V)=>some (O.ins z.1 z.2)) (UM q)
 | _=>exact fJ q
theorem hW{h:Hp}{n:Nat}{l:List V}(e:h[n]?=some (.list l)):fK h n=some l:=by rw[fK,e];rfl
theorem sG{h:Hp}{n k:Nat}{l:List (V×V)}(e:h[n]?=some (.dict k l)):lJ h n=some (k,l):=by rw[lJ,e];rfl
theorem Dr{h:Hp}{n k:Nat}{l:List (Nat×V)}(e:h[n]?=some (.ins k l)):isAt h n=some (k,l):=by rw[isAt,e];rfl
inductive Bc|add|sub|mul|mod|fdiv
inductive G3|eq|ne|lt|le|gt|ge|zI|sH|isin|eH
inductive E where
 | loc (i:Nat)|lit (v:V)
 | bin (op:Bc) (a b:E)|cmp (op:G3) (a b:E)
 | aV (bW:Bool) (es:List E)
 | not_ (a:E)|ite (t a b:E)
 | call (f:Nat) (args:List E)|new (c:Nat) (args:List E)|own (o:E) (m:Nat) (args:List E)
 | jj (o k d:E)|app (o x:E)|pop (o:E)
 | len (a:E)|toList (a:E)|jv (a:E)
 | attr (o:E) (n:Nat)|sub (o i:E)|rev (o:E)|pre (o:E) (n:Nat)
 | tup (es:List E)|lst (es:List E)|dict (kd:Nat) (kvs:List E)
 | comp (elt:E) (slot:Nat) (it:E) (conds:List E)
 | stuck
inductive Tg|one(i:Nat)|many(is:List Nat)
inductive S where
 | asg (t:Tg) (e:E)
 | setAttr (o:E) (n:Nat) (e:E)
 | bZ (o i e:E)
 | aug (i:Nat) (op:Bc) (e:E)
 | expr (e:E)|ret (e:E)|G4
 | ite (t:E) (a b:List S)
 | uC (fuel:Nat) (t:E) (b:List S)
 | gN (t:Tg) (it:E) (b:List S)
 | rH (i:Nat) (n:E) (b:List S)
 | cont|pass
 | zJ (b:List S)
 | stuck
inductive Out|next|cont|ret(v:V)
noncomputable def Out.val:Out->Option V
 | .ret v=>some v
 | _=>none
noncomputable def Out.on:Out->Bool
 | .next=>true
 | _=>false
noncomputable def Out.res:Out->Option V
 | .ret v=>some v
 | .next=>some .none
 | .cont=>none
noncomputable def jk:Nat:=1048576
noncomputable def bp{α:Type}(l:List α):Bool:=decide (l.length<jk)
noncomputable def intMax:Int:=1152921504606846976
noncomputable def gO(i:Int):Bool:=decide (-intMax<i)&&decide (i<intMax)
mutual
noncomputable def plain:Nat->V->Bool
 | _,.none=>true
 | _,.int _=>true
 | _,.str _=>true
 | n,.tup l=>decide (0<n)&&cL n.pred l
 | _,_=>false
noncomputable def cL:Nat->List V->Bool
 | _,[]=>true
 | n,a::l=>plain n a&&cL n l
end
mutual
noncomputable def vK:V->Bool
 | .int _=>true
 | .tup l=>kJ l
 | _=>false
noncomputable def kJ:List V->Bool
 | []=>true
 | a::l=>vK a&&kJ l
end
noncomputable def keyOk(kd:Nat)(v:V):Bool:=match v with
 | .int _=>kd==0
 | .str _=>kd==1
 | .tup l=>kd==2&&(kJ l&&plain 8 v)
 | _=>false
noncomputable def sI(x y:V):Bool:=(x.Mz.isSome&&y.Mz.isSome)||(plain 40 x&&plain 40 y)
noncomputable def aW:List (V×V)->V->Option V
 | [],_=>none
 | a::l,k=>if a.1=k then some a.2 else aW l k
noncomputable def hH:List (V×V)->V->V->List (V×V)
 | [],k,v=>[(k,v)]
 | a::l,k,v=>if a.1=k then (a.1,v)::l else a::hH l k v
noncomputable def nZ:List (Nat×V)->Nat->Option V
 | [],_=>none
 | a::l,k=>if a.1=k then some a.2 else nZ l k
noncomputable def vL:List (Nat×V)->Nat->V->List (Nat×V)
 | [],k,v=>[(k,v)]
 | a::l,k,v=>if a.1=k then (a.1,v)::l else a::vL l k v
noncomputable def truth(v:V)(h:Hp):Option Bool:=match v with
 | .bool b=>some b
 | .int i=>some (decide (i≠0))
 | .obj n=>(fK h n).bind fun l=>if bp l then some (decide (l≠[])) else none
 | _=>none
noncomputable def binI(op:Bc)(p q:Int):Option Int:=match op with
 | .add=>some (p+q)
 | .sub=>some (p - q)
 | .mul=>if gO q then some (p * q) else none
 | .mod=>if 0<q then some (p % q) else none
 | .fdiv=>if decide (0<q)&&gO q then some (p / q) else none
noncomputable def Bc.isAdd:Bc->Bool
 | .add=>true
 | _=>false
noncomputable def lD(op:Bc)(x y:V)(h:Hp):Option (V×Hp):=match x with
 | .int a=>y.Ba.bind fun b=>(binI op a b).bind fun r=>some (.int r,h)
 | .obj a=>if op.isAdd then y.Di.bind fun b=>(fK h a).bind fun l=>(fK h b).bind fun m=>if bp (l++m) then some (.obj h.length,h++[.list (l++m)]) else none else none
 | _=>none
noncomputable def xT(f:Int->Int->Bool)(x y:V):Option Bool:=x.Ba.bind fun a=>y.Ba.bind fun b=>some (f a b)
noncomputable def V.O7:V->Option Bool
 | .none=>some true
 | .int _=>some false
 | _=>Option.none
noncomputable def J4(x y:V):Option Bool:=if y.zI then x.O7 else none
noncomputable def O8(tabs:Nat->List (V×V))(h:Hp)(x y:V):Option Bool:=match y with
 | .tup l=>if plain 40 x&&cL 40 l then some (decide (x∈l)) else none
 | .tab t=>if keyOk 0 x then some (aW (tabs t) x).isSome else none
 | .obj n=>(lJ h n).bind fun d=>if keyOk d.1 x then some (aW d.2 x).isSome else none
 | _=>none
noncomputable def bg(tabs:Nat->List (V×V))(op:G3)(x y:V)(h:Hp):Option Bool:=match op with
 | .eq=>if sI x y then some (decide (x=y)) else none
 | .ne=>if sI x y then some (!decide (x=y)) else none
 | .lt=>xT (fun a b=>decide (a<b)) x y
 | .le=>xT (fun a b=>decide (a<=b)) x y
 | .gt=>xT (fun a b=>decide (a>b)) x y
 | .ge=>xT (fun a b=>decide (a>=b)) x y
 | .zI=>J4 x y
 | .sH=>(J4 x y).bind fun b=>some !b
 | .isin=>O8 tabs h x y
 | .eH=>(O8 tabs h x y).bind fun b=>some !b
noncomputable def dR(x:V)(h:Hp):Option (List V):=match x with
 | .tup l=>some l
 | .obj n=>fK h n
 | _=>none
noncomputable def cV(x:V)(l:List V)(h:Hp):Bool:=match x with
 | .obj n=>(fK h n).any fun m=>decide (m=l)
 | _=>true
noncomputable def Ds(l:List V)(i:V):Option V:=i.Ba.bind fun k=>if decide (0<=k)&&gO k then l[k.toNat]? else none
noncomputable def O.item:O->V->Option V
 | .list l,i=>Ds l i
 | .dict kd kvs,i=>if keyOk kd i then aW kvs i else none
 | _,_=>none
noncomputable def bI(tabs:Nat->List (V×V))(o i:V)(h:Hp):Option V:=match o with
 | .tup l=>Ds l i
 | .tab t=>if keyOk 0 i then aW (tabs t) i else none
 | .obj n=>h[n]?.bind fun o=>o.item i
 | _=>none
noncomputable def fW(tabs:Nat->List (V×V))(o k d:V)(h:Hp):Option V:=match o with
 | .tab t=>if keyOk 0 k then some ((aW (tabs t) k).getD d) else none
 | .obj n=>(lJ h n).bind fun e=>if keyOk e.1 k then some ((aW e.2 k).getD d) else none
 | _=>none
noncomputable def uD(o x:V)(h:Hp):Option (V×Hp):=o.Di.bind fun n=>(fK h n).bind fun l=>if bp l then some (.none,h.set n (.list (l++[x]))) else none
noncomputable def B3(o:V)(h:Hp):Option (V×Hp):=o.Di.bind fun n=>(fK h n).bind fun l=>if bp l then l.getLast?.bind fun x=>some (x,h.set n (.list l.dropLast)) else none
noncomputable def iT(x:V)(h:Hp):Option V:=(dR x h).bind fun l=>if bp l then some (.int l.length) else none
noncomputable def jw(l:List V)(h:Hp):Option (V×Hp):=if bp l then some (.obj h.length,h++[.list l]) else none
noncomputable def mF(x:V)(h:Hp):Option (V×Hp):=x.Ol.bind fun l=>jw l h
noncomputable def vM(x:V)(h:Hp):Option (V×Hp):=x.Di.bind fun n=>(fK h n).bind fun l=>if bp l then some (.tup l,h) else none
noncomputable def cC(o:V)(n:Nat)(h:Hp):Option V:=o.Di.bind fun k=>(isAt h k).bind fun i=>nZ i.2 n
noncomputable def B4(o:V)(h:Hp):Option (V×Hp):=o.Di.bind fun n=>(fK h n).bind fun l=>jw l.reverse h
noncomputable def B5(o:V)(k:Nat)(h:Hp):Option (V×Hp):=match o with
 | .tup l=>if bp l then some (.tup (l.take k),h) else none
 | .qF l=>if bp l then jw (l.take k) h else none
 | _=>none
noncomputable def fX(o:V)(n:Nat)(x:V)(h:Hp):Option Hp:=o.Di.bind fun k=>(isAt h k).bind fun i=>if bp i.2 then some (h.set k (.ins i.1 (vL i.2 n x))) else none
noncomputable def dn(o i x:V)(h:Hp):Option Hp:=o.Di.bind fun k=>(lJ h k).bind fun d=>if keyOk d.1 i&&bp d.2 then some (h.set k (.dict d.1 (hH d.2 i x))) else none
noncomputable def eI(n:Nat):List V->Hp->Option (V×Hp)
 | [],h=>some (.obj n,h)
 | k::l,h=>match l with
  | []=>none
  | v::vs=>(dn (.obj n) k v h).bind fun h=>eI n vs h
structure xK where
 tabs:Nat->List (V×V)
 Dt:Nat->Nat->Option Nat
 init:Nat->Option Nat
 call:Nat->List V->Hp->Option (V×Hp)
noncomputable def B6(P:xK)(ov:V)(m:Nat)(h:Hp):Option Nat:=ov.Di.bind fun n=>(isAt h n).bind fun i=>if (nZ i.2 m).isNone then P.Dt i.1 m else none
noncomputable def Du(ov:V)(h:Hp):Bool:=ov.Di.any fun n=>(fK h n).isSome
noncomputable def xU(ov:V)(h:Hp):Bool:=match ov with
 | .obj n=>(lJ h n).isSome
 | .tab _=>true
 | _=>false
noncomputable def iW(n:Nat)(same:Hp->Bool)(f:V->Hp->Option (Option V×Hp)):List V->Hp->Option (Unit×Hp)
 | [],h=>some ((),h)
 | v::vs,h=>bf (f v h) fun r h=>match r with
  | none=>if same h then iW n same f vs h else none
  | some y=>(fK h n).bind fun acc=>if bp acc&&same (h.set n (.list (acc++[y]))) then iW n same f vs (h.set n (.list (acc++[y]))) else none
section
variable(P:xK)
mutual
noncomputable def ba:E->aU->Hp->Option (V×Hp)
 | .loc i,e,h=>e[i]?.bind fun o=>o.bind fun v=>some (v,h)
 | .lit v,_,h=>some (v,h)
 | .bin op a b,e,h=>bf (ba a e h) fun x h=>bf (ba b e h) fun y h=>lD op x y h
 | .cmp op a b,e,h=>bf (ba a e h) fun x h=>bf (ba b e h) fun y h=>(bg P.tabs op x y h).bind fun b=>some (.bool b,h)
 | .aV bW es,e,h=>gA bW es e h
 | .not_ a,e,h=>bf (ba a e h) fun x h=>(truth x h).bind fun b=>some (.bool !b,h)
 | .ite t a b,e,h=>bf (ba t e h) fun x h=>(truth x h).bind fun c=>cond c (ba a e h) (ba b e h)
 | .call f args,e,h=>bf (eY args e h) fun vs h=>P.call f vs h
 | .new c args,e,h=>bf (eY args e h) fun vs h=>(P.init c).bind fun f=>bf (P.call f (.obj h.length::vs) (h++[.ins c []])) fun r h'=>if r.zI then some (.obj h.length,h') else none
 | .own o m args,e,h=>bf (ba o e h) fun ov h=>(B6 P ov m h).bind fun f=>bf (eY args e h) fun vs h=>P.call f (ov::vs) h
 | .jj o k d,e,h=>bf (ba o e h) fun ov h=>if xU ov h then bf (ba k e h) fun kv h=>bf (ba d e h) fun dv h=>(fW P.tabs ov kv dv h).map (·,h) else none
 | .app o x,e,h=>bf (ba o e h) fun ov h=>if Du ov h then bf (ba x e h) fun xv h=>uD ov xv h else none
 | .pop o,e,h=>bf (ba o e h) fun ov h=>B3 ov h
 | .len a,e,h=>bf (ba a e h) fun x h=>(iT x h).map (·,h)
 | .toList a,e,h=>bf (ba a e h) fun x h=>mF x h
 | .jv a,e,h=>bf (ba a e h) fun x h=>vM x h
 | .attr o n,e,h=>bf (ba o e h) fun ov h=>(cC ov n h).map (·,h)
 | .sub o i,e,h=>bf (ba o e h) fun ov h=>bf (ba i e h) fun iv h=>(bI P.tabs ov iv h).map (·,h)
 | .rev o,e,h=>bf (ba o e h) fun ov h=>B4 ov h
 | .pre o n,e,h=>bf (ba o e h) fun ov h=>B5 ov n h
 | .tup es,e,h=>bf (eY es e h) fun vs h=>if bp vs then some (.tup vs,h) else none
 | .lst es,e,h=>bf (eY es e h) fun vs h=>jw vs h
 | .dict kd kvs,e,h=>bf (eY kvs e (h++[.dict kd []])) fun vs h'=>eI h.length vs h'
 | .comp elt j it conds,e,h=>bf (ba it e h) fun x h=>(dR x h).bind fun vs=>
   bf (iW h.length (cV x vs) (fun v h=>bf (zK conds (e.set j (some v)) h) fun b h=>cond b (bf (ba elt (e.set j (some v)) h) fun y h=>some (some y,h)) (some (none,h))) vs (h++[.list []])) fun _ h'=>some (.obj h.length,h')
 | .stuck,_,_=>none
noncomputable def eY:List E->aU->Hp->Option (List V×Hp)
 | [],_,h=>some ([],h)
 | a::l,e,h=>bf (ba a e h) fun x h=>bf (eY l e h) fun xs h=>some (x::xs,h)
noncomputable def gA(bW:Bool):List E->aU->Hp->Option (V×Hp)
 | [],_,_=>none
 | a::l,e,h=>match l with
  | []=>ba a e h
  | _::_=>bf (ba a e h) fun x h=>(truth x h).bind fun b=>if b=bW then gA bW l e h else some (x,h)
noncomputable def zK:List E->aU->Hp->Option (Bool×Hp)
 | [],_,h=>some (true,h)
 | a::l,e,h=>bf (ba a e h) fun x h=>(truth x h).bind fun b=>cond b (zK l e h) (some (false,h))
end
end
end
section
noncomputable def bindM:List Nat->List V->aU->Option aU
 | [],l,e=>if l.isEmpty then some e else none
 | i::is,l,e=>match l with
  | []=>none
  | v::vs=>if i<e.length then bindM is vs (e.set i (some v)) else none
noncomputable def cP(t:Tg)(v:V)(e:aU):Option aU:=match t with
 | .one i=>if i<e.length then some (e.set i (some v)) else none
 | .many is=>v.Ol.bind fun l=>bindM is l e
noncomputable abbrev SR:=Option ((Out×aU)×Hp)
noncomputable def eQ(same:Hp->Bool)(f:V->aU->Hp->SR):List V->aU->Hp->SR
 | [],e,h=>some ((.next,e),h)
 | v::vs,e,h=>bf (f v e h) fun r h=>r.1.val.elim (if same h then eQ same f vs r.2 h else none) fun x=>some ((.ret x,r.2),h)
noncomputable def hJ(t:aU->Hp->Option (Bool×Hp))(f:aU->Hp->SR):Nat->aU->Hp->SR
 | 0,_,_=>none
 | n+1,e,h=>bf (t e h) fun b h=>cond b (bf (f e h) fun r h=>r.1.val.elim (hJ t f n r.2 h) fun x=>some ((.ret x,r.2),h)) (some ((.next,e),h))
noncomputable def vN(k:Nat):List V:=(List.range k).map fun (j:Nat)=>V.int (j:Int)
section
variable(P:xK)
noncomputable def oD(t:E)(e:aU)(h:Hp):Option (Bool×Hp):=bf (ba P t e h) fun v h=>(truth v h).map (·,h)
mutual
noncomputable def Dv:S->aU->Hp->SR
 | .asg t x,e,h=>bf (ba P x e h) fun v h=>(cP t v e).bind fun e=>some ((.next,e),h)
 | .setAttr o n x,e,h=>bf (ba P x e h) fun v h=>bf (ba P o e h) fun ov h=>(fX ov n v h).bind fun h=>some ((.next,e),h)
 | .bZ o i x,e,h=>bf (ba P x e h) fun v h=>bf (ba P o e h) fun ov h=>bf (ba P i e h) fun iv h=>(dn ov iv v h).bind fun h=>some ((.next,e),h)
 | .aug i op x,e,h=>e[i]?.bind fun o=>o.bind fun old=>bf (ba P x e h) fun v h=>if op.isAdd then old.Ba.bind fun a=>v.Ba.bind fun b=>some ((.next,e.set i (some (.int (a+b)))),h) else none
 | .expr x,e,h=>bf (ba P x e h) fun _ h=>some ((.next,e),h)
 | .ret x,e,h=>bf (ba P x e h) fun v h=>some ((.ret v,e),h)
 | .G4,e,h=>some ((.ret .none,e),h)
 | .ite t a b,e,h=>bf (ba P t e h) fun v h=>(truth v h).bind fun c=>cond c (aR a e h) (aR b e h)
 | .uC n t b,e,h=>hJ (oD P t) (fun e h=>aR b e h) n e h
 | .gN t it b,e,h=>bf (ba P it e h) fun x h=>(dR x h).bind fun vs=>eQ (cV x vs) (fun v e h=>(cP t v e).bind fun e=>aR b e h) vs e h
 | .rH i n b,e,h=>bf (ba P n e h) fun x h=>x.Ba.bind fun k=>if decide (0<=k)&&decide (k<jk) then eQ (fun _=>true) (fun v e h=>(cP (.one i) v e).bind fun e=>aR b e h) (vN k.toNat) e h else none
 | .cont,e,h=>some ((.cont,e),h)
 | .pass,e,h=>some ((.next,e),h)
 | .zJ b,e,h=>aR b e h
 | .stuck,_,_=>none
noncomputable def aR:List S->aU->Hp->SR
 | [],e,h=>some ((.next,e),h)
 | a::l,e,h=>bf (Dv a e h) fun r h=>cond r.1.on (aR l r.2 h) (some (r,h))
end
end
structure Om where
 np:Nat
 ns:Nat
 body:List S
structure Text where
 tabs:Nat->List (V×V)
 Dt:Nat->Nat->Option Nat
 init:Nat->Option Nat
 fn:Nat->Option Om
noncomputable def fin(r:Out×aU)(h:Hp):Option (V×Hp):=r.1.res.bind fun v=>some (v,h)
noncomputable def run(T:Text):Nat->Nat->List V->Hp->Option (V×Hp)
 | 0,_,_,_=>none
 | d+1,f,args,h=>(T.fn f).bind fun F=>if args.length=F.np/\F.np<=F.ns then bf (aR ⟨T.tabs,T.Dt,T.init,run T d⟩ F.body (args.map some++List.replicate (F.ns - F.np) none) h) fin else none
end
section
open PySem (Str Scope NameKind Stmt Comprehension Arguments Arg Operator UnaryOp BoolOp CmpOp Const Keyword Pos ExceptHandler)
structure MB where
 nm:Nat->Str
 gc:List (Str×V)
 fns:List (Str×Nat)
 cls:List (Str×Nat)
 own:List Nat
 data:List Nat
 RW:Nat
structure Ctx where
 slots:List Str
 scope:Scope
theorem cM{c:Prop}[Decidable c]{x:c->Bool}{G:Prop}(e:(if h:c then x h else false)=true)(k:∀ h,x h=true->G):G:=by
 by_cases q:c
 ·exact k q ((dif_pos q).symm.trans e)
 ·exact gI ((dif_neg q).symm.trans e)
theorem lK{a b:Bool}{G:Prop}(e:(a||b)=true)(k:a=true->G)(l:b=true->G):G:=by
 cases a with
 | false=>exact l e
 | true=>exact k rfl
theorem eZ{a:Bool}{G:Prop}(e:(!a)=true)(k:a=false->G):G:=by
 cases a with
 | false=>exact k rfl
 | true=>exact gI e
theorem QA{p:Prop}[Decidable p]{G:Prop}(e:decide p=true)(k:p->G):G:=k (UU e)
theorem QB{α:Type}[BEq α][LawfulBEq α]{a b:α}{P:α->Prop}(e:(a==b)=true)(k:P b):P a:=by
 have q:=eq_of_beq e;exact q▸k
noncomputable def GK{α:Type}(l:List α)(f:α->List α->Bool):Bool:=match l with
 | []=>false
 | a::r=>f a r
theorem eC{α:Type}{l:List α}{f:α->List α->Bool}(h:GK l f=true){P:List α->Prop}(k:∀ a r,f a r=true->P (a::r)):P l:=by
 cases l with
 | nil=>exact gI h
 | cons a r=>exact k a r h
noncomputable def GL{α:Type}(l:List α)(f:α->Bool):Bool:=GK l fun a r=>r.isEmpty&&f a
theorem e1{α:Type}{l:List α}{f:α->Bool}(h:GL l f=true){P:List α->Prop}(k:∀ a,f a=true->P [a]):P l:=
 eC h fun a r h=>aJ h fun p q=>by rw[qG p];exact k a q
theorem eN{α:Type}{l:List α}(h:l.isEmpty=true){P:List α->Prop}(k:P []):P l:=by rw[qG h];exact k
noncomputable def MC{α:Type}(o:Option α)(f:α->Bool):Bool:=o.elim false f
theorem eS{α:Type}{o:Option α}{f:α->Bool}(h:MC o f=true){P:Option α->Prop}(k:∀ a,f a=true->P (some a)):P o:=by
 cases o with
 | none=>exact gI h
 | some a=>exact k a h
theorem eO{α:Type}{o:Option α}(h:o.isNone=true){P:Option α->Prop}(k:P none):P o:=by
 cases o with
 | none=>exact k
 | some a=>exact gI h
noncomputable def Bd(e:PySem.Expr)(f:PySem.Expr->Operator->PySem.Expr->Pos->Bool):Bool:=if h:e.ctorIdx=2 then PySem.Expr.BinOp.elim (motive_1:=fun _=>Bool) e h f else false
theorem Dw{e:PySem.Expr}{f:PySem.Expr->Operator->PySem.Expr->Pos->Bool}(h:Bd e f=true){P:PySem.Expr->Prop}(k:∀ a b c d,f a b c d=true->P (.BinOp a b c d)):P e:=cM h fun q x=>PySem.Expr.BinOp.elim (motive_1:=fun e=>∀ q:e.ctorIdx=2,PySem.Expr.BinOp.elim (motive_1:=fun _=>Bool) e q f=true->P e) e q (fun a b c d _ x=>k a b c d x) q x
noncomputable def jx(e:PySem.Expr)(f:UnaryOp->PySem.Expr->Pos->Bool):Bool:=if h:e.ctorIdx=3 then PySem.Expr.UnaryOp.elim (motive_1:=fun _=>Bool) e h f else false
theorem iH{e:PySem.Expr}{f:UnaryOp->PySem.Expr->Pos->Bool}(h:jx e f=true){P:PySem.Expr->Prop}(k:∀ a b c,f a b c=true->P (.UnaryOp a b c)):P e:=cM h fun q x=>PySem.Expr.UnaryOp.elim (motive_1:=fun e=>∀ q:e.ctorIdx=3,PySem.Expr.UnaryOp.elim (motive_1:=fun _=>Bool) e q f=true->P e) e q (fun a b c _ x=>k a b c x) q x
noncomputable def Be(e:PySem.Expr)(f:PySem.Expr->PySem.Expr->PySem.Expr->Pos->Bool):Bool:=if h:e.ctorIdx=5 then PySem.Expr.IfExp.elim (motive_1:=fun _=>Bool) e h f else false
theorem zL{e:PySem.Expr}{f:PySem.Expr->PySem.Expr->PySem.Expr->Pos->Bool}(h:Be e f=true){P:PySem.Expr->Prop}(k:∀ a b c d,f a b c d=true->P (.IfExp a b c d)):P e:=cM h fun q x=>PySem.Expr.IfExp.elim (motive_1:=fun e=>∀ q:e.ctorIdx=5,PySem.Expr.IfExp.elim (motive_1:=fun _=>Bool) e q f=true->P e) e q (fun a b c d _ x=>k a b c d x) q x
noncomputable def Dx(e:PySem.Expr)(f:List (Option PySem.Expr)->List PySem.Expr->Pos->Bool):Bool:=if h:e.ctorIdx=6 then PySem.Expr.Dict.elim (motive_1:=fun _=>Bool) e h f else false
theorem Jd{e:PySem.Expr}{f:List (Option PySem.Expr)->List PySem.Expr->Pos->Bool}(h:Dx e f=true){P:PySem.Expr->Prop}(k:∀ a b c,f a b c=true->P (.Dict a b c)):P e:=cM h fun q x=>PySem.Expr.Dict.elim (motive_1:=fun e=>∀ q:e.ctorIdx=6,PySem.Expr.Dict.elim (motive_1:=fun _=>Bool) e q f=true->P e) e q (fun a b c _ x=>k a b c x) q x
noncomputable def sJ(e:PySem.Expr)(f:PySem.Expr->List Comprehension->Scope->Pos->Bool):Bool:=if h:e.ctorIdx=8 then PySem.Expr.ListComp.elim (motive_1:=fun _=>Bool) e h f else false
theorem uQ{e:PySem.Expr}{f:PySem.Expr->List Comprehension->Scope->Pos->Bool}(h:sJ e f=true){P:PySem.Expr->Prop}(k:∀ a b c d,f a b c d=true->P (.ListComp a b c d)):P e:=cM h fun q x=>PySem.Expr.ListComp.elim (motive_1:=fun e=>∀ q:e.ctorIdx=8,PySem.Expr.ListComp.elim (motive_1:=fun _=>Bool) e q f=true->P e) e q (fun a b c d _ x=>k a b c d x) q x
noncomputable def uR(e:PySem.Expr)(f:PySem.Expr->List CmpOp->List PySem.Expr->Pos->Bool):Bool:=if h:e.ctorIdx=15 then PySem.Expr.Compare.elim (motive_1:=fun _=>Bool) e h f else false
theorem sL{e:PySem.Expr}{f:PySem.Expr->List CmpOp->List PySem.Expr->Pos->Bool}(h:uR e f=true){P:PySem.Expr->Prop}(k:∀ a b c d,f a b c d=true->P (.Compare a b c d)):P e:=cM h fun q x=>PySem.Expr.Compare.elim (motive_1:=fun e=>∀ q:e.ctorIdx=15,PySem.Expr.Compare.elim (motive_1:=fun _=>Bool) e q f=true->P e) e q (fun a b c d _ x=>k a b c d x) q x
noncomputable def sM(e:PySem.Expr)(f:PySem.Expr->List PySem.Expr->List Keyword->Pos->Bool):Bool:=if h:e.ctorIdx=16 then PySem.Expr.Call.elim (motive_1:=fun _=>Bool) e h f else false
theorem xV{e:PySem.Expr}{f:PySem.Expr->List PySem.Expr->List Keyword->Pos->Bool}(h:sM e f=true){P:PySem.Expr->Prop}(k:∀ a b c d,f a b c d=true->P (.Call a b c d)):P e:=cM h fun q x=>PySem.Expr.Call.elim (motive_1:=fun e=>∀ q:e.ctorIdx=16,PySem.Expr.Call.elim (motive_1:=fun _=>Bool) e q f=true->P e) e q (fun a b c d _ x=>k a b c d x) q x
noncomputable def iI(e:PySem.Expr)(f:Const->Nat->Pos->Bool):Bool:=if h:e.ctorIdx=19 then PySem.Expr.Constant.elim (motive_1:=fun _=>Bool) e h f else false
theorem iz{e:PySem.Expr}{f:Const->Nat->Pos->Bool}(h:iI e f=true){P:PySem.Expr->Prop}(k:∀ a b c,f a b c=true->P (.Constant a b c)):P e:=cM h fun q x=>PySem.Expr.Constant.elim (motive_1:=fun e=>∀ q:e.ctorIdx=19,PySem.Expr.Constant.elim (motive_1:=fun _=>Bool) e q f=true->P e) e q (fun a b c _ x=>k a b c x) q x
noncomputable def iX(e:PySem.Expr)(f:PySem.Expr->Str->Pos->Bool):Bool:=if h:e.ctorIdx=20 then PySem.Expr.Attribute.elim (motive_1:=fun _=>Bool) e h f else false
theorem j2{e:PySem.Expr}{f:PySem.Expr->Str->Pos->Bool}(h:iX e f=true){P:PySem.Expr->Prop}(k:∀ a b c,f a b c=true->P (.Attribute a b c)):P e:=cM h fun q x=>PySem.Expr.Attribute.elim (motive_1:=fun e=>∀ q:e.ctorIdx=20,PySem.Expr.Attribute.elim (motive_1:=fun _=>Bool) e q f=true->P e) e q (fun a b c _ x=>k a b c x) q x
noncomputable def gP(e:PySem.Expr)(f:PySem.Expr->PySem.Expr->Pos->Bool):Bool:=if h:e.ctorIdx=21 then PySem.Expr.Subscript.elim (motive_1:=fun _=>Bool) e h f else false
theorem fL{e:PySem.Expr}{f:PySem.Expr->PySem.Expr->Pos->Bool}(h:gP e f=true){P:PySem.Expr->Prop}(k:∀ a b c,f a b c=true->P (.Subscript a b c)):P e:=cM h fun q x=>PySem.Expr.Subscript.elim (motive_1:=fun e=>∀ q:e.ctorIdx=21,PySem.Expr.Subscript.elim (motive_1:=fun _=>Bool) e q f=true->P e) e q (fun a b c _ x=>k a b c x) q x
noncomputable def iJ(e:PySem.Expr)(f:Str->Pos->Bool):Bool:=if h:e.ctorIdx=23 then PySem.Expr.Name.elim (motive_1:=fun _=>Bool) e h f else false
theorem eName{e:PySem.Expr}{f:Str->Pos->Bool}(h:iJ e f=true){P:PySem.Expr->Prop}(k:∀ a b,f a b=true->P (.Name a b)):P e:=cM h fun q x=>PySem.Expr.Name.elim (motive_1:=fun e=>∀ q:e.ctorIdx=23,PySem.Expr.Name.elim (motive_1:=fun _=>Bool) e q f=true->P e) e q (fun a b _ x=>k a b x) q x
noncomputable def Dy(e:PySem.Expr)(f:List PySem.Expr->Pos->Bool):Bool:=if h:e.ctorIdx=24 then PySem.Expr.List.elim (motive_1:=fun _=>Bool) e h f else false
theorem eList{e:PySem.Expr}{f:List PySem.Expr->Pos->Bool}(h:Dy e f=true){P:PySem.Expr->Prop}(k:∀ a b,f a b=true->P (.List a b)):P e:=cM h fun q x=>PySem.Expr.List.elim (motive_1:=fun e=>∀ q:e.ctorIdx=24,PySem.Expr.List.elim (motive_1:=fun _=>Bool) e q f=true->P e) e q (fun a b _ x=>k a b x) q x
noncomputable def rS(e:PySem.Expr)(f:List PySem.Expr->Nat->Pos->Bool):Bool:=if h:e.ctorIdx=25 then PySem.Expr.Tuple.elim (motive_1:=fun _=>Bool) e h f else false
theorem qe{e:PySem.Expr}{f:List PySem.Expr->Nat->Pos->Bool}(h:rS e f=true){P:PySem.Expr->Prop}(k:∀ a b c,f a b c=true->P (.Tuple a b c)):P e:=cM h fun q x=>PySem.Expr.Tuple.elim (motive_1:=fun e=>∀ q:e.ctorIdx=25,PySem.Expr.Tuple.elim (motive_1:=fun _=>Bool) e q f=true->P e) e q (fun a b c _ x=>k a b c x) q x
noncomputable def vO(e:PySem.Expr)(f:Option PySem.Expr->Option PySem.Expr->Option PySem.Expr->Pos->Bool):Bool:=if h:e.ctorIdx=26 then PySem.Expr.Slice.elim (motive_1:=fun _=>Bool) e h f else false
theorem Dz{e:PySem.Expr}{f:Option PySem.Expr->Option PySem.Expr->Option PySem.Expr->Pos->Bool}(h:vO e f=true){P:PySem.Expr->Prop}(k:∀ a b c d,f a b c d=true->P (.Slice a b c d)):P e:=cM h fun q x=>PySem.Expr.Slice.elim (motive_1:=fun e=>∀ q:e.ctorIdx=26,PySem.Expr.Slice.elim (motive_1:=fun _=>Bool) e q f=true->P e) e q (fun a b c d _ x=>k a b c d x) q x
noncomputable def xW(e:PySem.Expr)(f:BoolOp->List PySem.Expr->Pos->Bool):Bool:=if h:e.ctorIdx=0 then PySem.Expr.BoolOp.elim (motive_1:=fun _=>Bool) e h f else false
theorem vP{e:PySem.Expr}{f:BoolOp->List PySem.Expr->Pos->Bool}(h:xW e f=true){P:PySem.Expr->Prop}(k:∀ a b c,f a b c=true->P (.BoolOp a b c)):P e:=cM h fun q x=>PySem.Expr.BoolOp.elim (motive_1:=fun e=>∀ q:e.ctorIdx=0,PySem.Expr.BoolOp.elim (motive_1:=fun _=>Bool) e q f=true->P e) e q (fun a b c _ x=>k a b c x) q x
noncomputable def sN(e:Stmt)(f:Option PySem.Expr->Pos->Bool):Bool:=if h:e.ctorIdx=3 then Stmt.Return.elim (motive_2:=fun _=>Bool) e h f else false
theorem Bf{e:Stmt}{f:Option PySem.Expr->Pos->Bool}(h:sN e f=true){P:Stmt->Prop}(k:∀ a b,f a b=true->P (.Return a b)):P e:=cM h fun q x=>Stmt.Return.elim (motive_2:=fun e=>∀ q:e.ctorIdx=3,Stmt.Return.elim (motive_2:=fun _=>Bool) e q f=true->P e) e q (fun a b _ x=>k a b x) q x
noncomputable def oE(e:Stmt)(f:List PySem.Expr->PySem.Expr->Pos->Bool):Bool:=if h:e.ctorIdx=5 then Stmt.Assign.elim (motive_2:=fun _=>Bool) e h f else false
theorem rT{e:Stmt}{f:List PySem.Expr->PySem.Expr->Pos->Bool}(h:oE e f=true){P:Stmt->Prop}(k:∀ a b c,f a b c=true->P (.Assign a b c)):P e:=cM h fun q x=>Stmt.Assign.elim (motive_2:=fun e=>∀ q:e.ctorIdx=5,Stmt.Assign.elim (motive_2:=fun _=>Bool) e q f=true->P e) e q (fun a b c _ x=>k a b c x) q x
noncomputable def qH(e:Stmt)(f:PySem.Expr->Operator->PySem.Expr->Pos->Bool):Bool:=if h:e.ctorIdx=7 then Stmt.AugAssign.elim (motive_2:=fun _=>Bool) e h f else false
theorem zM{e:Stmt}{f:PySem.Expr->Operator->PySem.Expr->Pos->Bool}(h:qH e f=true){P:Stmt->Prop}(k:∀ a b c d,f a b c d=true->P (.AugAssign a b c d)):P e:=cM h fun q x=>Stmt.AugAssign.elim (motive_2:=fun e=>∀ q:e.ctorIdx=7,Stmt.AugAssign.elim (motive_2:=fun _=>Bool) e q f=true->P e) e q (fun a b c d _ x=>k a b c d x) q x
noncomputable def DA(e:Stmt)(f:PySem.Expr->PySem.Expr->List Stmt->List Stmt->Pos->Bool):Bool:=if h:e.ctorIdx=9 then Stmt.For.elim (motive_2:=fun _=>Bool) e h f else false
theorem MD{e:Stmt}{f:PySem.Expr->PySem.Expr->List Stmt->List Stmt->Pos->Bool}(h:DA e f=true){P:Stmt->Prop}(k:∀ a b c d e,f a b c d e=true->P (.For a b c d e)):P e:=cM h fun q x=>Stmt.For.elim (motive_2:=fun e=>∀ q:e.ctorIdx=9,Stmt.For.elim (motive_2:=fun _=>Bool) e q f=true->P e) e q (fun a b c d e _ x=>k a b c d e x) q x
noncomputable def Bg(e:Stmt)(f:PySem.Expr->List Stmt->List Stmt->Pos->Bool):Bool:=if h:e.ctorIdx=11 then Stmt.While.elim (motive_2:=fun _=>Bool) e h f else false
theorem J5{e:Stmt}{f:PySem.Expr->List Stmt->List Stmt->Pos->Bool}(h:Bg e f=true){P:Stmt->Prop}(k:∀ a b c d,f a b c d=true->P (.While a b c d)):P e:=cM h fun q x=>Stmt.While.elim (motive_2:=fun e=>∀ q:e.ctorIdx=11,Stmt.While.elim (motive_2:=fun _=>Bool) e q f=true->P e) e q (fun a b c d _ x=>k a b c d x) q x
noncomputable def ME(e:Stmt)(f:PySem.Expr->List Stmt->List Stmt->Pos->Bool):Bool:=if h:e.ctorIdx=12 then Stmt.If.elim (motive_2:=fun _=>Bool) e h f else false
theorem RX{e:Stmt}{f:PySem.Expr->List Stmt->List Stmt->Pos->Bool}(h:ME e f=true){P:Stmt->Prop}(k:∀ a b c d,f a b c d=true->P (.If a b c d)):P e:=cM h fun q x=>Stmt.If.elim (motive_2:=fun e=>∀ q:e.ctorIdx=12,Stmt.If.elim (motive_2:=fun _=>Bool) e q f=true->P e) e q (fun a b c d _ x=>k a b c d x) q x
noncomputable def Je(e:Stmt)(f:List Stmt->List ExceptHandler->List Stmt->List Stmt->Pos->Bool):Bool:=if h:e.ctorIdx=17 then Stmt.Try.elim (motive_2:=fun _=>Bool) e h f else false
theorem O9{e:Stmt}{f:List Stmt->List ExceptHandler->List Stmt->List Stmt->Pos->Bool}(h:Je e f=true){P:Stmt->Prop}(k:∀ a b c d e,f a b c d e=true->P (.Try a b c d e)):P e:=cM h fun q x=>Stmt.Try.elim (motive_2:=fun e=>∀ q:e.ctorIdx=17,Stmt.Try.elim (motive_2:=fun _=>Bool) e q f=true->P e) e q (fun a b c d e _ x=>k a b c d e x) q x
noncomputable def DB(e:Stmt)(f:PySem.Expr->Pos->Bool):Bool:=if h:e.ctorIdx=24 then Stmt.Expr.elim (motive_2:=fun _=>Bool) e h f else false
theorem MF{e:Stmt}{f:PySem.Expr->Pos->Bool}(h:DB e f=true){P:Stmt->Prop}(k:∀ a b,f a b=true->P (.Expr a b)):P e:=cM h fun q x=>Stmt.Expr.elim (motive_2:=fun e=>∀ q:e.ctorIdx=24,Stmt.Expr.elim (motive_2:=fun _=>Bool) e q f=true->P e) e q (fun a b _ x=>k a b x) q x
noncomputable def DC(e:Stmt)(f:Pos->Bool):Bool:=if h:e.ctorIdx=25 then Stmt.Pass.elim (motive_2:=fun _=>Bool) e h f else false
theorem MG{e:Stmt}{f:Pos->Bool}(h:DC e f=true){P:Stmt->Prop}(k:∀ a,f a=true->P (.Pass a)):P e:=cM h fun q x=>Stmt.Pass.elim (motive_2:=fun e=>∀ q:e.ctorIdx=25,Stmt.Pass.elim (motive_2:=fun _=>Bool) e q f=true->P e) e q (fun a _ x=>k a x) q x
noncomputable def sO(e:Stmt)(f:Pos->Bool):Bool:=if h:e.ctorIdx=27 then Stmt.Continue.elim (motive_2:=fun _=>Bool) e h f else false
theorem B7{e:Stmt}{f:Pos->Bool}(h:sO e f=true){P:Stmt->Prop}(k:∀ a,f a=true->P (.Continue a)):P e:=cM h fun q x=>Stmt.Continue.elim (motive_2:=fun e=>∀ q:e.ctorIdx=27,Stmt.Continue.elim (motive_2:=fun _=>Bool) e q f=true->P e) e q (fun a _ x=>k a x) q x
noncomputable def ct(sc:Scope)(n:Str):Option NameKind:=sc.names.lookup n
noncomputable def j4(c:Ctx)(x:Str):Bool:=ct c.scope x==some .globalImplicit&&!(x==("__debug__":Str))
noncomputable def Jf(c:Ctx)(x:Str):Bool:=(ct c.scope x==some .local||ct c.scope x==some .cell)&&!(x==("__debug__":Str))
noncomputable def fM(c:Ctx)(i:Nat)(x:Str):Bool:=c.slots[i]?==some x&&Jf c x
noncomputable def Bc.py:Bc->Operator
 | .add=>.Add|.sub=>.Sub|.mul=>.Mult|.mod=>.Mod|.fdiv=>.FloorDiv
noncomputable def G3.py:G3->CmpOp
 | .eq=>.Eq|.ne=>.NotEq|.lt=>.Lt|.le=>.LtE|.gt=>.Gt|.ge=>.GtE
 | .zI=>.Is|.sH=>.IsNot|.isin=>.In|.eH=>.NotIn
noncomputable def gB(scope outer:Scope):Scope:=
 { scope with names:=scope.names.map fun (n,k)=>if k==.free&&outer.kind==.function&&ct outer n==some .cell then (n,.cell) else (n,k) }
section
variable(T:MB)
noncomputable def G5(k:Const)(v:V):Bool:=match k with
 | .none=>v.zI
 | .bool a=>v.Mz.any (a==·)
 | .int a=>v.Ba.any (a==·)
 | .str a=>v.O6.any fun n=>a==T.nm n&&decide (n<T.RW)
 | _=>false
noncomputable def litOk(c:Ctx)(v:V)(e:PySem.Expr):Bool:=
 iI e (fun k _ _=>G5 T k v)||jx e (fun op x _=>decide (op=.USub)&&iI x fun k _ _=>v.Ba.any fun b=>decide (k=.int (-b)))||iJ e fun x _=>j4 c x&&(T.gc.lookup x).any fun w=>V.Jc w v
noncomputable def zN(x:E):Bool:=x.ctorIdx==1
noncomputable def j5(e:PySem.Expr):Bool:=e.ctorIdx==22
noncomputable def J6(c:Ctx)(x y:Str):Bool:=j4 c x&&x==y
noncomputable def Pa(c:Ctx)(f:Nat)(x:Str):Bool:=j4 c x&&T.fns.lookup x==some f
noncomputable def MH(c:Ctx)(k:Nat)(x:Str):Bool:=j4 c x&&T.cls.lookup x==some k
noncomputable def rU(e:PySem.Expr):Bool:=e.ctorIdx==16
noncomputable def J7(o:PySem.Expr)(apos pos:Pos):Bool:=!rU o&&apos.endLine==pos.line
noncomputable def MI(e:PySem.Expr)(f:PySem.Expr->Str->List PySem.Expr->Bool):Bool:=sM e fun g as kw p=>kw.isEmpty&&iX g fun o a ap=>J7 o ap p&&f o a as
noncomputable def MJ(c:Ctx)(e:PySem.Expr)(y:Str)(f:PySem.Expr->Bool):Bool:=sM e fun g as kw _=>kw.isEmpty&&(iJ g (fun x _=>J6 c x y)&&GL as fun a=>!j5 a&&f a)
noncomputable def Jg(c:Ctx)(sc:Scope)(x:Str)(j:Nat):Bool:=c.slots[j]?==some x&&(ct sc x==some .local&&(sc.kind==.function&&((sc.names.all fun n=>n.2 != .cell&&(n.2 != .local||n.1==x||n.1==(".0":Str))) &&
    ((sc.names.all fun n=>n.2 != .free||(ct c.scope n.1==some .cell&&c.slots.contains n.1))&&(decide (sc.names.map (·.1)).Nodup&&!(c.slots.contains (".0":Str)))))))
mutual
noncomputable def bP:E->Ctx->PySem.Expr->Bool
 | .loc i,c,e=>iJ e fun x _=>fM c i x
 | .lit v,c,e=>litOk T c v e
 | .bin op a b,c,e=>Bd e fun l o r _=>decide (o=op.py)&&(bP a c l&&bP b c r)
 | .cmp op a b,c,e=>uR e fun l os rs _=>GL os fun o=>GL rs fun r=>decide (o=op.py)&&(bP a c l&&bP b c r)
 | .aV bW es,c,e=>xW e fun o vs _=>decide (o=cond bW .And .Or)&&gr es c vs
 | .not_ a,c,e=>jx e fun o x _=>decide (o=.Not)&&bP a c x
 | .ite t a b,c,e=>Be e fun t' a' b' _=>bP t c t'&&(bP a c a'&&bP b c b')
 | .call f args,c,e=>sM e fun g as kw _=>kw.isEmpty&&(iJ g (fun x _=>Pa T c f x)&&gr args c as)
 | .new k args,c,e=>sM e fun g as kw _=>kw.isEmpty&&(iJ g (fun x _=>MH T c k x)&&gr args c as)
 | .own o m args,c,e=>MI e fun o' a as=>decide (as.length<29)&&(T.own.contains m&&(a==T.nm m&&(bP o c o'&&gr args c as)))
 | .jj o k d,c,e=>MI e fun o' a as=>GK as fun k' r=>GL r fun d'=>!j5 k'&&(!j5 d'&&(a==("get":Str)&&(bP o c o'&&(bP k c k'&&bP d c d'))))
 | .app o x,c,e=>MI e fun o' a as=>GL as fun x'=>!j5 x'&&(a==("append":Str)&&(bP o c o'&&bP x c x'))
 | .pop o,c,e=>MI e fun o' a as=>as.isEmpty&&(a==("pop":Str)&&bP o c o')
 | .len x,c,e=>MJ c e "len" fun x'=>bP x c x'
 | .toList x,c,e=>MJ c e "list" fun x'=>bP x c x'
 | .jv x,c,e=>MJ c e "tuple" fun x'=>bP x c x'
 | .attr o n,c,e=>iX e fun o' a _=>!rU o'&&(a==T.nm n&&bP o c o')
 | .sub o i,c,e=>gP e fun o' i' _=>bP o c o'&&bP i c i'
 | .rev o,c,e=>gP e fun o' s _=>bP o c o'&&vO s fun a b u _=>a.isNone&&(b.isNone&&MC u fun u=>jx u fun op x _=>decide (op=.USub)&&iI x fun k _ _=>decide (k=.int 1))
 | .pre o n,c,e=>gP e fun o' s _=>bP o c o'&&vO s fun a b u _=>a.isNone&&(u.isNone&&MC b fun x=>iI x fun k _ _=>decide (k=.int n))
 | .tup es,c,e=>rS e fun vs _ _=>gr es c vs
 | .lst es,c,e=>Dy e fun vs _=>gr es c vs
 | .dict kd kvs,c,e=>Dx e fun ks vs _=>decide (kd<=2)&&((decide (ks.length<=15)||(decide (ks.length<17)&&kvs.all zN))&&lL kvs c ks vs)
 | .comp elt j it conds,c,e=>sJ e fun jy gs sc _=>GL gs fun g=>decide (g.is_async=0)&&iJ g.target fun x _=>Jg c sc x j&&(!(x==("__debug__":Str)) &&
    (bP it c g.iter&&(bP elt ⟨c.slots,gB sc c.scope⟩ jy&&gr conds ⟨c.slots,gB sc c.scope⟩ g.ifs)))
 | .stuck,_,_=>true
noncomputable def gr:List E->Ctx->List PySem.Expr->Bool
 | [],_,es=>es.isEmpty
 | a::l,c,es=>GK es fun e r=>bP a c e&&(!j5 e&&gr l c r)
noncomputable def lL:List E->Ctx->List (Option PySem.Expr)->List PySem.Expr->Bool
 | [],_,ks,vs=>ks.isEmpty&&vs.isEmpty
 | a::l,c,ks,vs=>match l with
  | []=>false
  | b::m=>GK ks fun k ks=>MC k fun k=>GK vs fun v vs=>bP a c k&&(bP b c v&&lL m c ks vs)
end
noncomputable def oF(c:Ctx):List Nat->List PySem.Expr->Bool
 | [],es=>es.isEmpty
 | i::is,es=>GK es fun e r=>iJ e (fun x _=>fM c i x)&&oF c is r
noncomputable def DD(c:Ctx):Tg->PySem.Expr->Bool
 | .one i,e=>iJ e fun x _=>fM c i x
 | .many is,e=>rS e fun es _ _=>oF c is es
noncomputable def isCall(e:PySem.Expr):Bool:=e.ctorIdx==16
noncomputable def j6(e:PySem.Expr):Bool:=e.ctorIdx==8
noncomputable def zO(v:PySem.Expr):Bool:=!(v.ctorIdx==25)||rS v fun vs _ _=>vs.all (PySem.foldedForSure 8)||!vs.all (PySem.constantsAlone 8)
noncomputable def Tg.RY:Tg->Bool
 | .one _=>true
 | _=>false
noncomputable def Tg.nd:Tg->Bool
 | .many is=>decide is.Nodup
 | _=>true
mutual
noncomputable def MK:S->Ctx->Stmt->Bool
 | .asg t x,c,s=>oE s fun ts v _=>GL ts fun t'=>DD c t t'&&(bP T x c v&&(zO v&&((!j6 v||t.RY)&&t.nd)))
 | .setAttr o n x,c,s=>oE s fun ts v _=>GL ts fun t'=>iX t' fun o' a _=>a==T.nm n&&(T.data.contains n&&(bP T o c o'&&(bP T x c v&&!j6 v)))
 | .bZ o i x,c,s=>oE s fun ts v _=>GL ts fun t'=>gP t' fun o' i' _=>bP T o c o'&&(bP T i c i'&&(bP T x c v&&!j6 v))
 | .aug i op x,c,s=>qH s fun t o v _=>iJ t (fun y _=>fM c i y)&&(decide (o=op.py)&&bP T x c v)
 | .expr x,c,s=>DB s fun v _=>isCall v&&bP T x c v
 | .ret x,c,s=>sN s fun v _=>MC v fun v=>bP T x c v
 | .G4,_,s=>sN s fun v _=>v.isNone
 | .ite t a b,c,s=>ME s fun t' a' b' _=>bP T t c t'&&(m7 a c a'&&m7 b c b')
 | .uC _ t b,c,s=>Bg s fun t' b' o _=>o.isEmpty&&(bP T t c t'&&m7 b c b')
 | .gN t it b,c,s=>DA s fun t' oB b' o _=>o.isEmpty&&(DD c t t'&&(bP T it c oB&&m7 b c b'))
 | .rH i n b,c,s=>DA s fun t' oB b' o _=>o.isEmpty&&(iJ t' (fun x _=>fM c i x)&&(MJ c oB "range" (fun n'=>bP T n c n')&&m7 b c b'))
 | .cont,_,s=>sO s fun _=>true
 | .pass,_,s=>DC s fun _=>true
 | .zJ b,c,s=>Je s fun b' h o f _=>!h.isEmpty&&(o.isEmpty&&(f.isEmpty&&m7 b c b'))
 | .stuck,_,_=>true
noncomputable def m7:List S->Ctx->List Stmt->Bool
 | [],_,ss=>ss.isEmpty
 | a::l,c,ss=>GK ss fun s r=>MK a c s&&m7 l c r
end
noncomputable def DE(F:Om)(slots:List Str)(params:Arguments)(body:List Stmt)(scope:Scope):Bool:=
 decide (F.ns=slots.length)&&(decide (F.np<=F.ns)&&(params.posonlyargs.isEmpty&&(params.vararg.isNone&&(params.kwonlyargs.isEmpty&&(params.kwarg.isNone &&
 (params.args.map (·.arg)==slots.take F.np&&(decide slots.Nodup&&(!scope.isGenerator&&((slots.take F.np).all (fun x=>scope.names.lookup x==some .local||scope.names.lookup x==some .cell) &&
 ((scope.names.all fun n=>n.2 != .cell||slots.contains n.1)&&(decide (scope.names.map (·.1)).Nodup&&m7 T F.body ⟨slots,scope⟩ body)))))))))))
end
end
section
open PySem (Str)
noncomputable def ss(l:List String):List Str:=l.map PySem.Str.ofString
noncomputable def ML:List Str:=ss ["object","string","I","Root","Sub","Leaf","Odd","ValueType","Array","Delegate","Enum","G","H","D","K","[]","int","uint","long","ulong","short","ushort","byte","sbyte","char","bool","nint","bad","P","E","rows","index","depths","weights","opens","row","put","bounds","kt","sort","base","ifaces_at","under","bases","ifaces","sorts","variances","unders","gflags","news","strict","pairs","listed","proved","variance","at","over","leans","ways","void","null","?","plain","has_new"]
noncomputable def Pb:List (List (V×V)):=[
 [(.int (0),.int (20)),(.int (1),.int (9)),(.int (2),.int (10)),(.int (3),.int (11)),(.int (4),.int (12)),(.int (5),.int (13)),(.int (6),.int (14)),(.int (7),.int (15)),(.int (8),.int (16)),(.int (9),.int (17)),(.int (10),.int (18)),(.int (11),.int (19)),(.int (12),.int (1)),(.int (13),.int (4))],
 [(.int (20),.int (0)),(.int (9),.int (1)),(.int (10),.int (2)),(.int (11),.int (3)),(.int (12),.int (4)),(.int (13),.int (5)),(.int (14),.int (6)),(.int (15),.int (7)),(.int (16),.int (8)),(.int (17),.int (9)),(.int (18),.int (10)),(.int (19),.int (11)),(.int (1),.int (12)),(.int (4),.int (13))],
 [(.int (1),.tup [.int (0),.int (255)]),(.int (2),.tup [.int (0),.int (65535)]),(.int (3),.tup [.int (-128),.int (127)]),(.int (4),.tup [.int (0),.int (255)]),(.int (5),.tup [.int (-32768),.int (32767)]),(.int (6),.tup [.int (0),.int (65535)]),(.int (7),.tup [.int (-2147483648),.int (2147483647)]),(.int (8),.tup [.int (0),.int (4294967295)]),(.int (9),.tup [.int (-9223372036854775808),.int (9223372036854775807)]),(.int (10),.tup [.int (0),.int (18446744073709551615)]),(.int (11),.tup [.int (-2147483648),.int (2147483647)])],
 [(.int (4),.int (3)),(.int (6),.int (5)),(.int (8),.int (7)),(.int (10),.int (9))],
 [(.int (3),.tup [.int (5),.int (7),.int (9)]),(.int (4),.tup [.int (5),.int (6),.int (7),.int (8),.int (9),.int (10)]),(.int (5),.tup [.int (7),.int (9)]),(.int (6),.tup [.int (7),.int (8),.int (9),.int (10)]),(.int (7),.tup [.int (9)]),(.int (8),.tup [.int (9),.int (10)]),(.int (2),.tup [.int (6),.int (7),.int (8),.int (9),.int (10)])],
 [(.int (3),.tup [.int (4),.int (6),.int (8),.int (10)]),(.int (5),.tup [.int (6),.int (8),.int (10)]),(.int (7),.tup [.int (8),.int (10)]),(.int (9),.tup [.int (10)])]]
noncomputable abbrev J8:List S:=[.uC 1000000 (.lit (.bool true)) [.pass]]
noncomputable def Bh:List Str:=ss ["k"]
noncomputable abbrev jz:List S:=[.setAttr (.loc 0) 30 (.lst []),.setAttr (.loc 0) 31 (.dict 2 []),.setAttr (.loc 0) 32 (.lst []),.setAttr (.loc 0) 33 (.lst []),.setAttr (.loc 0) 34 (.lst []),.rH 1 (.lit (.int 16)) [.asg (.one 2) (.tup [.lit (.int 1),.loc 1]),.expr (.app (.attr (.loc 0) 30) (.loc 2)),.bZ (.attr (.loc 0) 31) (.loc 2) (.loc 1),.expr (.app (.attr (.loc 0) 32) (.lit (.int 1))),.expr (.app (.attr (.loc 0) 33) (.lit (.int 1))),.expr (.app (.attr (.loc 0) 34) (.lit (.int 0)))]]
noncomputable def iY:List Str:=ss ["self","number","row"]
noncomputable abbrev kK:List S:=[.ite (.aV false [.cmp .lt (.loc 1) (.lit (.int 0)),.cmp .ge (.loc 1) (.len (.attr (.loc 0) 30))]) [.stuck] [],.ret (.sub (.attr (.loc 0) 30) (.loc 1))]
noncomputable def jA:List Str:=ss ["self","k"]
noncomputable abbrev kL:List S:=[.asg (.one 2) (.jj (.attr (.loc 0) 31) (.loc 1) (.lit (.int (-1)))),.ite (.cmp .ge (.loc 2) (.lit (.int 0))) [.ret (.loc 2)] [],.expr (.call 7 [.loc 0,.loc 1]),.asg (.one 3) (.lit (.int 1)),.asg (.one 4) (.lit (.int 1)),.asg (.one 5) (.lit (.int 0)),.ite (.aV false [.cmp .eq (.sub (.loc 1) (.lit (.int 0))) (.lit (.int 6)),.cmp .eq (.sub (.loc 1) (.lit (.int 0))) (.lit (.int 7))]) [.asg (.one 5) (.lit (.int 1))] [],.asg (.one 6) (.call 5 [.sub (.loc 1) (.lit (.int 0))]),.gN (.one 7) (.call 4 [.loc 1]) [.ite (.cmp .gt (.bin .add (.sub (.attr (.loc 0) 32) (.loc 7)) (.loc 6)) (.loc 3)) [.asg (.one 3) (.bin .add (.sub (.attr (.loc 0) 32) (.loc 7)) (.loc 6))] [],.aug 4 .add (.sub (.attr (.loc 0) 33) (.loc 7)),.ite (.cmp .eq (.sub (.attr (.loc 0) 34) (.loc 7)) (.lit (.int 1))) [.asg (.one 5) (.lit (.int 1))] []],.ite (.cmp .gt (.loc 3) (.lit (.int 24))) [.stuck] [],.ite (.cmp .gt (.loc 4) (.lit (.int 4096))) [.stuck] [],.asg (.one 8) (.len (.attr (.loc 0) 30)),.expr (.app (.attr (.loc 0) 30) (.loc 1)),.bZ (.attr (.loc 0) 31) (.loc 1) (.loc 8),.expr (.app (.attr (.loc 0) 32) (.loc 3)),.expr (.app (.attr (.loc 0) 33) (.loc 4)),.expr (.app (.attr (.loc 0) 34) (.loc 5)),.ret (.loc 8)]
noncomputable def jB:List Str:=ss ["self","row","found","depth","weight","opened","level","inner","k"]
noncomputable abbrev m8:List S:=[.asg (.one 1) (.sub (.loc 0) (.lit (.int 0))),.ite (.aV false [.cmp .eq (.loc 1) (.lit (.int 2)),.cmp .eq (.loc 1) (.lit (.int 3))]) [.ret (.sub (.loc 0) (.lit (.int 2)))] [],.ite (.aV false [.cmp .eq (.loc 1) (.lit (.int 4)),.cmp .eq (.loc 1) (.lit (.int 5)),.cmp .eq (.loc 1) (.lit (.int 8)),.cmp .eq (.loc 1) (.lit (.int 9)),.cmp .eq (.loc 1) (.lit (.int 11))]) [.ret (.tup [.sub (.loc 0) (.lit (.int 1))])] [],.ite (.cmp .eq (.loc 1) (.lit (.int 10))) [.ret (.bin .add (.tup [.sub (.loc 0) (.lit (.int 1))]) (.sub (.loc 0) (.lit (.int 3))))] [],.ret (.tup [])]
noncomputable def lM:List Str:=ss ["row","sort"]
noncomputable abbrev qI:List S:=[.ite (.aV false [.cmp .eq (.loc 0) (.lit (.int 2)),.cmp .eq (.loc 0) (.lit (.int 3)),.cmp .eq (.loc 0) (.lit (.int 4))]) [.ret (.lit (.int 1))] [],.ret (.lit (.int 0))]
noncomputable def oG:List Str:=ss ["sort"]
noncomputable abbrev oH:List S:=[.ite (.aV false [.cmp .eq (.loc 0) (.lit (.int 2)),.cmp .eq (.loc 0) (.lit (.int 3))]) [.ret (.lit (.int 3))] [],.ite (.cmp .eq (.loc 0) (.lit (.int 10))) [.ret (.lit (.int 4))] [],.ret (.lit (.int 2))]
noncomputable def m9:List Str:=ss ["sort"]
noncomputable abbrev jC:List S:=[.ite (.aV false [.cmp .eq (.len (.loc 1)) (.lit (.int 0)),.cmp .le (.sub (.loc 1) (.lit (.int 0))) (.lit (.int 1)),.cmp .gt (.sub (.loc 1) (.lit (.int 0))) (.lit (.int 11))]) [.stuck] [],.asg (.one 2) (.sub (.loc 1) (.lit (.int 0))),.ite (.cmp .ne (.len (.loc 1)) (.call 6 [.loc 2])) [.stuck] [],.gN (.one 3) (.call 4 [.loc 1]) [.expr (.own (.loc 0) 35 [.loc 3])],.ite (.aV false [.cmp .eq (.loc 2) (.lit (.int 2)),.cmp .eq (.loc 2) (.lit (.int 3))]) [.expr (.call 8 [.loc 0,.loc 1])] [.ite (.aV false [.cmp .eq (.loc 2) (.lit (.int 6)),.cmp .eq (.loc 2) (.lit (.int 7))]) [.ite (.cmp .lt (.sub (.loc 1) (.lit (.int 1))) (.lit (.int 0))) [.stuck] []] [.ite (.cmp .eq (.loc 2) (.lit (.int 10))) [.ite (.aV false [.not_ (.call 10 [.loc 0,.sub (.loc 1) (.lit (.int 1))]),.cmp .lt (.sub (.loc 1) (.lit (.int 2))) (.lit (.int 0))]) [.stuck] [],.expr (.call 9 [.loc 0,.sub (.loc 1) (.lit (.int 3))])] [.ite (.cmp .eq (.loc 2) (.lit (.int 8))) [.ite (.not_ (.aV false [.call 20 [.loc 0,.sub (.loc 1) (.lit (.int 1))],.call 22 [.loc 0,.sub (.loc 1) (.lit (.int 1))]])) [.stuck] []] [.ite (.not_ (.call 10 [.loc 0,.sub (.loc 1) (.lit (.int 1))])) [.stuck] []]]]]]
noncomputable def iZ:List Str:=ss ["kt","row","sort","inner"]
noncomputable abbrev nc:List S:=[.ite (.aV false [.cmp .le (.sub (.loc 1) (.lit (.int 1))) (.lit (.int 0)),.cmp .isin (.sub (.loc 1) (.lit (.int 1))) (.lit (.tab 1))]) [.stuck] [],.expr (.call 9 [.loc 0,.sub (.loc 1) (.lit (.int 2))])]
noncomputable def lN:List Str:=ss ["kt","row"]
noncomputable abbrev oI:List S:=[.gN (.one 2) (.loc 1) [.ite (.not_ (.call 10 [.loc 0,.loc 2])) [.stuck] []]]
noncomputable def nf:List Str:=ss ["kt","args","arg"]
noncomputable abbrev qJ:List S:=[.ite (.aV false [.cmp .eq (.loc 1) (.lit (.int 0)),.cmp .eq (.loc 1) (.lit (.int 14))]) [.ret (.lit (.bool false))] [],.asg (.one 2) (.sub (.own (.loc 0) 35 [.loc 1]) (.lit (.int 0))),.ret (.aV false [.cmp .le (.loc 2) (.lit (.int 4)),.cmp .eq (.loc 2) (.lit (.int 6)),.cmp .eq (.loc 2) (.lit (.int 7))])]
noncomputable def oJ:List Str:=ss ["kt","k","sort"]
noncomputable abbrev oK:List S:=[.ite (.cmp .isin (.loc 1) (.lit (.tab 1))) [.ret (.call 13 [.loc 1,.loc 2])] [],.ret (.own (.loc 0) 36 [.tup [.lit (.int 2),.loc 1,.loc 2]])]
noncomputable def nh:List Str:=ss ["kt","tid","args"]
noncomputable abbrev oL:List S:=[.ite (.cmp .isin (.loc 1) (.lit (.tab 1))) [.ret (.call 13 [.loc 1,.loc 2])] [],.ret (.own (.loc 0) 36 [.tup [.lit (.int 3),.loc 1,.loc 2]])]
noncomputable def nj:List Str:=ss ["kt","tid","args"]
noncomputable abbrev qK:List S:=[.ite (.cmp .gt (.len (.loc 1)) (.lit (.int 0))) [.stuck] [],.ret (.sub (.lit (.tab 1)) (.loc 0))]
noncomputable def oM:List Str:=ss ["tid","args"]
noncomputable abbrev oN:List S:=[.ret (.own (.loc 0) 36 [.tup [.lit (.int 4),.loc 1]])]
noncomputable def ny:List Str:=ss ["kt","elem"]
noncomputable abbrev oO:List S:=[.ret (.own (.loc 0) 36 [.tup [.lit (.int 8),.loc 1]])]
noncomputable def nz:List Str:=ss ["kt","k"]
noncomputable abbrev qL:List S:=[.ret (.sub (.own (.loc 0) 35 [.loc 1]) (.lit (.int 0)))]
noncomputable def oP:List Str:=ss ["kt","k"]
noncomputable abbrev uS:List S:=[.asg (.one 2) (.own (.loc 0) 35 [.loc 1]),.ite (.aV false [.cmp .eq (.sub (.loc 2) (.lit (.int 0))) (.lit (.int 4)),.cmp .eq (.sub (.loc 2) (.lit (.int 0))) (.lit (.int 5)),.cmp .eq (.sub (.loc 2) (.lit (.int 0))) (.lit (.int 9)),.cmp .eq (.sub (.loc 2) (.lit (.int 0))) (.lit (.int 8))]) [.ret (.sub (.loc 2) (.lit (.int 1)))] [],.ret (.lit (.int (-1)))]
noncomputable def sP:List Str:=ss ["kt","k","row"]
noncomputable abbrev xX:List S:=[.asg (.one 2) (.own (.loc 0) 35 [.loc 1]),.ite (.aV false [.cmp .eq (.sub (.loc 2) (.lit (.int 0))) (.lit (.int 2)),.cmp .eq (.sub (.loc 2) (.lit (.int 0))) (.lit (.int 3))]) [.ret (.sub (.loc 2) (.lit (.int 1)))] [],.ite (.cmp .eq (.sub (.loc 2) (.lit (.int 0))) (.lit (.int 1))) [.ret (.jj (.lit (.tab 0)) (.loc 1) (.lit (.int 0)))] [],.ite (.cmp .eq (.sub (.loc 2) (.lit (.int 0))) (.lit (.int 4))) [.ret (.lit (.int 5))] [],.ret (.lit (.int 0))]
noncomputable def uT:List Str:=ss ["kt","k","row"]
noncomputable abbrev uU:List S:=[.asg (.one 2) (.own (.loc 0) 35 [.loc 1]),.ite (.aV false [.cmp .eq (.sub (.loc 2) (.lit (.int 0))) (.lit (.int 2)),.cmp .eq (.sub (.loc 2) (.lit (.int 0))) (.lit (.int 3))]) [.ret (.sub (.loc 2) (.lit (.int 2)))] [],.ret (.tup [])]
noncomputable def sQ:List Str:=ss ["kt","k","row"]
noncomputable abbrev sR:List S:=[.ite (.aV true [.cmp .le (.lit (.int 1)) (.loc 1),.cmp .le (.loc 1) (.lit (.int 11))]) [.ret (.lit (.bool true))] [],.ret (.cmp .eq (.sub (.own (.loc 0) 35 [.loc 1]) (.lit (.int 0))) (.lit (.int 3)))]
noncomputable def qM:List Str:=ss ["kt","k"]
noncomputable abbrev xY:List S:=[.ite (.aV false [.cmp .eq (.loc 1) (.lit (.int 12)),.cmp .eq (.loc 1) (.lit (.int 13)),.cmp .eq (.loc 1) (.lit (.int 14))]) [.ret (.lit (.bool true))] [],.asg (.one 2) (.sub (.own (.loc 0) 35 [.loc 1]) (.lit (.int 0))),.ret (.aV false [.cmp .eq (.loc 2) (.lit (.int 2)),.cmp .eq (.loc 2) (.lit (.int 4)),.cmp .eq (.loc 2) (.lit (.int 8))])]
noncomputable def uV:List Str:=ss ["kt","k","sort"]
noncomputable abbrev xZ:List S:=[.asg (.one 2) (.sub (.own (.loc 0) 35 [.loc 1]) (.lit (.int 0))),.ret (.aV false [.cmp .eq (.loc 2) (.lit (.int 6)),.cmp .eq (.loc 2) (.lit (.int 7))])]
noncomputable def uW:List Str:=ss ["kt","k","sort"]
noncomputable abbrev qN:List S:=[.ite (.cmp .eH (.loc 0) (.lit (.tab 2))) [.stuck] [],.ret (.sub (.lit (.tab 2)) (.loc 0))]
noncomputable def oQ:List Str:=ss ["k"]
noncomputable abbrev qO:List S:=[.ret (.aV true [.cmp .le (.lit (.int 2)) (.loc 0),.cmp .le (.loc 0) (.lit (.int 10))])]
noncomputable def oR:List Str:=ss ["k"]
noncomputable abbrev uE:List S:=[.asg (.one 2) (.lst []),.asg (.one 3) (.dict 0 [.loc 1,.lit (.int 1)]),.asg (.one 4) (.rev (.toList (.jj (.attr (.loc 0) 37) (.loc 1) (.tup [])))),.uC 1000000 (.loc 4) [.asg (.one 5) (.pop (.loc 4)),.ite (.cmp .isin (.loc 5) (.loc 3)) [.cont] [],.bZ (.loc 3) (.loc 5) (.lit (.int 1)),.expr (.app (.loc 2) (.loc 5)),.ite (.call 22 [.attr (.loc 0) 38,.loc 5]) [.gN (.one 6) (.rev (.toList (.jj (.attr (.loc 0) 37) (.loc 5) (.tup [])))) [.expr (.app (.loc 4) (.loc 6))]] []],.ret (.loc 2)]
noncomputable def lO:List Str:=ss ["host","k","out","seen","todo","b","inner"]
noncomputable abbrev qf:List S:=[.ite (.stuck) [.ret (.lit (.bool true))] [],.gN (.one 2) (.call 25 [.loc 0,.loc 1]) [.ite (.call 22 [.attr (.loc 0) 38,.loc 2]) [.ite (.stuck) [.ret (.lit (.bool true))] []] [.ite (.aV true [.call 20 [.attr (.loc 0) 38,.loc 2],.not_ (.call 34 [.attr (.loc 0) 38,.loc 2])]) [.ret (.lit (.bool true))] []]],.ret (.lit (.bool false))]
noncomputable def i3:List Str:=ss ["host","k","b"]
noncomputable abbrev sS:List S:=[.ite (.stuck) [.ret (.lit (.bool true))] [],.gN (.one 2) (.call 25 [.loc 0,.loc 1]) [.ite (.aV true [.call 21 [.attr (.loc 0) 38,.loc 2],.not_ (.call 28 [.loc 0,.loc 2]),.cmp .eH (.call 18 [.attr (.loc 0) 38,.loc 2]) (.lit (V.tup [.int 1,.int 2,.int 3]))]) [.ret (.lit (.bool true))] []],.ret (.lit (.bool false))]
noncomputable def kM:List Str:=ss ["host","k","b"]
noncomputable abbrev sU:List S:=[.ret (.aV true [.cmp .eq (.call 16 [.attr (.loc 0) 38,.loc 1]) (.lit (.int 2)),.cmp .eq (.own (.loc 0) 39 [.loc 1]) (.lit (.int 3))])]
noncomputable def qP:List Str:=ss ["host","k"]
noncomputable abbrev oS:List S:=[.asg (.one 2) (.lst []),.asg (.one 3) (.dict 0 []),.uC 1000000 (.aV true [.cmp .ne (.loc 1) (.lit (.int (-1))),.cmp .eH (.loc 1) (.loc 3)]) [.bZ (.loc 3) (.loc 1) (.lit (.int 1)),.expr (.app (.loc 2) (.loc 1)),.asg (.one 1) (.own (.loc 0) 40 [.loc 1])],.ret (.loc 2)]
noncomputable def nB:List Str:=ss ["host","k","out","seen"]
noncomputable abbrev oT:List S:=[.asg (.one 2) (.lst []),.asg (.one 3) (.dict 0 []),.gN (.one 4) (.call 29 [.loc 0,.loc 1]) [.expr (.call 31 [.loc 0,.own (.loc 0) 41 [.loc 4],.loc 2,.loc 3])],.ret (.loc 2)]
noncomputable def nC:List Str:=ss ["host","k","found","seen","at"]
noncomputable abbrev oU:List S:=[.asg (.one 4) (.rev (.toList (.loc 1))),.uC 1000000 (.loc 4) [.asg (.one 5) (.pop (.loc 4)),.ite (.cmp .isin (.loc 5) (.loc 3)) [.cont] [],.bZ (.loc 3) (.loc 5) (.lit (.int 1)),.expr (.app (.loc 2) (.loc 5)),.gN (.one 6) (.rev (.toList (.own (.loc 0) 41 [.loc 5]))) [.expr (.app (.loc 4) (.loc 6))]]]
noncomputable def nD:List Str:=ss ["host","kinds","found","seen","todo","k","inner"]
noncomputable abbrev jD:List S:=[.ret (.aV false [.call 21 [.attr (.loc 0) 38,.loc 1],.aV true [.call 22 [.attr (.loc 0) 38,.loc 1],.call 27 [.loc 0,.loc 1]]])]
noncomputable def i5:List Str:=ss ["host","k"]
noncomputable abbrev uX:List S:=[.asg (.one 2) (.own (.loc 0) 42 [.loc 1]),.ret (.jj (.lit (.tab 3)) (.loc 2) (.loc 2))]
noncomputable def sV:List Str:=ss ["host","k","under"]
noncomputable abbrev nE:List S:=[.ret (.aV true [.cmp .eq (.call 16 [.loc 0,.loc 1]) (.lit (.int 3)),.cmp .eq (.call 18 [.loc 0,.loc 1]) (.lit (.int 8))])]
noncomputable def lP:List Str:=ss ["kt","k"]
noncomputable abbrev kN:List S:=[.setAttr (.loc 0) 38 (.loc 1),.setAttr (.loc 0) 43 (.dict 0 []),.setAttr (.loc 0) 44 (.dict 0 []),.setAttr (.loc 0) 45 (.dict 0 []),.setAttr (.loc 0) 46 (.dict 0 []),.setAttr (.loc 0) 47 (.dict 0 []),.setAttr (.loc 0) 37 (.dict 0 []),.setAttr (.loc 0) 48 (.dict 0 []),.setAttr (.loc 0) 49 (.dict 0 [])]
noncomputable def jE:List Str:=ss ["self","kt"]
noncomputable abbrev kO:List S:=[.ite (.aV false [.call 22 [.attr (.loc 0) 38,.loc 1],.cmp .eq (.call 16 [.attr (.loc 0) 38,.loc 1]) (.lit (.int 8))]) [.ret (.call 44 [.loc 0,.loc 1])] [],.ret (.call 42 [.loc 0,.loc 1])]
noncomputable def jF:List Str:=ss ["self","k"]
noncomputable abbrev gQ:List S:=[.ite (.aV false [.call 22 [.attr (.loc 0) 38,.loc 1],.cmp .eq (.call 16 [.attr (.loc 0) 38,.loc 1]) (.lit (.int 8))]) [.ret (.call 45 [.loc 0,.loc 1])] [],.ret (.jj (.attr (.loc 0) 44) (.loc 1) (.tup []))]
noncomputable def gw:List Str:=ss ["self","k"]
noncomputable abbrev kP:List S:=[.ret (.call 43 [.loc 0,.loc 1])]
noncomputable def jG:List Str:=ss ["self","k"]
noncomputable abbrev hY:List S:=[.ret (.jj (.attr (.loc 0) 46) (.loc 1) (.tup []))]
noncomputable def gR:List Str:=ss ["self","tid"]
noncomputable abbrev jH:List S:=[.ret (.jj (.attr (.loc 0) 47) (.loc 1) (.loc 1))]
noncomputable def i7:List Str:=ss ["self","k"]
noncomputable abbrev n5:List S:=[.expr (.call 0 [.lit (.int 0)])]
noncomputable def hZ:List Str:=ss ["self","k"]
noncomputable abbrev oV:List S:=[.ite (.cmp .isin (.loc 1) (.attr (.loc 0) 43)) [.ret (.sub (.attr (.loc 0) 43) (.loc 1))] [],.asg (.one 2) (.attr (.loc 0) 38),.asg (.one 3) (.call 16 [.loc 2,.loc 1]),.ite (.cmp .eq (.loc 1) (.lit (.int 12))) [.ret (.lit (.int (-1)))] [],.ite (.cmp .eq (.loc 1) (.lit (.int 13))) [.ret (.lit (.int 12))] [],.ite (.cmp .eq (.loc 3) (.lit (.int 4))) [.ret (.call 11 [.loc 2,.lit (.int 5),.tup []])] [],.ite (.call 20 [.loc 2,.loc 1]) [.ret (.call 11 [.loc 2,.ite (.cmp .eq (.call 43 [.loc 0,.loc 1]) (.lit (.int 5))) (.lit (.int 3)) (.lit (.int 2)),.tup []])] [],.ite (.aV false [.cmp .ne (.loc 3) (.lit (.int 2)),.cmp .eq (.call 43 [.loc 0,.loc 1]) (.lit (.int 3))]) [.ret (.lit (.int (-1)))] [],.ite (.cmp .eq (.call 18 [.loc 2,.loc 1]) (.lit (.int 3))) [.ret (.call 11 [.loc 2,.lit (.int 2),.tup []])] [],.ite (.aV true [.cmp .eq (.call 43 [.loc 0,.loc 1]) (.lit (.int 4)),.cmp .ne (.call 18 [.loc 2,.loc 1]) (.lit (.int 6))]) [.ret (.call 11 [.loc 2,.lit (.int 6),.tup []])] [],.ret (.lit (.int 12))]
noncomputable def nF:List Str:=ss ["host","k","kt","sort"]
noncomputable abbrev oW:List S:=[.ite (.call 22 [.attr (.loc 0) 38,.loc 1]) [.ret (.lit (.int 0))] [],.asg (.one 2) (.call 18 [.attr (.loc 0) 38,.loc 1]),.ite (.cmp .isin (.loc 2) (.attr (.loc 0) 45)) [.ret (.sub (.attr (.loc 0) 45) (.loc 2))] [],.ite (.call 20 [.attr (.loc 0) 38,.loc 1]) [.ret (.ite (.cmp .isin (.loc 1) (.attr (.loc 0) 47)) (.lit (.int 5)) (.lit (.int 2)))] [],.ret (.ite (.loc 2) (.lit (.int 1)) (.lit (.int 0)))]
noncomputable def nG:List Str:=ss ["host","k","tid"]
noncomputable abbrev oY:List S:=[.asg (.one 2) (.attr (.loc 0) 38),.ite (.cmp .eq (.call 16 [.loc 2,.loc 1]) (.lit (.int 8))) [.ret (.own (.loc 0) 40 [.call 17 [.loc 2,.loc 1]])] [],.asg (.one 3) (.ite (.call 26 [.loc 0,.loc 1]) (.call 11 [.loc 2,.lit (.int 2),.tup []]) (.lit (.int 12))),.gN (.one 4) (.call 25 [.loc 0,.loc 1]) [.ite (.call 20 [.loc 2,.loc 4]) [.ret (.own (.loc 0) 40 [.loc 4])] [],.ite (.aV true [.call 21 [.loc 2,.loc 4],.not_ (.call 28 [.loc 0,.loc 4]),.call 47 [.loc 0,.loc 4,.loc 3]]) [.asg (.one 3) (.loc 4)] []],.ret (.loc 3)]
noncomputable def nH:List Str:=ss ["host","k","kt","best","b"]
noncomputable abbrev lQ:List S:=[.asg (.one 2) (.attr (.loc 0) 38),.ite (.cmp .eq (.call 16 [.loc 2,.loc 1]) (.lit (.int 8))) [.ret (.own (.loc 0) 41 [.call 17 [.loc 2,.loc 1]])] [],.ret (.jv (.comp (.loc 3) 3 (.call 25 [.loc 0,.loc 1]) [.call 28 [.loc 0,.loc 3]]))]
noncomputable def kQ:List Str:=ss ["host","k","kt","b"]
noncomputable abbrev qQ:List S:=[.setAttr (.loc 0) 50 (.loc 1),.setAttr (.loc 0) 51 (.lst []),.setAttr (.loc 0) 52 (.dict 2 []),.setAttr (.loc 0) 53 (.dict 2 [])]
noncomputable def oZ:List Str:=ss ["self","strict"]
noncomputable abbrev qg:List S:=[.ret (.call 49 [.loc 0,.loc 1,.loc 2,.lit (.int 0)])]
noncomputable def i8:List Str:=ss ["host","s","t"]
noncomputable abbrev ig:List S:=[.ret (.call 49 [.loc 0,.loc 1,.loc 2,.lit (.int 1)])]
noncomputable def gT:List Str:=ss ["host","s","t"]
noncomputable abbrev jI:List S:=[.asg (.one 4) (.new 2 [.loc 3]),.ite (.call 52 [.loc 0,.loc 1,.loc 2,.loc 4]) [.ret (.lit (.bool true))] [],.expr (.call 50 [.loc 0,.loc 4]),.ret (.cmp .isin (.tup [.loc 1,.loc 2]) (.attr (.loc 4) 53))]
noncomputable def i9:List Str:=ss ["host","s","t","strict","book"]
noncomputable abbrev nI:List S:=[.asg (.one 2) (.lit (.int 0)),.uC 1000000 (.cmp .lt (.loc 2) (.len (.attr (.loc 1) 51))) [.asg (.one 3) (.sub (.attr (.loc 1) 51) (.loc 2)),.aug 2 .add (.lit (.int 1)),.ite (.aV true [.cmp .eH (.loc 3) (.attr (.loc 1) 53),.call 51 [.loc 0,.loc 3,.loc 1]]) [.bZ (.attr (.loc 1) 53) (.loc 3) (.lit (.int 1)),.asg (.one 2) (.lit (.int 0))] []]]
noncomputable def lR:List Str:=ss ["host","book","at","pair"]
noncomputable abbrev qR:List S:=[.zJ [.ret (.call 53 [.loc 0,.sub (.loc 1) (.lit (.int 0)),.sub (.loc 1) (.lit (.int 1)),.loc 2])]]
noncomputable def o4:List Str:=ss ["host","pair","book"]
noncomputable abbrev kR:List S:=[.ite (.cmp .eq (.loc 1) (.loc 2)) [.ret (.lit (.bool true))] [],.asg (.one 4) (.attr (.loc 0) 38),.ite (.aV false [.not_ (.call 21 [.loc 4,.loc 1]),.not_ (.call 21 [.loc 4,.loc 2])]) [.ret (.lit (.bool false))] [],.ite (.cmp .eq (.loc 1) (.lit (.int 14))) [.ret (.lit (.bool true))] [],.ite (.aV false [.cmp .eq (.loc 2) (.lit (.int 14)),.cmp .eq (.call 16 [.loc 4,.loc 2]) (.lit (.int 8))]) [.ret (.lit (.bool false))] [],.ite (.cmp .eq (.loc 2) (.lit (.int 12))) [.ret (.lit (.bool true))] [],.ite (.aV true [.cmp .eH (.tup [.loc 1,.loc 2]) (.attr (.loc 3) 52),.cmp .lt (.len (.attr (.loc 3) 51)) (.lit (.int 512))]) [.bZ (.attr (.loc 3) 52) (.tup [.loc 1,.loc 2]) (.lit (.int 1)),.expr (.app (.attr (.loc 3) 51) (.tup [.loc 1,.loc 2]))] [],.ret (.cmp .isin (.tup [.loc 1,.loc 2]) (.attr (.loc 3) 53))]
noncomputable def jJ:List Str:=ss ["host","s","t","book","kt"]
noncomputable abbrev nJ:List S:=[.asg (.one 4) (.attr (.loc 0) 38),.ite (.aV true [.cmp .eq (.call 16 [.loc 4,.loc 1]) (.lit (.int 4)),.cmp .eq (.call 16 [.loc 4,.loc 2]) (.lit (.int 4))]) [.ret (.call 57 [.loc 0,.call 17 [.loc 4,.loc 1],.call 17 [.loc 4,.loc 2],.loc 3])] [],.ite (.aV true [.cmp .eq (.call 16 [.loc 4,.loc 1]) (.lit (.int 8)),.call 22 [.loc 4,.call 17 [.loc 4,.loc 1]]]) [.ret (.call 54 [.loc 0,.call 17 [.loc 4,.loc 1],.loc 2,.loc 3])] [],.gN (.one 5) (.call 29 [.loc 0,.loc 1]) [.ite (.aV false [.cmp .eq (.loc 5) (.loc 2),.call 55 [.loc 0,.loc 5,.loc 2,.loc 3]]) [.ret (.lit (.bool true))] []],.ite (.call 28 [.loc 0,.loc 2]) [.gN (.one 5) (.call 30 [.loc 0,.loc 1]) [.ite (.aV false [.cmp .eq (.loc 5) (.loc 2),.call 55 [.loc 0,.loc 5,.loc 2,.loc 3]]) [.ret (.lit (.bool true))] []]] [],.ret (.lit (.bool false))]
noncomputable def lS:List Str:=ss ["host","s","t","book","kt","at"]
noncomputable abbrev sW:List S:=[.ite (.aV true [.cmp .eq (.loc 2) (.call 11 [.attr (.loc 0) 38,.lit (.int 2),.tup []]),.call 26 [.loc 0,.loc 1]]) [.ret (.lit (.bool true))] [],.gN (.one 4) (.call 25 [.loc 0,.loc 1]) [.asg (.one 5) (.ite (.call 20 [.attr (.loc 0) 38,.loc 4]) (.call 15 [.attr (.loc 0) 38,.loc 4]) (.loc 4)),.ite (.aV true [.not_ (.call 22 [.attr (.loc 0) 38,.loc 4]),.call 52 [.loc 0,.loc 5,.loc 2,.loc 3]]) [.ret (.lit (.bool true))] []],.ret (.lit (.bool false))]
noncomputable def kT:List Str:=ss ["host","k","t","book","b","at"]
noncomputable abbrev o5:List S:=[.ite (.cmp .eq (.loc 1) (.loc 2)) [.ret (.lit (.bool true))] [],.asg (.one 4) (.attr (.loc 0) 38),.ite (.aV false [.cmp .ne (.call 16 [.loc 4,.loc 1]) (.lit (.int 2)),.cmp .ne (.call 16 [.loc 4,.loc 2]) (.lit (.int 2)),.cmp .ne (.call 18 [.loc 4,.loc 1]) (.call 18 [.loc 4,.loc 2])]) [.ret (.lit (.bool false))] [],.asg (.one 5) (.own (.loc 0) 54 [.call 18 [.loc 4,.loc 1]]),.asg (.one 6) (.call 19 [.loc 4,.loc 1]),.asg (.one 7) (.call 19 [.loc 4,.loc 2]),.ite (.cmp .ne (.len (.loc 6)) (.len (.loc 7))) [.ret (.lit (.bool false))] [],.rH 8 (.len (.loc 6)) [.ite (.cmp .ne (.sub (.loc 6) (.loc 8)) (.sub (.loc 7) (.loc 8))) [.asg (.one 9) (.ite (.cmp .lt (.loc 8) (.len (.loc 5))) (.sub (.loc 5) (.loc 8)) (.lit (.int 0))),.asg (.one 10) (.ite (.cmp .eq (.loc 9) (.lit (.int 2))) (.tup [.sub (.loc 7) (.loc 8),.sub (.loc 6) (.loc 8)]) (.tup [.sub (.loc 6) (.loc 8),.sub (.loc 7) (.loc 8)])),.ite (.aV false [.cmp .eq (.loc 9) (.lit (.int 0)),.not_ (.call 56 [.loc 0,.sub (.loc 10) (.lit (.int 0)),.sub (.loc 10) (.lit (.int 1)),.loc 3])]) [.ret (.lit (.bool false))] []] []],.ret (.lit (.bool true))]
noncomputable def nK:List Str:=ss ["host","s","t","book","kt","ways","have","want","i","way","pair"]
noncomputable abbrev lT:List S:=[.asg (.one 4) (.attr (.loc 0) 38),.ite (.not_ (.call 32 [.loc 0,.loc 1])) [.ret (.lit (.bool false))] [],.ite (.call 22 [.loc 4,.loc 2]) [.ret (.aV false [.cmp .eq (.loc 1) (.loc 2),.aV true [.call 22 [.loc 4,.loc 1],.cmp .isin (.loc 2) (.call 25 [.loc 0,.loc 1])]])] [],.ret (.aV true [.call 21 [.loc 4,.loc 2],.call 52 [.loc 0,.ite (.call 22 [.loc 4,.loc 1]) (.call 15 [.loc 4,.loc 1]) (.loc 1),.loc 2,.loc 3]])]
noncomputable def kU:List Str:=ss ["host","s","t","book","kt"]
noncomputable abbrev lU:List S:=[.ite (.cmp .eq (.loc 1) (.loc 2)) [.ret (.lit (.bool true))] [],.ite (.call 32 [.loc 0,.loc 1]) [.ret (.call 56 [.loc 0,.loc 1,.loc 2,.loc 3])] [],.ret (.aV true [.not_ (.attr (.loc 3) 50),.cmp .eq (.call 33 [.loc 0,.loc 1]) (.call 33 [.loc 0,.loc 2])])]
noncomputable def kW:List Str:=ss ["host","s","t","book"]
noncomputable abbrev jK:List S:=[.ite (.call 34 [.loc 0,.loc 1]) [.ret (.sub (.call 19 [.loc 0,.loc 1]) (.lit (.int 0)))] [],.ret (.lit (.int (-1)))]
noncomputable def ja:List Str:=ss ["kt","k"]
noncomputable abbrev o6:List S:=[.asg (.one 2) (.call 58 [.loc 0,.loc 1]),.ret (.ite (.cmp .lt (.loc 2) (.lit (.int 0))) (.loc 1) (.loc 2))]
noncomputable def nL:List Str:=ss ["kt","k","held_kind"]
noncomputable abbrev uY:List S:=[.ret (.aV true [.cmp .eq (.call 16 [.attr (.loc 0) 38,.loc 1]) (.lit (.int 3)),.cmp .ne (.own (.loc 0) 42 [.loc 1]) (.loc 1)])]
noncomputable def sX:List Str:=ss ["host","k"]
noncomputable abbrev o7:List S:=[.ite (.cmp .zI (.loc 1) (.lit .none)) [.ret (.lit (.bool false))] [],.ite (.aV true [.cmp .eq (.loc 0) (.lit (.int 7)),.cmp .isin (.loc 2) (.lit (V.tup [.int 3,.int 4,.int 5,.int 6,.int 8,.int 10]))]) [.asg (.many [3,4]) (.call 23 [.loc 2]),.ret (.aV true [.cmp .le (.loc 3) (.loc 1),.cmp .le (.loc 1) (.loc 4)])] [],.ret (.aV true [.cmp .eq (.loc 0) (.lit (.int 9)),.cmp .eq (.loc 2) (.lit (.int 10)),.cmp .ge (.loc 1) (.lit (.int 0))])]
noncomputable def nM:List Str:=ss ["s","const","t","low","high"]
noncomputable abbrev nN:List S:=[.asg (.one 4) (.attr (.loc 0) 38),.ite (.aV false [.cmp .eq (.loc 1) (.loc 3),.cmp .eq (.loc 1) (.lit (.int 15)),.cmp .eq (.loc 3) (.lit (.int 15))]) [.ret (.tup [.lit (.int 1),.lit (.int 10)])] [],.ite (.aV false [.cmp .eq (.loc 1) (.lit (.int 0)),.cmp .eq (.loc 3) (.lit (.int 0)),.cmp .eq (.loc 3) (.lit (.int 14))]) [.ret (.lit (V.tup [.int 0,.int 0]))] [],.ite (.cmp .eq (.loc 1) (.lit (.int 14))) [.ret (.call 63 [.loc 0,.loc 3])] [],.asg (.one 5) (.call 58 [.loc 4,.loc 3]),.ite (.cmp .ge (.loc 5) (.lit (.int 0))) [.ret (.call 64 [.loc 0,.loc 1,.loc 2,.loc 5])] [],.ite (.aV true [.call 24 [.loc 1],.call 65 [.loc 0,.loc 1,.loc 2,.loc 3]]) [.ret (.tup [.lit (.int 2),.lit (.int 1)])] [],.ite (.call 22 [.loc 4,.loc 1]) [.ret (.call 66 [.loc 0,.loc 1,.loc 3])] [],.ite (.not_ (.call 21 [.loc 4,.loc 3])) [.ret (.lit (V.tup [.int 0,.int 0]))] [],.ite (.call 20 [.loc 4,.loc 1]) [.asg (.one 6) (.call 59 [.loc 4,.loc 1]),.ite (.call 48 [.loc 0,.ite (.call 21 [.loc 4,.loc 6]) (.loc 6) (.call 15 [.loc 4,.loc 6]),.loc 3]) [.ret (.tup [.lit (.int 2),.lit (.int 4)])] [],.ret (.lit (V.tup [.int 0,.int 0]))] [],.ite (.call 48 [.loc 0,.loc 1,.loc 3]) [.ret (.tup [.lit (.int 2),.lit (.int 2)])] [],.ret (.lit (V.tup [.int 0,.int 0]))]
noncomputable def lV:List Str:=ss ["host","s","const","t","kt","held_kind","thing"]
noncomputable abbrev kY:List S:=[.asg (.one 2) (.attr (.loc 0) 38),.ite (.aV false [.call 21 [.loc 2,.loc 1],.call 34 [.loc 2,.loc 1]]) [.ret (.tup [.lit (.int 2),.lit (.int 8)])] [],.ite (.aV true [.call 22 [.loc 2,.loc 1],.call 27 [.loc 0,.loc 1]]) [.ret (.tup [.lit (.int 2),.lit (.int 8)])] [],.ret (.lit (V.tup [.int 0,.int 0]))]
noncomputable def jL:List Str:=ss ["host","t","kt"]
noncomputable abbrev kZ:List S:=[.asg (.one 4) (.call 58 [.attr (.loc 0) 38,.loc 1]),.ite (.cmp .ge (.loc 4) (.lit (.int 0))) [.ite (.cmp .ne (.sub (.call 62 [.loc 0,.loc 4,.lit .none,.loc 3]) (.lit (.int 0))) (.lit (.int 0))) [.ret (.tup [.lit (.int 2),.lit (.int 9)])] [],.ret (.lit (V.tup [.int 0,.int 0]))] [],.ite (.aV true [.not_ (.call 21 [.attr (.loc 0) 38,.loc 1]),.cmp .ne (.sub (.call 62 [.loc 0,.loc 1,.loc 2,.loc 3]) (.lit (.int 0))) (.lit (.int 0))]) [.ret (.tup [.lit (.int 2),.lit (.int 6)])] [],.ret (.lit (V.tup [.int 0,.int 0]))]
noncomputable def jM:List Str:=ss ["host","s","const","held_kind","have"]
noncomputable abbrev jb:List S:=[.ite (.aV false [.cmp .isin (.loc 3) (.jj (.lit (.tab 4)) (.loc 1) (.tup [])),.call 61 [.loc 1,.loc 2,.loc 3]]) [.ret (.lit (.bool true))] [],.ret (.aV true [.cmp .ne (.loc 1) (.lit (.int 2)),.cmp .sH (.loc 2) (.lit .none),.cmp .eq (.loc 2) (.lit (.int 0)),.call 60 [.loc 0,.loc 3]])]
noncomputable def iK:List Str:=ss ["host","s","const","t"]
noncomputable abbrev qh:List S:=[.asg (.one 3) (.attr (.loc 0) 38),.ite (.call 22 [.loc 3,.loc 2]) [.ret (.ite (.cmp .isin (.loc 2) (.call 25 [.loc 0,.loc 1])) (.tup [.lit (.int 2),.lit (.int 4)]) (.lit (V.tup [.int 0,.int 0])))] [],.ite (.aV false [.cmp .eq (.loc 2) (.lit (.int 12)),.aV true [.call 21 [.loc 3,.loc 2],.call 48 [.loc 0,.call 15 [.loc 3,.loc 1],.loc 2]]]) [.ret (.tup [.lit (.int 2),.lit (.int 4)])] [],.ret (.lit (V.tup [.int 0,.int 0]))]
noncomputable def jc:List Str:=ss ["host","s","t","kt"]
noncomputable abbrev DF:List S:=[.ret (.cmp .ne (.sub (.call 62 [.loc 0,.loc 1,.loc 2,.loc 3]) (.lit (.int 0))) (.lit (.int 0)))]
noncomputable def Bi:List Str:=ss ["host","s","const","t"]
noncomputable abbrev nO:List S:=[.ite (.cmp .eq (.loc 3) (.loc 4)) [.ret (.lit (.int 0))] [],.ite (.cmp .eq (.loc 1) (.loc 3)) [.ret (.lit (.int (-1)))] [],.ite (.cmp .eq (.loc 1) (.loc 4)) [.ret (.lit (.int 1))] [],.asg (.one 5) (.call 67 [.loc 0,.loc 3,.lit .none,.loc 4]),.asg (.one 6) (.call 67 [.loc 0,.loc 4,.lit .none,.loc 3]),.ite (.cmp .ne (.loc 5) (.loc 6)) [.ret (.ite (.loc 5) (.lit (.int (-1))) (.lit (.int 1)))] [],.asg (.one 7) (.call 59 [.attr (.loc 0) 38,.loc 3]),.asg (.one 8) (.call 59 [.attr (.loc 0) 38,.loc 4]),.ite (.cmp .isin (.loc 8) (.jj (.lit (.tab 5)) (.loc 7) (.tup []))) [.ret (.lit (.int (-1)))] [],.ite (.cmp .isin (.loc 7) (.jj (.lit (.tab 5)) (.loc 8) (.tup []))) [.ret (.lit (.int 1))] [],.ret (.lit (.int 0))]
noncomputable def lW:List Str:=ss ["host","s","const","t1","t2","forth","back","a","b"]
noncomputable abbrev sY:List S:=[.bZ (.loc 0) (.lit (.str 55)) (.bin .mod (.bin .add (.bin .mul (.sub (.loc 0) (.lit (.str 55))) (.lit (.int 3461))) (.lit (.int 50021))) (.lit (.int 1000003))),.ret (.bin .mod (.bin .fdiv (.sub (.loc 0) (.lit (.str 55))) (.lit (.int 8))) (.loc 1))]
noncomputable def qS:List Str:=ss ["w","n"]
noncomputable abbrev sZ:List S:=[.asg (.many [2,3]) (.loc 1),.ite (.cmp .isin (.loc 2) (.sub (.loc 0) (.lit (.str 56)))) [.ret (.sub (.sub (.loc 0) (.lit (.str 56))) (.loc 2))] [],.ite (.aV false [.cmp .eq (.loc 2) (.lit (.str 13)),.cmp .eq (.loc 2) (.lit (.str 15))]) [.ret (.lst [.tup [.ite (.cmp .eq (.loc 2) (.lit (.str 13))) (.lit (.str 9)) (.lit (.str 8)),.tup []]])] [],.ite (.aV false [.cmp .eq (.loc 2) (.lit (.str 14)),.aV true [.cmp .eq (.loc 2) (.lit (.str 12)),.sub (.loc 0) (.lit (.str 57))]]) [.ret (.lst [.tup [.lit (.str 0),.tup []],.tup [.lit (.str 11),.pre (.loc 3) 1]])] [],.ret (.lst [.tup [.ite (.aV false [.cmp .eq (.loc 2) (.lit (.str 11)),.cmp .eq (.loc 2) (.lit (.str 12))]) (.lit (.str 0)) (.lit (.str 7)),.tup []]])]
noncomputable def qT:List Str:=ss ["w","x","name","args"]
noncomputable abbrev s8:List S:=[.ret (.aV false [.cmp .eq (.loc 1) (.loc 2),.aV true [.cmp .isin (.sub (.loc 1) (.lit (.int 0))) (.lit (V.tup [.str 0,.str 1,.str 2,.str 3,.str 4,.str 5,.str 6,.str 7,.str 8,.str 9,.str 10,.str 11,.str 12,.str 13,.str 14,.str 15])),.cmp .isin (.sub (.loc 2) (.lit (.int 0))) (.lit (V.tup [.str 0,.str 1,.str 2,.str 3,.str 4,.str 5,.str 6,.str 7,.str 8,.str 9,.str 10,.str 11,.str 12,.str 13,.str 14,.str 15])),.call 73 [.loc 0,.loc 1,.loc 2]]])]
noncomputable def qU:List Str:=ss ["w","x","y"]
noncomputable abbrev qV:List S:=[.asg (.one 3) (.jj (.sub (.loc 0) (.lit (.str 58))) (.sub (.loc 1) (.lit (.int 0))) (.tup [.lit (.int 0),.lit (.int 0)])),.rH 4 (.len (.sub (.loc 1) (.lit (.int 1)))) [.asg (.one 5) (.sub (.sub (.loc 1) (.lit (.int 1))) (.loc 4)),.asg (.one 6) (.sub (.sub (.loc 2) (.lit (.int 1))) (.loc 4)),.ite (.aV true [.cmp .ne (.loc 5) (.loc 6),.cmp .eq (.sub (.loc 3) (.loc 4)) (.lit (.int 0))]) [.ret (.lit (.bool false))] [],.ite (.not_ (.ite (.cmp .eq (.sub (.loc 3) (.loc 4)) (.lit (.int 2))) (.call 71 [.loc 0,.loc 6,.loc 5]) (.call 71 [.loc 0,.loc 5,.loc 6]))) [.ret (.lit (.bool false))] []],.ret (.lit (.bool true))]
noncomputable def o8:List Str:=ss ["w","x","y","ways","j","a","b"]
noncomputable abbrev yb:List S:=[.ite (.cmp .eq (.loc 1) (.loc 2)) [.ret (.lit (.bool true))] [],.ite (.aV true [.cmp .eq (.sub (.loc 1) (.lit (.int 0))) (.lit (.str 15)),.cmp .eq (.sub (.loc 2) (.lit (.int 0))) (.lit (.str 15))]) [.ret (.call 71 [.loc 0,.sub (.sub (.loc 1) (.lit (.int 1))) (.lit (.int 0)),.sub (.sub (.loc 2) (.lit (.int 1))) (.lit (.int 0))])] [],.ite (.aV true [.cmp .eq (.sub (.loc 1) (.lit (.int 0))) (.sub (.loc 2) (.lit (.int 0))),.cmp .gt (.len (.sub (.loc 1) (.lit (.int 1)))) (.lit (.int 0)),.call 72 [.loc 0,.loc 1,.loc 2]]) [.ret (.lit (.bool true))] [],.gN (.one 3) (.call 70 [.loc 0,.loc 1]) [.ite (.call 73 [.loc 0,.loc 3,.loc 2]) [.ret (.lit (.bool true))] []],.ret (.lit (.bool false))]
noncomputable def uZ:List Str:=ss ["w","x","y","z"]
noncomputable abbrev s9:List S:=[.asg (.one 1) (.dict 1 [.lit (.str 24),.tup [.lit (.int 0),.lit (.int 65535)],.lit (.str 23),.tup [.lit (.int (-128)),.lit (.int 127)],.lit (.str 22),.tup [.lit (.int 0),.lit (.int 255)],.lit (.str 20),.tup [.lit (.int (-32768)),.lit (.int 32767)],.lit (.str 21),.tup [.lit (.int 0),.lit (.int 65535)],.lit (.str 16),.tup [.lit (.int (-2147483648)),.lit (.int 2147483647)],.lit (.str 17),.tup [.lit (.int 0),.lit (.int 4294967295)],.lit (.str 18),.tup [.lit (.int (-9223372036854775808)),.lit (.int 9223372036854775807)],.lit (.str 19),.tup [.lit (.int 0),.lit (.int 18446744073709551615)]]),.ret (.jj (.loc 1) (.loc 0) (.tup []))]
noncomputable def qW:List Str:=ss ["name","spans"]
noncomputable abbrev o9:List S:=[.asg (.one 3) (.call 74 [.loc 0]),.asg (.one 4) (.call 74 [.loc 2]),.ite (.cmp .eq (.len (.loc 3)) (.lit (.int 0))) [.ret (.lit (.bool false))] [],.ite (.cmp .eq (.loc 2) (.lit (.str 29))) [.ret (.aV true [.cmp .ne (.loc 0) (.lit (.str 24)),.cmp .eq (.loc 1) (.lit (.int 0))])] [],.ite (.aV false [.cmp .eq (.len (.loc 4)) (.lit (.int 0)),.cmp .eq (.loc 2) (.lit (.str 24))]) [.ret (.lit (.bool false))] [],.ite (.aV true [.cmp .le (.sub (.loc 4) (.lit (.int 0))) (.sub (.loc 3) (.lit (.int 0))),.cmp .le (.sub (.loc 3) (.lit (.int 1))) (.sub (.loc 4) (.lit (.int 1)))]) [.ret (.lit (.bool true))] [],.ite (.aV false [.cmp .zI (.loc 1) (.lit .none),.aV true [.cmp .ne (.loc 0) (.lit (.str 16)),.aV false [.cmp .ne (.loc 0) (.lit (.str 18)),.cmp .ne (.loc 2) (.lit (.str 19))]]]) [.ret (.lit (.bool false))] [],.ret (.aV true [.cmp .le (.sub (.loc 4) (.lit (.int 0))) (.loc 1),.cmp .le (.loc 1) (.sub (.loc 4) (.lit (.int 1)))])]
noncomputable def nP:List Str:=ss ["s","const","t","have","want"]
noncomputable abbrev u0:List S:=[.asg (.one 4) (.tup [.lit (.int 0),.lit (.int 0)]),.ite (.aV false [.cmp .eq (.loc 1) (.loc 3),.cmp .eq (.sub (.loc 1) (.lit (.int 0))) (.lit (.str 27)),.cmp .eq (.sub (.loc 3) (.lit (.int 0))) (.lit (.str 27))]) [.ret (.tup [.lit (.int 1),.lit (.int 10)])] [],.ite (.cmp .eq (.sub (.loc 1) (.lit (.int 0))) (.lit (.str 59))) [.ret (.loc 4)] [],.ite (.cmp .eq (.sub (.loc 1) (.lit (.int 0))) (.lit (.str 60))) [.ret (.ite (.aV false [.cmp .isin (.sub (.loc 3) (.lit (.int 0))) (.lit (V.tup [.str 0,.str 1,.str 2,.str 3,.str 4,.str 5,.str 6,.str 7,.str 8,.str 9,.str 10,.str 11,.str 12,.str 13,.str 14,.str 15])),.cmp .eq (.sub (.loc 3) (.lit (.int 0))) (.lit (.str 61))]) (.tup [.lit (.int 2),.lit (.int 8)]) (.loc 4))] [],.ite (.aV true [.cmp .eq (.sub (.loc 3) (.lit (.int 0))) (.lit (.str 61)),.cmp .eq (.sub (.loc 1) (.lit (.int 0))) (.lit (.str 61))]) [.ret (.ite (.cmp .ne (.call 76 [.loc 0,.sub (.sub (.loc 1) (.lit (.int 1))) (.lit (.int 0)),.lit .none,.sub (.sub (.loc 3) (.lit (.int 1))) (.lit (.int 0))]) (.loc 4)) (.tup [.lit (.int 2),.lit (.int 9)]) (.loc 4))] [],.ite (.cmp .eq (.sub (.loc 3) (.lit (.int 0))) (.lit (.str 61))) [.ret (.ite (.cmp .ne (.call 76 [.loc 0,.loc 1,.loc 2,.sub (.sub (.loc 3) (.lit (.int 1))) (.lit (.int 0))]) (.loc 4)) (.tup [.lit (.int 2),.lit (.int 6)]) (.loc 4))] [],.ite (.call 75 [.sub (.loc 1) (.lit (.int 0)),.loc 2,.sub (.loc 3) (.lit (.int 0))]) [.ret (.tup [.lit (.int 2),.lit (.int 1)])] [],.ite (.aV true [.cmp .isin (.sub (.loc 3) (.lit (.int 0))) (.lit (V.tup [.str 0,.str 1,.str 2,.str 3,.str 4,.str 5,.str 6,.str 7,.str 8,.str 9,.str 10,.str 11,.str 12,.str 13,.str 14,.str 15])),.call 73 [.loc 0,.ite (.cmp .eq (.sub (.loc 1) (.lit (.int 0))) (.lit (.str 61))) (.sub (.sub (.loc 1) (.lit (.int 1))) (.lit (.int 0))) (.loc 1),.loc 3]]) [.ret (.tup [.lit (.int 2),.ite (.cmp .isin (.sub (.loc 1) (.lit (.int 0))) (.lit (V.tup [.str 0,.str 1,.str 2,.str 3,.str 4,.str 5,.str 6,.str 7,.str 8,.str 9,.str 10,.str 11,.str 12,.str 13,.str 14,.str 15]))) (.lit (.int 2)) (.lit (.int 4))])] [],.ret (.loc 4)]
noncomputable def tc:List Str:=ss ["w","s","const","t","none"]
noncomputable abbrev qX:List S:=[.asg (.one 2) (.call 74 [.ite (.cmp .eq (.sub (.loc 0) (.lit (.int 0))) (.lit (.str 61))) (.sub (.sub (.sub (.loc 0) (.lit (.int 1))) (.lit (.int 0))) (.lit (.int 0))) (.sub (.loc 0) (.lit (.int 0)))]),.asg (.one 3) (.ite (.cmp .eq (.sub (.loc 1) (.lit (.int 0))) (.lit (.str 61))) (.sub (.sub (.sub (.loc 1) (.lit (.int 1))) (.lit (.int 0))) (.lit (.int 0))) (.sub (.loc 1) (.lit (.int 0)))),.asg (.one 4) (.call 74 [.loc 3]),.ite (.aV false [.cmp .eq (.len (.loc 2)) (.lit (.int 0)),.cmp .eq (.len (.loc 4)) (.lit (.int 0)),.cmp .eq (.loc 3) (.lit (.str 24))]) [.ret (.lit (.bool false))] [],.ret (.aV true [.cmp .lt (.sub (.loc 2) (.lit (.int 0))) (.lit (.int 0)),.cmp .eq (.sub (.loc 4) (.lit (.int 0))) (.lit (.int 0)),.cmp .lt (.sub (.loc 2) (.lit (.int 1))) (.sub (.loc 4) (.lit (.int 1)))])]
noncomputable def pd:List Str:=ss ["x","y","have","name","want"]
noncomputable abbrev ph:List S:=[.ite (.cmp .eq (.loc 2) (.loc 3)) [.ret (.lit (.int 0))] [],.ite (.aV false [.cmp .eq (.loc 1) (.loc 2),.cmp .eq (.loc 1) (.loc 3)]) [.ret (.ite (.cmp .eq (.loc 1) (.loc 2)) (.lit (.int (-1))) (.lit (.int 1)))] [],.asg (.one 4) (.cmp .ne (.sub (.call 76 [.loc 0,.loc 2,.lit .none,.loc 3]) (.lit (.int 0))) (.lit (.int 0))),.asg (.one 5) (.cmp .ne (.sub (.call 76 [.loc 0,.loc 3,.lit .none,.loc 2]) (.lit (.int 0))) (.lit (.int 0))),.ite (.cmp .ne (.loc 4) (.loc 5)) [.ret (.ite (.loc 4) (.lit (.int (-1))) (.lit (.int 1)))] [],.ite (.call 77 [.loc 2,.loc 3]) [.ret (.lit (.int (-1)))] [],.ret (.ite (.call 77 [.loc 3,.loc 2]) (.lit (.int 1)) (.lit (.int 0)))]
noncomputable def nQ:List Str:=ss ["w","s","x","y","forth","back"]
noncomputable abbrev tf:List S:=[.asg (.many [3,4]) (.loc 2),.ite (.cmp .isin (.loc 3) (.sub (.loc 0) (.lit (.str 62)))) [.ret (.sub (.sub (.loc 0) (.lit (.str 62))) (.loc 3))] [],.asg (.one 5) (.jv (.comp (.call 79 [.loc 0,.loc 1,.loc 7]) 7 (.loc 4) [])),.ite (.cmp .eq (.loc 3) (.lit (.str 15))) [.ret (.call 14 [.attr (.loc 1) 38,.sub (.loc 5) (.lit (.int 0))])] [],.ite (.cmp .eq (.loc 3) (.lit (.str 61))) [.ret (.call 12 [.attr (.loc 1) 38,.lit (.int 8),.loc 5])] [],.asg (.one 6) (.call 11 [.attr (.loc 1) 38,.sub (.dict 1 [.lit (.str 11),.lit (.int 72),.lit (.str 12),.lit (.int 73),.lit (.str 13),.lit (.int 74),.lit (.str 14),.lit (.int 75)]) (.loc 3),.loc 5]),.bZ (.attr (.loc 1) 44) (.loc 6) (.jv (.comp (.call 79 [.loc 0,.loc 1,.loc 8]) 8 (.call 70 [.loc 0,.loc 2]) [.cmp .eq (.sub (.loc 8) (.lit (.int 0))) (.lit (.str 11))])),.ret (.loc 6)]
noncomputable def qY:List Str:=ss ["w","host","x","name","args","inner","k","arg","z"]
noncomputable abbrev tg:List S:=[.asg (.many [1,2,3]) (.tup [.tup [.lit (.str 3),.tup []],.tup [.lit (.str 4),.tup []],.tup [.lit (.str 0),.tup []]]),.ret (.sub (.tup [.lst [.tup [.lit (.str 2),.tup []]],.lst [],.lst [.tup [.lit (.str 11),.tup [.loc 1]]],.lst [.tup [.lit (.str 11),.tup [.loc 2]]],.lst [.tup [.lit (.str 12),.tup [.loc 2,.loc 1]]],.lst [.tup [.lit (.str 11),.tup [.loc 3]]],.lst [.tup [.lit (.str 12),.tup [.tup [.lit (.str 1),.tup []],.loc 3]]],.lst [.tup [.lit (.str 11),.tup [.tup [.lit (.str 28),.tup []]]],.tup [.lit (.str 2),.tup []]]]) (.bin .mod (.loc 0) (.lit (.int 8))))]
noncomputable def qZ:List Str:=ss ["n","root","between","thing"]
noncomputable abbrev rg:List S:=[.asg (.one 1) (.new 0 []),.asg (.one 2) (.new 1 [.loc 1]),.asg (.one 3) (.dict 1 [.lit (.str 11),.tup [.sub (.tup [.lit (.int 1),.lit (.int 2),.lit (.int 0)]) (.bin .mod (.loc 0) (.lit (.int 3)))]]),.bZ (.loc 3) (.lit (.str 12)) (.tup [.sub (.tup [.lit (.int 1),.lit (.int 2),.lit (.int 0)]) (.bin .mod (.bin .fdiv (.loc 0) (.lit (.int 3))) (.lit (.int 3))),.sub (.tup [.lit (.int 2),.lit (.int 1),.lit (.int 0)]) (.bin .mod (.bin .fdiv (.loc 0) (.lit (.int 9))) (.lit (.int 3)))]),.bZ (.loc 3) (.lit (.str 13)) (.tup [.sub (.tup [.lit (.int 2),.lit (.int 1),.lit (.int 0)]) (.bin .mod (.bin .fdiv (.loc 0) (.lit (.int 27))) (.lit (.int 3))),.sub (.tup [.lit (.int 1),.lit (.int 2),.lit (.int 0)]) (.bin .mod (.bin .fdiv (.loc 0) (.lit (.int 81))) (.lit (.int 3)))]),.asg (.one 4) (.lst [.tup [.lit (.str 0),.tup []]]),.asg (.one 5) (.dict 1 [.lit (.str 0),.lst [],.lit (.str 1),.loc 4,.lit (.str 2),.loc 4,.lit (.str 7),.loc 4,.lit (.str 8),.loc 4,.lit (.str 9),.loc 4,.lit (.str 10),.lst [.tup [.lit (.str 7),.tup []]],.lit (.str 29),.lst [.tup [.lit (.str 10),.tup []]],.lit (.str 3),.bin .add (.loc 4) (.call 80 [.bin .fdiv (.loc 0) (.lit (.int 2))]),.lit (.str 4),.bin .add (.lst [.tup [.lit (.str 3),.tup []]]) (.call 80 [.bin .fdiv (.loc 0) (.lit (.int 16))]),.lit (.str 5),.bin .add (.lst [.tup [.lit (.str 4),.tup []]]) (.call 80 [.bin .add (.bin .fdiv (.loc 0) (.lit (.int 128))) (.lit (.int 2))]),.lit (.str 6),.bin .add (.loc 4) (.call 80 [.bin .add (.bin .fdiv (.loc 0) (.lit (.int 1024))) (.lit (.int 4))]),.lit (.str 28),.bin .add (.lst [.tup [.lit (.str 7),.tup []]]) (.call 80 [.bin .fdiv (.loc 0) (.lit (.int 8192))]),.lit (.str 16),.bin .add (.lst [.tup [.lit (.str 7),.tup []]]) (.call 80 [.bin .add (.bin .fdiv (.loc 0) (.lit (.int 65536))) (.lit (.int 1))])]),.asg (.one 6) (.dict 1 [.lit (.str 59),.lit (.int 0),.lit (.str 25),.lit (.int 1),.lit (.str 24),.lit (.int 2),.lit (.str 23),.lit (.int 3),.lit (.str 22),.lit (.int 4),.lit (.str 20),.lit (.int 5),.lit (.str 21),.lit (.int 6),.lit (.str 16),.lit (.int 7),.lit (.str 17),.lit (.int 8),.lit (.str 18),.lit (.int 9),.lit (.str 19),.lit (.int 10),.lit (.str 26),.lit (.int 11),.lit (.str 0),.lit (.int 12),.lit (.str 1),.lit (.int 13),.lit (.str 60),.lit (.int 14),.lit (.str 27),.lit (.int 15)]),.gN (.many [7,8]) (.tup [.tup [.lit (.str 7),.lit (.int 2)],.tup [.lit (.str 10),.lit (.int 3)],.tup [.lit (.str 8),.lit (.int 5)],.tup [.lit (.str 9),.lit (.int 6)],.tup [.lit (.str 3),.lit (.int 64)],.tup [.lit (.str 4),.lit (.int 65)],.tup [.lit (.str 5),.lit (.int 66)],.tup [.lit (.str 6),.lit (.int 67)],.tup [.lit (.str 2),.lit (.int 68)]]) [.bZ (.loc 6) (.loc 7) (.call 11 [.loc 1,.loc 8,.tup []])],.bZ (.loc 6) (.lit (.str 28)) (.call 12 [.loc 1,.lit (.int 70),.tup []]),.bZ (.loc 6) (.lit (.str 29)) (.call 12 [.loc 1,.lit (.int 71),.tup []]),.asg (.one 9) (.dict 1 [.lit (.str 56),.loc 5,.lit (.str 58),.loc 3,.lit (.str 62),.loc 6,.lit (.str 55),.loc 0]),.bZ (.loc 9) (.lit (.str 57)) (.aV true [.cmp .isin (.sub (.sub (.loc 3) (.lit (.str 12))) (.lit (.int 0))) (.tup [.lit (.int 0),.sub (.sub (.loc 3) (.lit (.str 11))) (.lit (.int 0))]),.cmp .eq (.bin .mod (.bin .fdiv (.loc 0) (.lit (.int 243))) (.lit (.int 2))) (.lit (.int 0))]),.setAttr (.loc 2) 43 (.dict 0 [.sub (.loc 6) (.lit (.str 4)),.sub (.loc 6) (.lit (.str 3)),.sub (.loc 6) (.lit (.str 5)),.sub (.loc 6) (.lit (.str 4))]),.setAttr (.loc 2) 45 (.dict 0 [.lit (.int 68),.lit (.int 3),.lit (.int 70),.lit (.int 2),.lit (.int 71),.lit (.int 5),.lit (.int 72),.lit (.int 3),.lit (.int 73),.lit (.int 3),.lit (.int 74),.lit (.int 4)]),.setAttr (.loc 2) 46 (.dict 0 [.lit (.int 72),.sub (.loc 3) (.lit (.str 11)),.lit (.int 73),.sub (.loc 3) (.lit (.str 12)),.lit (.int 74),.sub (.loc 3) (.lit (.str 13))]),.setAttr (.loc 2) 47 (.dict 0 [.sub (.loc 6) (.lit (.str 29)),.sub (.tup [.lit (.int 7),.lit (.int 4),.lit (.int 9)]) (.bin .mod (.bin .fdiv (.loc 0) (.lit (.int 5))) (.lit (.int 3)))]),.gN (.one 7) (.tup [.lit (.str 3),.lit (.str 4),.lit (.str 5),.lit (.str 6),.lit (.str 28),.lit (.str 16)]) [.bZ (.attr (.loc 2) 44) (.sub (.loc 6) (.loc 7)) (.jv (.comp (.call 79 [.loc 9,.loc 2,.loc 10]) 10 (.sub (.loc 5) (.loc 7)) [.cmp .isin (.sub (.loc 10) (.lit (.int 0))) (.tup [.lit (.str 2),.lit (.str 11),.lit (.str 12)])]))],.ret (.tup [.loc 9,.loc 2])]
noncomputable def pj:List Str:=ss ["n","kt","host","ways","thing","over","plain","name","tid","w","x"]
noncomputable abbrev th:List S:=[.ret (.tup [.sub (.lit (V.tup [.str 0,.str 1,.str 2,.str 3,.str 4,.str 5,.str 6,.str 7,.str 8,.str 9,.str 10,.str 11,.str 12,.str 13,.str 14,.str 15])) (.call 69 [.loc 0,.lit (.int 11)]),.tup []])]
noncomputable def rh:List Str:=ss ["w"]
noncomputable abbrev rj:List S:=[.asg (.one 1) (.sub (.lit (V.tup [.str 16,.str 17,.str 18,.str 19,.str 20,.str 21,.str 22,.str 23,.str 24,.str 25,.str 26,.str 27,.str 28,.str 29])) (.call 69 [.loc 0,.lit (.int 14)])),.ite (.aV true [.cmp .eq (.call 69 [.loc 0,.lit (.int 3)]) (.lit (.int 0)),.cmp .ne (.loc 1) (.lit (.str 27))]) [.ret (.tup [.lit (.str 61),.tup [.tup [.loc 1,.tup []]]])] [],.ret (.tup [.loc 1,.tup []])]
noncomputable def pk:List Str:=ss ["w","name"]
noncomputable abbrev tj:List S:=[.asg (.one 2) (.call 69 [.loc 0,.lit (.int 9)]),.ite (.aV false [.cmp .lt (.loc 2) (.lit (.int 3)),.aV true [.cmp .eq (.loc 1) (.lit (.int 0)),.cmp .lt (.loc 2) (.lit (.int 7))]]) [.ret (.call 82 [.loc 0])] [],.ite (.aV false [.cmp .eq (.loc 2) (.lit (.int 3)),.cmp .eq (.loc 1) (.lit (.int 0))]) [.ret (.call 83 [.loc 0])] [],.ite (.cmp .lt (.loc 2) (.lit (.int 6))) [.ret (.tup [.sub (.tup [.lit (.str 15),.lit (.str 11)]) (.bin .sub (.loc 2) (.lit (.int 4))),.tup [.call 84 [.loc 0,.bin .sub (.loc 1) (.lit (.int 1))]]])] [],.ite (.cmp .eq (.loc 2) (.lit (.int 8))) [.ret (.tup [.lit (.str 14),.tup [.call 84 [.loc 0,.bin .sub (.loc 1) (.lit (.int 1))]]])] [],.asg (.one 3) (.call 84 [.loc 0,.bin .sub (.loc 1) (.lit (.int 1))]),.ret (.tup [.sub (.tup [.lit (.str 12),.lit (.str 13)]) (.bin .sub (.loc 2) (.lit (.int 6))),.tup [.loc 3,.call 84 [.loc 0,.bin .sub (.loc 1) (.lit (.int 1))]]])]
noncomputable def rm:List Str:=ss ["w","deep","n","first"]
noncomputable abbrev tp:List S:=[.asg (.many [2,3]) (.loc 1),.ite (.aV false [.cmp .eq (.loc 2) (.lit (.str 61)),.cmp .eq (.len (.loc 3)) (.lit (.int 0))]) [.asg (.one 4) (.call 69 [.loc 0,.lit (.int 4)]),.ite (.cmp .eq (.loc 4) (.lit (.int 0))) [.ret (.loc 1)] [],.ite (.cmp .eq (.loc 4) (.lit (.int 1))) [.ret (.sub (.bin .add (.jj (.sub (.loc 0) (.lit (.str 56))) (.loc 2) (.lst [])) (.lst [.loc 1])) (.lit (.int 0)))] [],.ret (.ite (.cmp .eq (.loc 4) (.lit (.int 2))) (.tup [.sub (.tup [.lit (.str 3),.lit (.str 4),.lit (.str 5)]) (.call 69 [.loc 0,.lit (.int 3)]),.tup []]) (.call 82 [.loc 0]))] [],.asg (.one 5) (.call 85 [.loc 0,.sub (.loc 3) (.lit (.int 0))]),.ite (.aV true [.aV false [.cmp .eq (.loc 2) (.lit (.str 14)),.cmp .eq (.loc 2) (.lit (.str 12))],.cmp .eq (.call 69 [.loc 0,.lit (.int 6)]) (.lit (.int 0))]) [.ret (.tup [.lit (.str 11),.tup [.loc 5]])] [],.ite (.cmp .eq (.len (.loc 3)) (.lit (.int 1))) [.ret (.tup [.loc 2,.tup [.loc 5]])] [],.ret (.tup [.loc 2,.tup [.loc 5,.call 85 [.loc 0,.sub (.loc 3) (.lit (.int 1))]]])]
noncomputable def rn:List Str:=ss ["w","x","name","args","n","first"]
noncomputable abbrev u3:List S:=[.asg (.one 1) (.call 69 [.loc 0,.lit (.int 4)]),.asg (.one 2) (.ite (.cmp .eq (.loc 1) (.lit (.int 3))) (.call 83 [.loc 0]) (.call 84 [.loc 0,.lit (.int 2)])),.asg (.one 3) (.ite (.cmp .eq (.loc 1) (.lit (.int 3))) (.call 83 [.loc 0]) (.ite (.cmp .eq (.loc 1) (.lit (.int 2))) (.call 84 [.loc 0,.lit (.int 2)]) (.call 85 [.loc 0,.loc 2]))),.asg (.one 4) (.call 69 [.loc 0,.lit (.int 8)]),.asg (.one 5) (.sub (.tup [.tup [.lit (.str 60),.tup []],.loc 2,.loc 3,.tup [.lit (.str 16),.tup []],.tup [.lit (.str 18),.tup []],.tup [.lit (.str 59),.tup []],.tup [.lit (.str 27),.tup []],.tup [.lit (.str 26),.tup []]]) (.loc 4)),.ite (.aV false [.cmp .eq (.loc 4) (.lit (.int 5)),.cmp .eq (.loc 4) (.lit (.int 6))]) [.asg (.one 5) (.ite (.cmp .eq (.loc 1) (.lit (.int 3))) (.call 83 [.loc 0]) (.call 85 [.loc 0,.loc 2]))] [],.ite (.aV true [.cmp .eq (.loc 4) (.lit (.int 7)),.call 69 [.loc 0,.lit (.int 2)]]) [.asg (.one 5) (.sub (.tup [.tup [.lit (.str 59),.tup []],.tup [.lit (.str 27),.tup []]]) (.call 69 [.loc 0,.lit (.int 2)]))] [],.asg (.one 6) (.ite (.cmp .isin (.sub (.loc 5) (.lit (.int 0))) (.tup [.lit (.str 16),.lit (.str 18)])) (.sub (.tup [.lit .none,.lit (.int 0),.lit (.int 7),.lit (.int (-1)),.lit (.int 300),.lit (.int 70000)]) (.call 69 [.loc 0,.lit (.int 6)])) (.lit .none)),.ret (.tup [.loc 5,.loc 6,.loc 2,.loc 3])]
noncomputable def tq:List Str:=ss ["w","sort","x","y","n","s","const"]
noncomputable abbrev u4:List S:=[.asg (.many [6,7,8]) (.tup [.call 79 [.loc 0,.loc 1,.loc 2],.call 79 [.loc 0,.loc 1,.loc 4],.call 79 [.loc 0,.loc 1,.loc 5]]),.ite (.cmp .ne (.call 68 [.loc 1,.loc 6,.loc 3,.loc 7,.loc 8]) (.call 78 [.loc 0,.loc 2,.loc 4,.loc 5])) [.ret (.lit (.bool false))] [],.ite (.cmp .ne (.call 68 [.loc 1,.loc 6,.loc 3,.loc 8,.loc 7]) (.call 78 [.loc 0,.loc 2,.loc 5,.loc 4])) [.ret (.lit (.bool false))] [],.ite (.cmp .ne (.call 62 [.loc 1,.loc 6,.loc 3,.loc 7]) (.call 76 [.loc 0,.loc 2,.loc 3,.loc 4])) [.ret (.lit (.bool false))] [],.ret (.aV true [.cmp .eq (.call 62 [.loc 1,.loc 7,.lit .none,.loc 8]) (.call 76 [.loc 0,.loc 4,.lit .none,.loc 5]),.cmp .eq (.call 62 [.loc 1,.loc 8,.lit .none,.loc 7]) (.call 76 [.loc 0,.loc 5,.lit .none,.loc 4])])]
noncomputable def tC:List Str:=ss ["w","host","s","const","x","y","k","a","b"]
noncomputable abbrev Jh:List S:=[.asg (.one 2) (.comp (.bin .mod (.loc 1) (.lit (.int 1000003))) 1 (.pre (.loc 0) 8) []),.asg (.one 1) (.lit (.int 0)),.gN (.one 3) (.loc 2) [.asg (.one 1) (.bin .mod (.bin .add (.bin .mul (.loc 1) (.lit (.int 31))) (.loc 3)) (.lit (.int 1000003)))],.asg (.many [4,5]) (.call 81 [.loc 1]),.asg (.many [6,7,8]) (.tup [.tup [.lit (.str 3),.tup []],.tup [.lit (.str 5),.tup []],.tup [.lit (.str 60),.tup []]]),.asg (.one 9) (.lst [.tup [.loc 8,.lit .none,.tup [.lit (.str 13),.tup [.loc 6,.loc 7]],.tup [.lit (.str 13),.tup [.loc 7,.loc 6]]],.tup [.loc 8,.lit .none,.tup [.lit (.str 13),.tup [.loc 6,.loc 6]],.tup [.lit (.str 13),.tup [.loc 7,.loc 7]]],.tup [.loc 8,.lit .none,.tup [.lit (.str 26),.tup []],.tup [.lit (.str 18),.tup []]],.tup [.loc 8,.lit .none,.tup [.lit (.str 27),.tup []],.tup [.lit (.str 61),.tup [.tup [.lit (.str 28),.tup []]]]],.tup [.loc 8,.lit .none,.tup [.lit (.str 15),.tup [.tup [.lit (.str 11),.tup [.loc 7]]]],.tup [.lit (.str 15),.tup [.tup [.lit (.str 11),.tup [.loc 6]]]]]]),.gN (.one 3) (.loc 2) [.bZ (.loc 4) (.lit (.str 55)) (.loc 3),.expr (.app (.loc 9) (.call 86 [.loc 4]))],.gN (.many [10,11,3,12]) (.loc 9) [.ite (.not_ (.call 87 [.loc 4,.loc 5,.loc 10,.loc 11,.loc 3,.loc 12])) [.ret (.lit (.bool false))] []],.ret (.lit (.bool true))]
noncomputable def DG:List Str:=ss ["script","n","nums","x","w","host","root","bottom","none","rows","s","const","y"]
noncomputable def DH:List Om:=[
 ⟨1,Bh.length,J8⟩,
 ⟨1,iY.length,jz⟩,
 ⟨2,jA.length,kK⟩,
 ⟨2,jB.length,kL⟩,
 ⟨1,lM.length,m8⟩,
 ⟨1,oG.length,qI⟩,
 ⟨1,m9.length,oH⟩,
 ⟨2,iZ.length,jC⟩,
 ⟨2,lN.length,nc⟩,
 ⟨2,nf.length,oI⟩,
 ⟨2,oJ.length,qJ⟩,
 ⟨3,nh.length,oK⟩,
 ⟨3,nj.length,oL⟩,
 ⟨2,oM.length,qK⟩,
 ⟨2,ny.length,oN⟩,
 ⟨2,nz.length,oO⟩,
 ⟨2,oP.length,qL⟩,
 ⟨2,sP.length,uS⟩,
 ⟨2,uT.length,xX⟩,
 ⟨2,sQ.length,uU⟩,
 ⟨2,qM.length,sR⟩,
 ⟨2,uV.length,xY⟩,
 ⟨2,uW.length,xZ⟩,
 ⟨1,oQ.length,qN⟩,
 ⟨1,oR.length,qO⟩,
 ⟨2,lO.length,uE⟩,
 ⟨2,i3.length,qf⟩,
 ⟨2,kM.length,sS⟩,
 ⟨2,qP.length,sU⟩,
 ⟨2,nB.length,oS⟩,
 ⟨2,nC.length,oT⟩,
 ⟨4,nD.length,oU⟩,
 ⟨2,i5.length,jD⟩,
 ⟨2,sV.length,uX⟩,
 ⟨2,lP.length,nE⟩,
 ⟨2,jE.length,kN⟩,
 ⟨2,jF.length,kO⟩,
 ⟨2,gw.length,gQ⟩,
 ⟨2,jG.length,kP⟩,
 ⟨2,gR.length,hY⟩,
 ⟨2,i7.length,jH⟩,
 ⟨2,hZ.length,n5⟩,
 ⟨2,nF.length,oV⟩,
 ⟨2,nG.length,oW⟩,
 ⟨2,nH.length,oY⟩,
 ⟨2,kQ.length,lQ⟩,
 ⟨2,oZ.length,qQ⟩,
 ⟨3,i8.length,qg⟩,
 ⟨3,gT.length,ig⟩,
 ⟨4,i9.length,jI⟩,
 ⟨2,lR.length,nI⟩,
 ⟨3,o4.length,qR⟩,
 ⟨4,jJ.length,kR⟩,
 ⟨4,lS.length,nJ⟩,
 ⟨4,kT.length,sW⟩,
 ⟨4,nK.length,o5⟩,
 ⟨4,kU.length,lT⟩,
 ⟨4,kW.length,lU⟩,
 ⟨2,ja.length,jK⟩,
 ⟨2,nL.length,o6⟩,
 ⟨2,sX.length,uY⟩,
 ⟨3,nM.length,o7⟩,
 ⟨4,lV.length,nN⟩,
 ⟨2,jL.length,kY⟩,
 ⟨4,jM.length,kZ⟩,
 ⟨4,iK.length,jb⟩,
 ⟨3,jc.length,qh⟩,
 ⟨4,Bi.length,DF⟩,
 ⟨5,lW.length,nO⟩,
 ⟨2,qS.length,sY⟩,
 ⟨2,qT.length,sZ⟩,
 ⟨3,qU.length,s8⟩,
 ⟨3,o8.length,qV⟩,
 ⟨3,uZ.length,yb⟩,
 ⟨1,qW.length,s9⟩,
 ⟨3,nP.length,o9⟩,
 ⟨4,tc.length,u0⟩,
 ⟨2,pd.length,qX⟩,
 ⟨4,nQ.length,ph⟩,
 ⟨3,qY.length,tf⟩,
 ⟨1,qZ.length,tg⟩,
 ⟨1,pj.length,rg⟩,
 ⟨1,rh.length,th⟩,
 ⟨1,pk.length,rj⟩,
 ⟨2,rm.length,tj⟩,
 ⟨2,rn.length,tp⟩,
 ⟨1,tq.length,u3⟩,
 ⟨6,tC.length,u4⟩,
 ⟨1,DG.length,Jh⟩]
noncomputable def tD:List (Nat×Option Nat×List Str×Nat×Str):=[
 (0,none,Bh,21,.ofString "_wall"),
 (39,some 0,iY,81,.ofString "__init__"),
 (39,some 1,jA,88,.ofString "row"),
 (39,some 2,jB,95,.ofString "put"),
 (40,none,lM,109,.ofString "inner_kinds"),
 (41,none,oG,116,.ofString "row_level"),
 (42,none,m9,123,.ofString "row_length"),
 (43,none,iZ,130,.ofString "check_kind_row"),
 (44,none,lN,137,.ofString "check_named"),
 (45,none,nf,144,.ofString "check_args"),
 (46,none,oJ,151,.ofString "may_stand"),
 (47,none,nh,158,.ofString "class_kind"),
 (48,none,nj,165,.ofString "value_kind"),
 (49,none,oM,172,.ofString "prim_kind"),
 (50,none,ny,179,.ofString "array_kind"),
 (51,none,nz,186,.ofString "boxed_kind"),
 (52,none,oP,193,.ofString "kind_sort"),
 (53,none,sP,200,.ofString "elem_of"),
 (54,none,uT,207,.ofString "tid_of"),
 (55,none,sQ,214,.ofString "args_of"),
 (56,none,qM,221,.ofString "is_value"),
 (57,none,uV,228,.ofString "is_ref"),
 (58,none,uW,235,.ofString "is_var"),
 (59,none,oQ,242,.ofString "int_range"),
 (60,none,oR,249,.ofString "is_number"),
 (80,none,lO,258,.ofString "bound_kinds"),
 (81,none,i3,265,.ofString "param_is_value"),
 (82,none,kM,272,.ofString "surely_class"),
 (83,none,qP,279,.ofString "is_iface"),
 (84,none,nB,286,.ofString "base_chain"),
 (85,none,nC,293,.ofString "all_ifaces"),
 (86,none,nD,300,.ofString "add_ifaces"),
 (87,none,i5,307,.ofString "stands_for_ref"),
 (88,none,sV,314,.ofString "reduced"),
 (89,none,lP,321,.ofString "is_nullable"),
 (91,some 0,jE,335,.ofString "__init__"),
 (91,some 1,jF,342,.ofString "base"),
 (91,some 2,gw,349,.ofString "ifaces_at"),
 (91,some 3,jG,356,.ofString "sort"),
 (91,some 4,gR,363,.ofString "variance"),
 (91,some 5,i7,370,.ofString "under"),
 (91,some 6,hZ,377,.ofString "has_new"),
 (92,none,nF,391,.ofString "plain_base"),
 (93,none,nG,398,.ofString "plain_sort"),
 (94,none,nH,405,.ofString "loose_base"),
 (95,none,kQ,410,.ofString "loose_ifaces"),
 (97,some 0,oZ,424,.ofString "__init__"),
 (98,none,i8,438,.ofString "ref_assignable"),
 (99,none,gT,445,.ofString "source_assignable"),
 (100,none,i9,452,.ofString "assign_settled"),
 (101,none,lR,459,.ofString "settle_book"),
 (102,none,o4,466,.ofString "has_proof"),
 (103,none,jJ,473,.ofString "assign_within"),
 (104,none,lS,480,.ofString "assign_look"),
 (105,none,kT,487,.ofString "param_within"),
 (106,none,nK,494,.ofString "var_within"),
 (107,none,kU,501,.ofString "inner_within"),
 (108,none,kW,508,.ofString "elems_within"),
 (124,none,ja,530,.ofString "nullable_inner"),
 (125,none,nL,537,.ofString "conv_plain"),
 (126,none,sX,544,.ofString "is_enum"),
 (127,none,nM,551,.ofString "const_fits"),
 (128,none,lV,558,.ofString "implicit_of"),
 (129,none,jL,565,.ofString "implicit_null"),
 (130,none,jM,572,.ofString "implicit_wrap"),
 (131,none,iK,579,.ofString "implicit_number"),
 (132,none,jc,586,.ofString "implicit_param"),
 (133,none,Bi,593,.ofString "goes"),
 (134,none,lW,600,.ofString "better_conv"),
 (138,none,qS,609,.ofString "_law_take"),
 (139,none,qT,616,.ofString "_law_over"),
 (140,none,qU,623,.ofString "_law_lies"),
 (141,none,o8,630,.ofString "_law_turns"),
 (142,none,uZ,637,.ofString "_law_is"),
 (143,none,qW,644,.ofString "_law_span"),
 (144,none,nP,651,.ofString "_law_number"),
 (145,none,tc,658,.ofString "_law_way"),
 (146,none,pd,665,.ofString "_law_apart"),
 (147,none,nQ,672,.ofString "_law_better"),
 (148,none,qY,677,.ofString "_law_kind"),
 (149,none,qZ,684,.ofString "_law_face"),
 (150,none,pj,689,.ofString "_law_world"),
 (151,none,rh,696,.ofString "_law_leaf"),
 (152,none,pk,703,.ofString "_law_value"),
 (153,none,rm,710,.ofString "_law_term"),
 (154,none,rn,717,.ofString "_law_near"),
 (155,none,tq,724,.ofString "_law_row"),
 (156,none,tC,731,.ofString "_law_ask"),
 (157,none,DG,736,.ofString "law")]
noncomputable def Oo:List (Str×Nat):=[(.ofString "_wall",0),(.ofString "inner_kinds",4),(.ofString "row_level",5),(.ofString "row_length",6),(.ofString "check_kind_row",7),(.ofString "check_named",8),(.ofString "check_args",9),(.ofString "may_stand",10),(.ofString "class_kind",11),(.ofString "value_kind",12),(.ofString "prim_kind",13),(.ofString "array_kind",14),(.ofString "boxed_kind",15),(.ofString "kind_sort",16),(.ofString "elem_of",17),(.ofString "tid_of",18),(.ofString "args_of",19),(.ofString "is_value",20),(.ofString "is_ref",21),(.ofString "is_var",22),(.ofString "int_range",23),(.ofString "is_number",24),(.ofString "bound_kinds",25),(.ofString "param_is_value",26),(.ofString "surely_class",27),(.ofString "is_iface",28),(.ofString "base_chain",29),(.ofString "all_ifaces",30),(.ofString "add_ifaces",31),(.ofString "stands_for_ref",32),(.ofString "reduced",33),(.ofString "is_nullable",34),(.ofString "plain_base",42),(.ofString "plain_sort",43),(.ofString "loose_base",44),(.ofString "loose_ifaces",45),(.ofString "ref_assignable",47),(.ofString "source_assignable",48),(.ofString "assign_settled",49),(.ofString "settle_book",50),(.ofString "has_proof",51),(.ofString "assign_within",52),(.ofString "assign_look",53),(.ofString "param_within",54),(.ofString "var_within",55),(.ofString "inner_within",56),(.ofString "elems_within",57),(.ofString "nullable_inner",58),(.ofString "conv_plain",59),(.ofString "is_enum",60),(.ofString "const_fits",61),(.ofString "implicit_of",62),(.ofString "implicit_null",63),(.ofString "implicit_wrap",64),(.ofString "implicit_number",65),(.ofString "implicit_param",66),(.ofString "goes",67),(.ofString "better_conv",68),(.ofString "_law_take",69),(.ofString "_law_over",70),(.ofString "_law_lies",71),(.ofString "_law_turns",72),(.ofString "_law_is",73),(.ofString "_law_span",74),(.ofString "_law_number",75),(.ofString "_law_way",76),(.ofString "_law_apart",77),(.ofString "_law_better",78),(.ofString "_law_kind",79),(.ofString "_law_face",80),(.ofString "_law_world",81),(.ofString "_law_leaf",82),(.ofString "_law_value",83),(.ofString "_law_term",84),(.ofString "_law_near",85),(.ofString "_law_row",86),(.ofString "_law_ask",87),(.ofString "law",88)]
noncomputable def Pc:List (Str×V):=[(.ofString "VOID",(V.int (0))),(.ofString "BOOL",(V.int (1))),(.ofString "CHAR",(V.int (2))),(.ofString "I1",(V.int (3))),(.ofString "U1",(V.int (4))),(.ofString "I2",(V.int (5))),(.ofString "U2",(V.int (6))),(.ofString "I4",(V.int (7))),(.ofString "U4",(V.int (8))),(.ofString "I8",(V.int (9))),(.ofString "U8",(V.int (10))),(.ofString "NINT",(V.int (11))),(.ofString "OBJECT",(V.int (12))),(.ofString "STRING",(V.int (13))),(.ofString "NULLK",(V.int (14))),(.ofString "BAD",(V.int (15))),(.ofString "PRIM_END",(V.int (16))),(.ofString "R_PRIM",(V.int (1))),(.ofString "R_CLASS",(V.int (2))),(.ofString "R_VALUE",(V.int (3))),(.ofString "R_ARRAY",(V.int (4))),(.ofString "R_BYREF",(V.int (5))),(.ofString "R_VAR",(V.int (6))),(.ofString "R_MVAR",(V.int (7))),(.ofString "R_BOXED",(V.int (8))),(.ofString "R_ROREF",(V.int (9))),(.ofString "R_FTN",(V.int (10))),(.ofString "R_RAW",(V.int (11))),(.ofString "DEEPEST_KIND",(V.int (24))),(.ofString "HEAVIEST_KIND",(V.int (4096))),(.ofString "PRIM_TID",.tab 0),(.ofString "TID_PRIM",.tab 1),(.ofString "ARRAY_TID",(V.int (5))),(.ofString "INT_RANGES",.tab 2),(.ofString "S_CLASS",(V.int (1))),(.ofString "S_STRUCT",(V.int (2))),(.ofString "S_IFACE",(V.int (3))),(.ofString "S_DELEGATE",(V.int (4))),(.ofString "S_ENUM",(V.int (5))),(.ofString "VA_NONE",(V.int (0))),(.ofString "VA_OUT",(V.int (1))),(.ofString "VA_IN",(V.int (2))),(.ofString "GB_CLASS",(V.int (1))),(.ofString "GB_STRUCT",(V.int (2))),(.ofString "T_OBJECT",(V.int (1))),(.ofString "T_VALUETYPE",(V.int (2))),(.ofString "T_ENUM",(V.int (3))),(.ofString "T_ARRAY",(V.int (5))),(.ofString "T_DELEGATE",(V.int (6))),(.ofString "T_NULLABLE",(V.int (8))),(.ofString "VALUE_ROOTS",(V.tup [.int (1),.int (2),.int (3)])),(.ofString "SIGNED_TWIN",.tab 3),(.ofString "MOST_QUESTIONS",(V.int (512))),(.ofString "CV_NUM",(V.int (1))),(.ofString "CV_REF",(V.int (2))),(.ofString "CV_BOX",(V.int (4))),(.ofString "CV_WRAP",(V.int (6))),(.ofString "CV_NULL",(V.int (8))),(.ofString "CV_LIFT",(V.int (9))),(.ofString "CV_SAME",(V.int (10))),(.ofString "C_NONE",(V.int (0))),(.ofString "C_IDENT",(V.int (1))),(.ofString "C_IMPLICIT",(V.int (2))),(.ofString "NO_WAY",(V.tup [.int (0),.int (0)])),(.ofString "WIDER",.tab 4),(.ofString "SIGNED_OVER",.tab 5),(.ofString "NARROW",(V.tup [.int (3),.int (4),.int (5),.int (6),.int (8),.int (10)])),(.ofString "_law_refs",(V.tup [.str 0,.str 1,.str 2,.str 3,.str 4,.str 5,.str 6,.str 7,.str 8,.str 9,.str 10,.str 11,.str 12,.str 13,.str 14,.str 15])),(.ofString "_law_values",(V.tup [.str 16,.str 17,.str 18,.str 19,.str 20,.str 21,.str 22,.str 23,.str 24,.str 25,.str 26,.str 27,.str 28,.str 29]))]
noncomputable def J9:List (Str×Nat):=[(.ofString "KindTable",0),(.ofString "KindHost",1),(.ofString "Book",2)]
noncomputable def lE:List Nat:=[98,380,427]
noncomputable def vQ:List Nat:=[54,55,56,251,510,518]
noncomputable def fV(n:Nat):Str:=(ML[n]?).getD (PySem.Str.ofString "")
noncomputable def aA(t:Nat):List (V×V):=(Pb[t]?).getD []
noncomputable def rq(c m:Nat):Option Nat:=
 if c=0 then (if m=35 then some 2 else if m=36 then some 3 else none)
 else if c=1 then (if m=40 then some 36 else if m=41 then some 37 else if m=39 then some 38
  else if m=54 then some 39 else if m=42 then some 40 else none)
 else none
noncomputable def pz(c:Nat):Option Nat:=match c with
 | 0=>some 1
 | 1=>some 35
 | 2=>some 46
 | _=>none
noncomputable def aY:Text:=⟨aA,rq,pz,fun f=>DH[f]?⟩
noncomputable def Bj:List Nat:=[30,31,32,33,34,38,43,44,45,46,47,37,48,49,50,51,52,53]
noncomputable def ru(n:Nat):Bool:=Bj.contains n
noncomputable def gU:MB:=⟨fV,Pc,Oo,J9,[35,36,40,41,39,54,42],Bj,ML.length⟩
end
section
open PySem
noncomputable abbrev aX:Program:=PySem.Challenge.pw_xm0337_01
noncomputable def MM(st:Stmt):Option (Str×Arguments×List Stmt×Scope):=if h:st.ctorIdx=0 then Stmt.FunctionDef.elim (motive_2:=fun _=>Option (Str×Arguments×List Stmt×Scope)) st h fun n a b _ _ _ sc _ _ _=>some (n,a,b,sc) else none
noncomputable def Ka(st:Stmt):Option (List Stmt):=if h:st.ctorIdx=2 then Stmt.ClassDef.elim (motive_2:=fun _=>Option (List Stmt)) st h fun _ _ _ b _ _ _ _ _ _ _=>some b else none
noncomputable def vR(i:Nat)(j:Option Nat):Option (Str×Arguments×List Stmt×Scope):=aX.main.body[i]?.bind fun st=>j.elim (MM st) fun j=>(Ka st).bind fun b=>b[j]?.bind MM
noncomputable def Pd(f:Nat):Bool:=tD[f]?.any fun s=>DH[f]?.any fun F=>(vR s.1 s.2.1).any fun d=>d.1==s.2.2.2.2&&DE gU F s.2.2.1 d.2.1 d.2.2.1 d.2.2.2
theorem DI:(List.range DH.length).all Pd=true:=by decide +kernel
end
section
open PySem PySem.W PySem.Calls PyProof.Rows
noncomputable abbrev Mu:=List (Addr×Addr)
noncomputable def Own(μ:Mu)(a:Addr):Prop:=∃ p∈μ,a=p.1∨a=p.2
noncomputable def tE:Nat:=ML.length
mutual
inductive VR(G:Heap)(μ:Mu)(h:Heap):V->Value->Prop
 | none:VR G μ h .none .none
 | bool (b:Bool):VR G μ h (.bool b) (.bool b)
 | int (i:Int) (t:Tok):VR G μ h (.int i) (.int i t)
 | str (n:Nat) (t:Tok) (hn:n<tE):VR G μ h (.str n) (.str (fV n) t)
 | tup {l:List V} {a:Addr} {items:Array Value} (ht:h.IsTuple a items) (hn:¬ Own μ a) (hl:dh G μ h l items.toList):VR G μ h (.tup l) (.ref a)
 | obj {n:Nat} {p:Addr×Addr} (hp:μ[n]?=some p):VR G μ h (.obj n) (.ref p.1)
 | tab {t:Nat} {a:Addr} (ha:vQ[t]?=some a):VR G μ h (.tab t) (.ref a)
 | qF {l:List V} {a:Addr} {items:Array Value} (ht:G.IsList a items) (hl:dh G μ h l items.toList):VR G μ h (.qF l) (.ref a)
inductive dh(G:Heap)(μ:Mu)(h:Heap):List V->List Value->Prop
 | nil:dh G μ h [] []
 | cons {v:V} {mv:Value} {l:List V} {ml:List Value} (hv:VR G μ h v mv) (hl:dh G μ h l ml):dh G μ h (v::l) (mv::ml)
end
noncomputable def QC(G:Heap)(μ:Mu)(h:Heap)(v:V)(mv:Value):Prop:=match v with
 | .none=>mv=.none
 | .bool b=>mv=.bool b
 | .int i=>∃ t,mv=.int i t
 | .str n=>∃ t,n<tE/\mv=.str (fV n) t
 | .tup l=>∃ a items,mv=.ref a/\h.IsTuple a items/\¬ Own μ a/\dh G μ h l items.toList
 | .obj n=>∃ p:Addr×Addr,μ[n]?=some p/\mv=.ref p.1
 | .tab t=>∃ a,vQ[t]?=some a/\mv=.ref a
 | .qF l=>∃ a items,mv=.ref a/\G.IsList a items/\dh G μ h l items.toList
theorem VR.inv{G:Heap}{μ:Mu}{h:Heap}{v:V}{mv:Value}(r:VR G μ h v mv):QC G μ h v mv:=
 VR.rec (motive_1:=fun v mv _=>QC G μ h v mv) (motive_2:=fun _ _ _=>True) rfl (fun _=>rfl) (fun _ t=>⟨t,rfl⟩) (fun _ t hn=>⟨t,hn,rfl⟩) (fun ht hn hl _=>⟨_,_,rfl,ht,hn,hl⟩) (fun hp=>⟨_,hp,rfl⟩) (fun ha=>⟨_,ha,rfl⟩)
  (fun ht hl _=>⟨_,_,rfl,ht,hl⟩) trivial (fun _ _ _ _=>trivial) r
theorem dh.ind{G:Heap}{μ:Mu}{h:Heap}{P:List V->List Value->Prop}(n:P [] [])(c:∀ {v mv l ml},VR G μ h v mv->dh G μ h l ml->P l ml->P (v::l) (mv::ml)){l:List V}{ml:List Value}(r:dh G μ h l ml):P l ml:=
 dh.rec (motive_1:=fun _ _ _=>True) (motive_2:=fun l ml _=>P l ml) trivial (fun _=>trivial) (fun _ _=>trivial) (fun _ _ _=>trivial) (fun _ _ _ _=>trivial) (fun _=>trivial) (fun _=>trivial) (fun _ _ _=>trivial) n (fun hv hl _ ih=>c hv hl ih) r
theorem dh.two{G:Heap}{μ:Mu}{h:Heap}{v:V}{l:List V}{ml:List Value}(r:dh G μ h (v::l) ml){P:List Value->Prop}(k:∀ mv ml,VR G μ h v mv->dh G μ h l ml->P (mv::ml)):P ml:=
 dh.ind (P:=fun m ml=>∀ {P:List Value->Prop},(∀ v l,m=v::l->∀ mv ml,VR G μ h v mv->dh G μ h l ml->P (mv::ml))->m≠[]->P ml) (fun _ q=>absurd rfl q) (fun hv hl _ _ k _=>k _ _ rfl _ _ hv hl) r
  (fun _ _ e mv ml a b=>by have q:=List.cons.inj e;exact k mv ml (q.1▸a) (q.2▸b)) (List.cons_ne_nil _ _)
theorem dh.zero{G:Heap}{μ:Mu}{h:Heap}{ml:List Value}(r:dh G μ h [] ml):ml=[]:=
 dh.ind (P:=fun m ml=>m=[]->ml=[]) (fun _=>rfl) (fun _ _ _ e=>absurd e (List.cons_ne_nil _ _)) r rfl
theorem dh.G6{G:Heap}{μ:Mu}{h:Heap}{l:List V}{ml:List Value}(r:dh G μ h l ml):ml=[]->l=[]:=r.ind (P:=fun l ml=>ml=[]->l=[]) (fun _=>rfl) fun _ _ _ e=>absurd e (List.cons_ne_nil _ _)
theorem dh.u5{G:Heap}{μ:Mu}{h:Heap}{l:List V}{ml:List Value}(r:dh G μ h l ml):∀ {m:Value} {r:List Value},ml=m::r->∃ v l',l=v::l'/\VR G μ h v m/\dh G μ h l' r:=
 r.ind (P:=fun l ml=>∀ {m:Value} {r:List Value},ml=m::r->∃ v l',l=v::l'/\VR G μ h v m/\dh G μ h l' r) (fun e=>absurd e.symm (List.cons_ne_nil _ _)) fun hv hl _ _ _ e=>by
  have q:=List.cons.inj e;exact ⟨_,_,rfl,q.1▸hv,q.2▸hl⟩
theorem dh.mono{G:Heap}{μ μ':Mu}{h h':Heap}(hv:∀ v mv,VR G μ h v mv->VR G μ' h' v mv){l:List V}{ml:List Value}(r:dh G μ h l ml):dh G μ' h' l ml:=r.ind .nil fun a _ b=>.cons (hv _ _ a) b
theorem dh.length{G:Heap}{μ:Mu}{h:Heap}{l:List V}{ml:List Value}(r:dh G μ h l ml):l.length=ml.length:=r.ind (P:=fun l ml=>l.length=ml.length) rfl fun _ _ e=>congrArg (·+1) e
theorem dh.append{G:Heap}{μ:Mu}{h:Heap}{l:List V}{ml:List Value}{l':List V}{Pe:List Value}(r:dh G μ h l ml)(y:dh G μ h l' Pe):dh G μ h (l++l') (ml++Pe):=
 r.ind (P:=fun l ml=>dh G μ h (l++l') (ml++Pe)) y fun hv _ e=>.cons hv e
theorem dh.get{G:Heap}{μ:Mu}{h:Heap}{l:List V}{ml:List Value}(r:dh G μ h l ml):∀ {i:Nat} {v:V},l[i]?=some v->∃ mv,ml[i]?=some mv/\VR G μ h v mv:=
 r.ind (P:=fun l ml=>∀ {i:Nat} {v:V},l[i]?=some v->∃ mv,ml[i]?=some mv/\VR G μ h v mv) (fun e=>fJ e) fun {v mv l ml} hv _ ih i u e=>by
  cases i with
  | zero=>exact ⟨_,rfl,UM e▸hv⟩
  | succ i=>exact ih e
theorem dh.reverse{G:Heap}{μ:Mu}{h:Heap}{l:List V}{ml:List Value}(r:dh G μ h l ml):dh G μ h l.reverse ml.reverse:=
 r.ind (P:=fun l ml=>dh G μ h l.reverse ml.reverse) .nil fun hv _ ih=>by rw[List.reverse_cons,List.reverse_cons];exact ih.append (.cons hv .nil)
theorem dh.take{G:Heap}{μ:Mu}{h:Heap}{l:List V}{ml:List Value}(n:Nat)(r:dh G μ h l ml):dh G μ h (l.take n) (ml.take n):=
 r.ind (P:=fun l ml=>∀ n,dh G μ h (l.take n) (ml.take n)) (fun n=>by cases n<;>exact .nil) (fun hv _ ih n=>by
  cases n with
  | zero=>exact .nil
  | succ n=>exact .cons hv (ih n)) n
theorem dh.dropLast{G:Heap}{μ:Mu}{h:Heap}{l:List V}{ml:List Value}(x:dh G μ h l ml):dh G μ h l.dropLast ml.dropLast:=by
 rw[List.dropLast_eq_take,List.dropLast_eq_take,x.length];exact x.take _
mutual
inductive VE(h:Heap):V->Value->Prop
 | none:VE h .none .none
 | int (i:Int) (t:Tok):VE h (.int i) (.int i t)
 | str (n:Nat) (t:Tok) (hn:n<tE):VE h (.str n) (.str (fV n) t)
 | tup {l:List V} {a:Addr} {items:Array Value} (ht:h.IsTuple a items) (hl:j1 h l items.toList):VE h (.tup l) (.ref a)
inductive j1(h:Heap):List V->List Value->Prop
 | nil:j1 h [] []
 | cons {v:V} {mv:Value} {l:List V} {ml:List Value} (hv:VE h v mv) (hl:j1 h l ml):j1 h (v::l) (mv::ml)
end
theorem j1.ind{h:Heap}{P:List V->List Value->Prop}(n:P [] [])(c:∀ {v mv l ml},VE h v mv->j1 h l ml->P l ml->P (v::l) (mv::ml)){l:List V}{ml:List Value}(r:j1 h l ml):P l ml:=
 j1.rec (motive_1:=fun _ _ _=>True) (motive_2:=fun l ml _=>P l ml) trivial (fun _ _=>trivial) (fun _ _ _=>trivial) (fun _ _ _=>trivial) n (fun hv hl _ ih=>c hv hl ih) r
theorem VE.cs{h:Heap}{P:V->Value->Prop}(n:P .none .none)(i:∀ i t,P (.int i) (.int i t))(s:∀ n t,n<tE->P (.str n) (.str (fV n) t))(t:∀ {l a items},h.IsTuple a items->j1 h l items.toList->P (.tup l) (.ref a)){x:V}{a:Value}(r:VE h x a):P x a:=
 VE.rec (motive_1:=fun x a _=>P x a) (motive_2:=fun _ _ _=>True) n i s (fun ht hl _=>t ht hl) trivial (fun _ _ _ _=>trivial) r
noncomputable def QD(h:Heap)(v:V)(mv:Value):Prop:=match v with
 | .none=>mv=.none
 | .int i=>∃ t,mv=.int i t
 | .str n=>∃ t,n<tE/\mv=.str (fV n) t
 | .tup l=>∃ a items,mv=.ref a/\h.IsTuple a items/\j1 h l items.toList
 | _=>False
theorem VE.inv{h:Heap}{v:V}{mv:Value}(r:VE h v mv):QD h v mv:=
 VE.rec (motive_1:=fun v mv _=>QD h v mv) (motive_2:=fun _ _ _=>True) rfl (fun _ t=>⟨t,rfl⟩) (fun _ t hn=>⟨t,hn,rfl⟩) (fun ht hl _=>⟨_,_,rfl,ht,hl⟩) trivial (fun _ _ _ _=>trivial) r
noncomputable def Kb(h:Heap)(v:V)(mv:Value):Prop:=match mv with
 | .none=>v=.none
 | .int i _=>v=.int i
 | .str x _=>∃ n,n<tE/\v=.str n/\x=fV n
 | .ref a=>∃ l items,v=.tup l/\h.IsTuple a items/\j1 h l items.toList
 | _=>False
theorem VE.val{h:Heap}{v:V}{mv:Value}(r:VE h v mv):Kb h v mv:=
 VE.rec (motive_1:=fun v mv _=>Kb h v mv) (motive_2:=fun _ _ _=>True) rfl (fun _ _=>rfl) (fun n _ hn=>⟨n,hn,rfl,rfl⟩) (fun ht hl _=>⟨_,_,rfl,ht,hl⟩) trivial (fun _ _ _ _=>trivial) r
theorem VE.of{G:Heap}{μ:Mu}{h:Heap}{n:Nat}{v:V}{mv:Value}(r:VR G μ h v mv)(e:plain n v=true):VE h v mv:=
 VR.rec (motive_1:=fun v mv _=>∀ n,plain n v=true->VE h v mv) (motive_2:=fun l ml _=>∀ n,cL n l=true->j1 h l ml) (fun _ _=>.none) (fun _ _ e=>gI e) (fun i t _ _=>.int i t) (fun n t hn _ _=>.str n t hn)
  (fun ht _ _ ih _ e=>.tup ht (aJ e fun _ q=>ih _ q)) (fun _ _ e=>gI e) (fun _ _ e=>gI e) (fun _ _ _ _ e=>gI e) (fun _ _=>.nil) (fun _ _ a b n e=>aJ e fun p q=>.cons (a n p) (b n q)) r n e
theorem j1.of{G:Heap}{μ:Mu}{h:Heap}{n:Nat}{l:List V}{ml:List Value}(r:dh G μ h l ml)(e:cL n l=true):j1 h l ml:=
 r.ind (P:=fun l ml=>cL n l=true->j1 h l ml) (fun _=>.nil) (fun a _ b e=>aJ e fun p q=>.cons (VE.of a p) (b q)) e
structure bu(S:Addr->Prop)(μ:Mu)(h:Heap)(μ':Mu)(h':Heap):Prop where
 pre:∃ ν,μ'=μ++ν
 live:∀ b,(h.get? b).isSome=true->(h'.get? b).isSome=true
 keep:∀ b o,h.get? b=some o->¬ Own μ b->¬ S b->h'.get? b=some o
 fresh:∀ a,Own μ' a->Own μ a∨h.get? a=none
noncomputable abbrev gm:Addr->Prop:=fun _=>False
theorem Own.mono{μ μ':Mu}{a:Addr}(h:∃ ν,μ'=μ++ν)(x:Own μ a):Own μ' a:=
 h.elim fun ν e=>aM x fun p hp q=>⟨p,e▸UP _ hp,q⟩
theorem bu.refl(S:Addr->Prop)(μ:Mu)(h:Heap):bu S μ h μ h:=
 ⟨⟨[],(List.append_nil μ).symm⟩,fun _ e=>e,fun _ _ e _ _=>e,fun _ x=>.inl x⟩
theorem ca{α:Type}{o:Option α}{a:α}{G:Prop}(e:o=none)(q:o=some a):G:=fJ (e.symm.trans q)
theorem cK{α:Type}{o:Option α}{a:α}(e:o=some a):o.isSome=true:=e▸rfl
theorem iU{α:Type}{o:Option α}{G:Prop}(e:o.isSome=true)(k:∀ a,o=some a->G):G:=by
 cases o with
 | none=>exact gI e
 | some a=>exact k a rfl
theorem bu.trans{S:Addr->Prop}{μ μ₁ μ₂:Mu}{s s₁ s₂:Heap}(x:bu S μ s μ₁ s₁)(y:bu S μ₁ s₁ μ₂ s₂):bu S μ s μ₂ s₂:=
 ⟨x.pre.elim fun ν e=>y.pre.elim fun ν' e'=>⟨ν++ν',by rw[e',e,List.append_assoc]⟩,fun b e=>y.live b (x.live b e),
  fun b o e n ns=>y.keep b o (x.keep b o e n ns) (fun q=>(x.fresh b q).elim n fun q=>ca q e) ns,
  fun a q=>(y.fresh a q).elim (x.fresh a) fun q=>by
   cases e:s.get? a with
   | none=>exact .inr rfl
   | some o=>exact iU (x.live a (cK e)) fun o' e'=>ca q e'⟩
theorem bu.weaken{S S':Addr->Prop}{μ μ₁:Mu}{s s₁:Heap}(x:bu S μ s μ₁ s₁)(hs:∀ b,S b->S' b):bu S' μ s μ₁ s₁:=
 ⟨x.pre,x.live,fun b o e n ns=>x.keep b o e n fun q=>ns (hs b q),x.fresh⟩
theorem bu.any{S:Addr->Prop}{μ μ₁:Mu}{s s₁:Heap}(x:bu gm μ s μ₁ s₁):bu S μ s μ₁ s₁:=x.weaken fun _ q=>q.elim
theorem bu.of_keeps{S:Addr->Prop}{μ:Mu}{h h':Heap}(k:∀ b o,h.get? b=some o->h'.get? b=some o):bu S μ h μ h':=
 ⟨⟨[],(List.append_nil μ).symm⟩,fun b e=>iU e fun o ho=>cK (k b o ho),fun b o e _ _=>k b o e,fun _ x=>.inl x⟩
theorem lX{μ μ':Mu}{n:Nat}{p:Addr×Addr}(h:∃ ν,μ'=μ++ν)(e:μ[n]?=some p):μ'[n]?=some p:=
 h.elim fun ν q=>by rw[q,List.getElem?_append_left (UW e).1];exact e
theorem bQ{h h':Heap}{a:Addr}{items:Array Value}(x:h.IsTuple a items)(hk:∀ o,h.get? a=some o->h'.get? a=some o):h'.IsTuple a items:=
 aM x fun o ho r=>⟨o,hk o ho,r⟩
theorem Kc{h:Heap}{a:Addr}{items:Array Value}(x:h.IsTuple a items):a<h.objs.size:=aM x fun _ ho _=>Heap.lt_size ho
theorem VR.next{S:Addr->Prop}{G:Heap}{μ μ':Mu}{h h':Heap}(n:bu S μ h μ' h')(hS:∀ b items,S b->¬ h.IsTuple b items){v:V}{mv:Value}(r:VR G μ h v mv):VR G μ' h' v mv:=
 VR.rec (motive_1:=fun v mv _=>VR G μ' h' v mv) (motive_2:=fun l ml _=>dh G μ' h' l ml) .none .bool .int .str
  (fun ht hn _ ih=>.tup (bQ ht fun o e=>n.keep _ o e hn fun q=>hS _ _ q ht) (fun q=>(n.fresh _ q).elim hn fun q=>aM ht fun o ho _=>ca q ho) ih) (fun hp=>.obj (lX n.pre hp)) .tab (fun ht _ ih=>.qF ht ih) .nil (fun _ _ a b=>.cons a b) r
theorem dh.next{S:Addr->Prop}{G:Heap}{μ μ':Mu}{h h':Heap}(n:bu S μ h μ' h')(hS:∀ b items,S b->¬ h.IsTuple b items){l:List V}{ml:List Value}(r:dh G μ h l ml):dh G μ' h' l ml:=
 r.mono fun _ _ x=>x.next n hS
theorem jN{h:Heap}:∀ b items,gm b->¬ h.IsTuple b items:=fun _ _ q=>q.elim
theorem VR.nx{G:Heap}{μ μ':Mu}{h h':Heap}(n:bu gm μ h μ' h'){v:V}{mv:Value}(r:VR G μ h v mv):VR G μ' h' v mv:=r.next n jN
theorem dh.nx{G:Heap}{μ μ':Mu}{h h':Heap}(n:bu gm μ h μ' h'){v:List V}{mv:List Value}(r:dh G μ h v mv):dh G μ' h' v mv:=r.next n jN
end
section
open PySem PySem.W PySem.Calls PyProof.Rows PySem.SeqAt
theorem DJ:ML.Nodup:=by decide +kernel
theorem DK{n:Nat}(h:n<tE):fV n=ML[n]'h:=by
 unfold fV;rw[List.getElem?_eq_getElem h];rfl
theorem vS{a b:Nat}(ha:a<tE)(hb:b<tE)(e:fV a=fV b):a=b:=by
 rw[DK ha,DK hb] at e;exact (List.getElem_inj DJ).mp e
theorem j1.length{h:Heap}{l:List V}{ml:List Value}(r:j1 h l ml):l.length=ml.length:=r.ind (P:=fun l ml=>l.length=ml.length) rfl fun _ _ e=>congrArg (·+1) e
theorem j1.get{h:Heap}{l:List V}{ml:List Value}(r:j1 h l ml):∀ {i:Nat} (h1:i<l.length) (h2:i<ml.length),VE h l[i] ml[i]:=
 r.ind (P:=fun l ml=>∀ {i:Nat} (h1:i<l.length) (h2:i<ml.length),VE h l[i] ml[i]) (fun h=>absurd h (Nat.not_lt_zero _)) fun hv _ ih i h1 h2=>by
  cases i with
  | zero=>exact hv
  | succ i=>exact ih (Nat.lt_of_succ_lt_succ h1) (Nat.lt_of_succ_lt_succ h2)
theorem qi{n:Nat}{l:List V}(e:plain n (.tup l)=true):cL n.pred l=true:=aJ (show (decide (0<n)&&cL n.pred l)=true from e) fun _ q=>q
theorem tF{n:Nat}{v:V}{l:List V}:cL n l=true->v∈l->plain n v=true:=
 List.rec (motive:=fun l=>cL n l=true->v∈l->plain n v=true) (fun _ h=>nomatch h) (fun _ _ ih e h=>aJ e fun p q=>(UO h).elim (fun e=>e▸p) (ih q)) l
theorem j7{n:Nat}{l:List V}{i:Nat}(h1:i<l.length)(e:cL n l=true):plain n l[i]=true:=tF e (List.getElem_mem h1)
theorem DL{h:Heap}{a:Addr}{i1 i2:Array Value}(x:h.IsTuple a i1)(y:h.IsTuple a i2):i1=i2:=
 aM x fun o ho r=>aM y fun o' rI r'=>r.2.elim fun n hd=>r'.2.elim fun n' DM=>by
  have q:=UM (ho.symm.trans rI);rw[<-q,hd] at DM;exact (Data.seq.inj DM).1
theorem j1.G6{h:Heap}{l:List V}{ml:List Value}(r:j1 h l ml):ml=[]->l=[]:=r.ind (P:=fun l ml=>ml=[]->l=[]) (fun _=>rfl) fun _ _ _ e=>absurd e (List.cons_ne_nil _ _)
theorem j1.u5{h:Heap}{l:List V}{ml:List Value}(r:j1 h l ml):∀ {m:Value} {r:List Value},ml=m::r->∃ v l',l=v::l'/\VE h v m/\j1 h l' r:=
 r.ind (P:=fun l ml=>∀ {m:Value} {r:List Value},ml=m::r->∃ v l',l=v::l'/\VE h v m/\j1 h l' r) (fun e=>absurd e.symm (List.cons_ne_nil _ _)) fun hv hl _ _ _ e=>by
  have q:=List.cons.inj e;exact ⟨_,_,rfl,q.1▸hv,q.2▸hl⟩
theorem VE.inj{h:Heap}{x y:V}{mv:Value}(r:VE h x mv)(r':VE h y mv):x=y:=
 VE.rec (motive_1:=fun x mv _=>∀ y,VE h y mv->x=y) (motive_2:=fun x ml _=>∀ y,j1 h y ml->x=y) (fun _ r=>(VE.val r:Kb _ _ .none).symm) (fun i t _ r=>(VE.val r:Kb _ _ (.int i t)).symm)
  (fun n t hn _ r=>dj (VE.val r:Kb _ _ (.str (fV n) t)) fun k hk e q=>by rw[vS hn hk q];exact e.symm) (fun {l a items} ht _ ih _ r=>fG (VE.val r:Kb _ _ (.ref a)) fun l' i2 e DN qd=>by
   rw[<-DL ht DN] at qd;rw[ih _ qd];exact e.symm)
  (fun _ r=>(r.G6 rfl).symm) (fun _ _ ih J3 _ r=>fG (r.u5 rfl) fun v l' e a b=>by rw[ih _ a,J3 _ b];exact e.symm) r y r'
theorem vT{l m:List V}:((List.range (min l.length m.length)).all (fun j=>decide (l[j]?=m[j]?))&&l.length==m.length)=decide (l=m):=by
 by_cases h:l.length=m.length
 ·rw[beq_iff_eq.mpr h,Bool.and_true,h,Nat.min_self]
  by_cases e:l=m
  ·rw[UT e,e];exact List.all_eq_true.mpr fun j _=>UT rfl
  ·rw[US e];cases hc:((List.range m.length).all fun j=>decide (l[j]?=m[j]?)) with
   | false=>rfl
   | true=>
   refine absurd (List.ext_getElem? fun i=>?_) e
   by_cases hi:i<m.length
   ·exact UU (List.all_eq_true.mp hc i (List.mem_range.mpr hi))
   ·rw[List.getElem?_eq_none (Nat.not_lt.mp hi),List.getElem?_eq_none (h▸Nat.not_lt.mp hi)]
 ·rw[beq_false_of_ne h,Bool.and_false];exact (US fun e=>h (congrArg List.length e)).symm
section
variable{A:Around}{s:Shared}
theorem G7{n k:Nat}(hn:n<tE)(hk:k<tE):(fV n==fV k)=decide (V.str n=V.str k):=by
 by_cases e:n=k
 ·rw[e,beq_self_eq_true,UT rfl]
 ·rw[beq_false_of_ne fun q=>e (vS hn hk q),US fun q=>e (V.str.inj q)]
theorem G8{i j:Int}:(i==j)=decide (V.int i=V.int j):=by
 by_cases e:i=j
 ·rw[e,beq_self_eq_true,UT rfl]
 ·rw[beq_false_of_ne e,US fun q=>e (V.int.inj q)]
theorem vU{R:Value->Value->Bool->Prop}(g:Bool->Bool)(nn:R .none .none (g true))(ni:∀ j u,R .none (.int j u) (g false))(ns:∀ j u,R .none (.str j u) (g false))(nt:∀ {a i},s.heap.IsTuple a i->R .none (.ref a) (g false))
  (ix:∀ i t,R (.int i t) .none (g false)) (ii:∀ i t j u,R (.int i t) (.int j u) (g (i==j))) (ij:∀ i t j u,R (.int i t) (.str j u) (g false)) (it:∀ i t {a k},s.heap.IsTuple a k->R (.int i t) (.ref a) (g false))
  (sx:∀ i t,R (.str i t) .none (g false)) (si:∀ i t j u,R (.str i t) (.int j u) (g false)) (ss:∀ i t j u,R (.str i t) (.str j u) (g (i==j))) (st:∀ i t {a k},s.heap.IsTuple a k->R (.str i t) (.ref a) (g false))
  (tx:∀ {a i},s.heap.IsTuple a i->R (.ref a) .none (g false)) (ti:∀ j u {a i},s.heap.IsTuple a i->R (.ref a) (.int j u) (g false)) (ts:∀ j u {a i},s.heap.IsTuple a i->R (.ref a) (.str j u) (g false))
  {Q:V->V->Prop} (tt:∀ {l l' a a' i i'},Q (.tup l) (.tup l')->s.heap.IsTuple a i->s.heap.IsTuple a' i'->j1 s.heap l i.toList->j1 s.heap l' i'.toList->R (.ref a) (.ref a') (g (decide (V.tup l=V.tup l'))))
  {x y:V} {a b:Value} (hx:VE s.heap x a) (hy:VE s.heap y b) (q:Q x y):R a b (g (decide (x=y))):=
 VE.cs (P:=fun x a=>Q x y->R a b (g (decide (x=y))))
  (VE.cs (P:=fun y b=>Q .none y->R .none b (g (decide (V.none=y)))) (fun _=>nn) (fun _ _ _=>ni _ _) (fun _ _ _ _=>ns _ _) (fun h _ _=>nt h) hy)
  (fun i t=>VE.cs (P:=fun y b=>Q (.int i) y->R (.int i t) b (g (decide (V.int i=y)))) (fun _=>ix _ _) (fun j u _=>(@G8 i j)▸ii i t j u) (fun _ _ _ _=>ij _ _ _ _) (fun h _ _=>it _ _ h) hy)
  (fun i t hi=>VE.cs (P:=fun y b=>Q (.str i) y->R (.str (fV i) t) b (g (decide (V.str i=y)))) (fun _=>sx _ _) (fun _ _ _=>si _ _ _ _) (fun k u hk _=>G7 hi hk▸ss (fV i) t (fV k) u) (fun h _ _=>st _ _ h) hy)
  (fun {l c items} h hl=>VE.cs (P:=fun y b=>Q (.tup l) y->R (.ref c) b (g (decide (V.tup l=y)))) (fun _=>tx h) (fun _ _ _=>ti _ _ h) (fun _ _ _ _=>ts _ _ h) (fun h' qd q=>tt q h h' hl qd) hy) hx q
theorem yc{l l':List V}{items gC:Array Value}(hl:j1 s.heap l items.toList)(qd:j1 s.heap l' gC.toList)
  (ih:∀ j (g1:j<l.length) (g2:j<l'.length) (h1:j<items.toList.length) (h2:j<gC.toList.length),EqAt A.in1 s items.toList[j] gC.toList[j] (decide (l[j]=l'[j]))) :
  (∀ j (h1:j<items.size) (h2:j<gC.size),EqAt A.in1 s items[j] gC[j] (decide (l[j]?=l'[j]?)))/\((List.range (min items.size gC.size)).all (fun j=>decide (l[j]?=l'[j]?))&&items.size==gC.size)=decide (V.tup l=V.tup l'):=by
 have e1:=hl.length;have e2:=qd.length;refine ⟨fun j h1 h2=>?_,?_⟩
 ·have g1:j<l.length:=by rw[e1];exact h1
  have g2:j<l'.length:=by rw[e2];exact h2
  have:=ih j g1 g2 h1 h2;rw[List.getElem?_eq_getElem g1,List.getElem?_eq_getElem g2]
  by_cases q:l[j]=l'[j]
  ·rw[UT q] at this;rw[UT (congrArg some q)];exact this
  ·rw[US q] at this;rw[US fun z=>q (UM z)];exact this
 ·have:=@vT l l';rw[e1,e2] at this;refine this.trans ?_
  by_cases q:l=l'
  ·rw[UT q,UT (congrArg V.tup q)]
  ·rw[US q,US fun z=>q (V.tup.inj z)]
theorem vV:∀ (n:Nat) {x y:V} {a b:Value} {A:Around},plain n x=true->plain n y=true->VE s.heap x a->VE s.heap y b->A.units+n<cLine->EqAt A s a b (decide (x=y)):=by
 intro n
 induction n with
 | zero=>
  intro x y a b A px py hx hy hu;exact vU (R:=EqAt A s) id (.same _) .none_int .none_str (fun h=>.none_tuple h hu) .int_none .int_int .int_str (fun _ _ _ _ h=>.int_tuple _ _ h hu) .str_none .str_int .str_str (fun _ _ _ _ h=>.str_tuple _ _ h hu)
   (fun h=>.tuple_none h hu) (fun _ _ _ _ h=>.tuple_int _ _ h hu) (fun _ _ _ _ h=>.tuple_str _ _ h hu) (Q:=fun x _=>plain 0 x=true) (fun e _ _ _ _=>gI e) hx hy px
 | succ n ih=>
  intro x y a b A px py hx hy hu;have oC:A.units<cLine:=Nat.lt_of_le_of_lt (Nat.le_add_right _ _) hu;refine vU (R:=EqAt A s) id (.same _) .none_int .none_str (fun h=>.none_tuple h oC) .int_none .int_int .int_str (fun _ _ _ _ h=>.int_tuple _ _ h oC) .str_none .str_int .str_str (fun _ _ _ _ h=>.str_tuple _ _ h oC)
   (fun h=>.tuple_none h oC) (fun _ _ _ _ h=>.tuple_int _ _ h oC) (fun _ _ _ _ h=>.tuple_str _ _ h oC) (Q:=fun x y=>plain (n+1) x=true/\plain (n+1) y=true) (fun {l l' a a' i i'} pq ht DN hl qd=>?_) hx hy ⟨px,py⟩
  by_cases QE:a=a'
  ·subst QE;rw[UT (VE.inj (.tup ht hl) (.tup DN qd):V.tup l=V.tup l')];exact .same _
  ·have k:=yc (A:=A) hl qd fun j g1 g2 h1 h2=>ih (j7 g1 (qi pq.1)) (j7 g2 (qi pq.2)) (hl.get g1 h1) (qd.get g2 h2) (by show A.units+1+n<cLine;rw[Nat.add_assoc,Nat.add_comm 1];exact hu);exact .of_refs QE (k.2▸RcAt.tuples (A:=A) (s:=s) (e:=fun j=>decide (l[j]?=l'[j]?)) ht DN oC k.1)
theorem Bl{n:Nat}{l l':List V}{items gC:Array Value}(px:plain n (.tup l)=true)(py:plain n (.tup l')=true)(hl:j1 s.heap l items.toList)(qd:j1 s.heap l' gC.toList)(hu:A.units+n<cLine) :
  (∀ j (h1:j<items.size) (h2:j<gC.size),EqAt A.in1 s items[j] gC[j] (decide (l[j]?=l'[j]?)))/\((List.range (min items.size gC.size)).all (fun j=>decide (l[j]?=l'[j]?))&&items.size==gC.size)=decide (V.tup l=V.tup l'):=by
 cases n with
 | zero=>exact gI px
 | succ n=>exact yc hl qd fun j g1 g2 h1 h2=>vV n (j7 g1 (qi px)) (j7 g2 (qi py)) (hl.get g1 h1) (qd.get g2 h2) (by show A.units+1+n<cLine;rw[Nat.add_assoc,Nat.add_comm 1];exact hu)
theorem G9{n:Nat}{x y:V}{a b:Value}{A:Around}(px:plain n x=true)(py:plain n y=true)(hx:VE s.heap x a)(hy:VE s.heap y b)(hu:A.units+n<cLine):RcAt A s a b (decide (x=y)):=
 have oC:A.units<cLine:=Nat.lt_of_le_of_lt (Nat.le_add_right _ _) hu
 vU (R:=RcAt A s) id .none_none .none_int .none_str (fun h=>.none_tuple h oC) .int_none .int_int .int_str (fun _ _ _ _ h=>.int_tuple _ _ h oC) .str_none .str_int .str_str (fun _ _ _ _ h=>.str_tuple _ _ h oC)
  (fun h=>.tuple_none h oC) (fun _ _ _ _ h=>.tuple_int _ _ h oC) (fun _ _ _ _ h=>.tuple_str _ _ h oC) (Q:=fun x y=>plain n x=true/\plain n y=true) (fun {l l' _ _ _ _} pq ht DN hl qd=>
   have k:=Bl (A:=A) pq.1 pq.2 hl qd hu
   k.2▸RcAt.tuples (A:=A) (s:=s) (e:=fun j=>decide (l[j]?=l'[j]?)) ht DN oC k.1) hx hy ⟨px,py⟩
end
end
section
open PySem PySem.W PySem.Calls PyProof.Rows PySem.SeqAt
section
variable{A:Around}{s:Shared}
theorem B9{n:Nat}{x y:V}{a b:Value}{A:Around}(px:plain n x=true)(py:plain n y=true)(hx:VE s.heap x a)(hy:VE s.heap y b)(hu:A.units+n<cLine):RcNeAt A s a b (!decide (x=y)):=
 have oC:A.units<cLine:=Nat.lt_of_le_of_lt (Nat.le_add_right _ _) hu
 vU (R:=RcNeAt A s) (!·) .none_none .none_int .none_str (fun h=>.none_tuple h oC) .int_none .int_int .int_str (fun _ _ _ _ h=>.int_tuple _ _ h oC) .str_none .str_int .str_str (fun _ _ _ _ h=>.str_tuple _ _ h oC)
  (fun h=>.tuple_none h oC) (fun _ _ _ _ h=>.tuple_int _ _ h oC) (fun _ _ _ _ h=>.tuple_str _ _ h oC) (Q:=fun x y=>plain n x=true/\plain n y=true) (fun {l l' _ _ _ _} pq ht DN hl qd=>
   have k:=Bl (A:=A) pq.1 pq.2 hl qd hu
   k.2▸RcNeAt.tuples (A:=A) (s:=s) (e:=fun j=>decide (l[j]?=l'[j]?)) ht DN oC k.1) hx hy ⟨px,py⟩
end
mutual
noncomputable def u6:V->Int
 | .int i=>hashInt i
 | .tup l=>reduceHash (Builtin.Tuple.tupleHashOf (jm l))
 | _=>0
noncomputable def jm:List V->List Int
 | []=>[]
 | a::l=>u6 a::jm l
end
mutual
noncomputable def n6:V->Nat
 | .tup l=>mG l+1
 | _=>1
noncomputable def mG:List V->Nat
 | []=>0
 | a::l=>n6 a+mG l
end
section
variable{prog:Program}{w:World}{E:Value->Shared->Prop}
noncomputable def HL(s:Shared)(l:List V)(n:Nat)(rest:List Value)(b:Array Int)(s':Shared):Prop:=∃ left,j1 s.heap left rest/\cL n left=true/\kJ left=true/\b.toList++jm left=jm l/\∃ t,s'={ s with toks:=t }/\t+mG left=s.toks+mG l
theorem Ha:∀ (n:Nat) {v:V} {a:Value} {A:Around} {s:Shared} {Q:Int->Shared->Prop},plain n v=true->vK v=true->VE s.heap v a->A.units+n<cLine->
  Q (u6 v) { s with toks:=s.toks+n6 v }->wpAny (model prog w) A (pyHash a) Q E s:=by
 intro n
 induction n with
 | zero=>
  intro v a A s Q pv tv hv hu h;exact VE.cs (P:=fun v a=>plain 0 v=true->vK v=true->Q (u6 v) { s with toks:=s.toks+n6 v }->wpAny (model prog w) A (pyHash a) Q E s) (fun _ e _=>gI e) (fun _ _ _ _ h=>wpAny_pyHash_int h) (fun _ _ _ _ e _=>gI e) (fun _ _ e _ _=>gI e) hv pv tv h
 | succ n ih=>
  intro v a A s Q pv tv hv hu h;refine VE.cs (P:=fun v a=>plain (n+1) v=true->vK v=true->Q (u6 v) { s with toks:=s.toks+n6 v }->wpAny (model prog w) A (pyHash a) Q E s) (fun _ e _=>gI e) (fun _ _ _ _ h=>wpAny_pyHash_int h) (fun _ _ _ _ e _=>gI e) (fun {l a items} ht hl pv tv h=>?_) hv pv tv h;have RZ:A.units+1+n<cLine:=by rw[Nat.add_assoc,Nat.add_comm 1];exact hu
  have hT:s.TypeIs (.ref a) "tuple":=dj ht fun o ho hc _=>⟨o,ho,hc⟩;refine dj ht fun o ho hc hd=>hd.elim fun nn hd=>?_;unfold pyHash;unfold pyHashByItsType;refine wpAny_bind (wpAny_cRoomFor_or (.inr (Nat.lt_of_le_of_lt (Nat.le_add_right _ _) hu)) ?_);refine wpAny_bind (wpAny_specialOf hT F.slot_tuple_hash.lookup ?_);show wpAny _ _ (if (some (Value.builtin "tuple.__hash__")==some Value.none)=true then _ else _) Q E s;rw[if_neg (by rw[beq_builtin_none];exact Bool.false_ne_true)];refine wpAny_bind (wpAny_specialOf hT F.slot_tuple_hash.lookup ?_);show wpAny _ _ (callSpecialIfBoundUnlessNone? (.ref a) "__hash__" _ >>= _) Q E s;refine wpAny_bind (wpAny_callSpecialIfBoundUnlessNone?_slot hT F.slot_tuple_hash (wpAny_call_entry F.slot_tuple_hash hT F.entry_tuple_hash ?_ (F.args_tuple_hash_1 _)));show wpAny _ _ (Builtin.Tuple.tupleItemsOf (.ref a) >>= _) _ _ s;refine wpAny_bind (wpAny_tupleItemsOf ho hd ?_);refine wpAny_bind ?_;rw[<-Array.forIn_toList];refine wpAny_forIn_list _ (HL s l n) _ (fun x rest b s' q=>?_) (fun b s' q=>?_) _ _ ⟨l,hl,qi pv,tv,rfl,s.toks,rfl,rfl⟩
  ·refine JZ q fun left hle hp LV hb q=>aM q fun t es Pf=>?_;subst es;refine fG (hle.u5 rfl) fun v l' e hx DO=>?_;subst e;refine aJ hp fun p1 p2=>aJ LV fun q1 q2=>wpAny_bind (ih p1 q1 (s:={ s with toks:=t }) hx RZ ?_);have fin:HL s l n rest (b.push (u6 v)) { s with toks:=t+n6 v }:=⟨l',DO,p2,q2,by rw[Array.toList_push,List.append_assoc];exact hb,_,rfl,(Nat.add_assoc _ _ _).trans Pf⟩
   first
    | exact wpAny_pure fin
    | exact wpAny_bind (wpAny_pure (wpAny_pure fin))
  ·refine JZ q fun left hle hp LV hb q=>aM q fun t es Pf=>?_;subst es;have e:=hle.G6 rfl;subst e;rw[jm,List.append_nil] at hb;show wpAny _ _ (retInt (Builtin.Tuple.tupleHashOf b.toList)) _ _ _;rw[hb];refine wpAny_ret_mkInt ?_;have et:s.toks+(mG l+1)=t+1:=congrArg (·+1) Pf.symm;have h:Q (reduceHash (Builtin.Tuple.tupleHashOf (jm l))) { s with toks:=s.toks+(mG l+1) }:=h;rw[et] at h;show wpAny _ _ (if (decide (-(2:Int) ^ 63<=Builtin.Tuple.tupleHashOf (jm l))&&decide (Builtin.Tuple.tupleHashOf (jm l)<2 ^ 63))=true then _ else _) Q E _;unfold reduceHash at h
   by_cases hr:(decide (-(2:Int) ^ 63<=Builtin.Tuple.tupleHashOf (jm l))&&decide (Builtin.Tuple.tupleHashOf (jm l)<2 ^ 63))=true
   ·rw[if_pos hr];rw[if_pos hr] at h;exact wpAny_pure h
   ·rw[if_neg hr];rw[if_neg hr] at h;exact wpAny_bind (wpAny_rule (wpAny_pure h))
theorem DP:∀ (n k:Nat) {v:V} {a:Value} {A:Around} {s:Shared} {Q:Bool->Shared->Prop},plain n v=true->n<=k->VE s.heap v a->Q true s->wpAny (model prog w) A (eqIsQuiet k a) Q E s:=by
 intro n
 induction n with
 | zero=>
  intro k v a A s Q pv hk hv h;exact VE.cs (P:=fun v a=>plain 0 v=true->wpAny (model prog w) A (eqIsQuiet k a) Q E s) (fun _=>by rw[eqIsQuiet_byValue k rfl];exact wpAny_pure h) (fun _ _ _=>by rw[eqIsQuiet_byValue k rfl];exact wpAny_pure h) (fun _ _ _ _=>by rw[eqIsQuiet_byValue k rfl];exact wpAny_pure h) (fun _ _ e=>gI e) hv pv
 | succ n ih=>
  intro k v a A s Q pv hk hv h;refine VE.cs (P:=fun v a=>plain (n+1) v=true->wpAny (model prog w) A (eqIsQuiet k a) Q E s) (fun _=>by rw[eqIsQuiet_byValue k rfl];exact wpAny_pure h) (fun _ _ _=>by rw[eqIsQuiet_byValue k rfl];exact wpAny_pure h) (fun _ _ _ _=>by rw[eqIsQuiet_byValue k rfl];exact wpAny_pure h) (fun {l a items} ht hl pv=>?_) hv pv;cases k with
  | zero=>exact absurd hk (Nat.not_succ_le_zero _)
  | succ k=>
  have hk:=Nat.le_of_succ_le_succ hk;have hT:s.TypeIs (.ref a) "tuple":=dj ht fun o ho hc _=>⟨o,ho,hc⟩;refine dj ht fun o ho hc hd=>hd.elim fun nn hd=>?_;unfold eqIsQuiet;refine wpAny_bind (wpAny_specialOf hT F.slot_tuple_eq.lookup ?_);show wpAny _ _ (isInstance (.ref a) (.type "tuple") >>= _) _ _ s;refine wpAny_bind (wpAny_isInstance hT isSubtype_tuple_tuple ?_);rw[Bool.not_true,if_neg Bool.false_ne_true];refine wpAny_bind (wpAny_seqItems ho hd ?_);refine wpAny_bind ?_;show wpAny _ _ (forIn items _ _) _ _ s;rw[<-Array.forIn_toList];refine wpAny_forIn_list _ (fun rest r s'=>r.1=none/\s'=s/\∃ left,j1 s.heap left rest/\cL n left=true) _ (fun v rest r s' q=>?_) (fun r s' q=>?_) _ _ ⟨rfl,rfl,l,hl,qi pv⟩
  ·refine fU q fun hr es q=>aM q fun left hle hp=>?_;subst es;refine fG (hle.u5 rfl) fun v l' e hx DO=>?_;subst e;refine aJ hp fun p1 p2=>wpAny_bind (ih k p1 hk hx ?_);rw[Bool.not_true,if_neg Bool.false_ne_true];exact wpAny_pure ⟨rfl,rfl,_,DO,p2⟩
  ·refine fU q fun hr es _=>?_;subst es;obtain ⟨r1,r2⟩:=r;have e:r1=none:=hr;subst e;exact wpAny_pure h
end
theorem VE.keeps{h h':Heap}(hk:∀ a items,h.IsTuple a items->h'.IsTuple a items){v:V}{a:Value}(x:VE h v a):VE h' v a:=
 VE.rec (motive_1:=fun v a _=>VE h' v a) (motive_2:=fun l a _=>j1 h' l a) .none (fun i t=>.int i t) (fun n t hn=>.str n t hn) (fun ht _ ih=>.tup (hk _ _ ht) ih) .nil (fun _ _ a b=>.cons a b) x
noncomputable def DQ(h:Heap)(k:V)(a:Addr):Prop:=keyOk 2 k=true/\VE h k (.ref a)
theorem DQ.parts{h:Heap}{k:V}{a:Addr}(x:DQ h k a):plain 8 k=true/\vK k=true/\VE h k (.ref a):=
 fG (VE.val x.2:Kb _ _ (.ref a)) fun l _ e _ _=>by
  have h:=x.1;rw[e] at h;exact aJ (show ((2==2)&&(kJ l&&plain 8 (.tup l)))=true from h) fun _ q=>aJ q fun p r=>⟨e▸r,e▸p,x.2⟩
noncomputable def tupK(prog:Program)(w:World):HeapKind prog w V where
 is:=DQ
 hash:=u6
 draws:=n6
 room:=fun A=>A.units+8<cLine
 inj:=fun hx hy=>VE.inj hx.2 hy.2
 keeps:=fun {h h' k a d o es ep} x ho hd hs=>⟨x.1,VE.keeps (fun a items ht=>dj ht fun o' rI hc q=>q.elim fun n DM=>by
  refine ⟨o',(hs.2 a fun e=>?_).trans rI,hc,n,DM⟩;have q:=UM (rI.symm.trans ((congrArg h.get? e).trans ho));rw[q,hd] at DM;exact Data.noConfusion DM) x.2⟩
 pyHash:=fun hu hk h=>Ha 8 hk.parts.1 hk.parts.2.1 hk.2 hu h
 eqBool:=fun hu hx hy h=>vV 8 hx.parts.1 hy.parts.1 hx.2 hy.2 hu _ _ _ _ h
 quiet:=fun hk h=>DP 8 8 hk.parts.1 (Nat.le_refl _) hk.2 h
end
section
open PySem PySem.W PySem.Calls PyProof.Rows
inductive Pr{K:Type}(R:V->K->Prop)(Q:V->Value->Prop):List (V×V)->List (K×Value)->Prop
 | nil:Pr R Q [] []
 | cons {k:V} {v:V} {mk:K} {mv:Value} {l ml} (hk:R k mk) (hv:Q v mv) (hl:Pr R Q l ml):Pr R Q ((k,v)::l) ((mk,mv)::ml)
theorem Pr.length{K:Type}{R:V->K->Prop}{Q:V->Value->Prop}{l ml}(r:Pr R Q l ml):l.length=ml.length:=Pr.rec (motive:=fun l ml _=>l.length=ml.length) rfl (fun _ _ _ e=>congrArg (·+1) e) r
theorem Pr.mono{K:Type}{R R':V->K->Prop}{Q Q':V->Value->Prop}(hR:∀ k mk,R k mk->R' k mk)(hQ:∀ v mv,Q v mv->Q' v mv){l ml}(r:Pr R Q l ml):Pr R' Q' l ml:=
 Pr.rec (motive:=fun l ml _=>Pr R' Q' l ml) .nil (fun hk hv _ e=>.cons (hR _ _ hk) (hQ _ _ hv) e) r
section
variable{K:Type}[DecidableEq K]{R:V->K->Prop}{Q:V->Value->Prop}(inj:∀ v v' k k',R v k->R v' k'->(v=v'↔k=k'))
include inj
theorem Pr.val{l:List (V×V)}{ml:List (K×Value)}{k:V}{mk:K}(r:Pr R Q l ml)(hr:R k mk):(aW l k=none/\valueAt ml mk=none)∨∃ v mv,aW l k=some v/\valueAt ml mk=some mv/\Q v mv:=by
 refine Pr.rec (motive:=fun l ml _=>(aW l k=none/\valueAt ml mk=none)∨∃ v mv,aW l k=some v/\valueAt ml mk=some mv/\Q v mv) (.inl ⟨rfl,rfl⟩) (fun {a v b mv l m} hk hv _ ih=>?_) r
 by_cases e:a=k
 ·have e':=(inj _ _ _ _ hk hr).mp e;exact .inr ⟨_,_,if_pos e,by unfold valueAt;rw[List.find?_cons_of_pos (p:=fun kv=>decide (kv.1=mk)) (a:=(b,mv)) (UT e')];rfl,hv⟩
 ·have e':¬ b=mk:=fun q=>e ((inj _ _ _ _ hk hr).mpr q);have f:valueAt ((b,mv)::m) mk=valueAt m mk:=by unfold valueAt;rw[List.find?_cons_of_neg (p:=fun kv=>decide (kv.1=mk)) (a:=(b,mv)) (fun q=>e' (UU q))]
  have g:aW ((a,v)::l) k=aW l k:=if_neg e;rw[f,g];exact ih
theorem Pr.ins{l:List (V×V)}{ml:List (K×Value)}{k v:V}{mk:K}{mv:Value}(r:Pr R Q l ml)(hr:R k mk)(hq:Q v mv):(ml.map (·.1)).Nodup->Pr R Q (hH l k v) (stored ml mk mv):=by
 refine Pr.rec (motive:=fun l ml _=>(ml.map (·.1)).Nodup->Pr R Q (hH l k v) (stored ml mk mv)) (fun _=>.cons hr hq .nil) (fun {a x b y l m} hk hv hl ih hn=>?_) r;rw[List.map_cons,List.nodup_cons] at hn
 by_cases e:a=k
 ·have e':=(inj _ _ _ _ hk hr).mp e;have hm:m.map (fun kv=>if kv.1=mk then (kv.1,mv) else kv)=m:=map_store_of_not_mem m mk mv (e'▸hn.1);have f:stored ((b,y)::m) mk mv=(b,mv)::m:=by
   unfold stored;rw[List.any_cons,UT e',Bool.true_or,if_pos (Eq.refl true),List.map_cons,hm,if_pos e']
  have g:hH ((a,x)::l) k v=(a,v)::l:=if_pos e;rw[f,g];exact .cons hk hq hl
 ·have e':¬ b=mk:=fun q=>e ((inj _ _ _ _ hk hr).mpr q);have f:stored ((b,y)::m) mk mv=(b,y)::stored m mk mv:=by
   unfold stored;rw[List.any_cons,US e',Bool.false_or,List.map_cons,if_neg e',apply_ite (List.cons (b,y)),List.cons_append]
  have g:hH ((a,x)::l) k v=(a,x)::hH l k v:=if_neg e;rw[f,g];exact .cons hk hv (ih hn.2)
end
noncomputable def R0(v:V)(i:Int):Prop:=v=.int i
noncomputable def R1(v:V)(x:Str):Prop:=∃ n,n<tE/\v=.str n/\x=fV n
noncomputable def R2(v k:V):Prop:=v=k
theorem vW:∀ v v' k k',R0 v k->R0 v' k'->(v=v'↔k=k'):=fun _ _ _ _ a b=>⟨fun e=>V.int.inj (a.symm.trans (e.trans b)),fun e=>a.trans ((congrArg V.int e).trans b.symm)⟩
theorem vX:∀ v v' k k',R1 v k->R1 v' k'->(v=v'↔k=k'):=fun _ _ _ _ a b=>dj a fun n hn e1 e2=>dj b fun m hm f1 f2=>
 ⟨fun e=>by rw[e2,f2,V.str.inj (e1.symm.trans (e.trans f1))],fun e=>by rw[e1,f1,vS hn hm (e2.symm.trans (e.trans f2))]⟩
theorem vY:∀ v v' k k',R2 v k->R2 v' k'->(v=v'↔k=k'):=fun _ _ _ _ a b=>⟨fun e=>a.symm.trans (e.trans b),fun e=>a.trans (e.trans b.symm)⟩
noncomputable def lY(xs:List (V×Addr×Value)):List (V×Value):=xs.map fun x=>(x.1,x.2.2)
theorem qj(k:V):∀ (xs:List (V×Addr×Value)),valueAt (lY xs) k=(atKey xs k).map (·.2):=
 List.rec rfl fun x r ih=>by
  unfold valueAt atKey lY at *;rw[List.map_cons]
  by_cases e:x.1=k
  ·rw[List.find?_cons_of_pos (p:=fun kv=>decide (kv.1=k)) (a:=(x.1,x.2.2)) (UT e),List.find?_cons_of_pos (p:=fun y=>decide (y.1=k)) (a:=x) (UT e)];rfl
  ·rw[List.find?_cons_of_neg (p:=fun kv=>decide (kv.1=k)) (a:=(x.1,x.2.2)) (fun q=>e (UU q)),List.find?_cons_of_neg (p:=fun y=>decide (y.1=k)) (a:=x) (fun q=>e (UU q))];exact ih
theorem Ca(k:V):∀ (xs:List (V×Addr×Value)),(lY xs).any (fun kv=>decide (kv.1=k))=(atKey xs k).isSome:=
 List.rec rfl fun x r ih=>by
  unfold atKey lY at *;rw[List.map_cons,List.any_cons,ih]
  by_cases e:x.1=k
  ·rw[UT e,List.find?_cons_of_pos (p:=fun y=>decide (y.1=k)) (a:=x) (UT e)];rfl
  ·rw[US e,List.find?_cons_of_neg (p:=fun y=>decide (y.1=k)) (a:=x) (fun q=>e (UU q))];rfl
theorem vZ(xs:List (V×Addr×Value))(k:V)(a:Addr)(v:Value):lY (storedH xs k a v)=stored (lY xs) k v:=by
 unfold storedH stored;rw[Ca];cases (atKey xs k).isSome with
 | true=>
  rw[if_pos rfl,if_pos rfl];unfold lY;rw[List.map_map,List.map_map];refine List.map_congr_left fun x _=>?_;show ((if x.1=k then (x.1,x.2.1,v) else x).1,(if x.1=k then (x.1,x.2.1,v) else x).2.2)=if x.1=k then (x.1,v) else (x.1,x.2.2)
  by_cases e:x.1=k
  ·rw[if_pos e,if_pos e]
  ·rw[if_neg e,if_neg e]
 | false=>rw[if_neg Bool.false_ne_true,if_neg Bool.false_ne_true,lY,List.map_append];rfl
theorem zP(xs:List (V×Addr×Value)):(lY xs).map (·.1)=xs.map (·.1):=List.map_map
section
variable(w:World)
noncomputable def DR(kd:Nat)(G:Heap)(μ:Mu)(h:Heap)(kvs:List (V×V))(d:Addr):Prop:=match kd with
 | 0=>∃ xs,h.DictOf (intKind aX w) d xs/\Pr R0 (VR G μ h) kvs xs
 | 1=>∃ xs,h.DictOf (strKind aX w) d xs/\Pr R1 (VR G μ h) kvs xs
 | 2=>∃ xs,h.DictOfH (tupK aX w) d xs/\Pr R2 (VR G μ h) kvs (lY xs)
 | _=>False
noncomputable def DS(Q:V->Value->Prop)(o:Option V)(m:Option Value):Prop:=o.elim (m=none) fun v=>∃ mv,m=some mv/\Q v mv
inductive nR(Q:V->Value->Prop):List (Nat×V)->List DictEntry->Prop
 | nil:nR Q [] []
 | cons {n:Nat} {v:V} {e:DictEntry} {t:Tok} {l ml} (hn:ru n=true) (hk:e.key=.str (fV n) t) (hv:Q v e.val) (hl:nR Q l ml):nR Q ((n,v)::l) (e::ml)
theorem nR.mono{Q Q':V->Value->Prop}(hQ:∀ v mv,Q v mv->Q' v mv){l ml}(r:nR Q l ml):nR Q' l ml:=nR.rec (motive:=fun l ml _=>nR Q' l ml) .nil (fun hn hk hv _ e=>.cons hn hk (hQ _ _ hv) e) r
theorem nR.length{Q:V->Value->Prop}{l ml}(r:nR Q l ml):l.length=ml.length:=nR.rec (motive:=fun l ml _=>l.length=ml.length) rfl (fun _ _ _ _ e=>congrArg (·+1) e) r
theorem rV{n:Nat}(h:ru n=true):n<tE:=by
 have k:Bj.all (fun n=>decide (n<tE))=true:=by decide
 exact UU (List.all_eq_true.mp k n (List.contains_iff_mem.mp h))
theorem yd{n k:Nat}{t:Tok}(hn:n<tE)(hk:k<tE):(Value.str (fV n) t).isStr (fV k)=decide (n=k):=by
 show (fV n==fV k)=_
 by_cases e:n=k
 ·rw[e,beq_self_eq_true,UT rfl]
 ·rw[US e,beq_false_of_ne fun q=>e (vS hn hk q)]
theorem nR.noRef{Q:V->Value->Prop}{l ml}(r:nR Q l ml):ml.any (·.refKey)=false:=nR.rec (motive:=fun l ml _=>ml.any (·.refKey)=false) rfl (fun {_ _ e _ _ _} _ hk _ _ ih=>by
 rw[List.any_cons,ih,DictEntry.refKey,hk];rfl) r
theorem nR.find{Q:V->Value->Prop}{k:Nat}(hk:k<tE){l ml}(r:nR Q l ml):DS Q (nZ l k) ((ml.find? (·.key.isStr (fV k))).map (·.val)):=
 nR.rec (motive:=fun l ml _=>DS Q (nZ l k) ((ml.find? (·.key.isStr (fV k))).map (·.val))) rfl (fun {n v e t l ml} hn he hv _ ih=>by
  have z:e.key.isStr (fV k)=decide (n=k):=by rw[he,yd (rV hn) hk]
  show DS Q (if n=k then some v else nZ l k) _
  by_cases q:n=k
  ·rw[if_pos q,List.find?_cons_of_pos (p:=fun e=>e.key.isStr (fV k)) (a:=e) (z.trans (UT q))];exact ⟨_,rfl,hv⟩
  ·rw[if_neg q,List.find?_cons_of_neg (p:=fun e=>e.key.isStr (fV k)) (a:=e) (fun w=>q (UU (z.symm.trans w)))];exact ih) r
theorem nR.get{Q:V->Value->Prop}{l:List (Nat×V)}{ml:List DictEntry}{k:Nat}(hk:k<tE)(x:nR Q l ml):∃ o,getL (fV k) ml=some o/\DS Q (nZ l k) o:=by
 have h:=x.find hk;unfold getL;cases e:ml.find? (·.key.isStr (fV k)) with
 | some en=>rw[e] at h;exact ⟨_,rfl,h⟩
 | none=>rw[e] at h;rw[x.noRef];exact ⟨none,rfl,h⟩
theorem nR.put{Q:V->Value->Prop}{k:Nat}{v:V}{mv:Value}{hsh:Int}{t:Tok}(hk:ru k=true)(hv:Q v mv){l ml}(r:nR Q l ml):nR Q (vL l k v) (putL (fV k) hsh (.str (fV k) t) mv ml):=
 nR.rec (motive:=fun l ml _=>nR Q (vL l k v) (putL (fV k) hsh (.str (fV k) t) mv ml)) (.cons hk rfl hv .nil) (fun {n x e u l ml} hn he hw hl ih=>by
  show nR Q (if n=k then (n,v)::l else (n,x)::vL l k v) (if e.key.isStr (fV k) then ⟨e.hash,e.key,mv⟩::ml else e::putL (fV k) hsh (.str (fV k) t) mv ml);rw[he,yd (rV hn) (rV hk)]
  by_cases q:n=k
  ·rw[if_pos q,if_pos (UT q)];exact .cons hn rfl hv hl
  ·rw[if_neg q,if_neg (fun w=>q (UU w))];exact .cons hn he hw ih) r
theorem nR.data{Q:V->Value->Prop}{k:Nat}{v:V}{l ml}(r:nR Q l ml):nZ l k=some v->ru k=true:=
 nR.rec (motive:=fun l _ _=>nZ l k=some v->ru k=true) (fun h=>fJ h) (fun {n x e u l ml} hn _ _ _ ih h=>by
  by_cases q:n=k
  ·exact q▸hn
  ·exact ih ((if_neg q).symm.trans h)) r
noncomputable def OR(G:Heap)(μ:Mu)(h:Heap)(ob:O)(p:Addr×Addr):Prop:=match ob with
 | .list l=>p.2=p.1/\∃ items,h.PlainList p.1 items/\dh G μ h l items.toList
 | .dict kd kvs=>p.2=p.1/\DR w kd G μ h kvs p.1
 | .ins c fs=>∃ C sl es n,lE[c]?=some C/\h.get? p.1=some ⟨.ref C,some p.2,.plain,sl⟩/\h.get? p.2=some (dictOf es n)/\nR (VR G μ h) fs es
noncomputable def Apart(μ:Mu):Prop:=∀ (i j:Nat) (p q:Addr×Addr),μ[i]?=some p->μ[j]?=some q->i≠j->p.1≠q.1/\p.1≠q.2/\p.2≠q.1/\p.2≠q.2
structure HR(G:Heap)(μ:Mu)(h:Heap)(H:Hp):Prop where
 len:μ.length=H.length
 ground:∀ b o,G.get? b=some o->h.get? b=some o
 apart:Apart μ
 above:∀ a,Own μ a->G.get? a=none
 objs:∀ (n:Nat) (p:Addr×Addr) (ob:O),μ[n]?=some p->H[n]?=some ob->OR w G μ h ob p
variable{w}
theorem DR.cs{kd:Nat}{G:Heap}{μ:Mu}{h:Heap}{kvs:List (V×V)}{d:Addr}{P:Nat->Prop}(x:DR w kd G μ h kvs d)(k0:∀ xs,h.DictOf (intKind aX w) d xs->Pr R0 (VR G μ h) kvs xs->P 0)
  (k1:∀ xs,h.DictOf (strKind aX w) d xs->Pr R1 (VR G μ h) kvs xs->P 1) (k2:∀ xs,h.DictOfH (tupK aX w) d xs->Pr R2 (VR G μ h) kvs (lY xs)->P 2):P kd:=
 match kd,x with
 | 0,x=>x.elim fun xs x=>k0 xs x.1 x.2
 | 1,x=>x.elim fun xs x=>k1 xs x.1 x.2
 | 2,x=>x.elim fun xs x=>k2 xs x.1 x.2
 | _+3,x=>x.elim
theorem Hb{kd:Nat}{G:Heap}{μ μ':Mu}{h h':Heap}{kvs:List (V×V)}{d:Addr}(x:DR w kd G μ h kvs d)(hd:∀ o,h.get? d=some o->h'.get? d=some o)
  (hk:∀ a items,h.IsTuple a items->¬ Own μ a->h'.IsTuple a items) (Kd:∀ a items,h.IsTuple a items->¬ Own μ a) (hv:∀ v mv,VR G μ h v mv->VR G μ' h' v mv):DR w kd G μ' h' kvs d:=
 x.cs (P:=fun kd=>DR w kd G μ' h' kvs d) (fun xs a y=>uB a fun o es ep ho r=>⟨xs,⟨o,es,ep,hd o ho,r⟩,y.mono (fun _ _ e=>e) hv⟩)
  (fun xs a y=>uB a fun o es ep ho r=>⟨xs,⟨o,es,ep,hd o ho,r⟩,y.mono (fun _ _ e=>e) hv⟩)
  (fun xs a y=>lC a fun o es ep ho r1 r2 r3 r4 r5=>⟨xs,⟨o,es,ep,hd o ho,r1,r2,r3,fun x hx=>⟨(r4 x hx).1,VE.keeps (fun a items ht=>hk a items ht (Kd a items ht)) (r4 x hx).2⟩,r5⟩,y.mono (fun _ _ e=>e) hv⟩)
theorem rW{G:Heap}{μ μ':Mu}{h h':Heap}{o:O}{p:Addr×Addr}(x:OR w G μ h o p)(h1:∀ o,h.get? p.1=some o->h'.get? p.1=some o)(h2:∀ o,h.get? p.2=some o->h'.get? p.2=some o)
  (hk:∀ a items,h.IsTuple a items->¬ Own μ a->h'.IsTuple a items) (Kd:∀ a items,h.IsTuple a items->¬ Own μ a) (hv:∀ v mv,VR G μ h v mv->VR G μ' h' v mv):OR w G μ' h' o p:=
 O.rec (motive:=fun o=>OR w G μ h o p->OR w G μ' h' o p) (fun l x=>bY x fun e x=>aM x fun items x y=>x.elim fun n ho=>⟨e,items,⟨n,h1 _ ho⟩,y.mono hv⟩) (fun kd kvs x=>⟨x.1,Hb x.2 h1 hk Kd hv⟩)
  (fun c fs x=>GZ x fun C sl es n hc g1 g2 y=>⟨C,sl,es,n,hc,h1 _ g1,h2 _ g2,y.mono hv⟩) o x
noncomputable def n7(h:Heap)(a:Addr):Prop:=∃ ob,h.get? a=some ob/\∀ items ep,¬ (ob.cls=.type "tuple"/\ob.data=.seq items ep)
theorem DR.obj{kd:Nat}{G:Heap}{μ:Mu}{h:Heap}{kvs:List (V×V)}{d:Addr}(x:DR w kd G μ h kvs d):∃ ob,h.get? d=some ob/\ob.cls=.type "dict":=
 x.cs (P:=fun _=>∃ ob,h.get? d=some ob/\ob.cls=.type "dict") (fun _ a _=>zH a fun o _ _ ho hc _=>⟨o,ho,hc.1⟩) (fun _ a _=>zH a fun o _ _ ho hc _=>⟨o,ho,hc.1⟩) (fun _ a _=>zH a fun o _ _ ho hc _=>⟨o,ho,hc.1⟩)
theorem ye{s t:String}(h:(s==t)=false)(e:Value.type s=Value.type t):False:=by
 have q:s=t:=Value.type.inj e;rw[q,beq_self_eq_true] at h;exact gI h.symm
theorem Bm{G:Heap}{μ:Mu}{h:Heap}{o:O}{p:Addr×Addr}(x:OR w G μ h o p):n7 h p.1/\n7 h p.2:=
 O.rec (motive:=fun o=>OR w G μ h o p->n7 h p.1/\n7 h p.2) (fun l x=>bY x fun e x=>aM x fun items x y=>x.elim fun n ho=>by
   have k:n7 h p.1:=⟨_,ho,fun _ _ q=>ye (by decide) (q.1:Value.type "list"=_)⟩;exact ⟨k,e▸k⟩)
  (fun kd kvs x=>aM x.2.obj fun o ho hc=>by
   have k:n7 h p.1:=⟨o,ho,fun _ _ q=>ye (by decide) (hc.symm.trans q.1)⟩;exact ⟨k,x.1▸k⟩)
  (fun c fs x=>GZ x fun C sl es n hc g1 g2 y=>⟨⟨_,g1,fun _ _ q=>Value.noConfusion q.1⟩,⟨_,g2,fun _ _ q=>Data.noConfusion q.2⟩⟩) o x
theorem HR.at_{G:Heap}{μ:Mu}{h:Heap}{H:Hp}(x:HR w G μ h H){n:Nat}{p:Addr×Addr}(hp:μ[n]?=some p):∃ ob:O,H[n]?=some ob/\OR w G μ h ob p:=
 have hl:n<H.length:=x.len▸(UW hp).1
 ⟨_,List.getElem?_eq_getElem hl,x.objs n p _ hp (List.getElem?_eq_getElem hl)⟩
theorem HR.own{G:Heap}{μ:Mu}{h:Heap}{H:Hp}(x:HR w G μ h H){a:Addr}(q:Own μ a):n7 h a:=
 aM q fun p hp e=>(List.mem_iff_getElem?.mp hp).elim fun n hn=>aM (x.at_ hn) fun ob _ r=>e.elim (fun e=>e▸(Bm r).1) fun e=>e▸(Bm r).2
theorem HR.pE{G:Heap}{μ:Mu}{h:Heap}{H:Hp}(x:HR w G μ h H):∀ a items,h.IsTuple a items->¬ Own μ a:=fun a items ht q=>aM (x.own q) fun ob ho k=>dj ht fun o rI hc z=>z.elim fun ep hd=>by
 have e:=UM (ho.symm.trans rI);exact k items ep ⟨e▸hc,e▸hd⟩
end
end
section
open PySem PySem.W PySem.Calls PyProof.Rows
theorem b7(h:Heap):h.get? h.objs.size=none:=by
 cases e:h.get? h.objs.size with
 | none=>rfl
 | some o=>exact absurd (Heap.lt_size e) (Nat.lt_irrefl _)
theorem v3{α:Type}{l:List α}{x y:α}{i:Nat}(h:(l++[x])[i]?=some y):l[i]?=some y∨(i=l.length/\y=x):=by
 by_cases hi:i<l.length
 ·exact .inl ((List.getElem?_append_left hi).symm.trans h)
 ·have q:=(List.getElem?_append_right (l₂:=[x]) (Nat.not_lt.mp hi)).symm.trans h;cases e:i - l.length with
  | zero=>rw[e] at q;exact .inr ⟨Nat.le_antisymm (Nat.le_of_sub_eq_zero e) (Nat.not_lt.mp hi),(UM q).symm⟩
  | succ k=>rw[e] at q;exact fJ q
theorem qk{α:Type}{l:List α}{x:α}:(l++[x])[l.length]?=some x:=by rw[List.getElem?_append_right (Nat.le_refl _),Nat.sub_self];rfl
section
variable{w:World}{G:Heap}{μ:Mu}{h h':Heap}{H:Hp}
theorem HR.Hc(x:HR w G μ h H){a:Addr}(o:Own μ a):(h.get? a).isSome=true:=aM (x.own o) fun _ e _=>cK e
theorem HR.gD(x:HR w G μ h H){a:Addr}{o:Obj}(e:G.get? a=some o):¬ Own μ a:=fun q=>ca (x.above a q) e
theorem HR.dB(x:HR w G μ h H){a:Addr}(e:h.get? a=none):¬ Own μ a:=fun q=>iU (x.Hc q) fun _ z=>ca e z
theorem HR.jO(x:HR w G μ h H){a:Addr}(e:h.get? a=none):G.get? a=none:=by
 cases q:G.get? a with
 | none=>rfl
 | some o=>exact ca e (x.ground a o q)
theorem HR.keeps(x:HR w G μ h H)(k:∀ b o,h.get? b=some o->h'.get? b=some o):HR w G μ h' H:=
 have n:bu gm μ h μ h':=bu.of_keeps k
 ⟨x.len,fun b o e=>k b o (x.ground b o e),x.apart,x.above,fun i p ob hp ho=>rW (x.objs i p ob hp ho) (k _) (k _) (fun a items ht _=>bQ ht (k a)) x.pE (fun v mv r=>r.nx n)⟩
theorem VR.but{S:Addr->Prop}(k:∀ b o,h.get? b=some o->¬ S b->h'.get? b=some o)(hS:∀ b items,S b->¬ h.IsTuple b items){v:V}{mv:Value}(r:VR G μ h v mv):VR G μ h' v mv:=
 VR.rec (motive_1:=fun v mv _=>VR G μ h' v mv) (motive_2:=fun l ml _=>dh G μ h' l ml) .none .bool .int .str (fun ht hn _ ih=>.tup (bQ ht fun o e=>k _ o e fun q=>hS _ _ q ht) hn ih) .obj .tab (fun ht _ ih=>.qF ht ih) .nil (fun _ _ a b=>.cons a b) r
theorem HR.Ke{S:Addr->Prop}(x:HR w G μ h H)(k:∀ b o,h.get? b=some o->¬ S b->h'.get? b=some o)(hS:∀ b,S b->¬ Own μ b/\G.get? b=none/\∀ items,¬ h.IsTuple b items):HR w G μ h' H:=
 ⟨x.len,fun b o e=>k b o (x.ground b o e) fun q=>ca (hS b q).2.1 e,x.apart,x.above,fun i p ob hp ho=>
  rW (x.objs i p ob hp ho) (fun o e=>k _ o e fun q=>(hS _ q).1 ⟨p,List.mem_of_getElem? hp,.inl rfl⟩) (fun o e=>k _ o e fun q=>(hS _ q).1 ⟨p,List.mem_of_getElem? hp,.inr rfl⟩)
   (fun a items ht _=>bQ ht fun o e=>k _ o e fun q=>(hS _ q).2.2 _ ht) x.pE fun v mv r=>r.but k fun b items q=>(hS b q).2.2 items⟩
theorem rX{p:Addr×Addr}{a:Addr}(q:Own (μ++[p]) a):Own μ a∨(a=p.1∨a=p.2):=aM q fun r hr e=>(UR hr).elim (fun hr=>.inl ⟨r,hr,e⟩) fun hr=>.inr (UL hr▸e)
theorem HR.new(x:HR w G μ h H){p:Addr×Addr}{ob:O}(k:∀ b o,h.get? b=some o->h'.get? b=some o)(f1:h.get? p.1=none)(f2:h.get? p.2=none)
  (ho:OR w G (μ++[p]) h' ob p):bu gm μ h (μ++[p]) h'/\HR w G (μ++[p]) h' (H++[ob]):=by
 have n:bu gm μ h (μ++[p]) h':=⟨⟨[p],rfl⟩,fun b e=>iU e fun o ho=>cK (k b o ho),fun b o e _ _=>k b o e,fun a q=>(rX q).imp id fun e=>e.elim (fun e=>e▸f1) fun e=>e▸f2⟩;have ne:∀ {r:Addr×Addr} {i:Nat},μ[i]?=some r->(r.1≠p.1/\r.1≠p.2)/\(r.2≠p.1/\r.2≠p.2):=fun {r i} hr=>by
  have a1:Own μ r.1:=⟨r,List.mem_of_getElem? hr,.inl rfl⟩;have a2:Own μ r.2:=⟨r,List.mem_of_getElem? hr,.inr rfl⟩;exact ⟨⟨fun e=>x.dB f1 (e▸a1),fun e=>x.dB f2 (e▸a1)⟩,⟨fun e=>x.dB f1 (e▸a2),fun e=>x.dB f2 (e▸a2)⟩⟩
 refine ⟨n,⟨by rw[UN,UN,x.len];rfl,fun b o e=>k b o (x.ground b o e),fun i j q r hq hr QF=>?_,fun a q=>(rX q).elim (x.above a) fun e=>x.jO (e.elim (fun e=>e▸f1) fun e=>e▸f2),fun i r O hr hO=>?_⟩⟩
 ·refine (v3 hq).elim (fun hq=>(v3 hr).elim (fun hr=>x.apart i j q r hq hr QF) fun z=>?_) fun y=>(v3 hr).elim (fun hr=>?_) fun z=>absurd (y.1.trans z.1.symm) QF
  ·rw[z.2];exact ⟨(ne hq).1.1,(ne hq).1.2,(ne hq).2.1,(ne hq).2.2⟩
  ·rw[y.2];exact ⟨(ne hr).1.1.symm,(ne hr).2.1.symm,(ne hr).1.2.symm,(ne hr).2.2.symm⟩
 ·refine (v3 hr).elim (fun hr=>rW (x.objs i r O hr ((List.getElem?_append_left (x.len▸(UW hr).1)).symm.trans hO)) (k _) (k _) (fun a items ht _=>bQ ht (k a)) x.pE (fun v mv r=>r.nx n)) fun z=>?_;rw[z.1,x.len,qk] at hO;rw[z.2];exact UM hO▸ho
theorem HR.put(x:HR w G μ h H){n:Nat}{p:Addr×Addr}{d:Addr}{ob:O}(hp:μ[n]?=some p)(hd:d=p.1∨d=p.2)(k:∀ b,b≠d->h'.get? b=h.get? b)(hl:(h'.get? d).isSome=true)
  (ho:(∀ v mv,VR G μ h v mv->VR G μ h' v mv)->OR w G μ h' ob p):bu gm μ h μ h'/\HR w G μ h' (H.set n ob):=by
 have own:Own μ d:=⟨p,List.mem_of_getElem? hp,hd⟩;have nx:bu gm μ h μ h':=⟨⟨[],(List.append_nil μ).symm⟩,fun b e=>by
   by_cases q:b=d
   ·exact q▸hl
   ·rw[k b q];exact e,fun b o e no _=>(k b fun q=>no (q▸own)).trans e,fun a q=>.inl q⟩
 refine ⟨nx,⟨x.len.trans List.length_set.symm,fun b o e=>(k b fun q=>x.gD (q▸e) own).trans (x.ground b o e),x.apart,x.above,fun i r O hr hO=>?_⟩⟩
 by_cases hi:i=n
 ·rw[hi] at hr hO;rw[UM (hr.symm.trans hp)];rw[List.getElem?_set_self (x.len▸(UW hp).1)] at hO;exact UM hO▸ho fun v mv r=>r.nx nx
 ·rw[List.getElem?_set_ne (Ne.symm hi)] at hO;refine lI (x.apart i n r p hr hp hi) fun a b c e=>?_;have d1:r.1≠d:=hd.elim (fun e=>e▸a) fun e=>e▸b;have d2:r.2≠d:=hd.elim (fun z=>z▸c) fun z=>z▸e;exact rW (x.objs i r O hr hO) (fun o e=>(k _ d1).trans e) (fun o e=>(k _ d2).trans e) (fun a items ht no=>bQ ht fun o e=>(k _ fun q:a=d=>no (q▸own)).trans e) x.pE (fun v mv r=>r.nx nx)
end
structure Mv(S:Addr->Prop)(μ:Mu)(s:Shared)(μ':Mu)(s':Shared):Prop where
 n:bu S μ s.heap μ' s'.heap
 g:s'.gens=s.gens
 o:s'.os=s.os
theorem Mv.refl{S:Addr->Prop}{μ:Mu}{s:Shared}:Mv S μ s μ s:=⟨bu.refl _ _ _,rfl,rfl⟩
theorem Mv.trans{S:Addr->Prop}{μ μ₁ μ₂:Mu}{s s₁ s₂:Shared}(x:Mv S μ s μ₁ s₁)(y:Mv S μ₁ s₁ μ₂ s₂):Mv S μ s μ₂ s₂:=⟨x.n.trans y.n,y.g.trans x.g,y.o.trans x.o⟩
theorem Mv.any{S:Addr->Prop}{μ μ₁:Mu}{s s₁:Shared}(x:Mv gm μ s μ₁ s₁):Mv S μ s μ₁ s₁:=⟨x.n.any,x.g,x.o⟩
noncomputable def EP(w:World)(G:Heap)(μ:Mu)(s:Shared)(v:V)(H':Hp)(mv:Value)(s':Shared):Prop:=
 ∃ μ',Mv gm μ s μ' s'/\HR w G μ' s'.heap H'/\VR G μ' s'.heap v mv
noncomputable abbrev bM:Value->Shared->Prop:=fun _ _=>False
end
section
open PySem PySem.W PySem.Calls PyProof.Rows PySem.SeqAt
structure j8(A:Around):Prop where
 handled:A.handled=none
 units:A.units+100<cLine
theorem j8.lt{A:Around}(hA:j8 A)(k:Nat)(h:k<=100):A.units+k<cLine:=Nat.lt_of_le_of_lt (Nat.add_le_add_left h _) hA.units
theorem j8.in1{A:Around}(hA:j8 A)(k:Nat)(h:k<100):A.in1.units+k<cLine:=by
 show A.units+1+k<cLine;rw[Nat.add_assoc,Nat.add_comm 1];exact hA.lt (k+1) h
section
variable{w:World}{G:Heap}{μ:Mu}{s:Shared}{H:Hp}{A:Around}
theorem EP.val{v:V}{mv:Value}{t:Tok}(x:HR w G μ s.heap H)(r:VR G μ s.heap v mv):EP w G μ s v H mv { s with toks:=t }:=
 ⟨μ,⟨bu.refl _ _ _,rfl,rfl⟩,x,r⟩
theorem EP.here{v:V}{mv:Value}(x:HR w G μ s.heap H)(r:VR G μ s.heap v mv):EP w G μ s v H mv s:=⟨μ,Mv.refl,x,r⟩
theorem fN{α:Type}{l:List α}(h:bp l=true):l.length<1048576:=UU h
theorem yf:1048577<=sizeLine:=by decide
theorem jP{n:Nat}(h:n<1048576):n<=sizeLine:=Nat.le_of_lt (Nat.lt_of_lt_of_le h (Nat.le_of_succ_le yf))
theorem yg{h:Heap}{l:List V}{items:Array Value}(r:dh G μ h l items.toList)(hz:bp l=true):items.size<1048576:=Array.length_toList (xs:=items)▸r.length▸fN hz
theorem fO{h:Heap}{l:List V}{items:Array Value}(r:dh G μ h l items.toList)(hz:bp l=true):items.size<=sizeLine:=jP (yg r hz)
theorem yh{h:Heap}{l:List V}{items:Array Value}(r:dh G μ h l items.toList)(hz:bp l=true):(items.size:Int)<2 ^ 62:=Int.lt_trans (Int.ofNat_lt.mpr (yg r hz)) (by decide)
theorem tG{h:Heap}{l:List V}{items:Array Value}(r:dh G μ h l items.toList)(hz:bp l=true):(items.size:Int)<2 ^ 63:=Int.lt_trans (yh r hz) (by decide)
noncomputable abbrev rJ(o:Obj)(t:Tok)(s:Shared):Shared:={ s with heap:=s.heap.push o,toks:=t }
theorem bK{h:Heap}(o:Obj):∀ b ob,h.get? b=some ob->(h.push o).get? b=some ob:=fun _ _ e=>Heap.get?_push_of_some _ e
theorem lZ(x:HR w G μ s.heap H){l:List V}{ml:List Value}(r:dh G μ s.heap l ml){t:Tok} :
  EP w G μ s (.obj H.length) (H++[.list l]) (.ref s.heap.objs.size) (rJ { cls:=.type "list",data:=.seq ml.toArray } t s):=by
 have k:=bK (h:=s.heap) { cls:=.type "list",data:=.seq ml.toArray };have nx:bu gm μ s.heap (μ++[(s.heap.objs.size,s.heap.objs.size)]) (s.heap.push { cls:=.type "list",data:=.seq ml.toArray }):=
  ⟨⟨_,rfl⟩,fun b e=>iU e fun o ho=>cK (k b o ho),fun b o e _ _=>k b o e,fun a q=>(rX q).imp id fun e=>e.elim (fun e=>e▸b7 _) fun e=>e▸b7 _⟩
 refine bY (x.new (p:=(s.heap.objs.size,s.heap.objs.size)) (ob:=.list l) k (b7 _) (b7 _) ⟨rfl,ml.toArray,⟨0,Heap.get?_push_size _ rfl⟩,List.toList_toArray▸r.nx nx⟩) fun n hr=>?_;exact ⟨_,⟨n,rfl,rfl⟩,hr,.obj (p:=(s.heap.objs.size,s.heap.objs.size)) (x.len▸qk)⟩
theorem qm(x:HR w G μ s.heap H){l:List V}{ml:List Value}(r:dh G μ s.heap l ml){t:Tok} :
  EP w G μ s (.tup l) H (.ref s.heap.objs.size) (rJ { cls:=.type "tuple",data:=.seq ml.toArray } t s):=
 have k:=bK (h:=s.heap) { cls:=.type "tuple",data:=.seq ml.toArray };have nx:bu gm μ s.heap μ (s.heap.push { cls:=.type "tuple",data:=.seq ml.toArray }):=bu.of_keeps k
 ⟨μ,⟨nx,rfl,rfl⟩,x.keeps k,.tup (items:=ml.toArray) ⟨_,Heap.get?_push_size _ rfl,rfl,0,rfl⟩ (x.dB (b7 _)) (List.toList_toArray▸r.nx nx)⟩
theorem cQ(x:HR w G μ s.heap H){n:Nat}{l:List V}{mv:Value}(r:VR G μ s.heap (.obj n) mv)(e:fK H n=some l){P:Value->Prop}(k:∀ a items,μ[n]?=some (a,a)->s.heap.PlainList a items->dh G μ s.heap l items.toList->P (.ref a)):P mv:=
 aM r.inv fun p hp e'=>bY (x.objs n p _ hp (Bb e)) fun q z=>aM z fun items a b=>by
  obtain ⟨p1,p2⟩:=p;have q:p2=p1:=q;rw[q] at hp;exact e'▸k p1 items hp a b
theorem l8{i:Int}(h:gO i=true):-1152921504606846976<i/\i<1152921504606846976:=aJ h fun a b=>⟨UU a,UU b⟩
theorem Cb{a b:Int}(h:gO b=true):¬ (Builtin.divisionGoesByPylong a b)=true:=by
 have h:=l8 h;unfold Builtin.divisionGoesByPylong;simp only[Bool.and_eq_true,decide_eq_true_eq,not_and];intro hc
 exfalso
 by_cases hb:b=0
 ·rw[hb] at hc;revert hc;simp
 ·have:b.natAbs.log2<60:=(Nat.log2_lt (by lia)).mpr (by lia);rw[if_neg (by simpa using hb)] at hc;lia
theorem Hd(x:HR w G μ s.heap H){op:Bc}{p q r:Int}{t u:Tok}(e:binI op p q=some r):wpAny (model aX w) A (binaryOp op.py (.int p t) (.int q u)) (EP w G μ s (.int r) H) bM s:=by
 cases op with
 | add=>exact UM e▸P.add_int (.val x (.int _ _))
 | sub=>exact UM e▸P.sub_int (.val x (.int _ _))
 | mul=>exact cS e fun c e=>UM e▸P.mul_int (.val x (.int _ _)) (.of_right (intBits_le_64 (Int.lt_trans (by decide) (l8 c).1) (Int.lt_trans (l8 c).2 (by decide))))
 | mod=>exact cS e fun c e=>UM e▸AutoIntOps.mod_1 (fun z=>Int.ne_of_gt c (eq_of_beq z)) (Int.fmod_eq_emod_of_nonneg _ (Int.le_of_lt c)▸.val x (.int _ _))
 | fdiv=>exact cS e fun c e=>aJ c fun c d=>UM e▸AutoIntOps.floordiv_1 (fun z=>Int.ne_of_gt (UU c) (eq_of_beq z)) (Cb d) (Int.fdiv_eq_ediv_of_nonneg _ (Int.le_of_lt (UU c))▸.val x (.int _ _))
theorem He(x:HR w G μ s.heap H){n m:Nat}{l k:List V}{ma mb:Value}(ra:VR G μ s.heap (.obj n) ma)(rb:VR G μ s.heap (.obj m) mb)(h1:fK H n=some l)(h2:fK H m=some k)(hl:bp (l++k)=true):wpAny (model aX w) A (binaryOp .Add ma mb) (EP w G μ s (.obj H.length) (H++[.list (l++k)])) bM s:=
 cQ x ra h1 (P:=fun ma=>wpAny (model aX w) A (binaryOp .Add ma mb) (EP w G μ s (.obj H.length) (H++[.list (l++k)])) bM s) fun a1 i1 _ p1 r1=>cQ x rb h2 (P:=fun mb=>wpAny (model aX w) A (binaryOp .Add (.ref a1) mb) (EP w G μ s (.obj H.length) (H++[.list (l++k)])) bM s) fun a2 i2 _ p2 r2=>p1.elim fun n1 g1=>p2.elim fun n2 g2=>by
  have hz:i1.size+i2.size<=sizeLine:=jP (by
   have:=fN hl
   rwa [UN,r1.length,r2.length,Array.length_toList,Array.length_toList] at this)
  refine concat_meets ⟨_,g1,rfl⟩ ⟨_,g2,rfl⟩ noFill_list_add seq_list_add PySem.F.slot_list_add PySem.F.entry_list_add (PySem.F.args_list_add_2 _ _) (PyProof.Rows.list_addW a1 a2 i1 i2 n1 n2 none none #[] #[] hz) ⟨g1,g2,?_⟩;have:=lZ (t:=s.toks) x (r1.append r2);have ea:(i1.toList++i2.toList).toArray=i1++i2:=by simp
  rw[ea] at this;exact this
theorem DT{op:Bc}(h:op.isAdd=true):op=.add:=by
 cases op with
 | add=>rfl
 | _=>exact gI h
theorem Kf(x:HR w G μ s.heap H){op:Bc}{a b v:V}{ma mb:Value}{H':Hp}(ra:VR G μ s.heap a ma)(rb:VR G μ s.heap b mb)(e:lD op a b H=some (v,H')) :
  wpAny (model aX w) A (binaryOp op.py ma mb) (EP w G μ s v H') bM s:=by
 cases a with
 | int p=>
  refine bc e fun q eb e=>bc e fun r er e=>eD (P:=fun v H'=>wpAny (model aX w) A (binaryOp op.py ma mb) (EP w G μ s v H') bM s) e ?_;rw[iF eb] at rb;exact cX ra.inv fun t e1=>cX rb.inv fun u e2=>e1▸e2▸Hd x er
 | obj n=>
  refine cS e fun c e=>bc e fun m eb e=>bc e fun l h1 e=>bc e fun k h2 e=>cS e fun hl e=>eD (P:=fun v H'=>wpAny (model aX w) A (binaryOp op.py ma mb) (EP w G μ s v H') bM s) e ?_;rw[iG eb] at rb;rw[DT c];exact He x ra rb h1 h2 hl
 | _=>exact fJ e
end
end
section
open PySem PySem.W PySem.Calls PyProof.Rows PySem.SeqAt
structure tH(w:World)(G:Heap):Prop where
 tab:∀ t a,vQ[t]?=some a->∃ xs,G.DictOf (intKind aX w) a xs/\Pr R0 (VR G [] G) (aA t) xs
 sys:(G.get? sysModules).isSome=true
section
variable{w:World}{G:Heap}{μ:Mu}{s:Shared}{H:Hp}{A:Around}{E:Value->Shared->Prop}
theorem VR.ground{v:V}{mv:Value}(x:HR w G μ s.heap H)(r:VR G [] G v mv):VR G μ s.heap v mv:=
 VR.rec (motive_1:=fun v mv _=>VR G μ s.heap v mv) (motive_2:=fun l ml _=>dh G μ s.heap l ml) .none .bool .int .str
  (fun ht _ _ ih=>.tup (bQ ht fun o e=>x.ground _ o e) (aM ht fun o ho _=>x.gD ho) ih) (fun hp=>fJ hp) .tab (fun ht _ ih=>.qF ht ih) .nil (fun _ _ a b=>.cons a b) r
theorem Kg(t:tH w G)(x:HR w G μ s.heap H){n:Nat}{p:Addr×Addr}(hp:μ[n]?=some p):(p.1==sysModules)=false:=
 beq_false_of_ne fun e=>iU t.sys fun o ho=>x.gD ho ⟨p,List.mem_of_getElem? hp,.inl e.symm⟩
theorem Kh{t:Nat}{a:Addr}(h:vQ[t]?=some a):(a==sysModules)=false:=by
 have k:vQ.all (fun a=>!(a==sysModules))=true:=by decide
 exact eZ (List.all_eq_true.mp k a (List.mem_of_getElem? h)) id
structure Hg(w:World)(G:Heap)(μ:Mu)(h:Heap)(kd:Nat)(kvs:List (V×V))(d:Addr):Prop where
 dr:DR w kd G μ h kvs d
 ne:(d==sysModules)=false
theorem mH(t:tH w G)(x:HR w G μ s.heap H){k:Nat}{a:Addr}(h:vQ[k]?=some a):Hg w G μ s.heap 0 (aA k) a:=
 aM (t.tab k a h) fun xs h1 h2=>⟨⟨xs,h1.keep (fun b o e=>x.ground b o e),h2.mono (fun _ _ e=>e) fun _ _ r=>VR.ground x r⟩,Kh h⟩
theorem l9(t:tH w G)(x:HR w G μ s.heap H){n:Nat}{d:Nat×List (V×V)}{mv:Value}(r:VR G μ s.heap (.obj n) mv)(e:lJ H n=some d){P:Value->Prop}(k:∀ p:Addr×Addr,μ[n]?=some p->Hg w G μ s.heap d.1 d.2 p.1->P (.ref p.1)):P mv:=
 aM r.inv fun p hp e'=>e'▸k p hp ⟨(x.objs n p _ hp (vJ e)).2,Kg t x hp⟩
theorem rY{kd:Nat}{k:V}{mk:Value}(r:VR G μ s.heap k mk)(h:keyOk 0 k=true){P:V->Value->Prop}(f:∀ i t,P (.int i) (.int i t)):P k mk:=by
 cases k with
 | int i=>exact cX r.inv fun t e=>e▸f i t
 | _=>exact gI h
theorem rZ{kd:Nat}{k:V}{mk:Value}(r:VR G μ s.heap k mk)(h:keyOk 1 k=true){P:V->Value->Prop}(f:∀ n t,n<tE->P (.str n) (.str (fV n) t)):P k mk:=by
 cases k with
 | str i=>exact aM r.inv fun t hn e=>e▸f i t hn
 | _=>exact gI h
theorem r7{k:V}{mk:Value}(r:VR G μ s.heap k mk)(h:keyOk 2 k=true){P:Value->Prop}(f:∀ a,DQ s.heap k a->P (.ref a)):P mk:=by
 cases k with
 | tup l=>exact fH r.inv fun a items e ht hn hl=>e▸f a ⟨h,VE.of (.tup ht hn hl) (aJ (show ((2==2)&&(kJ l&&plain 8 (.tup l)))=true from h) fun _ q=>aJ q fun _ q=>q)⟩
 | _=>exact gI h
theorem yi{M:Model}{a b:Value}{Q:Value->Shared->Prop}(h:wpAny M A (compareOp .In a b) (fun v s'=>∀ c,v=.bool c->Q (.bool (!c)) s') E s):wpAny M A (compareOp .NotIn a b) Q E s:=by
 intro Γ p hΓ;have:=h Γ p hΓ;have e1:compareOp .In a b=(contains b a >>= fun c=>pure (.bool c)):=rfl;have e2:compareOp .NotIn a b=(contains b a >>= fun c=>pure (.bool (!c))):=rfl;rw[e1,Sem.wp_bind'] at this;rw[e2,Sem.wp_bind'];exact Sem.wp_mono _ Γ _ (fun c _ s' h'=>h' c rfl) (fun _ _ _ e=>e) p s this
theorem v5{K:Type}[DecidableEq K]{R:V->K->Prop}{Q:V->Value->Prop}(inj:∀ v v' k k',R v k->R v' k'->(v=v'↔k=k')){l:List (V×V)}{ml:List (K×Value)}{k:V}{mk:K}(r:Pr R Q l ml)(hr:R k mk){P:Option V->Option Value->Prop}
  (n:P none none) (s:∀ v mv,Q v mv->P (some v) (some mv)):P (aW l k) (valueAt ml mk):=
 (r.val inj hr).elim (fun x=>x.1▸x.2▸n) fun x=>fG x fun v mv a b c=>a▸b▸s v mv c
theorem n8{K:Type}[DecidableEq K]{R:V->K->Prop}{Q:V->Value->Prop}(inj:∀ v v' k k',R v k->R v' k'->(v=v'↔k=k')){l:List (V×V)}{ml:List (K×Value)}{k:V}{mk:K}(r:Pr R Q l ml)(hr:R k mk):(valueAt ml mk).isSome=(aW l k).isSome:=
 v5 inj r hr (P:=fun a b=>b.isSome=a.isSome) rfl fun _ _ _=>rfl
theorem tI{K:Type}[DecidableEq K]{R:V->K->Prop}{Q:V->Value->Prop}(inj:∀ v v' k k',R v k->R v' k'->(v=v'↔k=k')){l:List (V×V)}{ml:List (K×Value)}{k v:V}{mk:K}(r:Pr R Q l ml)(hr:R k mk)(hv:aW l k=some v){G:Prop}(f:∀ mv,valueAt ml mk=some mv->Q v mv->G):G:=
 (r.val inj hr).elim (fun x=>ca x.1 hv) fun x=>fG x fun u mv a b c=>f mv b (UM (a.symm.trans hv)▸c)
theorem kI(i:Int):R0 (.int i) i:=rfl
theorem kS{n:Nat}(hn:n<tE):R1 (.str n) (fV n):=⟨n,hn,rfl,rfl⟩
theorem in_dict(hA:j8 A){kd:Nat}{kvs:List (V×V)}{d:Addr}{k:V}{mk:Value}{Q:Value->Shared->Prop}(D:Hg w G μ s.heap kd kvs d)(r:VR G μ s.heap k mk)(hk:keyOk kd k=true)
  (h:∀ t,Q (.bool (aW kvs k).isSome) { s with toks:=t }):wpAny (model aX w) A (compareOp .In mk (.ref d)) Q E s:=
 D.dr.cs (P:=fun kd=>keyOk kd k=true->wpAny (model aX w) A (compareOp .In mk (.ref d)) Q E s)
  (fun xs hx hp hk=>rY (kd:=kd) r hk (P:=fun k mk=>(∀ t,Q (.bool (aW kvs k).isSome) { s with toks:=t })->wpAny (model aX w) A (compareOp .In mk (.ref d)) Q E s) (fun i t h=>wpAny_in_of (knd:=intKind aX w) (intKind_is _ _ i t) D.ne hx.mapOf (n8 vW hp (kI i)▸h _)) h)
  (fun xs hx hp hk=>rZ (kd:=kd) r hk (P:=fun k mk=>(∀ t,Q (.bool (aW kvs k).isSome) { s with toks:=t })->wpAny (model aX w) A (compareOp .In mk (.ref d)) Q E s) (fun n t hn h=>wpAny_in_of (knd:=strKind aX w) (strKind_is _ _ (fV n) t) D.ne hx.mapOf (n8 vX hp (kS hn)▸h _)) h)
  (fun xs hx hp hk=>r7 r hk (P:=fun mk=>wpAny (model aX w) A (compareOp .In mk (.ref d)) Q E s) fun a hT=>wpAny_in_heap (knd:=tupK aX w) (hA.in1 8 (by decide)) hT D.ne hx (by
   have e:=n8 vY hp (rfl:R2 k k);rw[qj,Option.isSome_map] at e;exact e▸h _)) hk
theorem item_dict(hA:j8 A){kd:Nat}{kvs:List (V×V)}{d:Addr}{k v:V}{mk:Value}{Q:Value->Shared->Prop}(D:Hg w G μ s.heap kd kvs d)(r:VR G μ s.heap k mk)(hk:keyOk kd k=true)(hv:aW kvs k=some v)
  (h:∀ t mv,VR G μ s.heap v mv->Q mv { s with toks:=t }):wpAny (model aX w) A (getItem (.ref d) mk) Q E s:=
 D.dr.cs (P:=fun kd=>keyOk kd k=true->wpAny (model aX w) A (getItem (.ref d) mk) Q E s)
  (fun xs hx hp hk=>rY (kd:=kd) r hk (P:=fun k mk=>aW kvs k=some v->wpAny (model aX w) A (getItem (.ref d) mk) Q E s) (fun i t hv=>tI vW hp (kI i) hv fun mv b c=>wpAny_getItem_of (knd:=intKind aX w) (intKind_is _ _ i t) hx.mapOf b (h _ _ c)) hv)
  (fun xs hx hp hk=>rZ (kd:=kd) r hk (P:=fun k mk=>aW kvs k=some v->wpAny (model aX w) A (getItem (.ref d) mk) Q E s) (fun n t hn hv=>tI vX hp (kS hn) hv fun mv b c=>wpAny_getItem_of (knd:=strKind aX w) (strKind_is _ _ (fV n) t) hx.mapOf b (h _ _ c)) hv)
  (fun xs hx hp hk=>r7 r hk (P:=fun mk=>wpAny (model aX w) A (getItem (.ref d) mk) Q E s) fun a hT=>tI vY hp (rfl:R2 k k) hv fun mv b c=>
   aM (Option.map_eq_some_iff.mp ((qj _ _).symm.trans b)) fun y q1 q2=>wpAny_getItem_heap (knd:=tupK aX w) (hA.in1 8 (by decide)) hT hx (p:=y) q1 (h _ _ (q2▸c))) hk
theorem tJ(x:HR w G μ s.heap H){kd:Nat}{kvs:List (V×V)}{n:Nat}{p:Addr×Addr}{k v:V}{mk mv:Value}{Q:Unit->Shared->Prop}{F:Value->Sem Unit}(hp:μ[n]?=some p)(e:lJ H n=some (kd,kvs))
  (r:VR G μ s.heap k mk) (rv:VR G μ s.heap v mv) (hk:keyOk kd k=true) (hz:bp kvs=true) (h:∀ h' t,bu gm μ s.heap μ h'->HR w G μ h' (H.set n (.dict kd (hH kvs k v)))->Q () { s with heap:=h',toks:=t })
  (fp:∀ {K:Type} [DecidableEq K] {knd:PySem.KeyKind aX w K} {l:List (K×Value)} {k:K} {key:Value},knd.is k key=true->s.heap.DictOf knd p.1 l->(∀ h',h'.DictOf knd p.1 (stored l k mv)->Heap.SameBut p.1 s.heap h'->Q () { s with heap:=h',toks:=s.toks+1 })->l.length<=sizeLine->wpAny (model aX w) A (F key) Q E s)
  (fh:∀ {l:List (V×Addr×Value)} {k:V} {a:Addr},DQ s.heap k a->s.heap.DictOfH (tupK aX w) p.1 l->(∀ h',h'.DictOfH (tupK aX w) p.1 (storedH l k a mv)->Heap.SameBut p.1 s.heap h'->Q () { s with heap:=h',toks:=s.toks+n6 k })->l.length<=sizeLine->wpAny (model aX w) A (F (.ref a)) Q E s):wpAny (model aX w) A (F mk) Q E s:=by
 have D:=(x.objs n p _ hp (vJ e)).2;have pe:=(x.objs n p _ hp (vJ e)).1;have zQ:kvs.length<=sizeLine:=jP (fN hz);have put:∀ {kd:Nat} {h':Heap} {t:Tok},(∀ h' t,bu gm μ s.heap μ h'->HR w G μ h' (H.set n (.dict kd (hH kvs k v)))->Q () { s with heap:=h',toks:=t })->Heap.SameBut p.1 s.heap h'->(h'.get? p.1).isSome=true->((∀ v mv,VR G μ s.heap v mv->VR G μ h' v mv)->DR w kd G μ h' (hH kvs k v) p.1)->Q () { s with heap:=h',toks:=t }:=
  fun h hs hl hd=>bY (x.put (ob:=.dict _ (hH kvs k v)) hp (.inl rfl) hs.2 hl fun hv=>⟨pe,hd hv⟩) (h _ _)
 refine D.cs (P:=fun kd=>keyOk kd k=true->(∀ h' t,bu gm μ s.heap μ h'->HR w G μ h' (H.set n (.dict kd (hH kvs k v)))->Q () { s with heap:=h',toks:=t })->wpAny (model aX w) A (F mk) Q E s) (fun xs hx Ji hk h=>?_) (fun xs hx Ji hk h=>?_) (fun xs hx Ji hk h=>?_) hk h
 ·refine rY (kd:=kd) r hk (P:=fun k' mk=>k'=k->wpAny (model aX w) A (F mk) Q E s) (fun i t q=>fp (knd:=intKind aX w) (intKind_is _ _ i t) hx (fun h' hd hs=>put h hs (GY hd fun _ _ _ q=>cK q.1) fun hv=>⟨_,hd,?_⟩) (Ji.length▸zQ)) rfl;exact (Ji.mono (fun _ _ e=>e) hv).ins vW q.symm (hv _ _ rv) (lC hx fun _ _ _ _ _ _ _ _ hn=>hn)
 ·refine rZ (kd:=kd) r hk (P:=fun k' mk=>k'=k->wpAny (model aX w) A (F mk) Q E s) (fun i t hn q=>fp (knd:=strKind aX w) (strKind_is _ _ (fV i) t) hx (fun h' hd hs=>put h hs (GY hd fun _ _ _ q=>cK q.1) fun hv=>⟨_,hd,?_⟩) (Ji.length▸zQ)) rfl;exact (Ji.mono (fun _ _ e=>e) hv).ins vX (q▸kS hn) (hv _ _ rv) (lC hx fun _ _ _ _ _ _ _ _ hn=>hn)
 ·refine r7 r hk (P:=fun mk=>wpAny (model aX w) A (F mk) Q E s) fun a hT=>fh hT hx (fun h' hd hs=>put h hs (GY hd fun _ _ _ q=>cK q.1) fun hv=>⟨_,hd,?_⟩) ?_
  ·rw[vZ];exact (Ji.mono (fun _ _ e=>e) hv).ins vY rfl (hv _ _ rv) (by rw[zP];exact lC hx fun _ _ _ _ _ _ _ _ hn=>hn)
  ·exact List.length_map (as:=xs) (fun x=>(x.1,x.2.2))▸Ji.length▸zQ
theorem Cc(hA:j8 A){kd:Nat}{kvs:List (V×V)}{n:Nat}{p:Addr×Addr}{k v:V}{mk mv:Value}{Q:Unit->Shared->Prop}(x:HR w G μ s.heap H)(hp:μ[n]?=some p)(e:lJ H n=some (kd,kvs))
  (r:VR G μ s.heap k mk) (rv:VR G μ s.heap v mv) (hk:keyOk kd k=true) (hz:bp kvs=true)
  (h:∀ h' t,bu gm μ s.heap μ h'->HR w G μ h' (H.set n (.dict kd (hH kvs k v)))->Q () { s with heap:=h',toks:=t }):wpAny (model aX w) A (setItem (.ref p.1) mk mv) Q E s:=
 tJ (F:=fun mk=>setItem (.ref p.1) mk mv) x hp e r rv hk hz h (fun a b f z=>wpAny_setItem_pairs a b f z) fun a b f z=>wpAny_setItem_heap (knd:=tupK aX w) (hA.in1 8 (by decide)) a b f z
end
end
section
open PySem PySem.W PySem.Calls PyProof.Rows PySem.SeqAt
section
variable{w:World}{G:Heap}{μ:Mu}{s:Shared}{H:Hp}{A:Around}{E:Value->Shared->Prop}
theorem j1.mem{h:Heap}{l:List V}{ml:List Value}{y:Value}(r:j1 h l ml):y∈ml->∃ v,v∈l/\VE h v y:=
 r.ind (P:=fun l ml=>y∈ml->∃ v,v∈l/\VE h v y) (fun q=>absurd q List.not_mem_nil) fun hv _ ih hy=>(UO hy).elim (fun e=>⟨_,List.mem_cons_self,e▸hv⟩) fun q=>aM (ih q) fun v a b=>⟨v,List.mem_cons_of_mem _ a,b⟩
theorem j1.Pg{h:Heap}{l:List V}{ml:List Value}{v:V}(r:j1 h l ml):v∈l->∃ y,y∈ml/\VE h v y:=
 r.ind (P:=fun l ml=>v∈l->∃ y,y∈ml/\VE h v y) (fun q=>absurd q List.not_mem_nil) fun hv _ ih hy=>(UO hy).elim (fun e=>⟨_,List.mem_cons_self,e▸hv⟩) fun q=>aM (ih q) fun v a b=>⟨v,List.mem_cons_of_mem _ a,b⟩
theorem Ki(hA:j8 A){a:Addr}{items:Array Value}{l:List V}{x:V}{mx:Value}{Q:Value->Shared->Prop}(ht:s.heap.IsTuple a items)(hl:dh G μ s.heap l items.toList)(hx:VR G μ s.heap x mx)
  (px:plain 40 x=true) (pl:cL 40 l=true) (h:Q (.bool (decide (x∈l))) s):wpAny (model aX w) A (compareOp .In mx (.ref a)) Q E s:=by
 have el:=j1.of hl pl;have ex:=VE.of hx px
 classical
 refine in_tupleAt (fun y=>decide (VE s.heap x y)) ht (fun y hy=>aM (el.mem (Array.mem_toList_iff.mpr hy)) fun v hv ev=>?_) ?_
 ·have q:=vV (s:=s) 40 (A:=A.in1) (tF pl hv) px ev ex (hA.in1 40 (by decide))
  by_cases e:v=x
  ·rw[UT e] at q;rw[UT (e▸ev)];exact q
  ·rw[US e] at q;rw[US fun z=>e (VE.inj ev z)];exact q
 ·have e:items.any (fun y=>decide (VE s.heap x y))=decide (x∈l):=by
   rw[<-Array.any_toList]
   by_cases q:x∈l
   ·rw[UT q,List.any_eq_true];exact aM (el.Pg q) fun y hy ey=>⟨y,hy,UT ey⟩
   ·rw[US q,List.any_eq_false];exact fun y hy z=>aM (el.mem hy) fun v hv ev=>q (VE.inj ev (UU z)▸hv)
  rw[e];exact h
theorem DU(t:tH w G)(hA:j8 A)(x:HR w G μ s.heap H){a b:V}{ma mb:Value}{bo:Bool}{Q:Value->Shared->Prop}(ra:VR G μ s.heap a ma)(rb:VR G μ s.heap b mb)(e:O8 aA H a b=some bo)
  (h:∀ t,Q (.bool bo) { s with toks:=t }):wpAny (model aX w) A (compareOp .In ma mb) Q E s:=by
 cases b with
 | tup l=>exact fH rb.inv fun c items q ht _ hl=>cS e fun p e=>aJ p fun p1 p2=>q▸Ki hA ht hl ra p1 p2 (UM e▸h _)
 | tab k=>exact aM rb.inv fun c hc q=>cS e fun p e=>q▸in_dict hA (mH t x hc) ra p (UM e▸h)
 | obj n=>exact bc e fun d hd e=>cS e fun p e=>l9 t x rb hd (P:=fun mb=>wpAny (model aX w) A (compareOp .In ma mb) Q E s) fun _ _ D=>in_dict hA D ra p (UM e▸h)
 | _=>exact fJ e
theorem tK{h:Heap}{i:Int}{m:Value}(r:VR G μ h (.int i) m){P:Value->Prop}(k:∀ t,P (.int i t)):P m:=cX r.inv fun t e=>e▸k t
theorem v7{h:Heap}{m:Value}(r:VR G μ h .none m):m=.none:=r.inv
theorem v8{h:Heap}{b:Bool}{m:Value}(r:VR G μ h (.bool b) m):m=.bool b:=r.inv
theorem DV(p q:Bool):(p==q)=decide (V.bool p=V.bool q):=by cases p<;>cases q<;>rfl
theorem r9{po:CmpOp}{f:Int->Int->Bool}{a b:V}{ma mb:Value}{bo:Bool}{Q:Value->Shared->Prop}(ra:VR G μ s.heap a ma)(rb:VR G μ s.heap b mb)(e:xT f a b=some bo)
  (k:∀ {p q t u} {Q:Value->Shared->Prop},Q (.bool (f p q)) s->wpAny (model aX w) A (compareOp po (.int p t) (.int q u)) Q bM s) (h:Q (.bool bo) s):wpAny (model aX w) A (compareOp po ma mb) Q bM s:=
 bc e fun p ep e=>bc e fun q eq e=>by
  rw[iF ep] at ra;rw[iF eq] at rb;exact tK ra (P:=fun ma=>wpAny (model aX w) A (compareOp po ma mb) Q bM s) fun t=>tK rb (P:=fun mb=>wpAny (model aX w) A (compareOp po (.int p t) mb) Q bM s) fun u=>k (UM e▸h)
theorem Bn{po:CmpOp}{g:Bool->Bool}{a b:V}{ma mb:Value}{bo:Bool}{Q:Value->Shared->Prop}(ra:VR G μ s.heap a ma)(rb:VR G μ s.heap b mb)(e:J4 a b=some bo)
  (k1:∀ {Q:Value->Shared->Prop},Q (.bool (g true)) s->wpAny (model aX w) A (compareOp po .none .none) Q bM s) (k2:∀ {i t} {Q:Value->Shared->Prop},Q (.bool (g false)) s->wpAny (model aX w) A (compareOp po (.int i t) .none) Q bM s) (h:Q (.bool (g bo)) s):wpAny (model aX w) A (compareOp po ma mb) Q bM s:=
 cS e fun c e=>by
  rw[vI c] at rb;rw[v7 rb];cases a with
  | none=>rw[v7 ra];exact k1 (UM e▸h)
  | int i=>exact tK ra (P:=fun ma=>wpAny (model aX w) A (compareOp po ma .none) Q bM s) fun t=>k2 (UM e▸h)
  | _=>exact fJ e
theorem Bo{R:Around->Shared->Value->Value->Bool->Prop}{g:Bool->Bool}{a b:V}{ma mb:Value}(hA:j8 A)(ra:VR G μ s.heap a ma)(rb:VR G μ s.heap b mb)(hc:sI a b=true)
  (k1:∀ p q,R A s (.bool p) (.bool q) (g (p==q))) (k2:plain 40 a=true->plain 40 b=true->VE s.heap a ma->VE s.heap b mb->A.units+40<cLine->R A s ma mb (g (decide (a=b)))):R A s ma mb (g (decide (a=b))):=
 lK hc (fun z=>aJ z fun p q=>iU p fun p ep=>iU q fun q eq=>by
  rw[vG ep] at ra⊢;rw[vG eq] at rb⊢;rw[v8 ra,v8 rb,<-DV];exact k1 p q) fun z=>aJ z fun p q=>k2 p q (VE.of ra p) (VE.of rb q) (hA.lt 40 (by decide))
theorem Kj(t:tH w G)(hA:j8 A)(x:HR w G μ s.heap H){op:G3}{a b:V}{ma mb:Value}{bo:Bool}{Q:Value->Shared->Prop}(ra:VR G μ s.heap a ma)(rb:VR G μ s.heap b mb)(e:bg aA op a b H=some bo)
  (h:∀ t,Q (.bool bo) { s with toks:=t }):wpAny (model aX w) A (compareOp op.py ma mb) Q bM s:=by
 cases op with
 | eq=>exact cS e fun c e=>Bo (R:=RcAt) (g:=id) hA ra rb c RcAt.bool_bool G9 aX w bM Q (UM e▸h s.toks)
 | ne=>exact cS e fun c e=>Bo (R:=RcNeAt) (g:=(!·)) hA ra rb c RcNeAt.bool_bool B9 aX w bM Q (UM e▸h s.toks)
 | lt=>exact r9 ra rb e P.lt_int (h s.toks)
 | le=>exact r9 ra rb e P.le_int (h s.toks)
 | gt=>exact r9 ra rb e P.gt_int (h s.toks)
 | ge=>exact r9 ra rb e P.ge_int (h s.toks)
 | zI=>exact Bn (g:=id) ra rb e (fun z=>is_none (by exact z)) (fun z=>is_none (by exact z)) (h s.toks)
 | sH=>exact bc e fun c hc e=>Bn (g:=(!·)) ra rb hc (fun z=>isNot_none (by exact z)) (fun z=>isNot_none (by exact z)) (UM e▸h s.toks)
 | isin=>exact DU t hA x ra rb e h
 | eH=>exact bc e fun c hc e=>yi (DU t hA x ra rb hc fun t d hd=>Value.bool.inj hd▸UM e▸h t)
theorem yj{l:List V}{items:Array Value}{h:Heap}(r:dh G μ h l items.toList):(!items.isEmpty)=decide (l≠[]):=by
 obtain ⟨ml⟩:=items;have e:(Array.mk ml).isEmpty=ml.isEmpty:=by simp
 rw[e];exact dh.ind (P:=fun l ml=>(!ml.isEmpty)=decide (l≠[])) rfl (fun _ _ _=>(UT (List.cons_ne_nil _ _)).symm) r
theorem mc(x:HR w G μ s.heap H){v:V}{mv:Value}{b:Bool}{Q:Bool->Shared->Prop}(r:VR G μ s.heap v mv)(e:truth v H=some b)(h:∀ t,Q b { s with toks:=t }) :
  wpAny (model aX w) A (truthy mv) Q E s:=by
 cases v with
 | bool c=>rw[v8 r];exact wpAny_truthy_bool (UM e▸h s.toks)
 | int i=>exact tK r (P:=fun mv=>wpAny (model aX w) A (truthy mv) Q E s) fun t=>P.truthy_int (by
   have q:(i != 0)=decide (i≠0):=by
    by_cases q:i=0
    ·rw[q];rfl
    ·rw[bne_iff_ne.mpr q,UT q]
   rw[q];exact UM e▸h s.toks)
 | obj n=>exact bc e fun l hl e=>cS e fun hz e=>cQ x r hl (P:=fun mv=>wpAny (model aX w) A (truthy mv) Q E s) fun a items _ p rl=>wpAny_truthy_list p.isList (tG rl hz) (yj rl▸UM e▸h (s.toks+1+1))
 | _=>exact fJ e
end
end
section
open PySem PySem.W PySem.Calls PyProof.Rows PySem.SeqAt
noncomputable def zR(f:Nat):Option Addr:=(tD[f]?).map (·.2.2.2.1)
structure DW(G:Heap)(K:Frag):Prop where
 LW:K.In G
 get:∀ (c:Nat) (C:Addr),lE[c]?=some C->findIn K (.ref C) "__getattribute__"=some (some (.builtin "object.__getattribute__"))/\findIn K (.ref C) "__getattr__"=some none
 dict:∀ (c:Nat) (C:Addr),lE[c]?=some C->hasDictIn K C=true
 data:∀ (c:Nat) (C:Addr) (n:Nat),lE[c]?=some C->ru n=true->findIn K (.ref C) (fV n)=some none
 Dt:∀ (c:Nat) (C:Addr) (m f:Nat),lE[c]?=some C->rq c m=some f->∃ a,findIn K (.ref C) (fV m)=some (some (.ref a))/\isFn K (.ref a)=true/\zR f=some a
 set:∀ (c:Nat) (C:Addr),lE[c]?=some C->findIn K (.ref C) "__setattr__"=some (some (.builtin "object.__setattr__"))/\plainOver K C=true
section
variable{w:World}{G:Heap}{μ:Mu}{s:Shared}{H:Hp}{A:Around}{E:Value->Shared->Prop}{K:Frag}
noncomputable def VP(G:Heap)(μ:Mu)(s:Shared)(v:V)(mv:Value)(s':Shared):Prop:=VR G μ s.heap v mv/\∃ t,s'={ s with toks:=t }
theorem VP.ep{v:V}{mv:Value}{s':Shared}(x:HR w G μ s.heap H)(h:VP G μ s v mv s'):EP w G μ s v H mv s':=h.2.elim fun t e=>e▸.val x h.1
theorem rx(hA:j8 A){l:List V}{items:Array Value}{i v:V}{mo mi:Value}(rl:dh G μ s.heap l items.toList)(ri:VR G μ s.heap i mi)(e:Ds l i=some v)
  (f:∀ {k:Int} {u:Tok} {mv:Value} {Q:Value->Shared->Prop},0<=k->-1152921504606846976<k->k<1152921504606846976->items[k.toNat]?=some mv->Q mv s->wpAny (model aX w) A (getItem mo (.int k u)) Q bM s):wpAny (model aX w) A (getItem mo mi) (VP G μ s v) bM s:=
 bc e fun k hk e=>cS e fun c e=>aJ c fun c d=>aM (rl.get e) fun mv h1 h2=>by
  rw[iF hk] at ri;exact tK ri (P:=fun mi=>wpAny (model aX w) A (getItem mo mi) (VP G μ s v) bM s) fun u=>f (UU c) (l8 d).1 (l8 d).2 (Array.getElem?_toList▸h1) ⟨h2,_,rfl⟩
theorem Kk{k:Int}{n:Nat}(h0:0<=k)(h:k.toNat<n):seqIndex? k n=some k.toNat:=by
 unfold seqIndex?;rw[if_neg (Int.not_lt.mpr h0)];have q:k<(n:Int):=(Int.toNat_lt h0).mp h;simp[q,h0]
theorem Kl(t:tH w G)(hA:j8 A)(x:HR w G μ s.heap H){o i v:V}{mo mi:Value}(ro:VR G μ s.heap o mo)(ri:VR G μ s.heap i mi)(e:bI aA o i H=some v) :
  wpAny (model aX w) A (getItem mo mi) (VP G μ s v) bM s:=by
 cases o with
 | tup l=>exact fH ro.inv fun a items q ht _ hl=>q▸rx hA hl ri e fun {k u mv Q} h0 ha hb hm h=>PyProof.Rows.getItem_tuple (j:=k.toNat) (x:=mv) ht (Int.le_of_lt (Int.lt_trans (show (-(2 ^ 63):Int)<_ by decide) ha)) (Int.lt_trans hb (by decide)) (Kk h0 (Array.getElem?_eq_some_iff.mp hm).1) hm h
 | tab n=>exact aM ro.inv fun a ha q=>cS e fun hk e=>q▸item_dict hA (mH t x ha) ri hk e fun t mv r=>⟨r,t,rfl⟩
 | obj n=>
   refine bc e fun ob hd e=>?_;cases ob with
   | list l=>exact cQ x ro (hW hd) (P:=fun mo=>wpAny (model aX w) A (getItem mo mi) (VP G μ s v) bM s) fun a items _ p rl=>rx hA rl ri e fun h0 ha hb hm h=>wpAny_getItem_list p.isList h0 (Int.lt_trans hb (by decide)) hm h
   | dict kd l=>exact cS e fun hk e=>l9 t x ro (sG hd) (P:=fun mo=>wpAny (model aX w) A (getItem mo mi) (VP G μ s v) bM s) fun p _ D=>item_dict hA D ri hk e fun t mv r=>⟨r,t,rfl⟩
   | ins=>exact fJ e
 | _=>exact fJ e
theorem Cd{v:V}{mv:Value}(r:VR G μ s.heap v mv):handedIn mv=true:=
 VR.rec (motive_1:=fun _ mv _=>handedIn mv=true) (motive_2:=fun _ _ _=>True) rfl (fun _=>rfl) (fun _ _=>rfl) (fun _ _ _=>rfl) (fun _ _ _ _=>rfl) (fun _=>rfl) (fun _=>rfl) (fun _ _ _=>rfl) trivial (fun _ _ _ _=>trivial) r
theorem v9(x:HR w G μ s.heap H){n:Nat}{i:Nat×List (Nat×V)}{mo:Value}(r:VR G μ s.heap (.obj n) mo)(e:isAt H n=some i){P:Value->Prop}
  (k:∀ (p:Addr×Addr) C sl es m,μ[n]?=some p->lE[i.1]?=some C->InstAt s.heap p.1 ⟨.ref C,some p.2,.plain,sl⟩ C (some (dictOf es m))->nR (VR G μ s.heap) i.2 es->P (.ref p.1)):P mo:=
 aM r.inv fun p hp e'=>GZ (x.objs n p _ hp (G2 e)) fun C sl es m h1 h2 h3 h4=>e'▸k p C sl es m hp h1 ⟨h2,rfl,rfl,h3⟩ h4
theorem Hh(k:DW G K)(x:HR w G μ s.heap H){o v:V}{n:Nat}{mo:Value}(ro:VR G μ s.heap o mo)(e:cC o n H=some v) :
  wpAny (model aX w) A (getAttr mo (fV n) true) (VP G μ s v) bM s:=
 bc e fun i hi e=>bc e fun c hc e=>v9 x (iG hi▸ro) hc (P:=fun mo=>wpAny (model aX w) A (getAttr mo (fV n) true) (VP G μ s v) bM s) fun p C sl es j _ h1 h4 h5=>by
  have hn:ru n=true:=h5.data e;refine aM (h5.get (rV hn)) fun o g1 g2=>?_;rw[e] at g2;refine aM g2 fun mv q g2=>?_;rw[q] at g1;have X:K.In s.heap:=Frag.In.keeps k.LW fun b o e=>x.ground b o e;exact get_value X h4 (k.get c.1 C h1).1 (findObj_own (k.dict c.1 C h1) (k.data c.1 C n h1 hn) rfl g1) (Cd (s:=s) g2) ⟨g2,_,rfl⟩
theorem zS{M:Model}{d:Addr}{es:List DictEntry}{n:Nat}{name:Str}{v:Value}{Q:Unit->Shared->Prop}(hd:s.heap.get? d=some (dictOf es n))(hr:es.any (·.refKey)=false)
  (h:∀ h',h'.get? d=some (dictOf (putL name (PyData.keyHash M.w.params name) (.str name s.toks) v es) (putN name es n))->(∀ b,b≠d->h'.get? b=s.heap.get? b)->Q () { s with heap:=h',toks:=s.toks+1 }) :
  wpAny M A (nsSet d name v) Q E s:=by
 unfold nsSet;refine wpAny_bind (wpAny_bind (wpAny_askSetting (wpAny_pure (wpAny_bind (wpAny_mkText (wpAny_bind (wpAny_loadPart (s:={ s with toks:=s.toks+1 }) hd ?_)))))))
 dsimp only
 have c:(!es.toArray.any (·.key.isStr name)&&es.toArray.any (·.refKey))=false:=by
  rw[<-Array.any_toList,<-Array.any_toList];simp only[hr,Bool.and_false]
 rw[aRefKeyMayBeTheName_at,c];refine wpAny_updatePart (s:={ s with toks:=s.toks+1 }) hd ?_;have e:Obj.putName name (if name.cps.isEmpty=true then 0 else reduceHash (M.w.params.strHash name.cps)) (.str name s.toks) v (dictOf es n)=dictOf (putL name (PyData.keyHash M.w.params name) (.str name s.toks) v es) (putN name es n):=
  putName_dict name (PyData.keyHash M.w.params name) (.str name s.toks) v es n
 refine h _ ?_ ?_
 ·exact (Heap.get?_update_self _ hd (by rw[e];rfl)).trans (congrArg some e)
 ·exact (Heap.SameBut.update _ _ _).2
theorem yk(n:Nat)(v:V):∀ (fs:List (Nat×V)),(vL fs n v).length<=fs.length+1:=
 List.rec (Nat.le_refl _) fun a l ih=>by
  show (if a.1=n then (a.1,v)::l else a::vL l n v).length<=_
  by_cases e:a.1=n
  ·rw[if_pos e];exact Nat.le_succ _
  ·rw[if_neg e];exact Nat.succ_le_succ ih
theorem zT(k:DW G K)(x:HR w G μ s.heap H){o v:V}{n:Nat}{mo mv:Value}{H':Hp}(ro:VR G μ s.heap o mo)(rv:VR G μ s.heap v mv)(hn:ru n=true)(e:fX o n v H=some H') :
  wpAny (model aX w) A (setAttr mo (fV n) mv) (fun _ s'=>Mv gm μ s μ s'/\HR w G μ s'.heap H') bM s:=
 bc e fun i hi e=>bc e fun c hd e=>cS e fun hlen e=>v9 x (iG hi▸ro) hd (P:=fun mo=>wpAny (model aX w) A (setAttr mo (fV n) mv) (fun _ s'=>Mv gm μ s μ s'/\HR w G μ s'.heap H') bM s) fun p C sl es j hp h1 h4 h5=>by
  have X:K.In s.heap:=Frag.In.keeps k.LW fun b o e=>x.ground b o e;have h2:s.heap.get? p.2=some (dictOf es j):=h4.dict;have MN:p.1≠p.2:=fun q=>Data.noConfusion (congrArg Obj.data (UM (h4.at_.symm.trans ((congrArg s.heap.get? q).trans h2))));refine set_plain X h4 (k.set c.1 C h1).1 ?_;refine osa_open (s:={ s with toks:=s.toks+1 }) X h4 (k.set c.1 C h1).2 (r:=none) (by unfold takerIn;rw[k.data c.1 C n h1 hn];rfl) fun b=>?_;refine aM (any_some (k.dict c.1 C h1)) fun cd hc R3=>?_;refine wpAny_bind (wpAny_pure (wpAny_bind (wpAny_bind (wpAny_loadPart h4.at_ (wpAny_bind (looks_clsIn X hc A.in1 _ _ { s with toks:=s.toks+1 } (fun _ _ e=>e) ?_))))));rw[R3];refine wpAny_pure (a:=some p.2) (wpAny_bind (wpAny_pure (wpAny_bind ?_)));refine zS (s:={ s with toks:=s.toks+1 }) h2 h5.noRef fun h' zU mU=>?_;have LX:(putL (fV n) (PyData.keyHash w.params (fV n)) (.str (fV n) (s.toks+1)) mv es).length<=sizeLine+1:=
   (nR.put (Q:=VR G μ s.heap) (hsh:=PyData.keyHash w.params (fV n)) (t:=s.toks+1) hn rv h5).length▸Nat.le_trans (yk n v c.2) (Nat.succ_le_succ (jP (fN hlen)))
  refine wpAny_bind (wpAny_lookBehind (s:={ s with heap:=h',toks:=s.toks+1+1 }) zU (pastItsLine_dict (List.size_toArray (as:=_)▸LX)) (wpAny_pure ?_));refine bY (x.put (ob:=.ins c.1 (vL c.2 n v)) hp (.inr rfl) mU (cK zU) fun hv=>⟨C,sl,_,_,h1,(mU _ MN).trans h4.at_,zU,(h5.mono hv).put hn (hv _ _ rv)⟩) fun a b=>⟨⟨a,rfl,rfl⟩,?_⟩;exact UM e▸b
end
end
section
open PySem PySem.W PySem.Calls PyProof.Rows PySem.SeqAt
section
variable{w:World}{G:Heap}{μ:Mu}{s:Shared}{H:Hp}{A:Around}{E:Value->Shared->Prop}{K:Frag}
theorem Km(x:HR w G μ s.heap H){o v:V}{mo:Value}(ro:VR G μ s.heap o mo)(e:iT o H=some v):wpAny (model aX w) A (call (.builtin "len") [mo]) (VP G μ s v) bM s:=
 bc e fun l h1 e=>cS e fun hz e=>by
  have fin:∀ {items:Array Value} {t:Tok},dh G μ s.heap l items.toList->VP G μ s v (.int items.size t) { s with toks:=t+1 }:=fun {items t} r=>by
   refine ⟨?_,_,rfl⟩;rw[<-Array.length_toList,<-r.length,<-UM e];exact .int _ _
  cases o with
  | tup m=>
   refine fH ro.inv fun a items q ht _ hl=>?_;rw[UM h1] at hl;exact q▸PyProof.Rows.len_tuple ht (tG hl hz) (fin hl)
  | obj n=>exact cQ x ro h1 (P:=fun mo=>wpAny (model aX w) A (call (.builtin "len") [mo]) (VP G μ s v) bM s) fun a items _ p rl=>Calls.call_len_list p.isList (tG rl hz) (fin rl)
  | _=>exact fJ h1
theorem DX(x:HR w G μ s.heap H){o v r:V}{mo mv:Value}{H':Hp}(ro:VR G μ s.heap o mo)(rv:VR G μ s.heap v mv)(e:uD o v H=some (r,H')):wpAny (model aX w) A (call (.builtin "list.append") [mo,mv]) (EP w G μ s r H') bM s:=
 bc e fun n hn e=>bc e fun l hl e=>cS e fun hz e=>eD (P:=fun r H'=>wpAny (model aX w) A (call (.builtin "list.append") [mo,mv]) (EP w G μ s r H') bM s) e<|
  cQ x (iG hn▸ro) hl (P:=fun mo=>wpAny (model aX w) A (call (.builtin "list.append") [mo,mv]) (EP w G μ s .none (H.set n (.list (l++[v])))) bM s) fun a items hm p rl=>
   wpAny_list_append_plain p (fun h' qd mU=>bY (x.put (h':=h') (ob:=.list (l++[v])) hm (d:=a) (.inl rfl) mU.2 (qd.elim fun _ ho=>cK ho) fun hv=>⟨rfl,_,qd,by rw[Array.toList_push];exact (rl.mono hv).append (.cons (hv _ _ rv) .nil)⟩) fun a b=>⟨μ,⟨a,rfl,rfl⟩,b,.none⟩) (fO rl hz)
theorem tL{α β:Type}{f g:α->Option β}{l:List α}:(∀ x∈l,f x=g x)->l.filterMap f=l.filterMap g:=
 List.rec (motive:=fun l=>(∀ x∈l,f x=g x)->l.filterMap f=l.filterMap g) (fun _=>rfl) (fun a l ih h=>by rw[List.filterMap_cons,List.filterMap_cons,h a (.head _),ih fun x hx=>h x (.tail _ hx)]) l
theorem DY(items:Array Value):slicePick items none none (some (-1))=items.toList.reverse.toArray:=by
 unfold slicePick sliceBounds sliceRange;simp only[Option.getD_some,show ¬ ((-1:Int)>0) by decide,if_false];congr 1;have hc:(if ((items.size:Int) - 1>-1) then ((items.size:Int) - 1 - -1 - -1 - 1) / (- -1) else 0).toNat=items.size:=by
  split<;>simp<;>lia
 rw[hc];have h:=pick_run items.toList.reverse.toArray 0 items.size;have e:List.take items.size (List.drop 0 items.toList.reverse)=items.toList.reverse:=by
  rw[List.drop_zero];exact List.take_of_length_le (by simp)
 rw[e] at h;rw[<-h];rw[List.filterMap_map,List.filterMap_map];refine tL fun k hk=>?_;have hk:=List.mem_range.mp hk;simp only[Function.comp];have e1:((items.size:Int) - 1+-1 * (k:Int)).toNat=items.size - 1 - k:=by lia
 rw[e1,Nat.zero_add];have e2:items.toList.reverse.toArray[k]?=items.toList.reverse[k]?:=by simp
 rw[e2,List.getElem?_reverse (by simpa using hk),Array.length_toList,Array.getElem?_toList]
end
end
section
open PySem PySem.W PySem.Calls PyProof.Rows PySem.SeqAt
section
variable{w:World}{G:Heap}{μ:Mu}{s:Shared}{H:Hp}{A:Around}{E:Value->Shared->Prop}{K:Frag}{env:Env}
noncomputable def k9(w:World)(A:Around)(o i:Value)(Q:Value->Shared->Prop)(E:Value->Shared->Prop)(s:Shared):Prop:=
 ∃ T id,typeLookup (.type T) "__getitem__"=pure (some (.builtin id))/\s.TypeIs o T/\wpAny (model aX w) A (getItem o i) Q E s
theorem Ce(slice:Expr)(o i:Value){P:Sem Value->Prop}(k:∀ vs,P (operate vs (getItem o i))):P (subscripted slice false o i):=by
 have k1:=k [o,i];cases slice with
 | Slice a b st p=>cases st with
  | none=>exact k _
  | some _=>exact k1
 | _=>exact k1
theorem tM{value slice:Expr}{pos:Pos}{Q:Value->Shared->Prop}(h:wpAny (model aX w) A (eval value env) (fun o s₁=>wpAny (model aX w) A (eval slice env) (fun i s₂=>k9 w A o i Q E s₂) E s₁) E s) :
  wpAny (model aX w) A (eval (.Subscript value slice pos) env) Q E s:=by
 rw[eval_Subscript];refine wpAny_bind (wpAny_mono h (fun o s₁ h₁=>wpAny_bind (wpAny_holding (wpAny_mono h₁ (fun i s₂ h₂=>wpAny_bind (wpAny_standAt ?_)) fun _ _ x=>x))) fun _ _ x=>x);refine fG h₂ fun T id hl hT hg=>?_;refine wpAny_bind ?_;rw[getitemInPython_of_ne hT.not_modules];refine wpAny_bind (wpAny_specialOf hT hl (wpAny_pure (wpAny_bind ?_)));have fin:∀ vs,wpAny (model aX w) A (operate vs (getItem o i)) (fun r s₃=>wpAny (model aX w) A (letTemporaryGo value o r >>= fun _=>pure r) Q E s₃) E s₂:=
  fun vs=>wpAny_operating (wpAny_mono hg (fun r s₃ h₃=>wpAny_bind (wpAny_letTemporaryGo (wpAny_pure h₃))) fun _ _ x=>x)
 exact Ce slice o i (P:=fun m=>wpAny (model aX w) A m (fun r s₃=>wpAny (model aX w) A (letTemporaryGo value o r >>= fun _=>pure r) Q E s₃) E s₂) fin
theorem MO{a:Addr}{T:String}{o:Obj}(h:s.heap.get? a=some o)(c:o.cls=.type T):s.TypeIs (.ref a) T:=⟨o,h,c⟩
theorem Hg.ty{kd:Nat}{kvs:List (V×V)}{d:Addr}(D:Hg w G μ s.heap kd kvs d):s.TypeIs (.ref d) "dict":=aM D.dr.obj fun o ho hc=>MO ho hc
theorem Kn(t:tH w G)(hA:j8 A)(x:HR w G μ s.heap H){o i v:V}{mo mi:Value}(ro:VR G μ s.heap o mo)(ri:VR G μ s.heap i mi)(e:bI aA o i H=some v) :
  k9 w A mo mi (VP G μ s v) bM s:=by
 have h:=Kl (A:=A) t hA x ro ri e;have k:∀ {T id},typeLookup (.type T) "__getitem__"=pure (some (.builtin id))->s.TypeIs mo T->k9 w A mo mi (VP G μ s v) bM s:=fun a b=>⟨_,_,a,b,h⟩;cases o with
 | tup l=>exact fH ro.inv fun a items q ht _ hl=>k slot_tuple_getitem.lookup (dj ht fun o ho hc _=>q▸MO ho hc)
 | tab n=>exact aM ro.inv fun a ha q=>k slot_dict_getitem.lookup (q▸(mH t x ha).ty)
 | obj n=>
  refine bc e fun ob hd e=>?_;cases ob with
  | list l=>exact k slot_list_getitem.lookup (cQ x ro (hW hd) (P:=fun mo=>s.TypeIs mo "list") fun a items _ p _=>p.isList.typeIs)
  | dict kd l=>exact k slot_dict_getitem.lookup (l9 t x ro (sG hd) (P:=fun mo=>s.TypeIs mo "dict") fun p _ D=>D.ty)
  | ins=>exact fJ e
 | _=>exact fJ e
theorem Cf{l:Addr}{items:Array Value}{x:Value}{Q:Value->Shared->Prop}(hl:s.heap.PlainList l items)(hx:items.toList.getLast?=some x)
  (hQ:∀ h',h'.PlainList l items.toList.dropLast.toArray->Heap.SameBut l s.heap h'->Q x { s with heap:=h' }) (LX:items.size<=sizeLine) (hf:(items.size:Int)<2 ^ 62) :
  wpAny (model aX w) A (call (.builtin "list.pop") [.ref l]) Q E s:=by
 refine cX hl fun n ho=>?_;have MN:items.size≠0:=by
  intro h0;have:items.toList=[]:=by
   have:=Array.length_toList (xs:=items);rw[h0] at this;exact List.eq_nil_of_length_eq_zero this
  rw[this] at hx;cases hx
 refine wpAny_call_entry F.slot_list_pop ⟨_,ho,rfl⟩ F.entry_list_pop ?_ (F.args_list_pop_1 _);unfold Builtin.«list.pop»;refine wpAny_bind (m:=selfAndSome "list.pop" "pop" 0 1 ⟨[.ref l],[]⟩) (wpAny_of_eq (a:=(.ref l,[])) rfl ?_);refine wpAny_bind (wpAny_pure ?_);show wpAny _ _ (if (!Builtin.List.listFitsIndex (-1))=true then _ else _) _ _ _;rw[if_neg (by decide)];refine wpAny_bind (wpAny_bind (wpAny_seqItems ho rfl (wpAny_pure ?_)));have he:items.isEmpty=false:=by
  cases h:items.isEmpty with
  | false=>rfl
  | true=>rw[Array.isEmpty_iff] at h;subst h;exact absurd rfl MN
 rw[he];simp only[Bool.false_eq_true,if_false];have hk:seqIndex? (-1) items.size=some (items.size - 1):=by
  unfold seqIndex?;simp only[show ((-1:Int)<0) by decide,if_true];have h1:(0:Int)<=-1+items.size:=by lia
  have h2:(-1:Int)+items.size<items.size:=by lia
  simp only[h1,h2,decide_true,Bool.and_self,and_self,if_true];congr 1;lia
 have hg:items[items.size - 1]?=some x:=by
  rw[<-Array.getElem?_toList,<-hx,List.getLast?_eq_getElem?,Array.length_toList]
 rw[hk];simp only[Option.bind_some,hg,Option.map_some];refine wpAny_bind ?_;have Oq:(items.eraseIdxIfInBounds (items.size - 1)).size<=sizeLine+1:=by
  obtain ⟨l⟩:=items;simp only[List.eraseIdxIfInBounds_toArray,List.size_toArray] at LX⊢;have:=List.length_eraseIdx_le l (l.length - 1);lia
 refine wpAny_updateSeq (_hz':=Oq) ho rfl (wpAny_pure ⟨x,rfl,hQ _ ?_ (Heap.SameBut.update ..)⟩);have hm:∃ j,Obj.mapSeq (·.eraseIdxIfInBounds (items.size - 1)) { cls:=.type "list",data:=.seq items n }={ cls:=.type "list",data:=.seq items.toList.dropLast.toArray j }:=by
  have:items.eraseIdxIfInBounds (items.size - 1)=items.toList.dropLast.toArray:=by
   obtain ⟨l⟩:=items;simp only[List.eraseIdxIfInBounds_toArray,List.size_toArray];congr 1;rw[List.eraseIdx_length_sub_one]
  unfold Obj.mapSeq
  dsimp only
  rw[this];exact ⟨_,rfl⟩
 refine cX hm fun j hj=>?_;exact ⟨j,(Heap.get?_update_self _ ho (by rw[hj];rfl)).trans (congrArg some hj)⟩
end
end
section
open PySem PySem.W PySem.Calls PyProof.Rows PySem.SeqAt
section
variable{w:World}{G:Heap}{μ:Mu}{s:Shared}{H:Hp}{A:Around}{E:Value->Shared->Prop}{K:Frag}{env:Env}
theorem yl{h:Heap}{l:List V}{ml:List Value}{v:V}(r:dh G μ h l ml)(e:l.getLast?=some v):∃ mv,ml.getLast?=some mv/\VR G μ h v mv:=by
 rw[List.getLast?_eq_getElem?] at e;refine aM (r.get e) fun mv a b=>?_;refine ⟨mv,?_,b⟩;rw[List.getLast?_eq_getElem?,<-r.length];exact a
theorem Ko(x:HR w G μ s.heap H){o v:V}{mo:Value}{H':Hp}(ro:VR G μ s.heap o mo)(e:B3 o H=some (v,H')){P:Value->Prop}
  (k:∀ a,s.TypeIs (.ref a) "list"->(∃ ob,s.heap.get? a=some ob/\ob.dict=none)->wpAny (model aX w) A (call (.builtin "list.pop") [.ref a]) (EP w G μ s v H') bM s->P (.ref a)):P mo:=
 bc e fun n hn e=>bc e fun l hl e=>cS e fun hz e=>bc e fun y hy e=>cQ x (iG hn▸ro) hl fun a items hm p rl=>k a p.isList.typeIs (p.elim fun _ ho=>⟨_,ho,rfl⟩)<|
  eD (P:=fun v H'=>wpAny (model aX w) A (call (.builtin "list.pop") [.ref a]) (EP w G μ s v H') bM s) e<|aM (yl rl hy) fun mv g1 g2=>
   Cf p g1 (fun h' qd mU=>bY (x.put (h':=h') (ob:=.list l.dropLast) hm (d:=a) (.inl rfl) mU.2 (qd.elim fun _ ho=>cK ho) fun hv=>⟨rfl,_,qd,List.toList_toArray▸rl.dropLast.mono hv⟩) fun a b=>⟨μ,⟨a,rfl,rfl⟩,b,g2.nx a⟩) (fO rl hz) (yh rl hz)
theorem EP.push{o:Obj}{t:Nat}{v:V}{H':Hp}{mv:Value}{s':Shared}(h:EP w G μ (rJ o t s) v H' mv s'):EP w G μ s v H' mv s':=
 dj h fun μ' m r rv=>⟨μ',⟨(bu.of_keeps (bK o)).trans m.n,m.g,m.o⟩,r,rv⟩
theorem HR.push(x:HR w G μ s.heap H)(o:Obj):HR w G μ (s.heap.push o) H:=x.keeps (bK o)
noncomputable abbrev zC(a b c:Value):Obj:={ cls:=.type "slice",data:=.fields #[a,b,c] }
theorem Kp(x:HR w G μ s.heap H){o v:V}{mo ms:Value}{H':Hp}{t:Nat}(ro:VR G μ s.heap o mo)(ps:IsPart ms (some (-1)))(e:B4 o H=some (v,H')) :
  k9 w A mo (.ref s.heap.objs.size) (EP w G μ s v H') bM (rJ (zC .none .none ms) t s):=
 bc e fun n hn e=>bc e fun l hl e=>cS e fun hz e=>eD (P:=fun v H'=>k9 w A mo (.ref s.heap.objs.size) (EP w G μ s v H') bM (rJ (zC .none .none ms) t s)) e<|
  cQ x (iG hn▸ro) hl (P:=fun mo=>k9 w A mo (.ref s.heap.objs.size) (EP w G μ s (.obj H.length) (H++[.list l.reverse])) bM (rJ (zC .none .none ms) t s)) fun a items _ p rl=>by
   have LY:=p.isList.push (zC .none .none ms);have zQ:bp l=true:=UT (List.length_reverse (as:=l)▸fN hz);refine ⟨"list",_,slot_list_getitem.lookup,LY.typeIs,?_⟩;refine wpAny_getItem_list_slice LY (Heap.IsSliceOf.new ..) .none .none ps (by simp) ?_ (fO rl zQ);rw[DY];exact EP.push (o:=zC .none .none ms) (t:=t) (lZ (s:=rJ (zC .none .none ms) t s) (t:=t) (x.push _) (rl.nx (bu.of_keeps (bK _))).reverse)
theorem Cg(items:Array Value)(k:Nat):slicePick items none (some (k:Int)) none=(items.toList.take k).toArray:=by
 by_cases h:k<=items.size
 ·exact slicePick_upto items k h
 ·have e:slicePick items none (some (k:Int)) none=slicePick items none none none:=by
   unfold slicePick sliceBounds;simp only[Option.getD_none,show ((1:Int)>0) by decide,if_true,show ¬ ((k:Int)<0) by lia,if_false];have:max 0 (min (k:Int) (items.size:Int))=items.size:=by lia
   rw[this]
  rw[e,slicePick_all,List.take_of_length_le (by simp;lia)]
theorem ym(k n:Nat):Builtin.Slice.sliceAdjust none (some (k:Int)) 1 (n:Int)=(0,((min k n:Nat):Int)):=by
 unfold Builtin.Slice.sliceAdjust;have h1:¬ ((1:Int)<0):=by lia
 have h2:¬ ((k:Int)<0):=by lia
 simp only[h1,h2,if_false];congr 1;lia
theorem yn(n:Nat):Builtin.Slice.slicePlaces 0 (n:Int) 1=n:=by
 unfold Builtin.Slice.slicePlaces;have h1:(1:Int)>0:=by lia
 simp only[h1,if_true,Int.ediv_one]
 split<;>lia
theorem pF{sl:Addr}{k n:Nat}{u:Tok}{Q:Int×Int×Nat->Shared->Prop}(hs:s.heap.IsSliceOf sl .none (.int k u) .none)(h:Q (0,1,min k n) s) :
  wpAny (model aX w) A (Builtin.Slice.sliceApplied (.ref sl) (pure (n:Int))) Q E s:=by
 refine dj (id hs) fun os MP Kq Ot=>?_;unfold Builtin.Slice.sliceApplied Builtin.Slice.sliceFields;refine wpAny_bind (wpAny_bind (wpAny_field MP Ot (x:=.none) rfl (wpAny_bind (wpAny_field MP Ot (x:=.int k u) rfl (wpAny_bind (wpAny_field MP Ot (x:=.none) rfl (wpAny_pure ?_)))))));refine wpAny_bind (slicePart_none ?_);show wpAny _ _ (if ((1:Int)==0)=true then _ else _) _ _ s;rw[if_neg (by decide)];refine wpAny_bind (slicePart_none (wpAny_bind (slicePart_int (wpAny_bind (wpAny_pure ?_)))));show wpAny _ _ (match Builtin.Slice.sliceAdjust none (some (k:Int)) 1 (n:Int) with|(lo,hi)=>pure (lo,(1:Int),Builtin.Slice.slicePlaces lo hi 1)) _ _ s;rw[ym];show wpAny _ _ (pure ((0:Int),(1:Int),Builtin.Slice.slicePlaces 0 ((min k n:Nat):Int) 1)) _ _ s;rw[yn];exact wpAny_pure h
theorem DZ{t sl:Addr}{items:Array Value}{k:Nat}{u:Tok}{Q:Value->Shared->Prop}(ht:IsTup s.heap t items)(hs:s.heap.IsSliceOf sl .none (.int k u) .none)
  (h1:items.toList.take k=items.toList->Q (.ref t) s) (h2:Q (.ref s.heap.objs.size) { s with heap:=s.heap.push { cls:=.type "tuple",data:=.seq (items.toList.take k).toArray } })
  (LX:items.size<=sizeLine):wpAny (model aX w) A (getItem (.ref t) (.ref sl)) Q E s:=by
 have D0:sizeOk (.seq (items.toList.take k).toArray):=by
  show (items.toList.take k).toArray.size<=sizeLine;rw[List.size_toArray,List.length_take,Array.length_toList];lia
 refine dj (id hs) fun os MP Kq Ot=>?_;have R4:s.TypeIs (.ref sl) "slice":=⟨os,MP,Kq⟩;unfold getItem
 try with_reducible refine wpAny_holding ?_
 first|refine wpAny_bind (wpAny_pure ?_)|skip
 refine wpAny_bind (wpAny_sequenceKey ht.typeIs (by decide) ?_);refine wpAny_bind (wpAny_callSpecial?_slot (name:=Str.ofString "__getitem__") ht.typeIs slot_tuple_getitem
  (wpAny_call_entry slot_tuple_getitem ht.typeIs entry_tuple_getitem ?_ (args_tuple_getitem _ _)))
 show wpAny _ _ (Builtin.Tuple.tupleItemsOf (.ref t) >>= _) _ _ s;refine wpAny_bind (tupleItemsOf_ ht ?_);refine wpAny_bind (wpAny_typeOf R4 ?_);rw[if_pos (by decide)];refine wpAny_bind (pF (n:=items.size) hs ?_);have hp:((List.range (min k items.size)).filterMap fun (j:Nat)=>items[((0:Int)+(j:Int) * 1).toNat]?).toArray=(items.toList.take k).toArray:=by
  have e:(fun (j:Nat)=>items[((0:Int)+(j:Int) * 1).toNat]?)=fun j=>items[0+j]?:=by
   funext j
   have:((0:Int)+(j:Int) * 1).toNat=0+j:=by lia
   rw[this]
  rw[e];have:=pick_run items 0 (min k items.size);rw[List.filterMap_map] at this;have e2:((fun x=>items[x]?)∘fun x=>0+x)=fun j=>items[0+j]?:=rfl;rw[e2] at this;rw[this,List.drop_zero];congr 1
  by_cases hle:k<=items.size
  ·rw[Nat.min_eq_left hle]
  ·rw[Nat.min_eq_right (by lia),List.take_of_length_le (by rw[Array.length_toList];lia),List.take_of_length_le (by rw[Array.length_toList];lia)]
 by_cases hw:((0:Int)==0&&(1:Int)==1&&(min k items.size)==items.size)=true
 ·show wpAny _ _ (if ((0:Int)==0&&(1:Int)==1&&(min k items.size)==items.size)=true then _ else _) _ _ s;rw[if_pos hw];have hk:min k items.size=items.size:=by simpa using hw
  refine wpAny_bind (m:=Builtin.Tuple.tupleIsExact (.ref t)) ?_;unfold Builtin.Tuple.tupleIsExact;refine wpAny_bind (wpAny_typeOf ht.typeIs (wpAny_pure ?_));rw[if_pos (by decide)];refine wpAny_bind (wpAny_rule ?_);have:=h1 (List.take_of_length_le (by rw[Array.length_toList];lia));exact wpAny_pure ⟨_,rfl,wpAny_pure this⟩
 ·show wpAny _ _ (if ((0:Int)==0&&(1:Int)==1&&(min k items.size)==items.size)=true then _ else _) _ _ s;rw[if_neg hw,hp]
  first
   | exact wpAny_bind (m:=Builtin.Tuple.tupleExact _) (wpAny_newObj_type (wpAny_pure ⟨_,rfl,wpAny_pure h2⟩) D0)
   | exact wpAny_bind (wpAny_bind (m:=Builtin.Tuple.tupleExact _) (wpAny_newObj_type (wpAny_pure (wpAny_pure ⟨_,rfl,wpAny_pure h2⟩)) D0))
   | exact wpAny_bind (wpAny_bind (m:=Builtin.Tuple.tupleExact _) (wpAny_newObj_type (wpAny_pure ⟨_,rfl,wpAny_pure h2⟩) D0))
theorem Kr(x:HR w G μ s.heap H){o v:V}{mo:Value}{H':Hp}{t k:Nat}{u:Tok}(ro:VR G μ s.heap o mo)(e:B5 o k H=some (v,H')) :
  k9 w A mo (.ref s.heap.objs.size) (EP w G μ s v H') bM (rJ (zC .none (.int k u) .none) t s):=by
 have nx:bu gm μ s.heap μ (s.heap.push (zC .none (.int k u) .none)):=bu.of_keeps (bK _);have x':HR w G μ (rJ (zC .none (.int k u) .none) t s).heap H:=x.push _;cases o with
 | tup l=>
   refine cS e fun hz e=>eD (P:=fun v H'=>k9 w A mo (.ref s.heap.objs.size) (EP w G μ s v H') bM (rJ (zC .none (.int k u) .none) t s)) e<|fH ro.inv fun a items q ht hn hl=>?_;have DN:IsTup (s.heap.push (zC .none (.int k u) .none)) a items:=bQ ht (bK _ _);rw[q];refine ⟨"tuple",_,slot_tuple_getitem.lookup,DN.typeIs,?_⟩;refine DZ (k:=k) (s:=rJ (zC .none (.int k u) .none) t s) DN (Heap.IsSliceOf.new ..) (fun he=>?_) ?_ (fO hl hz)
   ·refine ⟨μ,⟨nx,rfl,rfl⟩,x',?_⟩;have z:=congrArg List.length he;rw[List.length_take,<-hl.length] at z;have R5:l.take k=l:=List.take_of_length_le (Nat.le_trans (Nat.le_of_eq z.symm) (Nat.min_le_left _ _));rw[R5];exact (VR.tup ht hn hl).nx nx
   ·exact EP.push (o:=zC .none (.int k u) .none) (t:=t) (qm (t:=t) x' ((hl.nx nx).take k))
 | qF l=>
   refine cS e fun hz e=>cS e fun _ e=>eD (P:=fun v H'=>k9 w A mo (.ref s.heap.objs.size) (EP w G μ s v H') bM (rJ (zC .none (.int k u) .none) t s)) e<|fG ro.inv fun a items q ht hl=>?_;have h2:(s.heap.push (zC .none (.int k u) .none)).IsList a items:=aM ht fun o ho r=>⟨o,bK _ _ _ (x.ground _ _ ho),r⟩;rw[q];refine ⟨"list",_,slot_list_getitem.lookup,h2.typeIs,?_⟩;refine wpAny_getItem_list_slice h2 (Heap.IsSliceOf.new ..) .none (.int _ _) .none (by simp) ?_ (fO hl hz);rw[Cg];exact EP.push (o:=zC .none (.int k u) .none) (t:=t) (lZ (t:=t) x' ((hl.nx nx).take k))
 | _=>exact fJ e
theorem Ch(x:HR w G μ s.heap H){o v:V}{mo:Value}{H':Hp}(ro:VR G μ s.heap o mo)(e:mF o H=some (v,H')) :
  wpAny (model aX w) A (call (.type "list") [mo]) (EP w G μ s v H') bM s:=
 bc e fun l hl e=>cS e fun hz e=>eD (P:=fun v H'=>wpAny (model aX w) A (call (.type "list") [mo]) (EP w G μ s v H') bM s) e<|by
  rw[vH hl] at ro;refine fH ro.inv fun a items q ht hn hl=>dj ht fun o ho hc hd=>hd.elim fun n hd=>q▸call_list_seq a (.inr rfl) ho hc hd (fun h' c' hk hg=>?_) (fO hl hz);have f:=b7 s.heap;have nx:bu gm μ s.heap (μ++[(s.heap.objs.size,s.heap.objs.size)]) h':=
   ⟨⟨_,rfl⟩,fun b e=>iU e fun o ho=>cK (hk b o ho),fun b o e _ _=>hk b o e,fun a q=>(rX q).imp id fun e=>e.elim (fun e=>e▸f) fun e=>e▸f⟩
  refine bY (x.new (h':=h') (p:=(s.heap.objs.size,s.heap.objs.size)) (ob:=.list l) hk f f ⟨rfl,items,⟨c',hg⟩,hl.nx nx⟩) fun n1 hr=>?_;exact ⟨_,⟨n1,rfl,rfl⟩,hr,.obj (p:=(s.heap.objs.size,s.heap.objs.size)) (x.len▸qk)⟩
theorem D1(x:HR w G μ s.heap H){o v:V}{mo:Value}{H':Hp}(ro:VR G μ s.heap o mo)(e:vM o H=some (v,H')) :
  wpAny (model aX w) A (call (.type "tuple") [mo]) (EP w G μ s v H') bM s:=
 bc e fun n hn e=>bc e fun l hl e=>cS e fun hz e=>eD (P:=fun v H'=>wpAny (model aX w) A (call (.type "tuple") [mo]) (EP w G μ s v H') bM s) e<|
  cQ x (iG hn▸ro) hl (P:=fun mo=>wpAny (model aX w) A (call (.type "tuple") [mo]) (EP w G μ s (.tup l) H) bM s) fun a items _ p rl=>
   call_tuple_list p.isList (fun h' hk=>dj (qm (s:={ s with heap:=h' }) (t:=s.toks) (x.keeps hk) (rl.nx (bu.of_keeps hk))) fun μ' m r rv=>⟨μ',⟨(bu.of_keeps hk).trans m.n,m.g,m.o⟩,r,rv⟩) (fO rl hz)
end
end
section
open PySem PySem.W PySem.Calls PyProof.Rows PySem.SeqAt
theorem fY:∀ {l:List Str} {ms:List Value} {n:Str},l.length=ms.length->n∈l->((l.zip ms).lookup n).isSome=true
 | [],_,_,_,h=>by cases h
 | a::l,[],_,e,_=>by simp at e
 | a::l,m::ms,n,e,h=>by
  simp only[List.zip_cons_cons,List.lookup_cons];cases q:n==a with
  | true=>rfl
  | false=>
   rcases UO h with rfl|h
   ·simp at q
   ·exact fY (by simpa using e) h
theorem nS:∀ (l:List Str) (ms:List Value) (f:Str->Option Value),l.length=ms.length->(∀ (i:Nat) (n:Str) (m:Value),l[i]?=some n->ms[i]?=some m->f n=some m)->l.filterMap (fun n=>(f n).map (n,·))=l.zip ms
 | [],_,_,_,_=>rfl
 | a::l,[],_,e,_=>by simp at e
 | a::l,m::ms,f,e,h=>by
  rw[List.filterMap_cons,h 0 a m rfl rfl];simp only[Option.map_some,List.zip_cons_cons];rw[nS l ms f (by simpa using e) fun i n m' h1 h2=>h (i+1) n m' (by simpa using h1) (by simpa using h2)]
theorem nT:∀ {l:List Str} {ms:List Value} {i:Nat} {n:Str} {m:Value},l.Nodup->l[i]?=some n->ms[i]?=some m->(l.zip ms).lookup n=some m
 | [],_,_,_,_,_,h,_=>by simp at h
 | a::l,[],_,_,_,_,_,h=>by simp at h
 | a::l,m::ms,0,n,m',hn,h1,h2=>by
  simp only[List.getElem?_cons_zero,Option.some.injEq] at h1 h2;subst h1 h2;simp[List.lookup_cons]
 | a::l,m::ms,i+1,n,m',hn,h1,h2=>by
  rw[List.nodup_cons] at hn;simp only[List.getElem?_cons_succ] at h1 h2;have MN:(n==a)=false:=by
   rw[beq_eq_false_iff_ne]
   rintro rfl
   exact hn.1 (List.mem_of_getElem? h1)
  simp only[List.zip_cons_cons,List.lookup_cons,MN];exact nT hn.2 h1 h2
theorem zV{fd:FuncData}{ms:List Value}{names:List Str}(h1:fd.params.posonlyargs=[])(h2:fd.params.vararg=none)(h3:fd.params.kwonlyargs=[])(h4:fd.params.kwarg=none)
  (h5:fd.defaults=.none) (h6:fd.params.args.map (·.arg)=names) (hl:names.length=ms.length) (hn:names.Nodup):bindArgs fd ⟨ms,[]⟩=pure (names.zip ms):=by
 unfold bindArgs;have hm:(names.filter fun n=>((names.zip ms).lookup n).isNone)=[]:=by
  rw[List.filter_eq_nil_iff];intro n zU;have:=fY hl zU;cases q:(names.zip ms).lookup n with
  | none=>rw[q] at this;cases this
  | some _=>simp
 have hb:names.filterMap (fun n=>((names.zip ms).lookup n).map (n,·))=names.zip ms:=nS _ _ _ hl fun i n m a b=>nT hn a b;simp only[h1,h2,h3,h4,h5,h6,List.map_nil,List.nil_append,List.forIn_nil,pure_bind,hl,Nat.lt_irrefl,gt_iff_lt,decide_false,Bool.false_and,Bool.false_eq_true,if_false,List.append_nil];show (do
  let d <-(pure none:Sem (Option (Array Value)))
  _)=_
 rw[pure_bind];have ht:names.take ms.length=names:=by rw[<-hl];exact List.take_length
 simp[hb];rw[ht];intro x hx Kd
 exfalso
 refine cX (Option.isSome_iff_exists.mp (fY hl hx)) fun m R6=>?_;exact Kd m (mem_of_lookup R6)
end
section
open PySem PySem.W PySem.Calls PyProof.Rows PySem.SeqAt
structure FR(G:Heap)(μ:Mu)(h:Heap)(c:Ctx)(env:Env)(e:aU):Prop where
 kind:env.scope.kind=.function
 scope:env.scope.names=c.scope.names
 u7:c.scope.kind=.function
 glob:env.globals=mainGlobals
 blt:env.builtins=builtinsNs
 len:e.length=c.slots.length
 nodup:c.slots.Nodup
 ns:∃ m,h.Ns env.locals m/\∀ (i:Nat) (x:Str) (v:V),c.slots[i]?=some x->ct c.scope x=some .local->e[i]?=some (some v)->∃ mv,m x=some mv/\VR G μ h v mv
 cell:∀ (i:Nat) (x:Str),c.slots[i]?=some x->ct c.scope x=some .cell->∃ a mv,env.cells.lookup x=some a/\h.IsCell a mv/\∀ v,e[i]?=some (some v)->∃ zW,mv=some zW/\VR G μ h v zW
 own:¬ Own μ env.locals/\G.get? env.locals=none
 qo:∀ (x:Str) (a:Addr),env.cells.lookup x=some a->¬ Own μ a/\G.get? a=none/\a≠env.locals/\(h.get? a).isSome=true
 apart:∀ (x y:Str) (a:Addr),env.cells.lookup x=some a->env.cells.lookup y=some a->x=y
noncomputable def SF(env:Env)(b:Addr):Prop:=b=env.locals∨∃ x,env.cells.lookup x=some b
theorem FR.kindOf{G:Heap}{μ:Mu}{h:Heap}{c:Ctx}{env:Env}{e:aU}(f:FR G μ h c env e)(x:Str):env.kindOf x=ct c.scope x:=by
 unfold Env.kindOf ct;rw[f.scope]
theorem FR.D2{S:Addr->Prop}{G:Heap}{μ μ':Mu}{h h':Heap}{c:Ctx}{env:Env}{e:aU}(f:FR G μ h c env e)(n:bu S μ h μ' h')(h1:¬ S env.locals)(h2:∀ x a,env.cells.lookup x=some a->¬ S a)(h3:∀ b items,S b->¬ h.IsTuple b items):FR G μ' h' c env e:=
 have hv:∀ {v mv},VR G μ h v mv->VR G μ' h' v mv:=fun r=>r.next n h3
 ⟨f.kind,f.scope,f.u7,f.glob,f.blt,f.len,f.nodup,
  aM f.ns fun m a hm=>uB a fun o es ep ho r=>⟨m,⟨o,es,ep,n.keep _ _ ho f.own.1 h1,r⟩,fun i x v a1 a2 a3=>aM (hm i x v a1 a2 a3) fun mv a b=>⟨mv,a,hv b⟩⟩,
  fun i x a1 a2=>fG (f.cell i x a1 a2) fun a mv g1 g2 g3=>aM g2 fun o ho hd=>⟨a,mv,g1,⟨o,n.keep _ _ ho (f.qo x a g1).1 (h2 x a g1),hd⟩,fun v Ks=>aM (g3 v Ks) fun zW p q=>⟨zW,p,hv q⟩⟩,
  ⟨fun q=>(n.fresh _ q).elim f.own.1 fun q=>aM f.ns fun m a _=>uB a fun o es ep ho _=>ca q ho,f.own.2⟩,
  fun x a hx=>lI (f.qo x a hx) fun p q r l=>⟨fun z=>(n.fresh _ z).elim p fun z=>iU l fun _ e=>ca z e,q,r,n.live a l⟩,f.apart⟩
theorem FR.next{G:Heap}{μ μ':Mu}{h h':Heap}{c:Ctx}{env:Env}{e:aU}(f:FR G μ h c env e)(n:bu gm μ h μ' h'):FR G μ' h' c env e:=f.D2 n id (fun _ _ _=>id) jN
section
variable{w:World}{G:Heap}{μ:Mu}{s:Shared}{H:Hp}{A:Around}{E:Value->Shared->Prop}{K:Frag}{env:Env}{c:Ctx}{e:aU}{mg mb:Str->Option Value}
structure GN(G:Heap)(mg mb:Str->Option Value):Prop where
 g:G.Ns mainGlobals mg
 b:G.Ns builtinsNs mb
 lim:G.NoLimit
 const:∀ (x:Str) (v:V),Pc.lookup x=some v->∃ mv,mg x=some mv/\VR G [] G v mv
 fn:∀ (x:Str) (f:Nat),Oo.lookup x=some f->∃ a,zR f=some a/\mg x=some (.ref a)
 cls:∀ (x:Str) (k:Nat),J9.lookup x=some k->∃ C,lE[k]?=some C/\mg x=some (.ref C)
 bl:mg "len"=none/\mb "len"=some (.builtin "len")/\mg "list"=none/\mb "list"=some (.type "list")/\mg "tuple"=none/\mb "tuple"=some (.type "tuple")/\mg "range"=none/\mb "range"=some (.type "range")
theorem qp(g:GN G mg mb)(x:HR w G μ s.heap H)(f:FR G μ s.heap c env e){y:Str}{pos:Pos}{v:Value}{Q:Value->Shared->Prop}(hy:j4 c y=true)(hv:mg y=some v)(h:Q v s) :
  wpAny (model aX w) A (eval (.Name y pos) env) Q E s:=by
 simp only[j4,Bool.and_eq_true,beq_iff_eq,Bool.not_eq_true'] at hy;exact Name_function_global f.kind ((f.kindOf y).trans hy.1) (loadGlobal_global (by rw[f.glob];exact g.g.keeps fun b o e=>x.ground b o e) hv h) hy.2
theorem pG(g:GN G mg mb)(x:HR w G μ s.heap H)(f:FR G μ s.heap c env e){y:Str}{pos:Pos}{v:Value}{Q:Value->Shared->Prop}(hy:j4 c y=true)(hn:mg y=none)(hv:mb y=some v)(h:Q v s) :
  wpAny (model aX w) A (eval (.Name y pos) env) Q E s:=by
 simp only[j4,Bool.and_eq_true,beq_iff_eq,Bool.not_eq_true'] at hy;exact Name_function_global f.kind ((f.kindOf y).trans hy.1) (loadGlobal_builtin (by rw[f.glob];exact g.g.keeps fun b o e=>x.ground b o e) hn (by rw[f.blt];exact g.b.keeps fun b o e=>x.ground b o e) hv h) hy.2
theorem iA{i:Nat}{y:Str}(hs:fM c i y=true):c.slots[i]?=some y/\(ct c.scope y=some .local∨ct c.scope y=some .cell):=
 aJ hs fun p q=>aJ q fun q _=>⟨eq_of_beq p,lK q (fun z=>.inl (eq_of_beq z)) fun z=>.inr (eq_of_beq z)⟩
theorem yo(f:FR G μ s.heap c env e){i:Nat}{y:Str}{v:V}{Q:Value->Shared->Prop}(hs:fM c i y=true)(he:e[i]?=some (some v))(h:∀ mv,VR G μ s.heap v mv->Q mv s) :
  wpAny (model aX w) A (loadName env y) Q E s:=
 (iA hs).2.elim (fun h2=>aM f.ns fun m hm hr=>aM (hr i y v (iA hs).1 h2 he) fun mv a b=>wpAny_loadName_local f.kind ((f.kindOf y).trans h2) hm a (h _ b))
  fun h2=>fG (f.cell i y (iA hs).1 h2) fun a mv g1 g2 g3=>aM (g3 v he) fun zW q r=>wpAny_loadName_cell f.kind ((f.kindOf y).trans h2) g1 (q▸g2) (h _ r)
theorem zX{i:Nat}{y:Str}(hs:fM c i y=true):(y==("__debug__":Str))=false:=aJ hs fun _ q=>aJ q fun _ q=>eZ q id
theorem zY(g:GN G mg mb)(x:HR w G μ s.heap H)(f:FR G μ s.heap c env e){v:V}{pe:PySem.Expr}(hr:litOk gU c v pe=true):wpAny (model aX w) A (eval pe env) (VP G μ s v) bM s:=
 lK hr (fun hr=>lK hr (fun hr=>iz hr (P:=fun pe=>wpAny (model aX w) A (eval pe env) (VP G μ s v) bM s) fun k b p hr=>by
   cases k with
   | none=>rw[vI hr];exact wpAny_Constant_none ⟨.none,_,rfl⟩
   | bool a=>exact cU hr fun b q r=>by rw[vG q,<-eq_of_beq r];exact wpAny_Constant_bool ⟨.bool _,_,rfl⟩
   | int a=>exact cU hr fun b q r=>by rw[iF q,<-eq_of_beq r];exact wpAny_Constant_int ⟨.int _ _,_,rfl⟩
   | str a=>exact cU hr fun b q r=>aJ r fun r1 r2=>by rw[Dn q,eq_of_beq r1];exact wpAny_Constant_str ⟨.str _ _ (UU r2),_,rfl⟩
   | _=>exact gI hr)
  fun hr=>iH hr (P:=fun pe=>wpAny (model aX w) A (eval pe env) (VP G μ s v) bM s) fun op a p hr=>aJ hr fun ho hr=>iz hr (P:=fun a=>wpAny (model aX w) A (eval (.UnaryOp op a p) env) (VP G μ s v) bM s) fun k b q hr=>cU hr fun j q r=>by
   rw[UU ho,iF q,UU r,arm_eval_UnaryOp];exact wpAny_bind (wpAny_Constant_int (wpAny_bind (wpAny_standAt (wpAny_holding (P.neg_int (by rw[Int.neg_neg];exact ⟨.int _ _,_,rfl⟩))))))
 ) fun hr=>eName hr (P:=fun pe=>wpAny (model aX w) A (eval pe env) (VP G μ s v) bM s) fun y p hr=>aJ hr fun h1 h2=>cU h2 fun u hu q=>aM (g.const _ _ hu) fun mv a b=>by
   rw[<-V.Dp _ _ q];exact qp g x f h1 a ⟨VR.ground x b,_,rfl⟩
end
end
section
open PySem PySem.W PySem.Calls PyProof.Rows PySem.SeqAt
structure dQ(A:Around)(n:Nat):Prop where
 handled:A.handled=none
 depth:A.depth+3 * n+3<=recursionLimit
 units:A.units+12 * n+120<cLine
structure Bp(A:Around)(n:Nat):Prop where
 handled:A.handled=none
 depth:A.depth+3 * n+2<=recursionLimit
 units:A.units+12 * n+115<cLine
theorem dQ.QG{A:Around}{n:Nat}(r:dQ A n):Bp A n:=⟨r.handled,Nat.le_of_succ_le r.depth,Nat.lt_of_le_of_lt (Nat.add_le_add_left (by decide) _) r.units⟩
theorem dQ.room{A:Around}{n:Nat}(r:dQ A n):j8 A:=⟨r.handled,Nat.lt_of_le_of_lt (Nat.add_le_add (Nat.le_add_right _ _) (by decide)) r.units⟩
noncomputable def CR(w:World)(G:Heap)(μ:Mu)(s:Shared)(v:V)(H':Hp)(r:Result)(s':Shared):Prop:=match r with
 | .ok (.ret mv)=>EP w G μ s v H' mv s'
 | _=>False
noncomputable def tN(w:World)(G:Heap)(n:Nat)(cl:Nat->List V->Hp->Option (V×Hp)):Prop:=
 ∀ (f:Nat) (a:Addr) (args:List V) (H:Hp) (v:V) (H':Hp) (μ:Mu) (s:Shared) (A:Around) (ms:List Value),
  cl f args H=some (v,H')->zR f=some a->HR w G μ s.heap H->dh G μ s.heap args ms->Bp A n->codeAny (model aX w) A (.call (.ref a) ⟨ms,[]⟩) (CR w G μ s v H') s
structure Cx(w:World)(G:Heap)(K:Frag)(mg mb:Str->Option Value)(n:Nat)(cl:Nat->List V->Hp->Option (V×Hp)):Prop where
 tab:tH w G
 cls:DW G K
 gn:GN G mg mb
 QH:∀ (f:Nat) (a:Addr),zR f=some a->∃ o fd,G.get? a=some o/\o.data=.func fd
 call:tN w G n cl
 new:∀ (k:Nat) (C:Addr),lE[k]?=some C->makesIn K C=true/\keepIn K (.ref C)=true/\∃ f fI,pz k=some f/\zR f=some fI/\findIn K (.ref C) "__init__"=some (some (.ref fI))/\typeIn K (.ref fI)=some (.type "function")
noncomputable abbrev mf(cl:Nat->List V->Hp->Option (V×Hp)):xK:=⟨aA,rq,pz,cl⟩
section
variable(w:World)(G:Heap)(n:Nat)(cl:Nat->List V->Hp->Option (V×Hp))
noncomputable def eJ(x:E)(c:Ctx)(pe:PySem.Expr):Prop:=∀ (env:Env) (e:aU) (A:Around) (μ:Mu) (s:Shared) (H:Hp) (v:V) (H':Hp),
 FR G μ s.heap c env e->HR w G μ s.heap H->dQ A n->ba (mf cl) x e H=some (v,H')->wpAny (model aX w) A (eval pe env) (EP w G μ s v H') bM s
noncomputable def bJ(x:E):Prop:=∀ (c:Ctx) (pe:PySem.Expr),bP gU x c pe=true->eJ w G n cl x c pe
noncomputable def TP(μ:Mu)(s:Shared)(b:Bool)(H':Hp)(b':Bool)(s':Shared):Prop:=b'=b/\∃ μ',Mv gm μ s μ' s'/\HR w G μ' s'.heap H'
noncomputable def D3(x:E)(c:Ctx)(pe:PySem.Expr):Prop:=∀ (env:Env) (e:aU) (A:Around) (μ:Mu) (s:Shared) (H:Hp) (v:V) (H':Hp) (b:Bool),
 FR G μ s.heap c env e->HR w G μ s.heap H->dQ A n->ba (mf cl) x e H=some (v,H')->truth v H'=some b->wpAny (model aX w) A (isTrue pe env (eval pe env)) (TP w G μ s b H') bM s
noncomputable def iV(x:E):Prop:=∀ (c:Ctx) (pe:PySem.Expr),bP gU x c pe=true->D3 w G n cl x c pe
noncomputable def LP(μ:Mu)(s:Shared)(vs:List V)(H':Hp)(ms:List Value)(s':Shared):Prop:=∃ μ',Mv gm μ s μ' s'/\HR w G μ' s'.heap H'/\dh G μ' s'.heap vs ms
noncomputable def D4(l:List E)(c:Ctx)(sa:List PySem.Expr):Prop:=∀ (pos:Pos) (env:Env) (e:aU) (A:Around) (μ:Mu) (s:Shared) (H:Hp) (vs:List V) (H':Hp),
 FR G μ s.heap c env e->HR w G μ s.heap H->dQ A n->eY (mf cl) l e H=some (vs,H')->wpAny (model aX w) A (spliced (backTo pos (starEach sa env))) (LP w G μ s vs H') bM s
noncomputable def nU(l:List E):Prop:=∀ (c:Ctx) (sa:List PySem.Expr),gr gU l c sa=true->D4 w G n cl l c sa
noncomputable def MQ(l:List E)(c:Ctx)(sa:List PySem.Expr):Prop:=∀ (bW:Bool) (pos:Pos) (env:Env) (e:aU) (A:Around) (μ:Mu) (s:Shared) (H:Hp) (v:V) (H':Hp),
 FR G μ s.heap c env e->HR w G μ s.heap H->dQ A n->gA (mf cl) bW l e H=some (v,H')->
  wpAny (model aX w) A (boolOp pos (cond bW .And .Or) (evalEach sa env)) (EP w G μ s v H') bM s/\∀ b,truth v H'=some b->wpAny (model aX w) A (allTrue (cond bW .And .Or) sa env) (TP w G μ s b H') bM s
noncomputable def Ci(l:List E):Prop:=∀ (c:Ctx) (sa:List PySem.Expr),gr gU l c sa=true->MQ w G n cl l c sa
end
section
variable{w:World}{G:Heap}{n:Nat}{cl:Nat->List V->Hp->Option (V×Hp)}{K:Frag}{mg mb:Str->Option Value}{μ μ₁:Mu}{s s₁ s₂:Shared}{A:Around}
theorem wp_mono{α:Type}{p:Sem α}{Q Q':α->Shared->Prop}(h:wpAny (model aX w) A p Q bM s)(f:∀ a s',Q a s'->Q' a s'){E:Value->Shared->Prop}:wpAny (model aX w) A p Q' E s:=wpAny_mono h f fun _ _ q=>q.elim
theorem EP.after{v:V}{H':Hp}{mv:Value}{s':Shared}(m:Mv gm μ s μ₁ s₁)(h:EP w G μ₁ s₁ v H' mv s'):EP w G μ s v H' mv s':=dj h fun μ' a d e=>⟨μ',m.trans a,d,e⟩
theorem jQ{p:Sem Value}{v:V}{H':Hp}(m:Mv gm μ s μ₁ s₁)(h:wpAny (model aX w) A p (EP w G μ₁ s₁ v H') bM s₂):wpAny (model aX w) A p (EP w G μ s v H') bM s₂:=wp_mono h fun _ _ q=>q.after m
theorem D5{p:Sem Value}{v:V}{H':Hp}(m:Mv gm μ s μ₁ s₁)(x:HR w G μ₁ s₁.heap H')(h:wpAny (model aX w) A p (VP G μ₁ s₁ v) bM s₂):wpAny (model aX w) A p (EP w G μ s v H') bM s₂:=wp_mono h fun _ _ q=>(q.ep x).after m
theorem TP.after{b b':Bool}{H':Hp}{s':Shared}(m:Mv gm μ s μ₁ s₁)(h:TP w G μ₁ s₁ b H' b' s'):TP w G μ s b H' b' s':=⟨h.1,aM h.2 fun μ' a d=>⟨μ',m.trans a,d⟩⟩
theorem tO{p:Sem Bool}{b:Bool}{H':Hp}(m:Mv gm μ s μ₁ s₁)(h:wpAny (model aX w) A p (TP w G μ₁ s₁ b H') bM s₂):wpAny (model aX w) A p (TP w G μ s b H') bM s₂:=wp_mono h fun _ _ q=>q.after m
theorem VR.next'{v:V}{mv:Value}(x:Mv gm μ s μ₁ s₁)(r:VR G μ s.heap v mv):VR G μ₁ s₁.heap v mv:=r.nx x.n
theorem dh.next'{v:List V}{mv:List Value}(x:Mv gm μ s μ₁ s₁)(r:dh G μ s.heap v mv):dh G μ₁ s₁.heap v mv:=r.nx x.n
theorem one{x:E}(ih:bJ w G n cl x){c:Ctx}{pe:PySem.Expr}{env:Env}{e:aU}{H:Hp}{v:V}{H₁:Hp}{Q:Value->Shared->Prop}(hr:bP gU x c pe=true)(f:FR G μ s.heap c env e)(hx:HR w G μ s.heap H)(hA:dQ A n)
  (he:ba (mf cl) x e H=some (v,H₁)) (h:∀ mv μ₁ s₁,Mv gm μ s μ₁ s₁->HR w G μ₁ s₁.heap H₁->VR G μ₁ s₁.heap v mv->FR G μ₁ s₁.heap c env e->Q mv s₁) {E:Value->Shared->Prop}:wpAny (model aX w) A (eval pe env) Q E s:=
 wp_mono (ih c pe hr env e A μ s H v H₁ f hx hA he) fun mv s₁ q=>dj q fun μ₁ m x₁ r₁=>h mv μ₁ s₁ m x₁ r₁ (f.next m.n)
theorem yp{x:E}(ih:iV w G n cl x){c:Ctx}{pe:PySem.Expr}{env:Env}{e:aU}{H:Hp}{v:V}{H₁:Hp}{b:Bool}{Q:Bool->Shared->Prop}(hr:bP gU x c pe=true)(f:FR G μ s.heap c env e)(hx:HR w G μ s.heap H)(hA:dQ A n)
  (he:ba (mf cl) x e H=some (v,H₁)) (ht:truth v H₁=some b) (h:∀ μ₁ s₁,Mv gm μ s μ₁ s₁->HR w G μ₁ s₁.heap H₁->FR G μ₁ s₁.heap c env e->Q b s₁) {E:Value->Shared->Prop}:wpAny (model aX w) A (isTrue pe env (eval pe env)) Q E s:=
 wp_mono (ih c pe hr env e A μ s H v H₁ b f hx hA he ht) fun b' s₁ q=>aM q.2 fun μ₁ m x₁=>q.1▸h μ₁ s₁ m x₁ (f.next m.n)
theorem zZ:bJ w G n cl .stuck:=fun _ _ _ _ _ _ _ _ _ _ _ _ _ _ he=>fJ he
theorem D6(i:Nat):bJ w G n cl (.loc i):=fun c pe hr=>eName hr fun y p hr env e A μ s H v H' f hx hA he=>bc he fun o h1 he=>bc he fun u h2 he=>
 eD (P:=fun v H'=>wpAny (model aX w) A (eval (.Name y p) env) (EP w G μ s v H') bM s) he (wpAny_Name (yo f hr (h2▸h1) fun mv r=>EP.here hx r) (zX hr))
theorem yq(X:Cx w G K mg mb n cl)(v:V):bJ w G n cl (.lit v):=fun c pe hr env e A μ s H v' H' f hx hA he=>
 eD (P:=fun v H'=>wpAny (model aX w) A (eval pe env) (EP w G μ s v H') bM s) he (D5 Mv.refl hx (zY X.gn hx f hr))
theorem D7(op:Bc){a b:E}(ha:bJ w G n cl a)(hb:bJ w G n cl b):bJ w G n cl (.bin op a b):=fun c pe hr=>Dw hr fun l o r p hr=>aJ hr fun ho hr=>aJ hr fun h1 h2=>by
 rw[UU ho];exact fun env e A μ s H v H' f hx hA he=>bq he fun x H1 e1 he=>bq he fun y H2 e2 he=>
  wpAny_BinOp (one ha h1 f hx hA e1 fun ma μ₁ s₁ m1 x1 r1 f1=>one hb h2 f1 x1 hA e2 fun QI μ₂ s₂ m2 x2 r2 f2=>jQ (m1.trans m2) (Kf x2 (r1.next' m2) r2 he))
noncomputable def z7:E->List Nat
 | .loc _=>[23]|.lit _=>[19,3,23]|.bin ..=>[2]|.cmp ..=>[15]|.aV ..=>[0]|.not_ _=>[3]|.ite ..=>[5]
 | .call ..=>[16]|.new ..=>[16]|.own ..=>[16]|.jj ..=>[16]|.app ..=>[16]|.pop _=>[16]|.len _=>[16]|.toList _=>[16]|.jv _=>[16]
 | .attr ..=>[20]|.sub ..=>[21]|.rev _=>[21]|.pre ..=>[21]|.tup _=>[25]|.lst _=>[24]|.dict ..=>[6]|.comp ..=>[8]|.stuck=>[]
theorem se{x:E}{c:Ctx}{pe:PySem.Expr}{e:aU}{H:Hp}{r:V×Hp}(hr:bP gU x c pe=true)(he:ba (mf cl) x e H=some r):pe.ctorIdx∈z7 x:=by
 cases x with
 | loc=>exact eName hr (P:=fun pe=>pe.ctorIdx∈[23]) fun _ _ _=>.head _
 | lit=>exact lK hr (fun hr=>lK hr (fun hr=>iz hr (P:=fun pe=>pe.ctorIdx∈[19,3,23]) fun _ _ _ _=>.head _) fun hr=>iH hr (P:=fun pe=>pe.ctorIdx∈[19,3,23]) fun _ _ _ _=>.tail _ (.head _)) fun hr=>eName hr (P:=fun pe=>pe.ctorIdx∈[19,3,23]) fun _ _ _=>.tail _ (.tail _ (.head _))
 | bin=>exact Dw hr (P:=fun pe=>pe.ctorIdx∈[2]) fun _ _ _ _ _=>.head _
 | cmp=>exact sL hr (P:=fun pe=>pe.ctorIdx∈[15]) fun _ _ _ _ _=>.head _
 | aV=>exact vP hr (P:=fun pe=>pe.ctorIdx∈[0]) fun _ _ _ _=>.head _
 | not_=>exact iH hr (P:=fun pe=>pe.ctorIdx∈[3]) fun _ _ _ _=>.head _
 | ite=>exact zL hr (P:=fun pe=>pe.ctorIdx∈[5]) fun _ _ _ _ _=>.head _
 | attr=>exact j2 hr (P:=fun pe=>pe.ctorIdx∈[20]) fun _ _ _ _=>.head _
 | sub=>exact fL hr (P:=fun pe=>pe.ctorIdx∈[21]) fun _ _ _ _=>.head _
 | rev=>exact fL hr (P:=fun pe=>pe.ctorIdx∈[21]) fun _ _ _ _=>.head _
 | pre=>exact fL hr (P:=fun pe=>pe.ctorIdx∈[21]) fun _ _ _ _=>.head _
 | tup=>exact qe hr (P:=fun pe=>pe.ctorIdx∈[25]) fun _ _ _ _=>.head _
 | lst=>exact eList hr (P:=fun pe=>pe.ctorIdx∈[24]) fun _ _ _=>.head _
 | dict=>exact Jd hr (P:=fun pe=>pe.ctorIdx∈[6]) fun _ _ _ _=>.head _
 | comp=>exact uQ hr (P:=fun pe=>pe.ctorIdx∈[8]) fun _ _ _ _ _=>.head _
 | stuck=>exact fJ he
 | _=>exact xV hr (P:=fun pe=>pe.ctorIdx∈[16]) fun _ _ _ _ _=>.head _
theorem e7(x:E):(z7 x).contains 7=false:=by cases x<;>rfl
theorem D8{x:E}{c:Ctx}{pe:PySem.Expr}{e:aU}{H:Hp}{r:V×Hp}(hr:bP gU x c pe=true)(he:ba (mf cl) x e H=some r):pe.ctorIdx≠7:=fun q=>by
 have h:=se hr he;rw[q] at h;exact gI ((e7 x).symm.trans (List.contains_iff_mem.mpr h))
theorem D9{pe:PySem.Expr}(op:CmpOp){P:Bool->Prop}(k:P false):pe.ctorIdx≠7->P (behindInMarks op pe):=by
 cases pe with
 | Set=>exact fun q=>absurd rfl q
 | _=>exact fun _=>k
theorem Hi{b:E}{c:Ctx}{pe:PySem.Expr}{e:aU}{H:Hp}{r:V×Hp}(hr:bP gU b c pe=true)(he:ba (mf cl) b e H=some r)(op:CmpOp):behindInMarks op pe=false:=D9 op (P:=fun b=>b=false) rfl (D8 hr he)
theorem Bq(X:Cx w G K mg mb n cl)(op:G3){a b:E}(ha:bJ w G n cl a)(hb:bJ w G n cl b){c:Ctx}{l r:PySem.Expr}{env:Env}{e:aU}{H H':Hp}{v:V}
  (h1:bP gU a c l=true) (h2:bP gU b c r=true) (f:FR G μ s.heap c env e) (hx:HR w G μ s.heap H) (hA:dQ A n) (he:ba (mf cl) (.cmp op a b) e H=some (v,H')) {Q:Value->Shared->Prop}
  (h:∀ bo s' μ',v=.bool bo->Mv gm μ s μ' s'->HR w G μ' s'.heap H'->Q (.bool bo) s') :
  wpAny (model aX w) A (eval l env) (fun a s₁=>wpAny (model aX w) A (eval r env) (fun b s₂=>wpAny (model aX w) A (compareOp op.py a b) Q bM s₂) bM s₁) bM s/\behindInMarks op.py r=false:=
 bq he fun x H1 e1 he=>bq he fun y H2 e2 he=>bc he fun bo e3 he=>by
  have q1:V.bool bo=v:=congrArg Prod.fst (UM he);have q2:H2=H':=congrArg Prod.snd (UM he);exact ⟨one ha h1 f hx hA e1 fun ma μ₁ s₁ m1 x1 r1 f1=>one hb h2 f1 x1 hA e2 fun QI μ₂ s₂ m2 x2 r2 f2=>Kj X.tab hA.room x2 (r1.next' m2) r2 e3 fun t=>
  h bo _ μ₂ q1.symm ((m1.trans m2).trans ⟨bu.refl _ _ _,rfl,rfl⟩) (q2▸x2),Hi h2 e2 op.py⟩
theorem Ea(X:Cx w G K mg mb n cl)(op:G3){a b:E}(ha:bJ w G n cl a)(hb:bJ w G n cl b):bJ w G n cl (.cmp op a b):=fun c pe hr=>sL hr fun l os rs p hr=>e1 hr (P:=fun os=>eJ w G n cl (.cmp op a b) c (.Compare l os rs p)) fun o hr=>e1 hr (P:=fun rs=>eJ w G n cl (.cmp op a b) c (.Compare l [o] rs p)) fun r hr=>aJ hr fun ho hr=>aJ hr fun h1 h2=>by
 rw[UU ho];exact fun env e A μ s H v H' f hx hA he=>bY (Bq X op ha hb h1 h2 f hx hA he (Q:=EP w G μ s v H') fun bo s' μ' hv m x'=>⟨μ',m,x',hv▸.bool bo⟩) fun p q=>wpAny_Compare1 p q
theorem Cj(X:Cx w G K mg mb n cl)(op:G3){a b:E}(ha:bJ w G n cl a)(hb:bJ w G n cl b):iV w G n cl (.cmp op a b):=fun c pe hr=>sL hr fun l os rs p hr=>e1 hr (P:=fun os=>D3 w G n cl (.cmp op a b) c (.Compare l os rs p)) fun o hr=>e1 hr (P:=fun rs=>D3 w G n cl (.cmp op a b) c (.Compare l [o] rs p)) fun r hr=>aJ hr fun ho hr=>aJ hr fun h1 h2=>by
 rw[UU ho];exact fun env e A μ s H v H' bb f hx hA he ht=>bY (Bq X op ha hb h1 h2 f hx hA he (Q:=fun c s₃=>wpAny (model aX w) A (truthy c) (TP w G μ s bb H') bM s₃) fun bo s' μ' hv m x'=>wpAny_truthy_bool ⟨UM (by rw[hv] at ht;exact ht),μ',m,x'⟩) fun p q=>wpAny_isTrue_Compare1 p q
noncomputable def z8(e:PySem.Expr):Bool:=[6,8,16,19,20,21,23,24,25,2].contains e.ctorIdx||jx e fun op _ _=>decide (op=.USub)
theorem tP{pe:PySem.Expr}(h:z8 pe=true)(env:Env)(whole:Sem Value):isTrue pe env whole=(do let v <-whole;standAt pe.pos;holding [v] (truthy v)):=by
 cases pe with
 | UnaryOp op a p=>cases op with
  | USub=>rfl
  | _=>exact gI h
 | BoolOp=>exact gI h
 | IfExp=>exact gI h
 | Compare=>exact gI h
 | _=>rfl
theorem Hj{pe:PySem.Expr}{i:Nat}(h:pe.ctorIdx∈[i])(k:[6,8,16,19,20,21,23,24,25,2].contains i=true):z8 pe=true:=by
 unfold z8;rw[UL h,k];rfl
theorem Eb{v:V}{c:Ctx}{pe:PySem.Expr}(hr:bP gU (.lit v) c pe=true):z8 pe=true:=
 lK hr (fun hr=>lK hr (fun hr=>iz hr (P:=fun pe=>z8 pe=true) fun _ _ _ _=>rfl) fun hr=>iH hr (P:=fun pe=>z8 pe=true) fun op a p hr=>aJ hr fun q _=>by rw[UU q];rfl) fun hr=>eName hr (P:=fun pe=>z8 pe=true) fun _ _ _=>rfl
theorem Ck{x:E}{i:Nat}(hx:bJ w G n cl x)(hd:z7 x=[i])(k:[6,8,16,19,20,21,23,24,25,2].contains i=true):iV w G n cl x:=fun c pe hr env e A μ s H v H' b f Ec hA he ht=>
 wpAny_isTrue_value (one hx hr f Ec hA he fun mv μ₁ s₁ m1 x1 r1 f1=>mc x1 r1 ht fun t=>⟨rfl,μ₁,m1.trans ⟨bu.refl _ _ _,rfl,rfl⟩,x1⟩) (tP (Hj (hd▸se hr he) k) env _)
theorem Cm{v:V}(hx:bJ w G n cl (.lit v)):iV w G n cl (.lit v):=fun c pe hr env e A μ s H v H' b f Ec hA he ht=>
 wpAny_isTrue_value (one hx hr f Ec hA he fun mv μ₁ s₁ m1 x1 r1 f1=>mc x1 r1 ht fun t=>⟨rfl,μ₁,m1.trans ⟨bu.refl _ _ _,rfl,rfl⟩,x1⟩) (tP (Eb hr) env _)
end
end
section
open PySem PySem.W PySem.Calls PyProof.Rows PySem.SeqAt
section
variable{w:World}{G:Heap}{n:Nat}{cl:Nat->List V->Hp->Option (V×Hp)}{K:Frag}{mg mb:Str->Option Value}{μ μ₁:Mu}{s s₁:Shared}{A:Around}
theorem Ed{a:E}(ha:bJ w G n cl a):bJ w G n cl (.not_ a):=fun c pe hr=>iH hr fun op x p hr=>aJ hr fun ho hr=>by
 rw[UU ho];refine fun env e A μ s H v H' f hx hA he=>bq he fun y H1 e1 he=>bc he fun b e3 he=>eD (P:=fun v H'=>wpAny (model aX w) A (eval (.UnaryOp .Not x p) env) (EP w G μ s v H') bM s) he ?_;rw[arm_eval_UnaryOp];refine wpAny_bind (one ha hr f hx hA e1 fun ma μ₁ s₁ m1 x1 r1 f1=>wpAny_bind (wpAny_standAt (wpAny_holding ?_)));show wpAny _ _ (holding [ma] (truthy ma >>= fun b=>(pure (Value.bool (!b)):Sem Value))) _ _ _;exact wpAny_holding<|wpAny_bind (mc x1 r1 e3 fun t=>wpAny_pure ⟨μ₁,m1.trans ⟨bu.refl _ _ _,rfl,rfl⟩,x1,.bool _⟩)
theorem Cn{a:E}(ha:iV w G n cl a):iV w G n cl (.not_ a):=fun c pe hr=>iH hr fun op x p hr=>aJ hr fun ho hr=>by
 rw[UU ho];refine fun env e A μ s H v H' bb f hx hA he ht=>bq he fun y H1 e1 he=>bc he fun b e3 he=>?_;have q1:V.bool (!b)=v:=congrArg Prod.fst (UM he);have q2:H1=H':=congrArg Prod.snd (UM he);rw[<-q1] at ht;rw[arm_isTrue_UnaryOp,<-q2];exact wpAny_bind (yp ha hr f hx hA e1 e3 fun μ₁ s₁ m1 x1 _=>wpAny_pure ⟨UM ht,μ₁,m1,x1⟩)
theorem Ee{t a b:E}(ht:iV w G n cl t)(ha:bJ w G n cl a)(hb:bJ w G n cl b):bJ w G n cl (.ite t a b):=fun c pe hr=>zL hr fun t' a' b' p hr=>aJ hr fun h0 hr=>aJ hr fun h1 h2 env e A μ s H v H' f hx hA he=>bq he fun y H1 e1 he=>bc he fun bo e2 he=>by
 rw[arm_eval_IfExp];refine wpAny_bind (yp ht h0 f hx hA e1 e2 fun μ₁ s₁ m1 x1 f1=>jQ m1 ?_);cases bo with
 | true=>exact ha _ _ h1 env e A μ₁ s₁ H1 v H' f1 x1 hA he
 | false=>exact hb _ _ h2 env e A μ₁ s₁ H1 v H' f1 x1 hA he
theorem Co{t a b:E}(ht:iV w G n cl t)(ha:iV w G n cl a)(hb:iV w G n cl b):iV w G n cl (.ite t a b):=fun c pe hr=>zL hr fun t' a' b' p hr=>aJ hr fun h0 hr=>aJ hr fun h1 h2 env e A μ s H v H' bb f hx hA he Ph=>bq he fun y H1 e1 he=>bc he fun bo e2 he=>by
 rw[arm_isTrue_IfExp];refine wpAny_bind (yp ht h0 f hx hA e1 e2 fun μ₁ s₁ m1 x1 f1=>tO m1 ?_);cases bo with
 | true=>exact ha _ _ h1 env e A μ₁ s₁ H1 v H' bb f1 x1 hA he Ph
 | false=>exact hb _ _ h2 env e A μ₁ s₁ H1 v H' bb f1 x1 hA he Ph
theorem Cp:Ci w G n cl []:=fun _ _ _ _ _ _ _ _ _ _ _ _ _ _ _ _ he=>fJ he
theorem Ef(bW:Bool)(pos:Pos)(pe Ou:PySem.Expr)(rest:List PySem.Expr)(env:Env):boolOp pos (cond bW .And .Or) (evalEach (pe::Ou::rest) env)=(do
   let v <-eval pe env
   standAt pos
   let t <-holding [v] (truthy v)
   cond (t==bW) (boolOp pos (cond bW .And .Or) (evalEach (Ou::rest) env)) (pure v)):=by
 cases bW<;>exact congrArg (eval pe env >>= ·) (funext fun v=>congrArg (standAt pos >>= ·) (funext fun _=>congrArg (holding [v] (truthy v) >>= ·) (funext fun t=>by cases t<;>rfl)))
theorem all_cons(bW:Bool)(pe:PySem.Expr)(rest:List PySem.Expr)(env:Env):allTrue (cond bW .And .Or) (pe::rest) env=(isTrue pe env (eval pe env) >>= fun t=>cond (t==bW) (allTrue (cond bW .And .Or) rest env) (pure t)):=by
 cases bW<;>exact congrArg (isTrue pe env (eval pe env) >>= ·) (funext fun t=>by cases t<;>rfl)
theorem all_nil(bW:Bool)(env:Env):allTrue (cond bW .And .Or) [] env=pure bW:=by cases bW<;>rfl
theorem z9{a:E}{l:List E}(ha:bJ w G n cl a)(ta:iV w G n cl a)(hl:Ci w G n cl l):Ci w G n cl (a::l):=fun c sa hr=>eC hr fun pe rest hr=>aJ hr fun h1 hr=>aJ hr fun _ h3 bW pos env e A μ s H v H' f hx hA=>by
 cases l with
 | nil=>
  refine eN h3 (P:=fun rest=>gA (mf cl) bW [a] e H=some (v,H')->wpAny (model aX w) A (boolOp pos (cond bW .And .Or) (evalEach (pe::rest) env)) (EP w G μ s v H') bM s/\∀ b,truth v H'=some b->wpAny (model aX w) A (allTrue (cond bW .And .Or) (pe::rest) env) (TP w G μ s b H') bM s) fun he=>⟨ha c pe h1 env e A μ s H v H' f hx hA he,fun b hb=>?_⟩;rw[all_cons,all_nil];refine wpAny_bind (wp_mono (ta c pe h1 env e A μ s H v H' b f hx hA he hb) fun b' s' q=>?_);cases b'<;>cases bW<;>exact wpAny_pure q
 | cons a2 l2=>
  refine fun he=>bq he fun x H1 e1 he=>bc he fun bo LZ he=>?_;have R7:=h3;refine eC R7 (P:=fun rest=>wpAny (model aX w) A (boolOp pos (cond bW .And .Or) (evalEach (pe::rest) env)) (EP w G μ s v H') bM s/\∀ b,truth v H'=some b->wpAny (model aX w) A (allTrue (cond bW .And .Or) (pe::rest) env) (TP w G μ s b H') bM s) fun Ou MR h3=>?_;have ih:=fun {μ₁:Mu} {s₁:Shared} f1 x1 (he:gA (mf cl) bW (a2::l2) e H1=some (v,H'))=>hl c (Ou::MR) h3 bW pos env e A μ₁ s₁ H1 v H' f1 x1 hA he;rw[Ef]
  by_cases q:bo=bW
  ·have he:=(if_pos q).symm.trans he;have qq:(bo==bW)=true:=beq_iff_eq.mpr q;refine ⟨wpAny_bind (one ha h1 f hx hA e1 fun ma μ₁ s₁ m1 x1 r1 f1=>wpAny_bind (wpAny_standAt (wpAny_bind (wpAny_holding (mc x1 r1 LZ fun t=>?_))))),fun b hb=>?_⟩
   ·rw[qq];exact jQ (m1.trans ⟨bu.refl _ _ _,rfl,rfl⟩:Mv gm μ s μ₁ { s₁ with toks:=t }) (ih (s₁:={ s₁ with toks:=t }) f1 x1 he).1
   ·rw[all_cons];refine wpAny_bind (yp ta h1 f hx hA e1 LZ fun μ₁ s₁ m1 x1 f1=>?_);rw[qq];exact tO m1 ((ih f1 x1 he).2 b hb)
  ·have he:=UM ((if_neg q).symm.trans he);have q1:x=v:=congrArg Prod.fst he;have q2:H1=H':=congrArg Prod.snd he;rw[q1,q2] at LZ e1;have qq:(bo==bW)=false:=beq_false_of_ne q;refine ⟨wpAny_bind (one ha h1 f hx hA e1 fun ma μ₁ s₁ m1 x1 r1 f1=>wpAny_bind (wpAny_standAt (wpAny_bind (wpAny_holding (mc x1 r1 LZ fun t=>?_))))),fun b hb=>?_⟩
   ·rw[qq];exact wpAny_pure ⟨μ₁,m1.trans ⟨bu.refl _ _ _,rfl,rfl⟩,x1,r1⟩
   ·rw[all_cons];refine wpAny_bind (yp ta h1 f hx hA e1 LZ fun μ₁ s₁ m1 x1 f1=>?_);rw[qq];exact wpAny_pure ⟨UM (LZ.symm.trans hb),μ₁,m1,x1⟩
theorem Cq(bW:Bool){es:List E}(hs:Ci w G n cl es):bJ w G n cl (.aV bW es)/\iV w G n cl (.aV bW es):=
 ⟨fun c pe hr=>vP hr fun o vs p hr=>aJ hr fun ho hr=>by
  rw[UU ho];exact fun env e A μ s H v H' f hx hA he=>(hs c vs hr bW p env e A μ s H v H' f hx hA he).1,
 fun c pe hr=>vP hr fun o vs p hr=>aJ hr fun ho hr=>by
  rw[UU ho];exact fun env e A μ s H v H' b f hx hA he ht=>wpAny_isTrue_BoolOp ((hs c vs hr bW p env e A μ s H v H' f hx hA he).2 b ht)⟩
end
end
section
open PySem PySem.W PySem.Calls PyProof.Rows PySem.SeqAt
section
variable{w:World}{G:Heap}{n:Nat}{cl:Nat->List V->Hp->Option (V×Hp)}{K:Frag}{mg mb:Str->Option Value}{μ μ₁:Mu}{s s₁:Shared}{A:Around}
theorem cN{pe:PySem.Expr}(h:j5 pe=false)(rest:List PySem.Expr)(env:Env):starEach (pe::rest) env=(false,eval pe env)::starEach rest env:=by
 cases pe with
 | Starred=>exact gI h.symm
 | _=>rfl
theorem Cr:nU w G n cl []:=fun c sa hr=>eN hr (P:=D4 w G n cl [] c) fun pos env e A μ s H vs H' f hx hA he=>
 eD (P:=fun vs H'=>wpAny (model aX w) A (spliced (backTo pos (starEach [] env))) (LP w G μ s vs H') bM s) he (wpAny_items_nil ⟨μ,Mv.refl,hx,.nil⟩)
theorem Aa{a:E}{l:List E}(ha:bJ w G n cl a)(hl:nU w G n cl l):nU w G n cl (a::l):=fun c sa hr=>eC hr (P:=D4 w G n cl (a::l) c) fun pe rest hr=>aJ hr fun h1 hr=>aJ hr fun h2 h3 pos env e A μ s H vs H' f hx hA he=>
 bq he fun x H1 e1 he=>bq he fun xs H2 e2 he=>eD (P:=fun vs H'=>wpAny (model aX w) A (spliced (backTo pos (starEach (pe::rest) env))) (LP w G μ s vs H') bM s) he<|
  wpAny_items_cons (one ha h1 f hx hA e1 fun ma μ₁ s₁ m1 x1 r1 f1=>wp_mono (hl c rest h3 pos env e A μ₁ s₁ H1 xs H2 f1 x1 hA e2) fun ms s₂ h=>dj h fun μ₂ m2 x2 r2=>⟨μ₂,m1.trans m2,x2,.cons (r1.next' m2) r2⟩) (cN (eZ h2 id) rest env)
theorem gV{pos:Pos}{env:Env}{c:Ctx}{l:List E}:∀ {sa:List PySem.Expr},gr gU l c sa=true->(backTo pos (starEach sa env)).all (fun x=>!x.1)=true:=
 List.rec (motive:=fun l=>∀ {sa:List PySem.Expr},gr gU l c sa=true->(backTo pos (starEach sa env)).all (fun x=>!x.1)=true) (fun h=>eN h (P:=fun sa=>(backTo pos (starEach sa env)).all (fun x=>!x.1)=true) rfl)
  (fun a l ih sa h=>eC h (P:=fun sa=>(backTo pos (starEach sa env)).all (fun x=>!x.1)=true) fun pe rest h=>aJ h fun _ h=>aJ h fun h1 h2=>by
   rw[cN (eZ h1 id)];exact ih h2) l
theorem plain_any{l:List (Bool×Sem Value)}:l.all (fun x=>!x.1)=true->l.any (·.1)=false:=
 List.rec (motive:=fun l=>l.all (fun x=>!x.1)=true->l.any (·.1)=false) (fun _=>rfl) (fun a l ih h=>aJ h fun p q=>by rw[List.any_cons,eZ p id,ih q];rfl) l
theorem j9{M:Model}{E:Value->Shared->Prop}{f:Value}{args:List (Bool×Sem Value)}{Q:Args->Shared->Prop}(hp:args.all (fun x=>!x.1)=true)(h:wpAny M A (spliced args) (fun vs s'=>Q ⟨vs,[]⟩ s') E s) :
  wpAny M A (evalArgs f true args []) Q E s:=by
 cases args with
 | nil=>exact fun Γ p hΓ=>evalArgs_kw_nil rfl (wpAny_evalAll_nil (h Γ p hΓ:Q ⟨[],[]⟩ s)) Γ p hΓ
 | cons a rest=>
  obtain ⟨b,x⟩:=a;cases b with
  | true=>exact gI hp
  | false=>exact Calls.evalArgs_plain h
theorem Eg{es:List E}(hs:nU w G n cl es):bJ w G n cl (.tup es):=fun c pe hr=>qe hr fun L3 k p hr env e A μ s H v H' f hx hA he=>bq he fun vs H1 e1 he=>cS he fun hz he=>
 eD (P:=fun v H'=>wpAny (model aX w) A (eval (.Tuple L3 k p) env) (EP w G μ s v H') bM s) he<|wpAny_Tuple<|wp_mono (hs c _ hr _ env e A μ s H vs H1 f hx hA e1) fun ms s₁ h=>dj h fun μ₁ m1 x1 r1=>
  ⟨r1.length▸jP (fN hz),EP.after m1 (qm (t:=s₁.toks) x1 r1)⟩
theorem Eh{es:List E}(hs:nU w G n cl es):bJ w G n cl (.lst es):=fun c pe hr=>eList hr fun L3 p hr env e A μ s H v H' f hx hA he=>bq he fun vs H1 e1 he=>cS he fun hz he=>
 eD (P:=fun v H'=>wpAny (model aX w) A (eval (.List L3 p) env) (EP w G μ s v H') bM s) he<|wpAny_List<|wp_mono (hs c _ hr _ env e A μ s H vs H1 f hx hA e1) fun ms s₁ h=>dj h fun μ₁ m1 x1 r1=>
  ⟨r1.length▸jP (fN hz),EP.after m1 (lZ (t:=s₁.toks) x1 r1)⟩
theorem CR.ep{v:V}{H':Hp}{f:Value}{ms:List Value}(m:Mv gm μ s μ₁ s₁)(h:codeAny (model aX w) A (.call f ⟨ms,[]⟩) (CR w G μ₁ s₁ v H') s₁):wpAny (model aX w) A (call f ms) (EP w G μ s v H') bM s₁:=
 wpAny_call (codeAny_mono h fun r s' z=>by
  cases r with
  | ok f=>cases f with
   | ret mv=>exact EP.after m z
   | _=>exact z.elim
  | _=>exact z.elim)
theorem Cs(X:Cx w G K mg mb n cl)(f:Nat){args:List E}(hs:nU w G n cl args):bJ w G n cl (.call f args):=fun c pe hr=>xV hr fun g as kw p hr=>aJ hr fun hk hr=>aJ hr fun hg h3=>
 eN hk (P:=fun kw=>eJ w G n cl (.call f args) c (.Call g as kw p))<|eName hg (P:=fun g=>eJ w G n cl (.call f args) c (.Call g as [] p)) fun x px zD=>aJ zD fun h1 h2 env e A μ s H v H' fr hx hA he=>
  aM (X.gn.fn x f (eq_of_beq h2)) fun a ha MS=>xQ (X.QH f a ha) fun o fd ho hd=>bq he fun vs H1 e1 he=>
   wpAny_Call_Name_kw (qp X.gn hx fr h1 MS (callWith_function_kw (o:=o) (fd:=fd) (j9 (gV h3) (wp_mono (hs c as h3 _ env e A μ s H vs H1 fr hx hA e1) fun ms s₁ h=>dj h fun μ₁ m1 x1 r1=>
    ⟨⟨x1.ground _ _ ho,hd⟩,CR.ep m1 (X.call f a vs H1 v H' μ₁ s₁ A ms he ha x1 r1 hA.QG)⟩))))
theorem mh{o:PySem.Expr}{a:Str}{env:Env}{whole:Sem Value}(h:rU o=false):attributeBase o a env whole=whole:=by
 cases o with
 | Call=>exact gI h.symm
 | _=>rfl
theorem Ct(X:Cx w G K mg mb n cl){o:E}(k:Nat)(ho:bJ w G n cl o):bJ w G n cl (.attr o k):=fun c pe hr=>j2 hr fun o' a p hr=>aJ hr fun h1 hr=>aJ hr fun h2 h3=>by
 rw[eq_of_beq h2];refine fun env e A μ s H v H' f hx hA he=>bq he fun ov H1 e1 he=>xS (P:=fun H'=>wpAny (model aX w) A (eval (.Attribute o' (fV k) p) env) (EP w G μ s v H') bM s) he fun e2=>?_;show wpAny _ _ (do
  let o <-attributeBase o' (gU.nm k) env (eval o' env)
  standAt p.atName
  let r <-holding [o] (getAttr o (gU.nm k) true)
  letTemporaryGo o' o r
  pure r) _ _ _
 rw[mh (eZ h1 id)];refine wpAny_bind (one ho h3 f hx hA e1 fun ma μ₁ s₁ m1 x1 r1 f1=>wpAny_bind (wpAny_standAt (wpAny_bind (wpAny_holding ?_))));refine wp_mono (Hh X.cls x1 r1 e2) fun mv s₂ h=>?_;exact wpAny_bind (wpAny_letTemporaryGo (wpAny_pure ((h.ep x1).after m1)))
theorem k9.mono{o i:Value}{Q Q':Value->Shared->Prop}{E:Value->Shared->Prop}(h:k9 w A o i Q bM s)(f:∀ a s',Q a s'->Q' a s'):k9 w A o i Q' E s:=fG h fun T id a b d=>⟨T,id,a,b,wp_mono d f⟩
theorem Ej(X:Cx w G K mg mb n cl){o i:E}(ho:bJ w G n cl o)(hi:bJ w G n cl i):bJ w G n cl (.sub o i):=fun c pe hr=>fL hr fun o' i' p hr=>aJ hr fun h1 h2 env e A μ s H v H' f hx hA he=>
 bq he fun ov H1 e1 he=>bq he fun iv H2 e2 he=>xS (P:=fun H'=>wpAny (model aX w) A (eval (.Subscript o' i' p) env) (EP w G μ s v H') bM s) he fun e3=>
  tM (one ho h1 f hx hA e1 fun ma μ₁ s₁ m1 x1 r1 f1=>one hi h2 f1 x1 hA e2 fun mi μ₂ s₂ m2 x2 r2 f2=>(Kn (A:=A) X.tab hA.room x2 (r1.next' m2) r2 e3).mono fun mv s' h=>(h.ep x2).after (m1.trans m2))
theorem Ek{o:E}(ho:bJ w G n cl o):bJ w G n cl (.rev o):=fun c pe hr=>fL hr fun o' sl p hr=>aJ hr fun hr hs=>Dz hs (P:=fun sl=>eJ w G n cl (.rev o) c (.Subscript o' sl p)) fun a b u q hs=>aJ hs fun ha hs=>aJ hs fun hb hu=>
 eO ha (P:=fun a=>eJ w G n cl (.rev o) c (.Subscript o' (.Slice a b u q) p))<|eO hb (P:=fun b=>eJ w G n cl (.rev o) c (.Subscript o' (.Slice none b u q) p))<|eS hu (P:=fun u=>eJ w G n cl (.rev o) c (.Subscript o' (.Slice none none u q) p)) fun u hu=>
  iH hu (P:=fun u=>eJ w G n cl (.rev o) c (.Subscript o' (.Slice none none (some u) q) p)) fun op x p2 hu=>aJ hu fun R8 hk=>iz hk (P:=fun x=>eJ w G n cl (.rev o) c (.Subscript o' (.Slice none none (some (.UnaryOp op x p2)) q) p)) fun k kd p3 hk=>by
   rw[UU R8,UU hk];refine fun env e A μ s H v H' f hx hA he=>bq he fun ov H1 e1 he=>tM (one ho hr f hx hA e1 fun ma μ₁ s₁ m1 x1 r1 f1=>?_);refine wpAny_Slice ?_;refine wpAny_pure (wpAny_pure ?_);rw[evalPart_some,arm_eval_UnaryOp];exact wpAny_bind (wpAny_Constant_int (wpAny_bind (wpAny_standAt (wpAny_holding (P.neg_int ((Kp (A:=A) (t:=s₁.toks+1+1) (ms:=.int (-1) (s₁.toks+1)) x1 r1 (.int _ _) he).mono fun mv s' h=>EP.after m1 h))))))
theorem Em{o:E}(k:Nat)(ho:bJ w G n cl o):bJ w G n cl (.pre o k):=fun c pe hr=>fL hr fun o' sl p hr=>aJ hr fun hr hs=>Dz hs (P:=fun sl=>eJ w G n cl (.pre o k) c (.Subscript o' sl p)) fun a b u q hs=>aJ hs fun ha hs=>aJ hs fun hu hb=>
 eO ha (P:=fun a=>eJ w G n cl (.pre o k) c (.Subscript o' (.Slice a b u q) p))<|eO hu (P:=fun u=>eJ w G n cl (.pre o k) c (.Subscript o' (.Slice none b u q) p))<|eS hb (P:=fun b=>eJ w G n cl (.pre o k) c (.Subscript o' (.Slice none b none q) p)) fun x zD=>
  iz zD (P:=fun x=>eJ w G n cl (.pre o k) c (.Subscript o' (.Slice none (some x) none q) p)) fun j kd p3 hk=>by
   rw[UU hk];refine fun env e A μ s H v H' f hx hA he=>bq he fun ov H1 e1 he=>tM (one ho hr f hx hA e1 fun ma μ₁ s₁ m1 x1 r1 f1=>?_);refine wpAny_Slice ?_;refine wpAny_pure ?_;rw[evalPart_some];exact wpAny_Constant_int (wpAny_pure ((Kr (A:=A) (t:=s₁.toks+1) (k:=k) (u:=s₁.toks) x1 r1 he).mono fun mv s' h=>EP.after m1 h))
end
end
section
open PySem PySem.W PySem.Calls PyProof.Rows PySem.SeqAt
section
variable{w:World}{G:Heap}{n:Nat}{cl:Nat->List V->Hp->Option (V×Hp)}{K:Frag}{mg mb:Str->Option Value}{μ μ₁:Mu}{s s₁:Shared}{A:Around}
theorem dQ.make{n:Nat}(r:dQ A n)(x:Value)(rest:Args)(C:Addr)(ms:List Value)(kw:List (Str×Value)):Bp (A.under (.builtin "type.__call__" ⟨.ref C::ms,kw⟩)) n:=by
 have h1:(Code.builtin "type.__call__" ⟨.ref C::ms,kw⟩).weight=1:=by
  have:Code.isGuard (.builtin "type.__call__" ⟨.ref C::ms,kw⟩)=false:=by show guardIds.contains "type.__call__"=false;decide +kernel
  unfold Code.weight;rw[this];rfl
 have h2:(Code.builtin "type.__call__" ⟨.ref C::ms,kw⟩).cUnits=1:=rfl;have a:=r.depth;have b:=r.units;refine ⟨r.handled,?_,?_⟩
 ·show A.depth+_+_+2<=_;rw[h1];lia
 ·show A.units+_+_+115<_;rw[h2];lia
theorem eM{e:PySem.Expr}{f:PySem.Expr->Str->List PySem.Expr->Bool}(h:MI e f=true){P:PySem.Expr->Prop}(k:∀ o a as ap p,rU o=false->(ap.endLine==p.line)=true->f o a as=true->P (.Call (.Attribute o a ap) as [] p)):P e:=
 xV h fun g as kw p h=>aJ h fun hk h=>eN hk (P:=fun kw=>P (.Call g as kw p))<|j2 h (P:=fun g=>P (.Call g as [] p)) fun o a ap h=>aJ h fun h1 h2=>aJ h1 fun q r=>k o a as ap p (eZ q id) r h2
theorem eB{c:Ctx}{e:PySem.Expr}{y:Str}{f:PySem.Expr->Bool}(h:MJ c e y f=true){P:PySem.Expr->Prop}(k:∀ a px p,j4 c y=true->j5 a=false->f a=true->P (.Call (.Name y px) [a] [] p)):P e:=
 xV h fun g as kw p h=>aJ h fun hk h=>aJ h fun hn h=>eN hk (P:=fun kw=>P (.Call g as kw p))<|eName hn (P:=fun g=>P (.Call g as [] p)) fun x px hx=>aJ hx fun h1 h2=>e1 h (P:=fun as=>P (.Call (.Name x px) as [] p)) fun a h=>aJ h fun q r=>by
  have z:=eq_of_beq h2;rw[z] at h1⊢;exact k a px p h1 (eZ q id) r
theorem Hk{h:Heap}:h.get? (h.objs.size+1)=none:=by
 cases q:h.get? (h.objs.size+1) with
 | none=>rfl
 | some o=>exact absurd (Heap.lt_size q) (Nat.not_lt.mpr (Nat.le_succ _))
theorem En(X:Cx w G K mg mb n cl)(k:Nat){args:List E}(hs:nU w G n cl args):bJ w G n cl (.new k args):=fun c pe hr=>xV hr fun g as kw p hr=>aJ hr fun hk hr=>aJ hr fun hg h3=>
 eN hk (P:=fun kw=>eJ w G n cl (.new k args) c (.Call g as kw p))<|eName hg (P:=fun g=>eJ w G n cl (.new k args) c (.Call g as [] p)) fun x px zD=>aJ zD fun h1 h2 env e A μ s H v H' fr hx hA he=>
  aM (X.gn.cls x k (eq_of_beq h2)) fun C hC MS=>fU (X.new k C hC) fun hm hk z=>fH z fun f fI hi Pj MT R9=>bq he fun vs H1 e1 he=>bc he fun f' Sa he=>bq he fun r H2 e2 he=>cS he fun Sb he=>
   eD (P:=fun v H'=>wpAny (model aX w) A (eval (.Call (.Name x px) as [] p) env) (EP w G μ s v H') bM s) he<|by
    rw[<-UM (hi.symm.trans Sa),vI Sb] at e2;refine wpAny_Call_Name_kw (qp X.gn hx fr h1 MS ?_);refine callWith_of (P:=fun h=>K.In h) (by rw[plain_any (gV h3)];rfl) (fun h Xh=>keeps_K hk h Xh) (j9 (gV h3) (wp_mono (hs c as h3 _ env e A μ s H vs H1 fr hx hA e1) fun ms s₁ h=>?_));refine dj h fun μ₁ m1 x1 r1=>?_;have L6:K.In s₁.heap:=Frag.In.keeps X.cls.LW fun b o e=>x1.ground b o e;refine ⟨L6,wpAny_call ?_⟩;obtain ⟨h₁,gs₁,d₁,t₁,os₁⟩:=s₁;refine make_core (makes_of L6 hm) (looks_findIn L6 MT) (fun self=>bind_fn L6 self R9) (.inl rfl) ?_;have gd:((h₁.push emptyDict).push (instObj C h₁.objs.size)).get? h₁.objs.size=some emptyDict:=by heap_get
    have gi:((h₁.push emptyDict).push (instObj C h₁.objs.size)).get? (h₁.objs.size+1)=some (instObj C h₁.objs.size):=by heap_get
    refine bY (x1.new (p:=(h₁.objs.size+1,h₁.objs.size)) (ob:=.ins k []) (fun b o e=>bK _ _ _ (bK _ _ _ e)) Hk (b7 h₁) ⟨C,_,[],0,hC,gi,gd,.nil⟩) fun n2 x2=>?_;have hl:(μ₁++[(h₁.objs.size+1,h₁.objs.size)])[H1.length]?=some (h₁.objs.size+1,h₁.objs.size):=x1.len▸qk;refine codeAny_mono (X.call f fI _ _ .none H2 _ _ _ _ e2 Pj x2 (.cons (.obj hl) (r1.nx n2)) (hA.make .none ⟨[],[]⟩ C ms [])) fun r s' z=>?_;cases r with
    | ok fl=>cases fl with
     | ret mv=>
      refine dj z fun μ₃ m3 x3 r3=>?_;rw[v7 r3];exact And.intro rfl ⟨μ₃,⟨(m1.n.trans n2).trans m3.n,m3.g.trans m1.g,m3.o.trans m1.o⟩,x3,.obj (p:=(h₁.objs.size+1,h₁.objs.size)) (lX m3.n.pre hl)⟩
     | _=>exact z.elim
    | _=>exact z.elim
theorem Kt{m:Nat}(h:gU.own.contains m=true):m<tE:=by
 have k:gU.own.all (fun m=>decide (m<tE))=true:=by decide +kernel
 exact UU (List.all_eq_true.mp k m (List.contains_iff_mem.mp h))
theorem Et{env:Env}{l:List E}{c:Ctx}{as:List PySem.Expr}{pos:Pos}(h3:gr gU l c as=true)(hl:as.length<29) :
  methodCallForm (as.length+([]:List Keyword).length) (backTo pos (starEach as env)) (backToKw pos (keywordEach [] env))=true:=by
 unfold methodCallForm;rw[gV h3];exact UT (Nat.lt_succ_of_lt hl:as.length+0+0<30)
theorem call_pos{o:PySem.Expr}{env:Env}{ap pos:Pos}{b:Bool}(h:(ap.endLine==pos.line)=true):methodCallPos b o env ap pos=pure pos:=by
 unfold methodCallPos;simp[h]
theorem Eu(X:Cx w G K mg mb n cl)(m:Nat){o:E}{args:List E}(ho:bJ w G n cl o)(hs:nU w G n cl args):bJ w G n cl (.own o m args):=fun c pe hr=>eM hr fun o' a as ap p h1 h2 hr=>aJ hr fun h3 hr=>aJ hr fun h4 hr=>aJ hr fun h5 hr=>aJ hr fun h6 h7=>by
 have h5:a=fV m:=eq_of_beq h5;rw[h5];refine fun env e A μ s H v H' fr hx hA he=>bq he fun ov H1 e1 he=>bc he fun f hf he=>bq he fun vs H2 e2 MU=>bc hf fun i hi hf=>bc hf fun d hd hf=>cS hf fun hg hf=>?_;rw[arm_eval_Call,mh h1];refine wpAny_bind (one ho h6 fr hx hA e1 fun mo μ₁ s₁ m1 x1 r1 f1=>wpAny_bind (wpAny_standAt ?_));unfold methodCall;rw[Et h7 (UU h3)];unfold calleeOf;rw[if_pos rfl];rw[iG hi] at r1 MU;refine Mx (v9 x1 r1 hd (P:=fun mo=>∃ (q:Addr×Addr) (C:Addr) (sl:Array (Option Value)) (es:List DictEntry) (j:Nat),mo=.ref q.1/\μ₁[i]?=some q/\lE[d.1]?=some C/\InstAt s₁.heap q.1 ⟨.ref C,some q.2,.plain,sl⟩ C (some (dictOf es j))/\nR (VR G μ₁ s₁.heap) d.2 es)
  fun q C sl es j a b c d=>⟨q,C,sl,es,j,rfl,a,b,c,d⟩) fun q C sl es j em hp hC I F=>?_
 rw[em];have L6:K.In s₁.heap:=Frag.In.keeps X.cls.LW fun b o e=>x1.ground b o e;refine dj (X.cls.Dt d.1 C m f hC hf) fun fa q1 q2 q3=>aM (F.get (Kt h4)) fun o2 g2 g3=>xQ (X.QH f fa q3) fun fo fd Sd Se=>?_;have g4:o2=none:=by
  have g3:DS (VR G μ₁ s₁.heap) (nZ d.2 m) o2:=g3;rw[Option.isNone_iff_eq_none.mp hg] at g3;exact g3
 rw[g4] at g2;refine wpAny_bind (wpAny_holding (method_fn L6 I (X.cls.get d.1 C hC).1 (X.cls.get d.1 C hC).2 q1 (by simpa [isFn] using q2) (by show (lookIn _ (dictOf es j)).map _=_;rw[lookIn_dict,g2];rfl) ?_));refine wpAny_bind ?_;rw[call_pos h2];refine wpAny_pure ?_;refine callWith_function_kw (o:=fo) (fd:=fd) (j9 (gV h7) (wp_mono (hs c as h7 p env e A μ₁ s₁ H1 vs H2 f1 x1 hA e2) fun ms s₂ h=>dj h fun μ₂ m2 x2 r2=>?_));exact ⟨⟨x2.ground _ _ Sd,Se⟩,CR.ep (ms:=.ref q.1::ms) (m1.trans m2) (X.call f fa (.obj i::vs) H2 v H' μ₂ s₂ A (.ref q.1::ms) MU q3 x2 (.cons ((VR.obj hp).nx m2.n) r2) hA.QG)⟩
end
end
section
open PySem PySem.W PySem.Calls PyProof.Rows PySem.SeqAt
section
variable{w:World}{G:Heap}{n:Nat}{cl:Nat->List V->Hp->Option (V×Hp)}{K:Frag}{mg mb:Str->Option Value}{μ μ₁:Mu}{s s₁:Shared}{A:Around}{H:Hp}
theorem get_dict(hA:j8 A){kd:Nat}{kvs:List (V×V)}{d:Addr}{k dv:V}{mk md:Value}(D:Hg w G μ s.heap kd kvs d)(r:VR G μ s.heap k mk)(rd:VR G μ s.heap dv md)(hk:keyOk kd k=true) :
  wpAny (model aX w) A (call (.builtin "dict.get") [.ref d,mk,md]) (VP G μ s ((aW kvs k).getD dv)) bM s:=
 D.dr.cs (P:=fun kd=>keyOk kd k=true->wpAny (model aX w) A (call (.builtin "dict.get") [.ref d,mk,md]) (VP G μ s ((aW kvs k).getD dv)) bM s)
  (fun xs hx hp hk=>rY (kd:=kd) r hk (P:=fun k mk=>wpAny (model aX w) A (call (.builtin "dict.get") [.ref d,mk,md]) (VP G μ s ((aW kvs k).getD dv)) bM s) fun i t=>
   call_meetsIn PySem.F.slot_dict_get hx.typeIs PySem.F.entry_dict_get (PySem.F.args_dict_get_3 _ _ _) (meets_dict_get_default (intKind aX w) d (intKind_is _ _ i t) D.ne md) ⟨_,hx.mapOf,v5 vW hp (kI i) (P:=fun a b=>VR G μ s.heap (a.getD dv) (b.getD md)) rd (fun _ _ c=>c),_,rfl⟩)
  (fun xs hx hp hk=>rZ (kd:=kd) r hk (P:=fun k mk=>wpAny (model aX w) A (call (.builtin "dict.get") [.ref d,mk,md]) (VP G μ s ((aW kvs k).getD dv)) bM s) fun m t hn=>
   call_meetsIn PySem.F.slot_dict_get hx.typeIs PySem.F.entry_dict_get (PySem.F.args_dict_get_3 _ _ _) (meets_dict_get_default (strKind aX w) d (strKind_is _ _ (fV m) t) D.ne md) ⟨_,hx.mapOf,v5 vX hp (kS hn) (P:=fun a b=>VR G μ s.heap (a.getD dv) (b.getD md)) rd (fun _ _ c=>c),_,rfl⟩)
  (fun xs hx hp hk=>r7 r hk (P:=fun mk=>wpAny (model aX w) A (call (.builtin "dict.get") [.ref d,mk,md]) (VP G μ s ((aW kvs k).getD dv)) bM s) fun a hT=>
   call_meetsIn PySem.F.slot_dict_get hx.typeIs PySem.F.entry_dict_get (PySem.F.args_dict_get_3 _ _ _) (meetsH_dict_get_default (tupK aX w) d a D.ne md) ⟨hA.in1 8 (by decide),k,xs,hT,hx,(by
    rw[<-qj];exact v5 vY hp (rfl:R2 k k) (P:=fun a b=>VR G μ s.heap (a.getD dv) (b.getD md)) rd (fun _ _ c=>c)),_,rfl⟩) hk
theorem Hl(t:tH w G)(hA:j8 A)(x:HR w G μ s.heap H){o k d v:V}{mo mk md:Value}(ro:VR G μ s.heap o mo)(rk:VR G μ s.heap k mk)(rd:VR G μ s.heap d md)(e:fW aA o k d H=some v) :
  wpAny (model aX w) A (call (.builtin "dict.get") [mo,mk,md]) (VP G μ s v) bM s:=by
 cases o with
 | tab i=>exact aM ro.inv fun a ha q=>cS e fun hk e=>q▸UM e▸get_dict hA (mH t x ha) rk rd hk
 | obj i=>exact bc e fun d hd e=>cS e fun hk e=>l9 t x ro hd (P:=fun mo=>wpAny (model aX w) A (call (.builtin "dict.get") [mo,mk,md]) (VP G μ s v) bM s) fun p _ D=>UM e▸get_dict hA D rk rd hk
 | _=>exact fJ e
noncomputable def MV(s:Shared)(mo:Value)(T:String):Prop:=s.TypeIs mo T/\∀ a,mo=.ref a->∃ ob,s.heap.get? a=some ob/\ob.dict=none
theorem Pk{a:Addr}{T:String}(h:s.TypeIs (.ref a) T)(k:∃ ob,s.heap.get? a=some ob/\ob.dict=none):MV s (.ref a) T:=⟨h,fun _ e=>Value.ref.inj e▸k⟩
theorem Hg.bare{kd:Nat}{kvs:List (V×V)}{d:Addr}(D:Hg w G μ s.heap kd kvs d):∃ ob,s.heap.get? d=some ob/\ob.dict=none:=
 D.dr.cs (P:=fun _=>∃ ob,s.heap.get? d=some ob/\ob.dict=none) (fun _ hx _=>hx.mapOf.noDict _ rfl) (fun _ hx _=>hx.mapOf.noDict _ rfl) fun _ hx _=>zH hx fun o _ _ ho hc _=>⟨o,ho,hc.2.1⟩
theorem Hm(t:tH w G)(x:HR w G μ s.heap H){o:V}{mo:Value}(ro:VR G μ s.heap o mo)(e:xU o H=true):MV s mo "dict":=by
 cases o with
 | tab i=>exact aM ro.inv fun a ha q=>q▸Pk (mH t x ha).ty (mH t x ha).bare
 | obj i=>exact iU e fun d hd=>l9 t x ro hd (P:=fun mo=>MV s mo "dict") fun p _ D=>Pk D.ty D.bare
 | _=>exact gI e
theorem Hn(x:HR w G μ s.heap H){o:V}{mo:Value}(ro:VR G μ s.heap o mo)(e:Du o H=true):MV s mo "list":=
 cU e fun i hi e=>iU e fun l hl=>cQ x (iG hi▸ro) hl (P:=fun mo=>MV s mo "list") fun a items _ p _=>Pk p.isList.typeIs (p.elim fun _ ho=>⟨_,ho,rfl⟩)
theorem Jj{id:String}{first:List Value}{pos:Pos}{env:Env}{e:aU}{c:Ctx}{pe:PySem.Expr}{x:E}{v:V}{H₁:Hp}{Q:Value->Shared->Prop}(ih:bJ w G n cl x)(h2:j5 pe=false)
  (hr:bP gU x c pe=true) (f:FR G μ s.heap c env e) (hx:HR w G μ s.heap H) (hA:dQ A n) (he:ba (mf cl) x e H=some (v,H₁))
  (h:∀ mv μ₁ s₁,Mv gm μ s μ₁ s₁->HR w G μ₁ s₁.heap H₁->VR G μ₁ s₁.heap v mv->FR G μ₁ s₁.heap c env e->wpAny (model aX w) A (call (.builtin id) (first++[mv])) Q bM s₁) :
  wpAny (model aX w) A (callWith pos (.builtin id) first (backTo pos (starEach [pe] env)) []) Q bM s:=by
 rw[cN h2];exact Calls.callWith_builtin rfl (Calls.evalArgs_plain (Calls.spliced_cons (one ih hr f hx hA he fun mv μ₁ s₁ m x₁ r₁ f₁=>Calls.spliced_nil (h mv μ₁ s₁ m x₁ r₁ f₁))))
theorem Cu(X:Cx w G K mg mb n cl){o k d:E}(ho:bJ w G n cl o)(hk:bJ w G n cl k)(hd:bJ w G n cl d):bJ w G n cl (.jj o k d):=fun c pe hr=>eM hr fun o' a as ap p h1 h2 hr=>eC hr (P:=fun as=>eJ w G n cl (.jj o k d) c (.Call (.Attribute o' a ap) as [] p)) fun k' r hr=>e1 hr (P:=fun r=>eJ w G n cl (.jj o k d) c (.Call (.Attribute o' a ap) (k'::r) [] p)) fun d' hr=>
 aJ hr fun h3 hr=>aJ hr fun h4 hr=>aJ hr fun h5 hr=>aJ hr fun h6 hr=>aJ hr fun h7 h8=>by
  rw[eq_of_beq h5];refine fun env e A μ s H v H' fr hx hA he=>bq he fun ov H1 e1 he=>cS he fun Sf he=>bq he fun kv H2 e2 he=>bq he fun dv H3 e3 he=>xS (P:=fun H'=>wpAny (model aX w) A (eval (.Call (.Attribute o' "get" ap) [k',d'] [] p) env) (EP w G μ s v H') bM s) he fun e4=>?_;have hl:∀ pos,backTo pos (starEach [k',d'] env)=[(false,eval k' env),(false,eval d' env)]:=fun pos=>by rw[cN (eZ h3 id),cN (eZ h4 id)];rfl
  refine wpAny_Call_method_late (mh h1) (by rw[hl];rfl) h2 (hl _) (one ho h6 fr hx hA e1 fun mo μ₁ s₁ m1 x1 r1 f1=>?_);have z:=Hm X.tab x1 r1 Sf;refine ⟨"dict","dict.get",PySem.F.plainAttrs_dict,PySem.F.slot_dict_get,PySem.F.type_dict_get,z.1,z.2,?_⟩;exact Calls.callWith_builtin rfl (Calls.evalArgs_plain (Calls.spliced_cons (one hk h7 f1 x1 hA e2 fun mk μ₂ s₂ m2 x2 r2 f2=>Calls.spliced_cons (one hd h8 f2 x2 hA e3 fun md μ₃ s₃ m3 x3 r3 f3=>Calls.spliced_nil<|
   D5 ((m1.trans m2).trans m3) x3 (Hl X.tab hA.room x3 (r1.next' (m2.trans m3)) (r2.next' m3) r3 e4)))))
theorem Ew{o x:E}(ho:bJ w G n cl o)(Ec:bJ w G n cl x):bJ w G n cl (.app o x):=fun c pe hr=>eM hr fun o' a as ap p h1 h2 hr=>e1 hr (P:=fun as=>eJ w G n cl (.app o x) c (.Call (.Attribute o' a ap) as [] p)) fun x' hr=>aJ hr fun h3 hr=>aJ hr fun h4 hr=>aJ hr fun h5 h6=>by
  rw[eq_of_beq h4];refine fun env e A μ s H v H' fr hx hA he=>bq he fun ov H1 e1 he=>cS he fun Sh he=>bq he fun xv H2 e2 he=>?_;refine wpAny_Call_method_late (mh h1) (by rw[cN (eZ h3 id)];rfl) h2 rfl (one ho h5 fr hx hA e1 fun mo μ₁ s₁ m1 x1 r1 f1=>?_);have z:=Hn x1 r1 Sh;refine ⟨"list","list.append",PySem.F.plainAttrs_list,slot_list_append,type_list_append,z.1,z.2,?_⟩;exact Jj Ec (eZ h3 id) h6 f1 x1 hA e2 fun mx μ₂ s₂ m2 x2 r2 f2=>jQ (m1.trans m2) (DX x2 (r1.next' m2) r2 he)
theorem Ex{o:E}(ho:bJ w G n cl o):bJ w G n cl (.pop o):=fun c pe hr=>eM hr fun o' a as ap p h1 h2 hr=>aJ hr fun h3 hr=>aJ hr fun h4 h5=>eN h3 (P:=fun as=>eJ w G n cl (.pop o) c (.Call (.Attribute o' a ap) as [] p))<|by
  rw[eq_of_beq h4];refine fun env e A μ s H v H' fr hx hA he=>bq he fun ov H1 e1 he=>?_;refine wpAny_Call_method_late (mh h1) rfl h2 rfl (one ho h5 fr hx hA e1 fun mo μ₁ s₁ m1 x1 r1 f1=>Ko (A:=A) x1 r1 he (P:=fun mo=>MethodOn aX w A (Str.ofString "pop") p mo (backTo p (starEach [] env)) (EP w G μ s v H') bM s₁) fun a t1 t2 hw=>?_);refine ⟨"list","list.pop",PySem.F.plainAttrs_list,PySem.F.slot_list_pop,PySem.F.type_list_pop,t1,fun _ e=>Value.ref.inj e▸t2,?_⟩;exact Calls.callWith_builtin rfl fun Γ p hΓ=>evalArgs_kw_nil rfl (wpAny_evalAll_nil (jQ m1 hw)) Γ p hΓ
theorem Ey(X:Cx w G K mg mb n cl){x:E}(Ec:bJ w G n cl x):bJ w G n cl (.len x):=fun c pe hr=>eB hr fun x' px p h1 h2 h3 env e A μ s H v H' fr hx hA he=>bq he fun xv H1 e1 he=>xS (P:=fun H'=>wpAny (model aX w) A (eval (.Call (.Name "len" px) [x'] [] p) env) (EP w G μ s v H') bM s) he fun e4=>
 wpAny_Call_Name_kw (pG X.gn hx fr h1 X.gn.bl.1 X.gn.bl.2.1 (Jj (first:=[]) Ec h2 h3 fr hx hA e1 fun mx μ₂ s₂ m2 x2 r2 f2=>D5 m2 x2 (Km x2 r2 e4)))
theorem Ab{T:String}(h:T="list"∨T="tuple")(M:Model)(hh:Heap):∃ k,(k=Keeper.frame∨k=Keeper.machine∨k=Keeper.boundFrame)/\Looks M hh (keeperOf (.type T)) k:=
 ⟨.machine,.inr (.inl rfl),h.elim (fun e=>e▸Looks.of_pure rfl) fun e=>e▸Looks.of_pure rfl⟩
theorem Ez{T:String}(hT:T="list"∨T="tuple"){pos:Pos}{env:Env}{e:aU}{c:Ctx}{pe:PySem.Expr}{x:E}{v v':V}{H₁ H':Hp}(ih:bJ w G n cl x)(h2:j5 pe=false)
  (hr:bP gU x c pe=true) (f:FR G μ s.heap c env e) (hx:HR w G μ s.heap H) (hA:dQ A n) (he:ba (mf cl) x e H=some (v,H₁))
  (h:∀ mv μ₁ s₁,HR w G μ₁ s₁.heap H₁->VR G μ₁ s₁.heap v mv->wpAny (model aX w) A (call (.type T) [mv]) (EP w G μ₁ s₁ v' H') bM s₁) :
  wpAny (model aX w) A (callWith pos (.type T) [] (backTo pos (starEach [pe] env)) (backToKw pos (keywordEach [] env))) (EP w G μ s v' H') bM s:=by
 rw[cN h2];exact callWith_of (P:=fun _=>True) rfl (fun hh _=>Ab hT _ hh) (Calls.evalArgs_plain (Calls.spliced_cons (one ih hr f hx hA he fun mv μ₁ s₁ m x₁ r₁ f₁=>Calls.spliced_nil ⟨trivial,jQ m (h mv μ₁ s₁ x₁ r₁)⟩)))
theorem yr(X:Cx w G K mg mb n cl){x:E}(Ec:bJ w G n cl x):bJ w G n cl (.toList x):=fun c pe hr=>eB hr fun x' px p h1 h2 h3 env e A μ s H v H' fr hx hA he=>bq he fun xv H1 e1 he=>
 wpAny_Call_Name_kw (pG X.gn hx fr h1 X.gn.bl.2.2.1 X.gn.bl.2.2.2.1 (Ez (.inl rfl) Ec h2 h3 fr hx hA e1 fun mx μ₂ s₂ x2 r2=>Ch x2 r2 he))
theorem Ac(X:Cx w G K mg mb n cl){x:E}(Ec:bJ w G n cl x):bJ w G n cl (.jv x):=fun c pe hr=>eB hr fun x' px p h1 h2 h3 env e A μ s H v H' fr hx hA he=>bq he fun xv H1 e1 he=>
 wpAny_Call_Name_kw (pG X.gn hx fr h1 X.gn.bl.2.2.2.2.1 X.gn.bl.2.2.2.2.2.1 (Ez (.inr rfl) Ec h2 h3 fr hx hA e1 fun mx μ₂ s₂ x2 r2=>D1 x2 r2 he))
end
end
section
open PySem PySem.W PySem.Calls PyProof.Rows PySem.SeqAt
section
variable{w:World}{G:Heap}{n:Nat}{cl:Nat->List V->Hp->Option (V×Hp)}{K:Frag}{mg mb:Str->Option Value}{μ μ₁:Mu}{s s₁:Shared}{A:Around}{H:Hp}
theorem yt(hA:j8 A){kd:Nat}{kvs:List (V×V)}{n:Nat}{p:Addr×Addr}{k v:V}{mk mv:Value}{Q:Unit->Shared->Prop}(x:HR w G μ s.heap H)(hp:μ[n]?=some p)(e:lJ H n=some (kd,kvs))
  (r:VR G μ s.heap k mk) (rv:VR G μ s.heap v mv) (hk:keyOk kd k=true) (hz:bp kvs=true)
  (h:∀ h' t,bu gm μ s.heap μ h'->HR w G μ h' (H.set n (.dict kd (hH kvs k v)))->Q () { s with heap:=h',toks:=t }):wpAny (model aX w) A (dictSet p.1 mk mv) Q bM s:=
 tJ (F:=fun mk=>dictSet p.1 mk mv) x hp e r rv hk hz h (fun a b f z=>wpAny_dictSet_pairs a b f z) fun a b f z=>wpAny_dictSet_heap (knd:=tupK aX w) (hA.lt 8 (by decide)) a b f z
theorem EA(h:Heap){kd:Nat}(hk:kd<=2):DR w kd G μ (h.push emptyDict) [] h.objs.size:=by
 match kd,hk with
 | 0,_=>exact ⟨[],Heap.DictOf.new h,.nil⟩
 | 1,_=>exact ⟨[],Heap.DictOf.new h,.nil⟩
 | 2,_=>exact ⟨[],⟨emptyDict,#[],0,Heap.get?_push_size _ rfl,⟨rfl,rfl,rfl⟩,rfl,rfl,(fun _ h=>absurd h List.not_mem_nil),List.nodup_nil⟩,.nil⟩
theorem EB(x:HR w G μ s.heap H){kd:Nat}(hk:kd<=2):bu gm μ s.heap (μ++[(s.heap.objs.size,s.heap.objs.size)]) (s.heap.push emptyDict)/\HR w G (μ++[(s.heap.objs.size,s.heap.objs.size)]) (s.heap.push emptyDict) (H++[.dict kd []]):=
 x.new (p:=(s.heap.objs.size,s.heap.objs.size)) (ob:=.dict kd []) (bK _) (b7 _) (b7 _) ⟨rfl,EA _ hk⟩
noncomputable abbrev ED(ps:List (Value×Value)):List Value:=ps.flatMap fun p=>[p.1,p.2]
noncomputable def KP(w:World)(G:Heap)(μ:Mu)(s:Shared)(vs:List V)(H':Hp)(ps:List (Value×Value))(s':Shared):Prop:=∃ μ',Mv gm μ s μ' s'/\HR w G μ' s'.heap H'/\dh G μ' s'.heap vs (ED ps)
theorem Ho{α:Type}{P:List α->Prop}(n:P [])(o:∀ a,P [a])(c:∀ a b m,P m->P (a::b::m))(l:List α):P l:=
 (List.rec (motive:=fun l=>P l/\∀ a,P (a::l)) ⟨n,o⟩ (fun b m ih=>⟨ih.2 b,fun a=>c a b m ih.1⟩) l:P l/\∀ a,P (a::l)).1
theorem Ad{c:Ctx}{ks:List (Option PySem.Expr)}{vs:List PySem.Expr}(h:lL gU [] c ks vs=true){P:List (Option PySem.Expr)->List PySem.Expr->Prop}(k:P [] []):P ks vs:=
 aJ h fun p q=>eN p (P:=fun ks=>P ks vs) (eN q (P:=fun vs=>P [] vs) k)
theorem Ae{a b:E}{m:List E}{c:Ctx}{ks:List (Option PySem.Expr)}{vs:List PySem.Expr}(h:lL gU (a::b::m) c ks vs=true){P:List (Option PySem.Expr)->List PySem.Expr->Prop}
  (k:∀ x ks y vs,bP gU a c x=true->bP gU b c y=true->lL gU m c ks vs=true->P (some x::ks) (y::vs)):P ks vs:=
 eC h (P:=fun ks=>P ks vs) fun o ks h=>eS h (P:=fun o=>P (o::ks) vs) fun x h=>eC h (P:=fun vs=>P (some x::ks) vs) fun y vs h=>aJ h fun p q=>aJ q fun q r=>k x ks y vs p q r
theorem EE(l:List E):∀ {c:Ctx} {ks:List (Option PySem.Expr)} {vs:List PySem.Expr},lL gU l c ks vs=true->ks.all (·.isSome)=true/\ks.length=vs.length:=
 Ho (P:=fun l=>∀ {c:Ctx} {ks:List (Option PySem.Expr)} {vs:List PySem.Expr},lL gU l c ks vs=true->ks.all (·.isSome)=true/\ks.length=vs.length) (fun {c ks vs} h=>Ad h (P:=fun ks vs=>ks.all (·.isSome)=true/\ks.length=vs.length) ⟨rfl,rfl⟩) (fun _ {c ks vs} h=>gI h)
  (fun a b m ih {c ks vs} h=>Ae h (P:=fun ks vs=>ks.all (·.isSome)=true/\ks.length=vs.length) fun x ks y vs _ _ r=>⟨(ih r).1,congrArg (·+1) (ih r).2⟩) l
noncomputable def Br(w:World)(G:Heap)(n:Nat)(cl:Nat->List V->Hp->Option (V×Hp))(l:List E)(c:Ctx)(ks:List (Option PySem.Expr))(vs:List PySem.Expr):Prop:=∀ {pos:Pos} {env:Env} {e:aU} {μ:Mu} {s:Shared} {A:Around} {H:Hp} {xs:List V} {H':Hp},
  FR G μ s.heap c env e->HR w G μ s.heap H->dQ A n->eY (mf cl) l e H=some (xs,H')->wpAny (model aX w) A (evalPairs (pairTrees ks vs env pos)) (KP w G μ s xs H') bM s
theorem Cv(l:List E):(∀ x∈l,bJ w G n cl x)->∀ {c:Ctx} {ks:List (Option PySem.Expr)} {vs:List PySem.Expr},lL gU l c ks vs=true->Br w G n cl l c ks vs:=
 Ho (P:=fun l=>(∀ x∈l,bJ w G n cl x)->∀ {c:Ctx} {ks:List (Option PySem.Expr)} {vs:List PySem.Expr},lL gU l c ks vs=true->Br w G n cl l c ks vs)
  (fun _ {c ks vs} h=>Ad h (P:=Br w G n cl [] c) fun {pos env e μ s A H xs H'} f hx hA he=>eD (P:=fun xs H'=>wpAny (model aX w) A (evalPairs (pairTrees [] [] env pos)) (KP w G μ s xs H') bM s) he (evalPairs_nil ⟨μ,Mv.refl,hx,.nil⟩))
  (fun _ _ _ _ _ h=>gI h)
  (fun a b m ih hs {c ks vs} h=>Ae h (P:=Br w G n cl (a::b::m) c) fun x ks y vs h1 h2 h3 {pos env e μ s A H xs H'} f hx hA he=>bq he fun u H1 e1 he=>bq he fun us H2 e2 he=>bq e2 fun z H3 e3 e2=>bq e2 fun ws H4 e4 e2=>by
   have q1:z::ws=us:=congrArg Prod.fst (UM e2);have q2:H4=H2:=congrArg Prod.snd (UM e2);rw[<-q1,<-q2] at he;refine eD (P:=fun xs H'=>wpAny (model aX w) A (evalPairs (pairTrees (some x::ks) (y::vs) env pos)) (KP w G μ s xs H') bM s) he ?_;refine evalPairs_cons (one (hs a (.head _)) h1 f hx hA e1 fun ma μ₁ s₁ m1 x1 r1 f1=>?_);refine wpAny_bind (one (hs b (.tail _ (.head _))) h2 f1 x1 hA e3 fun QI μ₂ s₂ m2 x2 r2 f2=>?_);refine wpAny_bind (wpAny_standAt (wpAny_pure ?_));exact wp_mono (ih (fun z hz=>hs z (.tail _ (.tail _ hz))) h3 f2 x2 hA e4) fun ps s₃ hp=>dj hp fun μ₃ m3 x3 r3=>⟨μ₃,(m1.trans m2).trans m3,x3,.cons (r1.next' (m2.trans m3)) (.cons (r2.next' m3) r3)⟩) l
theorem qr{i:Nat}{k y:V}{vs:List V}{H H':Hp}{v:V}(e:eI i (k::y::vs) H=some (v,H')){G:Prop}(f:∀ kd kvs,lJ H i=some (kd,kvs)->keyOk kd k=true->bp kvs=true->eI i vs (H.set i (.dict kd (hH kvs k y)))=some (v,H')->G):G:=
 bc e fun h1 e1 e=>bc e1 fun j hj e1=>bc e1 fun d hd e1=>cS e1 fun c e1=>aJ c fun p q=>by
  rw[<-UM e1] at e;have z:i=j:=UM hj;rw[<-z] at hd e;exact f d.1 d.2 hd p q e
theorem Cw(hA:j8 A){i:Nat}{p:Addr×Addr}(ps:List (Value×Value)):∀ {vs:List V} {μ:Mu} {s:Shared} {H:Hp} {v:V} {H':Hp} {Q:PUnit->Shared->Prop},HR w G μ s.heap H->μ[i]?=some p->dh G μ s.heap vs (ED ps)->eI i vs H=some (v,H')->
  (∀ h' t,bu gm μ s.heap μ h'->HR w G μ h' H'->Q ⟨⟩ { s with heap:=h',toks:=t })->wpAny (model aX w) A (storeAll p.1 ps) Q bM s:=
 List.rec (motive:=fun ps=>∀ {vs:List V} {μ:Mu} {s:Shared} {H:Hp} {v:V} {H':Hp} {Q:PUnit->Shared->Prop},HR w G μ s.heap H->μ[i]?=some p->dh G μ s.heap vs (ED ps)->eI i vs H=some (v,H')->
  (∀ h' t,bu gm μ s.heap μ h'->HR w G μ h' H'->Q ⟨⟩ { s with heap:=h',toks:=t })->wpAny (model aX w) A (storeAll p.1 ps) Q bM s)
  (fun {vs μ s H v H' Q} x hp r e h=>by
   rw[r.G6 rfl] at e;have q:H=H':=congrArg Prod.snd (UM e);unfold storeAll;rw[List.forIn_nil];exact wpAny_pure (h s.heap s.toks (bu.refl _ _ _) (q▸x)))
  (fun a ps ih {vs μ s H v H' Q} x hp r e h=>fG (r.u5 rfl) fun k l1 e1 rk r=>fG (r.u5 rfl) fun y l2 e2 rv r=>by
   rw[e1,e2] at e;refine qr e fun kd kvs hd hk hz e=>?_;unfold storeAll;rw[List.forIn_cons];refine wpAny_bind (wpAny_bind (yt hA x hp hd rk rv hk hz fun h' t nx x'=>wpAny_pure ?_));exact ih (s:={ s with heap:=h',toks:=t }) x' hp (r.nx nx) e fun MW t' Pl Pm=>h MW t' (nx.trans Pl) Pm) ps
theorem EF(l:List E):l.all zN=true->∃ vs:List V,l=vs.map E.lit:=
 List.rec (motive:=fun l=>l.all zN=true->∃ vs:List V,l=vs.map E.lit) (fun _=>⟨[],rfl⟩) (fun a l ih h=>aJ h fun p q=>cX (ih q) fun vs e=>
  E.lit.elim (motive_1:=fun a=>∃ vs:List V,a::l=vs.map E.lit) a (eq_of_beq p) fun v=>⟨v::vs,congrArg (E.lit v::·) e⟩) l
theorem Hq{e:aU}{H:Hp}(vs:List V):eY (mf cl) (vs.map E.lit) e H=some (vs,H):=
 List.rec (motive:=fun vs=>eY (mf cl) (vs.map E.lit) e H=some (vs,H)) rfl (fun v vs ih=>by
  show bf (eY (mf cl) (vs.map E.lit) e H) _=_;rw[ih];rfl) vs
theorem EG(X:Cx w G K mg mb n cl)(hA:dQ A n){i:Nat}{p:Addr×Addr}(f:Sem Value×Sem Value->PUnit->Sem (ForInStep PUnit))
  (hf:∀ k v,f (k,v) ⟨⟩=(do let kv <-k;let vv <-holding [kv] v;holding [kv,vv] (dictSet p.1 kv vv);pure (ForInStep.yield PUnit.unit))) {c:Ctx} {pos:Pos} {env:Env} {e:aU} {Q:PUnit->Shared->Prop} {v:V} {H':Hp} (vs:List V) :
  ∀ {ks:List (Option PySem.Expr)} {es:List PySem.Expr},lL gU (vs.map E.lit) c ks es=true->∀ {μ:Mu} {s:Shared} {H:Hp},FR G μ s.heap c env e->HR w G μ s.heap H->μ[i]?=some p->eI i vs H=some (v,H')->
   (∀ h' t,bu gm μ s.heap μ h'->HR w G μ h' H'->Q ⟨⟩ { s with heap:=h',toks:=t })->wpAny (model aX w) A (forIn (pairTrees ks es env pos) PUnit.unit f) Q bM s:=
 Ho (P:=fun vs=>∀ {ks:List (Option PySem.Expr)} {es:List PySem.Expr},lL gU (vs.map E.lit) c ks es=true->∀ {μ:Mu} {s:Shared} {H:Hp},FR G μ s.heap c env e->HR w G μ s.heap H->μ[i]?=some p->eI i vs H=some (v,H')->
   (∀ h' t,bu gm μ s.heap μ h'->HR w G μ h' H'->Q ⟨⟩ { s with heap:=h',toks:=t })->wpAny (model aX w) A (forIn (pairTrees ks es env pos) PUnit.unit f) Q bM s)
  (fun {ks es} hr {μ s H} fr x hp hd h=>Ad hr (P:=fun ks es=>wpAny (model aX w) A (forIn (pairTrees ks es env pos) PUnit.unit f) Q bM s) (by
   have q:H=H':=congrArg Prod.snd (UM hd);show wpAny _ _ (forIn [] _ _) _ _ _;rw[List.forIn_nil];exact wpAny_pure (h s.heap s.toks (bu.refl _ _ _) (q▸x))))
  (fun _ _ _ hr=>gI hr)
  (fun a b m ih {ks es} hr {μ s H} fr x hp hd h=>Ae hr (P:=fun ks es=>wpAny (model aX w) A (forIn (pairTrees ks es env pos) PUnit.unit f) Q bM s) fun k Pn y Ow h1 h2 h3=>qr hd fun kd kvs Po hk hz hd=>by
   show wpAny _ _ (forIn ((eval k env,do let x <-eval y env;standAt pos;pure x)::pairTrees Pn Ow env pos) _ _) _ _ _;rw[List.forIn_cons];refine wpAny_bind ?_;rw[hf];refine wpAny_bind (wp_mono (zY X.gn x fr h1) fun ka s₁ q1=>q1.2.elim fun t1 e1=>?_);subst e1;refine wpAny_bind (wpAny_holding (wpAny_bind (wp_mono (zY (s:={ s with toks:=t1 }) X.gn x fr h2) fun ya s₂ q2=>q2.2.elim fun t2 e2=>?_)));subst e2;refine wpAny_bind (wpAny_standAt (wpAny_pure ?_));refine wpAny_bind (wpAny_holding (yt (s:={ s with toks:=t2 }) hA.room x hp Po q1.1 q2.1 hk hz fun h' t nx x'=>wpAny_pure ?_));exact ih h3 (s:={ s with heap:=h',toks:=t }) (fr.next nx) x' hp hd fun MW t' Pl Pm=>h MW t' (nx.trans Pl) Pm) vs
theorem Cy{i:Nat}{v:V}{H':Hp}(vs:List V):∀ {H:Hp},eI i vs H=some (v,H')->.obj i=v:=
 Ho (P:=fun vs=>∀ {H:Hp},eI i vs H=some (v,H')->.obj i=v) (fun h=>congrArg Prod.fst (UM h)) (fun _ _ h=>fJ h) (fun a b m ih _ h=>qr h fun _ _ _ _ _ h=>ih h) vs
theorem Cz(X:Cx w G K mg mb n cl)(kd:Nat){kvs:List E}(ih:∀ x∈kvs,bJ w G n cl x):bJ w G n cl (.dict kd kvs):=fun c pe hr=>Jd hr fun ks es p hr=>aJ hr fun Po hr=>aJ hr fun hlen h3 env e A μ s H v H' fr hx hA he=>bq he fun vs H1 e1 e2=>by
 refine bY (EE _ h3) fun Ku hl=>bY (EB hx (UU Po)) fun n0 x0=>?_;have Pp:(μ++[(s.heap.objs.size,s.heap.objs.size)])[H.length]?=some (s.heap.objs.size,s.heap.objs.size):=hx.len▸qk;have fin:∀ {μ':Mu} {s':Shared},Mv gm (μ++[(s.heap.objs.size,s.heap.objs.size)]) { s with heap:=s.heap.push emptyDict } μ' s'->HR w G μ' s'.heap H'->EP w G μ s v H' (.ref s.heap.objs.size) s':=fun {μ' s'} m x'=>
  ⟨μ',⟨n0.trans m.n,m.g,m.o⟩,x',Cy _ e2▸.obj (p:=(s.heap.objs.size,s.heap.objs.size)) (lX m.n.pre Pp)⟩
 cases ks with
 | nil=>
  have z:es=[]:=List.eq_nil_of_length_eq_zero hl.symm;rw[z] at h3⊢;refine wpAny_Dict_empty (fin (s':={ s with heap:=s.heap.push emptyDict }) Mv.refl ?_);cases kvs with
  | nil=>
   have q1:[]=vs:=congrArg Prod.fst (UM e1);have q2:H++[.dict kd []]=H1:=congrArg Prod.snd (UM e1);rw[<-q1] at e2;have q3:H1=H':=congrArg Prod.snd (UM e2);rw[<-q3,<-q2];exact x0
  | cons a l=>cases l<;>exact gI h3
 | cons k1 Pq=>
  by_cases Ps:(k1::Pq).length<=15
  ·refine wpAny_Dict_any Ku hl (List.cons_ne_nil _ _) Ps (wp_mono (Cv _ ih h3 (s:={ s with heap:=s.heap.push emptyDict }) (fr.next n0) x0 hA e1) fun ps s₁ hp=>dj hp fun μ₁ m1 x1 r1=>?_);exact Cw (p:=(s.heap.objs.size,s.heap.objs.size)) (s:=s₁) hA.room ps x1 (lX m1.n.pre Pp) r1 e2 fun h' t nx x'=>fin (s':={ s₁ with heap:=h',toks:=t }) (m1.trans ⟨nx,rfl,rfl⟩) x'
  ·refine lK hlen (fun q=>absurd (UU q) Ps) fun q=>aJ q fun Si q=>cX (EF _ q) fun L3 Kv=>?_;rw[Kv] at h3 e1;rw[Hq] at e1;have q1:L3=vs:=congrArg Prod.fst (UM e1);have q2:H++[.dict kd []]=H1:=congrArg Prod.snd (UM e1);rw[<-q1,<-q2] at e2;have hn:=pairTrees_length (k1::Pq) es env p Ku hl;rw[arm_eval_Dict,zip_pairTrees (k1::Pq) es env p Ku hl,dictDisplay_pairs _ (fun z=>by rw[z] at hn;exact absurd hn.symm (Nat.succ_ne_zero _)) (hn▸UU Si)];refine wpAny_bind (wpAny_standAt (wpAny_bind ?_));unfold subDict;refine wpAny_bind (wpAny_alloc ?_);refine wpAny_bind (wpAny_holding ?_);rw[if_neg (hn▸Ps)];refine wpAny_bind (wpAny_rule (wpAny_bind ?_));refine EG (p:=(s.heap.objs.size,s.heap.objs.size)) X hA _ (fun k v=>rfl) L3 h3 (s:={ s with heap:=s.heap.push emptyDict }) (fr.next n0) x0 Pp e2 fun h' t nx x'=>?_;exact wpAny_pure (wpAny_pure (wpAny_pure (fin (s':={ s with heap:=h',toks:=t }) ⟨nx,rfl,rfl⟩ x')))
end
end
section
open PySem PySem.W PySem.Calls PyProof.Rows PySem.SeqAt
section
variable{w:World}{G:Heap}{μ μ₁ μ':Mu}{s s₁:Shared}{A:Around}{H:Hp}{h h' h₀:Heap}{S S':Addr->Prop}
theorem bu.done{I:Addr}(n:bu S μ h₀ μ' h)(f:h₀.get? I=none)(k:Heap.ExtBut I h h'):bu S μ h₀ μ' h':=
 ⟨n.pre,fun b e=>iU (n.live b e) fun o ho=>cK (k b o (fun q=>iU e fun _ z=>ca (q▸f) z) ho),fun b o e a c=>k b o (fun q=>ca (q▸f) e) (n.keep b o e a c),n.fresh⟩
theorem bu.forget(n:bu S μ h₀ μ' h)(f:∀ b,S b->S' b∨h₀.get? b=none):bu S' μ h₀ μ' h:=
 ⟨n.pre,n.live,fun b o e a c=>n.keep b o e a fun q=>(f b q).elim c fun z=>ca z e,n.fresh⟩
theorem bu.of_same{d:Addr}(k:Heap.SameBut d h h')(l:(h'.get? d).isSome=true)(hs:S d):bu S μ h μ h':=
 ⟨⟨[],(List.append_nil μ).symm⟩,fun b e=>by
  by_cases q:b=d
  ·exact q▸l
  ·rw[k.2 b q];exact e,fun b o e _ ns=>(k.2 b fun q=>ns (q▸hs)).trans e,fun a q=>.inl q⟩
noncomputable def kc(G:Heap)(μ:Mu)(h:Heap)(I:Addr)(x:V)(vs:List V)(i:Nat):Prop:=¬ Own μ I/\G.get? I=none/\match x with
 | .tup l=>l=vs/\∃ a items,h.IsTupleIter I a i/\h.IsTuple a items/\¬ Own μ a/\dh G μ h vs items.toList
 | .obj n=>∃ a,μ[n]?=some (a,a)/\h.IsListIter I a i
 | _=>False
theorem kc.obj{I:Addr}{x:V}{vs:List V}{i:Nat}(t:kc G μ h I x vs i):∃ o,h.get? I=some o/\o.cls≠.type "tuple":=by
 have t:=t.2.2;cases x with
 | tup l=>exact xQ t.2 fun a items it _=>dj it fun o ho hc _=>⟨o,ho,fun q=>ye (by decide) (hc.symm.trans q)⟩
 | obj n=>exact aM t fun a _ it=>dj it fun o ho hc _=>⟨o,ho,fun q=>ye (by decide) (hc.symm.trans q)⟩
 | _=>exact t.elim
theorem kc.jN{I:Addr}{x:V}{vs:List V}{i:Nat}(t:kc G μ h I x vs i)(items:Array Value)(ht:h.IsTuple I items):False:=
 aM t.obj fun o ho hc=>dj ht fun o' rI MX _=>hc (UM (rI.symm.trans ho)▸MX)
theorem kc.next{I:Addr}{x:V}{vs:List V}{i:Nat}(t:kc G μ h I x vs i)(n:bu S μ h μ' h')(hI:¬ S I)(hS:∀ b items,S b->¬ h.IsTuple b items):kc G μ' h' I x vs i:=by
 have kI:∀ o,h.get? I=some o->h'.get? I=some o:=fun o ho=>n.keep I o ho t.1 hI;refine ⟨fun q=>(n.fresh I q).elim t.1 fun z=>aM t.obj fun o ho _=>ca z ho,t.2.1,?_⟩;have t:=t.2.2;cases x with
 | tup l=>exact bY t fun e t=>fH t fun a items it ht hn hv=>⟨e,a,items,aM it fun o ho r=>⟨o,kI o ho,r⟩,bQ ht fun o e=>n.keep _ o e hn fun q=>hS _ _ q ht,fun q=>(n.fresh a q).elim hn fun z=>aM ht fun o ho _=>ca z ho,hv.next n hS⟩
 | obj k=>exact aM t fun a hp it=>⟨a,lX n.pre hp,aM it fun o ho r=>⟨o,kI o ho,r⟩⟩
 | _=>exact t.elim
theorem HR.Hr{I:Addr}(x:HR w G μ h H)(k:Heap.ExtBut I h h')(h1:¬ Own μ I)(h2:G.get? I=none)(h3:∀ items,¬ h.IsTuple I items):HR w G μ h' H:=
 x.Ke (S:=fun b=>b=I) (fun b o e q=>k b o q e) fun b q=>q▸⟨h1,h2,h3⟩
theorem Bs(x:HR w G μ s.heap H){v:V}{mv:Value}(r:VR G μ s.heap v mv){vs:List V}(e:dR v H=some vs){Q:Value->Shared->Prop}
  (h:∀ I s',Mv gm μ s μ s'->HR w G μ s'.heap H->s.heap.get? I=none->kc G μ s'.heap I v vs 0->Q (.ref I) s') :
  wpAny (model aX w) A (pyIter mv) Q bM s:=by
 have g0:=x.jO (b7 _);have n0:=x.dB (b7 _);cases v with
 | tup l=>
   refine fH r.inv fun a items q ht hn hl=>?_;rw[UM e] at hl h;rw[q];have nx:bu gm μ s.heap μ (s.heap.push { cls:=.type "tuple_iterator",data:=.fields #[.ref a,.int 0 0] }):=bu.of_keeps (bK _);exact wpAny_pyIter_tuple ht (h _ _ ⟨nx,rfl,rfl⟩ (x.push _) (b7 _) ⟨n0,g0,rfl,a,items,⟨_,Heap.get?_push_size _ rfl,rfl,rfl⟩,bQ ht (bK _ _),hn,hl.nx nx⟩)
 | obj n=>exact cQ x r e (P:=fun mv=>wpAny (model aX w) A (pyIter mv) Q bM s) fun a items hp p rl=>
   wpAny_pyIter_list p.isList (h _ _ ⟨bu.of_keeps (bK _),rfl,rfl⟩ (x.push _) (b7 _) ⟨n0,g0,a,hp,⟨_,Heap.get?_push_size _ rfl,rfl,rfl⟩⟩)
 | _=>exact fJ e
theorem yu{n i:Nat}{vs:List V}{I:Addr}(x:HR w G μ s.heap H)(t:kc G μ s.heap I (.obj n) vs i)(hs:cV (.obj n) vs H=true):∃ a items,μ[n]?=some (a,a)/\s.heap.IsListIter I a i/\s.heap.IsList a items/\dh G μ s.heap vs items.toList:=
 aM t.2.2 fun a hp uF=>cU hs fun m hm q=>cQ x (.obj hp) hm (P:=fun mo=>mo=.ref a->∃ a items,μ[n]?=some (a,a)/\s.heap.IsListIter I a i/\s.heap.IsList a items/\dh G μ s.heap vs items.toList) (fun b items hp' p rl e=>
  ⟨a,items,hp,uF,Value.ref.inj e▸p.isList,UU q▸rl⟩) rfl
theorem yw(x:HR w G μ s.heap H){I:Addr}{v:V}{vs:List V}{i:Nat}{y:V}(t:kc G μ s.heap I v vs i)(hs:cV v vs H=true)(hy:vs[i]?=some y){Q:Option Value->Shared->Prop}{E:Value->Shared->Prop}
  (h:∀ mv h',VR G μ h' y mv->bu (fun b=>b=I) μ s.heap μ h'->HR w G μ h' H->kc G μ h' I v vs (i+1)->Q (some mv) { s with heap:=h' }) :
  wpAny (model aX w) A (pyNext (.ref I)) Q E s:=by
 have t0:=t.jN;have hS:∀ b items,b=I->¬ s.heap.IsTuple b items:=fun b items q=>q▸t0 items;have t1:=t.1;have t2:=t.2.1;have nx:∀ {h':Heap},Heap.SameBut I s.heap h'->(∃ o,h'.get? I=some o)->bu (fun b=>b=I) μ s.heap μ h':=fun hs z=>bu.of_same hs (z.elim fun _ ho=>cK ho) rfl;cases v with
 | tup l=>
   refine bY t.2.2 fun e t=>fH t fun a items uF ht hn hv=>aM (hv.get hy) fun mv hm r=>wpAny_pyNext_tuple_item uF ht (x:=mv) (Array.getElem?_toList▸hm) fun h' yx mU=>?_;have n:=nx mU (aM yx fun o ho _=>⟨o,ho⟩);exact h mv h' (r.next n hS) n (x.Hr mU.extBut t1 t2 t0) ⟨t1,t2,e,a,items,yx,ht.extBut mU.extBut (fun q=>t0 items (q▸ht)),hn,hv.next n hS⟩
 | obj n=>
   refine fH (yu x t hs) fun a items hp uF hl hv=>aM (hv.get hy) fun mv hm r=>wpAny_pyNext_list_item uF hl (x:=mv) (Array.getElem?_toList▸hm) fun h' yx mU=>?_;have n:=nx mU (aM yx fun o ho _=>⟨o,ho⟩);exact h mv h' (r.next n hS) n (x.Hr mU.extBut t1 t2 t0) ⟨t1,t2,a,hp,yx⟩
 | _=>exact t.2.2.elim
theorem Bt{l:List V}{items:Array Value}{i:Nat}{h:Heap}(r:dh G μ h l items.toList)(e:l[i]?=none):items[i]?=none:=Array.getElem?_eq_none (Array.length_toList▸r.length▸List.getElem?_eq_none_iff.mp e)
theorem yy(hA:A.handled=none)(x:HR w G μ s.heap H){I:Addr}{v:V}{vs:List V}{i:Nat}(t:kc G μ s.heap I v vs i)(hs:cV v vs H=true)(hy:vs[i]?=none){Q:Option Value->Shared->Prop}{E:Value->Shared->Prop}
  (h:∀ h',Heap.ExtBut I s.heap h'->HR w G μ h' H->Q none { s with heap:=h' }) :
  wpAny (model aX w) A (pyNext (.ref I)) Q E s:=by
 have k:∀ h',Heap.ExtBut I s.heap h'->Q none { s with heap:=h' }:=fun h' mU=>h h' mU (x.Hr mU t.1 t.2.1 t.jN);cases v with
 | tup l=>exact fH t.2.2.2 fun a items uF ht hn hv=>wpAny_pyNext_tuple_end hA uF ht (Bt hv hy) k
 | obj n=>exact fH (yu x t hs) fun a items hp uF hl hv=>wpAny_pyNext_list_end hA uF hl (Bt hv hy) k
 | _=>exact t.2.2.elim
end
end
section
open PySem PySem.W PySem.Calls PyProof.Rows PySem.SeqAt
section
variable{w:World}{G:Heap}{n:Nat}{cl:Nat->List V->Hp->Option (V×Hp)}{K:Frag}{mg mb:Str->Option Value}{μ μ₁ μ':Mu}{s s₁:Shared}{A:Around}{H:Hp}{h h' h₀:Heap}{S S':Addr->Prop}
 {c:Ctx} {env:Env} {e:aU}
theorem set_inv{e:aU}{i k:Nat}{o:Option V}{v':V}(he:(e.set i o)[k]?=some (some v')){G:Prop}(f:k=i->o=some v'->G)(g:k≠i->e[k]?=some (some v')->G):G:=by
 by_cases q:i=k
 ·by_cases hl:i<e.length
  ·rw[<-q,List.getElem?_set_self hl] at he;exact f q.symm (UM he)
  ·rw[List.getElem?_eq_none (by rw[List.length_set,<-q];exact Nat.not_lt.mp hl)] at he;exact fJ he
 ·exact g (Ne.symm q) ((List.getElem?_set_ne q).symm.trans he)
theorem tQ{c:Ctx}(hn:c.slots.Nodup){i k:Nat}{x:Str}(h1:c.slots[i]?=some x)(h2:c.slots[k]?=some x):i=k:=
 (List.getElem?_inj (UW h1).1 hn).mp (h1.trans h2.symm)
theorem FR.tR(f:FR G μ h c env e)(items:Array Value)(ht:h.IsTuple env.locals items):False:=
 aM f.ns fun m z _=>uB z fun o' es ep rI r=>dj ht fun o ho hc q=>q.elim fun ep hd=>by
  have e:=UM (rI.symm.trans ho);rw[<-e,r.1] at hd;exact Data.noConfusion hd
theorem rz{a:Addr}{mv:Option Value}(g:h.IsCell a mv)(items:Array Value)(ht:h.IsTuple a items):False:=
 aM g fun o' rI DM=>dj ht fun o ho hc q=>q.elim fun ep hd=>by
  have e:=UM (rI.symm.trans ho);rw[<-e,DM] at hd;exact Data.noConfusion hd
theorem yz(f:FR G μ h c env e)(hx:∀ (x:Str) (a:Addr),env.cells.lookup x=some a->(∃ i:Nat,c.slots[i]?=some x/\ct c.scope x=some .cell))(b:Addr)(items:Array Value)(q:SF env b):¬ h.IsTuple b items:=
 q.elim (fun q=>q▸f.tR items) fun q=>cX q fun x zD=>aM (hx x b zD) fun i h1 h2=>fG (f.cell i x h1 h2) fun a mv g1 g2 _=>UM (g1.symm.trans zD)▸rz g2 items
theorem fP(f:FR G μ s.heap c env e)(x:HR w G μ s.heap H){i:Nat}{y:Str}{v:V}{mv:Value}(hs:fM c i y=true)(r:VR G μ s.heap v mv){Q:Unit->Shared->Prop}{E:Value->Shared->Prop}
  (h:∀ h' t d,(d=env.locals∨(ct c.scope y=some .cell/\env.cells.lookup y=some d))->bu (fun b=>b=d) μ s.heap μ h'->HR w G μ h' H->FR G μ h' c env (e.set i (some v))->(∀ items,¬ s.heap.IsTuple d items)->Q () { s with heap:=h',toks:=t }) :
  wpAny (model aX w) A (storeName env y mv) Q E s:=by
 have h1:=(iA hs).1;have hlen:(e.set i (some v)).length=c.slots.length:=List.length_set.trans f.len;refine (iA hs).2.elim (fun h2=>?_) fun h2=>?_
 ·refine aM f.ns fun m hm hr=>?_;have hT:=f.tR;refine wpAny_storeName_local ((f.kindOf y).trans h2) hm (fun h' zU mU=>?_) (by rw[f.kind];rfl);have nx:bu (fun b=>b=env.locals) μ s.heap μ h':=bu.of_same mU (uB zU fun o _ _ ho _=>cK ho) rfl;have kv:∀ {v mv},VR G μ s.heap v mv->VR G μ h' v mv:=fun r=>r.next nx fun b items q=>q▸hT items;refine h h' _ env.locals (.inl rfl) nx (x.Hr mU.extBut f.own.1 f.own.2 hT) ⟨f.kind,f.scope,f.u7,f.glob,f.blt,hlen,f.nodup,⟨_,zU,fun k z v' a1 a2 a3=>set_inv a3 (fun q q'=>?_) fun q a3=>?_⟩,fun k z a1 a2=>?_,f.own,fun z a a1=>lI (f.qo z a a1) fun p q r' l=>⟨p,q,r',nx.live a l⟩,f.apart⟩ hT
  ·rw[q,h1] at a1;exact ⟨mv,by rw[<-UM a1];simp,UM q'▸kv r⟩
  ·have hz:z≠y:=fun w=>q (tQ f.nodup a1 (w▸h1));exact aM (hr k z v' a1 a2 a3) fun zW b1 b2=>⟨zW,by simpa [hz] using b1,kv b2⟩
  ·refine fG (f.cell k z a1 a2) fun a zW g1 g2 g3=>aM g2 fun o ho hd=>⟨a,zW,g1,⟨o,(mU.2 a (f.qo z a g1).2.2.1).trans ho,hd⟩,fun v' a3=>set_inv a3 (fun q _=>?_) fun _ a3=>aM (g3 v' a3) fun Kw p q=>⟨Kw,p,kv q⟩⟩;rw[q,h1] at a1;rw[<-UM a1,h2] at a2;exact NameKind.noConfusion (UM a2)
 ·refine fG (f.cell i y h1 h2) fun a mv0 g1 g2 g3=>?_;have hT:=rz g2;refine wpAny_storeName_cell f.kind ((f.kindOf y).trans h2) g1 g2 fun h' zU mU=>?_;have nx:bu (fun b=>b=a) μ s.heap μ h':=bu.of_same mU (aM zU fun o ho _=>cK ho) rfl;have kv:∀ {v mv},VR G μ s.heap v mv->VR G μ h' v mv:=fun r=>r.next nx fun b items q=>q▸hT items;have p:=f.qo y a g1;refine h h' s.toks a (.inr ⟨h2,g1⟩) nx (x.Hr mU.extBut p.1 p.2.1 hT) ⟨f.kind,f.scope,f.u7,f.glob,f.blt,hlen,f.nodup,aM f.ns fun m hm hr=>⟨m,hm.extBut mU.extBut (Ne.symm p.2.2.1),fun k z v' a1 a2 a3=>set_inv a3 (fun q _=>?_) fun _ a3=>aM (hr k z v' a1 a2 a3) fun zW b1 b2=>⟨zW,b1,kv b2⟩⟩,
   fun k z a1 a2=>?_,f.own,fun z b a1=>lI (f.qo z b a1) fun p q r' l=>⟨p,q,r',nx.live b l⟩,f.apart⟩ hT
  ·rw[q,h1] at a1;rw[<-UM a1,h2] at a2;exact NameKind.noConfusion (UM a2)
  ·by_cases hz:z=y
   ·refine ⟨a,some mv,hz▸g1,zU,fun v' a3=>set_inv a3 (fun _ q=>⟨mv,rfl,UM q▸kv r⟩) fun q _=>absurd (tQ f.nodup a1 (hz▸h1)) q⟩
   ·refine fG (f.cell k z a1 a2) fun b zW q1 g2 q3=>aM g2 fun o ho hd=>⟨b,zW,q1,⟨o,(mU.2 b fun q=>hz (f.apart z y a (q▸q1) g1)).trans ho,hd⟩,fun v' a3=>set_inv a3 (fun q _=>absurd (UM (a1.symm.trans (q▸h1))) hz) fun _ a3=>aM (q3 v' a3) fun Kw p q=>⟨Kw,p,kv q⟩⟩
noncomputable abbrev pH(env:Env)(c:PySem.Expr)(r:Bool):Sem (ForInStep Bool):=if r=true then do let ok <-isTrue c env (eval c env);pure (ForInStep.yield ok) else pure (ForInStep.yield r)
theorem Af{l:List PySem.Expr}{Q:Bool->Shared->Prop}(q:Q false s):wpAny (model aX w) A (forIn l false (pH env)) Q bM s:=
 List.rec (motive:=fun l=>wpAny (model aX w) A (forIn l false (pH env)) Q bM s) (wpAny_pure q) (fun p l ih=>by
  rw[List.forIn_cons];refine wpAny_bind ?_;unfold pH;rw[if_neg Bool.false_ne_true];exact wpAny_pure ih) l
theorem CA(conds:List E):(∀ x∈conds,iV w G n cl x)->∀ {ifs:List PySem.Expr} {e:aU} {μ:Mu} {s:Shared} {H:Hp} {b:Bool} {H':Hp},gr gU conds c ifs=true->FR G μ s.heap c env e->HR w G μ s.heap H->dQ A n->
  zK (mf cl) conds e H=some (b,H')->wpAny (model aX w) A (forIn ifs true (pH env)) (TP w G μ s b H') bM s:=
 List.rec (motive:=fun conds=>(∀ x∈conds,iV w G n cl x)->∀ {ifs:List PySem.Expr} {e:aU} {μ:Mu} {s:Shared} {H:Hp} {b:Bool} {H':Hp},gr gU conds c ifs=true->FR G μ s.heap c env e->HR w G μ s.heap H->dQ A n->
  zK (mf cl) conds e H=some (b,H')->wpAny (model aX w) A (forIn ifs true (pH env)) (TP w G μ s b H') bM s)
  (fun _ {ifs e μ s H b H'} hr f hx hA he=>eN hr (P:=fun ifs=>wpAny (model aX w) A (forIn ifs true (pH env)) (TP w G μ s b H') bM s) (eD (P:=fun b H'=>wpAny (model aX w) A (forIn [] true (pH env)) (TP w G μ s b H') bM s) he (wpAny_pure ⟨rfl,μ,Mv.refl,hx⟩)))
  (fun a l ih hs {ifs e μ s H b H'} hr f hx hA he=>eC hr (P:=fun ifs=>wpAny (model aX w) A (forIn ifs true (pH env)) (TP w G μ s b H') bM s) fun pe rest hr=>aJ hr fun h1 hr=>aJ hr fun _ h3=>bq he fun y H1 e1 he=>bc he fun bo ht he=>by
   rw[List.forIn_cons];refine wpAny_bind ?_;unfold pH;rw[if_pos rfl];refine wpAny_bind (yp (hs a (.head _)) h1 f hx hA e1 ht fun μ₁ s₁ m1 x1 f1=>wpAny_pure ?_);cases bo with
   | true=>exact tO m1 (ih (fun z hz=>hs z (.tail _ hz)) h3 f1 x1 hA he)
   | false=>
    have q1:false=b:=congrArg Prod.fst (UM he);have q2:H1=H':=congrArg Prod.snd (UM he);exact Af ⟨q1,μ₁,m1,q2▸x1⟩) conds
end
end
section
open PySem PySem.W PySem.Calls PyProof.Rows PySem.SeqAt
noncomputable def hM(env:Env):List (Str×NameKind)->List (Str×Addr)->List (Str×Addr)
 | [],acc=>acc
 | x::r,acc=>if x.2==.free then (env.cells.lookup x.1).elim (hM env r acc) fun a=>hM env r ((x.1,a)::acc) else hM env r acc
theorem we{scope:Scope}{env:Env}(h:∀ x∈scope.names,x.2=.free->∃ a,env.cells.lookup x.1=some a):closureFor scope env=pure (hM env scope.names []):=by
 unfold closureFor;have step:∀ (l:List (Str×NameKind)),(∀ x∈l,x.2=NameKind.free->∃ a,env.cells.lookup x.1=some a)->∀ acc:List (Str×Addr),
   (forIn l acc fun (x:Str×NameKind) (r:List (Str×Addr))=>(match x with
    | (name,kind)=>if kind==.free then (do let a <-cellOf env name;pure (ForInStep.yield ((name,a)::r))) else pure (ForInStep.yield r):Sem (ForInStep (List (Str×Addr)))))=pure (hM env l acc):=
  List.rec (fun _ _=>rfl) fun x l ih hl acc=>by
   have ih:=ih fun x hx=>hl x (.tail _ hx);obtain ⟨nm,k⟩:=x;rw[List.forIn_cons]
   by_cases hk:k=.free
   ·refine cX (hl (nm,k) (.head _) hk) fun a ha=>?_;have ha:env.cells.lookup nm=some a:=ha;have hb:(k==NameKind.free)=true:=beq_iff_eq.mpr hk;have hc:cellOf env nm=pure a:=by unfold cellOf;rw[ha]
    show ((if (k==NameKind.free)=true then (do let a <-cellOf env nm;pure (ForInStep.yield ((nm,a)::acc))) else pure (ForInStep.yield acc)) >>= _)=pure (if (k==NameKind.free)=true then (env.cells.lookup nm).elim (hM env l acc) fun a=>hM env l ((nm,a)::acc) else hM env l acc);rw[if_pos hb,hc,pure_bind,pure_bind,if_pos hb,ha];exact ih _
   ·have hb:¬ (k==NameKind.free)=true:=fun z=>hk (eq_of_beq z);show ((if (k==NameKind.free)=true then (do let a <-cellOf env nm;pure (ForInStep.yield ((nm,a)::acc))) else pure (ForInStep.yield acc)) >>= _)=pure (if (k==NameKind.free)=true then (env.cells.lookup nm).elim (hM env l acc) fun a=>hM env l ((nm,a)::acc) else hM env l acc);rw[if_neg hb,pure_bind,if_neg hb];exact ih _
 have h2:=step scope.names h []
 first
  | exact h2
  | (rw[show (do
    let mut cs:=[]
    for (name,kind) in scope.names do
     if kind==.free then cs:=(name,<-cellOf env name)::cs
    return cs:Sem (List (Str×Addr)))=(forIn scope.names [] _ >>= fun r=>pure r) from rfl,h2];rfl)
  | (refine Eq.trans (congrArg (fun z=>z >>= fun r=>pure r) h2) ?_;rfl)
theorem wh{β:Type}{l:List (Str×β)}{n:Str}{b:β}:((n,b)::l).lookup n=some b:=by rw[List.lookup_cons,beq_self_eq_true]
theorem wj{β:Type}{l:List (Str×β)}{n x:Str}{b:β}(q:x≠n):((n,b)::l).lookup x=l.lookup x:=by rw[List.lookup_cons,beq_false_of_ne q]
theorem gE{β:Type}{l:List (Str×β)}{n x:Str}{b:β}{r:Option β}{P:Option β->Prop}(e:((n,b)::l).lookup x=r)(k1:x=n->P (some b))(k2:x≠n->P (l.lookup x)):P r:=by
 by_cases q:x=n
 ·rw[<-e,q,wh];exact k1 q
 ·rw[<-e,wj q];exact k2 q
theorem u9{env:Env}{x:Str}{a:Addr}(l:List (Str×NameKind)):∀ {acc:List (Str×Addr)},(∀ y b,acc.lookup y=some b->env.cells.lookup y=some b)->(hM env l acc).lookup x=some a->env.cells.lookup x=some a:=
 List.rec (motive:=fun l=>∀ {acc:List (Str×Addr)},(∀ y b,acc.lookup y=some b->env.cells.lookup y=some b)->(hM env l acc).lookup x=some a->env.cells.lookup x=some a) (fun ha h=>ha x a h) (fun z r ih acc ha h=>by
  have h:(if z.2==.free then (env.cells.lookup z.1).elim (hM env r acc) fun a=>hM env r ((z.1,a)::acc) else hM env r acc).lookup x=some a:=h
  by_cases q:(z.2==.free)=true
  ·rw[if_pos q] at h;cases hb:env.cells.lookup z.1 with
   | none=>rw[hb] at h;exact ih ha h
   | some b=>rw[hb] at h;exact ih (fun y b' hy=>gE hy (P:=fun o=>o=some b'->env.cells.lookup y=some b') (fun e o=>by rw[e,hb];exact o) (fun _=>ha y b') rfl) h
  ·rw[if_neg q] at h;exact ih ha h) l
theorem EH{env:Env}{x:Str}(l:List (Str×NameKind)):∀ {acc:List (Str×Addr)},((acc.lookup x).isSome=true∨((x,NameKind.free)∈l/\(env.cells.lookup x).isSome=true))->((hM env l acc).lookup x).isSome=true:=
 List.rec (motive:=fun l=>∀ {acc:List (Str×Addr)},((acc.lookup x).isSome=true∨((x,NameKind.free)∈l/\(env.cells.lookup x).isSome=true))->((hM env l acc).lookup x).isSome=true) (fun {acc} h=>h.elim id fun h=>absurd h.1 List.not_mem_nil) (fun z r ih acc h=>by
  show ((if z.2==.free then (env.cells.lookup z.1).elim (hM env r acc) fun a=>hM env r ((z.1,a)::acc) else hM env r acc).lookup x).isSome=true;have on:∀ {b:Addr},(acc.lookup x).isSome=true->(((z.1,b)::acc).lookup x).isSome=true:=fun q=>gE rfl (P:=fun o=>o.isSome=true) (fun _=>rfl) fun _=>q
  by_cases q:(z.2==.free)=true
  ·rw[if_pos q];cases hb:env.cells.lookup z.1 with
   | none=>exact ih (h.imp id fun h=>⟨(UO h.1).elim (fun e=>by rw[<-e] at hb;exact iU h.2 fun _ w=>ca hb w) id,h.2⟩)
   | some b=>exact ih (h.elim (fun h=>.inl (on h)) fun h=>(UO h.1).elim (fun e=>.inl (gE rfl (P:=fun o=>o.isSome=true) (fun _=>rfl) fun w=>absurd (congrArg Prod.fst e) w)) fun m=>.inr ⟨m,h.2⟩)
  ·rw[if_neg q];exact ih (h.imp id fun h=>⟨(UO h.1).elim (fun e=>absurd (by rw[<-e];rfl) q) id,h.2⟩)) l
theorem lookup_mem{l:List (Str×NameKind)}{x:Str}{k:NameKind}(h:l.lookup x=some k):(x,k)∈l:=mem_of_lookup h
theorem rK{P:Str->NameKind->Bool}(x:Str)(l:List (Str×NameKind)):(l.map fun (n,k)=>if P n k then (n,NameKind.cell) else (n,k)).lookup x=(l.lookup x).map fun k=>if P x k then NameKind.cell else k:=
 List.rec (motive:=fun l=>(l.map fun (n,k)=>if P n k then (n,NameKind.cell) else (n,k)).lookup x=(l.lookup x).map fun k=>if P x k then NameKind.cell else k) rfl (fun z r ih=>by
  obtain ⟨n,k⟩:=z;have e:(if P n k=true then (n,NameKind.cell) else (n,k))=(n,if P n k=true then NameKind.cell else k):=by cases P n k<;>rfl
  show ((if P n k=true then (n,NameKind.cell) else (n,k))::List.map _ r).lookup x=_;rw[e]
  by_cases q:x=n
  ·rw[q,wh,wh];rfl
  ·rw[wj q,wj q,ih]) l
section
variable{w:World}{G:Heap}{n:Nat}{cl:Nat->List V->Hp->Option (V×Hp)}{K:Frag}{mg mb:Str->Option Value}{μ μ₁ μ':Mu}{s s₁:Shared}{A:Around}{H:Hp}{h h' h₀:Heap}{S S':Addr->Prop}
 {c:Ctx} {env:Env} {e:aU}
structure wk(c:Ctx)(sc:Scope)(x:Str)(j:Nat):Prop where
 slot:c.slots[j]?=some x
 loc:ct sc x=some .local
 kind:sc.kind=.function
 names:∀ y k,(y,k)∈sc.names->k≠.cell/\(k=.local->y=x∨y=(".0":Str))
 free:∀ y,(y,NameKind.free)∈sc.names->ct c.scope y=some .cell/\∃ i:Nat,c.slots[i]?=some y
 nodup:(sc.names.map (·.1)).Nodup
 dot:∀ i:Nat,c.slots[i]?≠some (".0":Str)
theorem EI(f:FR G μ h c env e)(sc:Scope):(relabel sc env).names=(gB sc c.scope).names:=by
 show List.map _ sc.names=List.map _ sc.names;apply List.map_congr_left
 rintro ⟨n,k⟩ _
 show (if (k==NameKind.free&&env.scope.kind==ScopeKind.function&&env.kindOf n==some NameKind.cell)=true then (n,NameKind.cell) else (n,k))=(if (k==NameKind.free&&c.scope.kind==ScopeKind.function&&ct c.scope n==some NameKind.cell)=true then (n,NameKind.cell) else (n,k));rw[f.kindOf n,f.kind,f.u7]
theorem yA(c:Ctx)(sc:Scope)(y:Str):ct (gB sc c.scope) y=(ct sc y).map fun k=>if (k==NameKind.free&&c.scope.kind==ScopeKind.function&&ct c.scope y==some NameKind.cell) then NameKind.cell else k:=by
 unfold ct gB;exact rK (P:=fun n k=>k==NameKind.free&&c.scope.kind==ScopeKind.function&&c.scope.names.lookup n==some NameKind.cell) y sc.names
theorem Ag{sc:Scope}{x:Str}{j:Nat}(f:FR G μ h c env e)(C:wk c sc x j){L:Addr}{m:Str->Option Value}(hn:h.Ns L m)(ho:¬ Own μ L)(hg:G.get? L=none)(hc:∀ y a,env.cells.lookup y=some a->a≠L)
  {qual:Str}:FR G μ h ⟨c.slots,gB sc c.scope⟩ (compEnvC sc (hM env sc.names []) L env) (e.set j none):=by
 have EJ:∀ {y a},(hM env sc.names []).lookup y=some a->env.cells.lookup y=some a:=fun {y a} q=>u9 (acc:=[]) _ (fun _ _ z=>fJ z) q;have kind:∀ {y:Str} {k:NameKind},ct (gB sc c.scope) y=some k->∃ k',(y,k')∈sc.names/\(k'=.free/\ct c.scope y=some .cell/\k=.cell∨k'=k):=fun {y k} a2=>by
  rw[yA] at a2;refine aM (Option.map_eq_some_iff.mp a2) fun k' hk Hs=>⟨k',lookup_mem hk,?_⟩
  by_cases q:(k'==NameKind.free&&c.scope.kind==ScopeKind.function&&ct c.scope y==some NameKind.cell)=true
  ·rw[if_pos q] at Hs;exact aJ q fun q q3=>aJ q fun q1 _=>.inl ⟨eq_of_beq q1,eq_of_beq q3,Hs.symm⟩
  ·rw[if_neg q] at Hs;exact .inr Hs
 refine ⟨by show (relabel sc env).kind=_;exact C.kind,EI f sc,C.kind,f.glob,f.blt,List.length_set.trans f.len,f.nodup,⟨m,hn,fun i y v a1 a2 a3=>?_⟩,fun i y a1 a2=>?_,⟨ho,hg⟩,fun y a q=>lI (f.qo y a (EJ q)) fun p q' r l=>⟨p,q',hc y a (EJ q),l⟩,fun y z a q r=>f.apart y z a (EJ q) (EJ r)⟩
 ·refine aM (kind a2) fun k' hm hk=>hk.elim (fun z=>NameKind.noConfusion z.2.2) fun z=>((C.names y k' hm).2 z).elim (fun q=>?_) fun q=>?_
  ·exact set_inv a3 (fun _ w=>fJ w) fun w _=>absurd (tQ f.nodup a1 (q▸C.slot)) w
  ·exact absurd (q▸a1) (C.dot i)
 ·refine aM (kind a2) fun k' hm hk=>hk.elim (fun z=>?_) fun z=>absurd z (C.names y k' hm).1;refine fG (f.cell i y a1 z.2.1) fun a mv g1 g2 g3=>iU (EH (env:=env) (acc:=[]) sc.names (.inr ⟨z.1▸hm,cK g1⟩)) fun a' QJ=>?_;have q:a'=a:=UM ((EJ QJ).symm.trans g1);refine ⟨a',mv,QJ,q▸g2,fun v a3=>set_inv a3 (fun _ w=>fJ w) fun _ a3=>g3 v a3⟩
theorem CB{x:Str}{j:Nat}{sc:Scope}(h:Jg c sc x j=true):wk c sc x j:=
 aJ h fun h1 h=>aJ h fun h2 h=>aJ h fun h3 h=>aJ h fun h4 h=>aJ h fun h5 h=>aJ h fun h6 h7=>
  ⟨eq_of_beq h1,eq_of_beq h2,eq_of_beq h3,fun y k hy=>aJ (List.all_eq_true.mp h4 _ hy) fun p q=>⟨bne_iff_ne.mp p,fun hk=>lK q (fun q=>lK q (fun q=>absurd hk (bne_iff_ne.mp q)) fun q=>.inl (eq_of_beq q)) fun q=>.inr (eq_of_beq q)⟩,
   fun y hy=>lK (List.all_eq_true.mp h5 _ hy) (fun q=>absurd rfl (bne_iff_ne.mp q)) fun q=>aJ q fun p q=>⟨eq_of_beq p,List.mem_iff_getElem?.mp (List.contains_iff_mem.mp q)⟩,UU h6,
   fun i hi=>eZ h7 fun z=>gI (z.symm.trans (List.contains_iff_mem.mpr (List.mem_of_getElem? hi)))⟩
end
end
section
open PySem PySem.W PySem.Calls PyProof.Rows PySem.SeqAt
section
variable{w:World}{G:Heap}{n:Nat}{cl:Nat->List V->Hp->Option (V×Hp)}{K:Frag}{mg mb:Str->Option Value}{μ μ₁ μ':Mu}{s s₁:Shared}{A:Around}{H:Hp}{h h' h₀:Heap}{S S':Addr->Prop}
 {c:Ctx} {env:Env} {e:aU}
noncomputable abbrev Jk(cl:Nat->List V->Hp->Option (V×Hp))(elt:E)(j:Nat)(conds:List E)(e:aU):V->Hp->Option (Option V×Hp):=fun v h=>bf (zK (mf cl) conds (e.set j (some v)) h) fun b h=>cond b (bf (ba (mf cl) elt (e.set j (some v)) h) fun y h=>some (some y,h)) (some (none,h))
noncomputable def Ah(w:World)(G:Heap)(cl:Nat->List V->Hp->Option (V×Hp))(c':Ctx)(lF:Env)(e:aU)(elt:E)(j:Nat)(conds:List E)(N:Nat)(I D:Addr)(x:V)(vs:List V)(Hf:Hp)(μ₀:Mu)(s₀:Shared)(i:Nat)(s:Shared):Prop:=
 i<=vs.length/\∃ μ H,Mv (fun b=>b=I∨b=lF.locals) μ₀ s₀ μ s/\HR w G μ s.heap H/\kc G μ s.heap I x vs i/\FR G μ s.heap c' lF (e.set j none)/\μ[N]?=some (D,D)/\
  cV x vs H=true/\iW N (cV x vs) (Jk cl elt j conds e) (vs.drop i) H=some ((),Hf)
theorem FR.unset{j:Nat}{v:Option V}(f:FR G μ h c env (e.set j v)):FR G μ h c env (e.set j none):=by
 have key:∀ {i:Nat} {u:V},(e.set j none)[i]?=some (some u)->(e.set j v)[i]?=some (some u):=fun {i u} q=>set_inv q (fun _ w=>fJ w) fun z q=>(List.getElem?_set_ne (Ne.symm z)).trans q;exact aM f.ns fun m hm hr=>⟨f.kind,f.scope,f.u7,f.glob,f.blt,List.length_set.trans (List.length_set.symm.trans f.len),f.nodup,⟨m,hm,fun i x u a b q=>hr i x u a b (key q)⟩,fun i x a b=>fG (f.cell i x a b) fun a mv g1 g2 g3=>⟨a,mv,g1,g2,fun u q=>g3 u (key q)⟩,f.own,f.qo,f.apart⟩
theorem Bu{vs:List V}{i:Nat}(h:i<vs.length):vs.drop i=vs[i]::vs.drop (i+1):=List.drop_eq_getElem_cons h
theorem yB{n i:Nat}(h:i<n):n - (i+1)<n - i:=Nat.sub_lt_sub_left h (Nat.lt_succ_self i)
theorem CC{elt:E}{conds:List E}{j N:Nat}{x:Str}{px pos:Pos}{oB jy:PySem.Expr}{ifs:List PySem.Expr}{sc:Scope}{xv:V}{vs:List V}{I D:Addr}{lF:Env}{c':Ctx}{Hf:Hp}{μ₀:Mu}{s₀:Shared}{R:Result->Shared->Prop}
  (EK:bJ w G n cl elt) (tS:∀ y∈conds,iV w G n cl y) (hA:dQ A n) (r1:bP gU elt c' jy=true) (r2:gr gU conds c' ifs=true) (Sj:fM c' j x=true) (Sk:ct c'.scope x=some .local)
  (hI:s₀.heap.get? I=none) (Pt:I≠lF.locals) (Ox:∀ y a,lF.cells.lookup y=some a->a≠I)
  (fin:∀ μ' s',Mv (fun b=>b=lF.locals) μ₀ s₀ μ' s'->HR w G μ' s'.heap Hf->μ'[N]?=some (D,D)->(¬ Own μ' lF.locals/\G.get? lF.locals=none)->(∃ m,s'.heap.Ns lF.locals m)->R (.ok .next) s')
  (h0:Ah w G cl c' lF e elt j conds N I D xv vs Hf μ₀ s₀ 0 s) :
  codeAny (model aX w) A (.compLoop (.ListComp jy [⟨.Name x px,oB,ifs,0⟩] sc pos) 0 (.ref I) (.ref D) lF) R s:=by
 refine codeAny_compLoop_tests (fun k s'=>∃ i,k=vs.length - i/\Ah w G cl c' lF e elt j conds N I D xv vs Hf μ₀ s₀ i s') (fun k s₁ z=>aM z fun i ek z=>bY z fun hle z=>Mr z fun μ H nx hr it fr hN MY hl=>?_) _ ⟨0,rfl,h0⟩;rw[ek];have on:∀ {μ':Mu} {H':Hp} {s':Shared},i<vs.length->Mv (fun b=>b=I∨b=lF.locals) μ₀ s₀ μ' s'->HR w G μ' s'.heap H'->kc G μ' s'.heap I xv vs (i+1)->FR G μ' s'.heap c' lF (e.set j none)->μ'[N]?=some (D,D)->cV xv vs H'=true->iW N (cV xv vs) (Jk cl elt j conds e) (vs.drop (i+1)) H'=some ((),Hf)->
   ∃ m,m<vs.length - i/\∃ i',m=vs.length - i'/\Ah w G cl c' lF e elt j conds N I D xv vs Hf μ₀ s₀ i' s':=fun rL a b c d e f g=>⟨_,yB rL,i+1,rfl,rL,_,_,a,b,c,d,e,f,g⟩
 by_cases rL:i<vs.length
 ·rw[Bu rL] at hl;refine bq hl fun r H1 hf hl=>bq hf fun b H2 hc hf=>yw hr it MY (List.getElem?_eq_getElem rL) fun mv h1 rv n1 x1 t1=>?_;have Oy:FR G μ h1 c' lF (e.set j none):=fr.D2 n1 (fun q=>Pt q.symm) (fun z a q=>Ox z a q) (fun b items q=>q▸it.jN items);refine wpAny_assign_Name (fP (s:={ s₁ with heap:=h1 }) Oy x1 Sj rv fun h2 t d hd n2 x2 L7 hT=>?_);have DM:d=lF.locals:=hd.elim id fun q=>NameKind.noConfusion (UM (Sk.symm.trans q.1));rw[List.set_set] at L7;have t2:=t1.next n2 (fun q=>Pt (q.trans DM)) (fun b items q=>q▸hT items);have QK:Mv (fun b=>b=I∨b=lF.locals) μ₀ s₀ μ { s₁ with heap:=h2,toks:=t }:=⟨(nx.n.trans (n1.weaken fun b q=>.inl q)).trans (n2.weaken fun b q=>.inr (q.trans DM)),nx.g,nx.o⟩;refine wp_mono (CA (s:={ s₁ with heap:=h2,toks:=t }) conds tS r2 L7 x2 hA hc) fun ok s₃ q=>aM q.2 fun μ₃ m3 x3=>?_;rw[q.1];have MZ:=L7.next m3.n;have t3:=t2.next m3.n id jN;have QL:=lX m3.n.pre hN;cases b with
  | true=>
   rw[if_pos rfl];refine bq hf fun yv H3 he hf=>?_;have q1:some yv=r:=congrArg Prod.fst (UM hf);have q2:H3=H1:=congrArg Prod.snd (UM hf);rw[<-q1,<-q2] at hl;refine bc hl fun acc Pu hl=>cS hl fun EM hl=>aJ EM fun c1 c2=>?_;refine one EK r1 MZ x3 hA he fun mv4 μ₄ s₄ m4 x4 r4 Sl=>?_;have QM:=lX m4.n.pre QL;have ha:uD (.obj N) yv H3=some (.none,H3.set N (.list (acc++[yv]))):=by
    show (fK H3 N).bind _=_;rw[Pu];exact if_pos c1
   exact wp_mono (DX x4 (.obj (p:=(D,D)) QM) r4 ha) fun _ s₅ q=>dj q fun μ₅ m5 x5 _=>
    on rL (((QK.trans m3.any).trans m4.any).trans m5.any) x5 ((t3.next m4.n id jN).next m5.n id jN) (Sl.next m5.n).unset (lX m5.n.pre QM) c2 hl
  | false=>
   rw[if_neg Bool.false_ne_true];have q1:none=r:=congrArg Prod.fst (UM hf);have q2:H2=H1:=congrArg Prod.snd (UM hf);rw[<-q1,<-q2] at hl;exact cS hl fun EM hl=>on rL (QK.trans m3.any) x3 t3 MZ.unset QL EM hl
 ·have hi:i=vs.length:=Nat.le_antisymm hle (Nat.not_lt.mp rL);rw[hi,List.drop_length] at hl;have q2:H=Hf:=congrArg Prod.snd (UM hl);refine yy hA.handled hr it MY (List.getElem?_eq_none (Nat.not_lt.mp rL)) fun h' hk x'=>aM fr.ns fun m hm _=>?_;exact fin μ _ ⟨(nx.n.done hI hk).forget fun b q=>q.elim (fun q=>.inr (q▸hI)) .inl,nx.g,nx.o⟩ (q2▸x') hN fr.own ⟨m,hm.extBut hk (fun q=>Pt q.symm)⟩
end
end
section
open PySem PySem.W PySem.Calls PyProof.Rows PySem.SeqAt
theorem la{y:Str}{k:NameKind}(l:List (Str×NameKind)):(l.map (·.1)).Nodup->(y,k)∈l->l.lookup y=some k:=
 List.rec (motive:=fun l=>(l.map (·.1)).Nodup->(y,k)∈l->l.lookup y=some k) (fun _ h=>absurd h List.not_mem_nil) (fun z r ih hn h=>by
  rw[List.map_cons,List.nodup_cons] at hn;refine (UO h).elim (fun q=>?_) fun q=>?_
  ·rw[<-q,wh]
  ·rw[wj (n:=z.1) (b:=z.2) fun e=>hn.1 (List.mem_map.mpr ⟨_,q,e⟩)];exact ih hn.2 q) l
section
variable{w:World}{G:Heap}{n:Nat}{cl:Nat->List V->Hp->Option (V×Hp)}{K:Frag}{mg mb:Str->Option Value}{μ μ₁ μ':Mu}{s s₁:Shared}{A:Around}{H:Hp}{h h' h₀:Heap}{S S':Addr->Prop}
 {c:Ctx} {env:Env} {e:aU}
theorem EN{I:Addr}{x:V}{vs:List V}{i:Nat}(t:kc G μ s.heap I x vs i){Q:Value->Shared->Prop}{E:Value->Shared->Prop}(h:Q (.ref I) s):wpAny (model aX w) A (pyIter (.ref I)) Q E s:=by
 have t:=t.2.2;cases x with
 | tup l=>exact xQ t.2 fun a items uF _=>wpAny_pyIter_tupleiter uF h
 | obj n=>exact aM t fun a _ uF=>wpAny_pyIter_listiter uF h
 | _=>exact t.elim
theorem CD{pe:PySem.Expr}(x:Value){P:Sem Value->Prop}(k:P (pure x)):pe.ctorIdx≠7->P (foldedSetIterable pe env x):=by
 cases pe with
 | Set=>exact fun q=>absurd rfl q
 | _=>exact fun _=>k
theorem rA{b:E}{pe:PySem.Expr}{H:Hp}{r:V×Hp}(hr:bP gU b c pe=true)(he:ba (mf cl) b e H=some r)(x:Value):foldedSetIterable pe env x=pure x:=CD x (P:=fun z=>z=pure x) rfl (D8 hr he)
theorem tT{x:V}{vs:List V}(hh:dR x H=some vs):cV x vs H=true:=by
 cases x with
 | obj k=>
  have hh:fK H k=some vs:=hh;show (fK H k).any _=true;rw[hh];exact UT rfl
 | _=>rfl
theorem Ai{x:V}{vs:List V}(o:O)(hh:dR x H=some vs):dR x (H++[o])=some vs:=by
 cases x with
 | obj k=>
  have z:=Bb hh;exact hW ((List.getElem?_append_left (UW z).1).trans z)
 | _=>exact hh
theorem vb{elt it:E}{conds:List E}{j:Nat}{x:Str}{px pos p:Pos}{oB jy:PySem.Expr}{ifs:List PySem.Expr}{sc:Scope}{v:V}{H':Hp}{use:Option (Value->Sem Unit)}{Q:Value->Shared->Prop}
  (uF:bJ w G n cl it) (EK:bJ w G n cl elt) (tS:∀ y∈conds,iV w G n cl y) (hA:dQ A n) (C:wk c sc x j) (M0:(x==("__debug__":Str))=false) (r0:bP gU it c oB=true)
  (r1:bP gU elt ⟨c.slots,gB sc c.scope⟩ jy=true) (r2:gr gU conds ⟨c.slots,gB sc c.scope⟩ ifs=true) (fr:FR G μ s.heap c env e) (hx:HR w G μ s.heap H)
  (he:ba (mf cl) (.comp elt j it conds) e H=some (v,H'))
  (M1:∀ (D:Nat×Addr) L μ' s' m,.obj D.1=v->Mv gm μ s μ' s'->HR w G μ' s'.heap H'->VR G μ' s'.heap v (.ref D.2)->s.heap.get? L=none->¬ Own μ' L->G.get? L=none->s'.heap.Ns L m->
   compPost (model aX w) A bM use Q (.ref D.2) L (.ok .next) s') :
  wpAny (model aX w) A (comprehension (.ListComp jy [⟨.Name x px,oB,ifs,0⟩] sc pos) sc env p (newList []) false (eval oB env) use) Q bM s:=by
 refine bq he fun xv H1 e1 he=>bc he fun vs Kv he=>bq he fun _ H2 e2 he=>?_;have q1:V.obj H1.length=v:=congrArg Prod.fst (UM he);have q2:H2=H':=congrArg Prod.snd (UM he);have free:∀ {k} (y:Str×NameKind),y∈sc.names->y.2=k->(y.1,k)∈sc.names:=fun y hy hk=>hk▸hy;have M3:closureFor sc env=pure (hM env sc.names []):=we fun y hy hk=>bY (C.free y.1 (free y hy hk)) fun h1 h2=>cX h2 fun i hi=>xQ (fr.cell i y.1 hi h1) fun a _ g _=>⟨a,g⟩;refine wpAny_comprehension_free (use:=use) (g:=⟨.Name x px,oB,ifs,0⟩) (gs:=[]) rfl (rA r0 e1) M3 C.kind (fun y hy hk=>la _ C.nodup (free y hy hk)) ?_;refine one uF r0 fr hx hA e1 fun mx μ₁ s₁ m1 x1 Sm f1=>Bs x1 Sm Kv fun I s₂ m2 x2 hI t2=>?_;refine wpAny_newObj_type (wpAny_newFunctionEnv (fun y hy=>(C.names y.1 y.2 hy).1) (by intro y hy;simp at hy) (fun h₁ Kx Ky=>?_) C.kind)
 dsimp only at Kx Ky⊢
 refine dj (lZ (s:=s₂) (t:=s₂.toks) x2 (l:=[]) (ml:=[]) .nil) fun μ₃ m3 x3 r3=>?_;have n3:=m3.n
 dsimp only at n3 x3 r3
 generalize hD:s₂.heap.objs.size=D at *
 generalize Sn:s₂.heap.push { cls:=.type "list",dict:=none,data:=.seq ([]:List Value).toArray }=M4 at *
 have hL:M4.objs.size=D+1:=by rw[<-Sn,Heap.size_push,hD]
 rw[hL] at Kx Ky⊢;have gL:M4.get? (D+1)=none:=by rw[<-hL];exact b7 _
 have k1:∀ b o,M4.get? b=some o->h₁.get? b=some o:=fun b o eb=>Ky.extBut b o (fun q=>ca (q▸gL) eb) (Heap.get?_push_of_some _ eb);have n4:bu gm μ₃ M4 μ₃ h₁:=bu.of_keeps k1;have EO:∀ a,(s₁.heap.get? a).isSome=true->a<D:=fun a q=>iU (m2.n.live a q) fun o ho=>hD▸Heap.lt_size ho;have cf:=Ag (((f1.next m2.n).next n3).next n4) C Kx (x3.dB gL) (x3.jO gL) (fun y a q=>Nat.ne_of_lt (Nat.lt_succ_of_lt (EO a (f1.qo y a q).2.2.2))) (qual:=env.qual);have hN:μ₃[H1.length]?=some (D,D):=cQ (s:={ s₂ with heap:=M4 }) x3 r3 (l:=[]) (hW qk) (P:=fun mv=>mv=.ref D->μ₃[H1.length]?=some (D,D)) (fun a items hN _ _ e=>Value.ref.inj e▸hN) rfl;have Pw:I<D:=aM t2.obj fun o ho _=>hD▸Heap.lt_size ho;have t4:kc G μ₃ h₁ I xv vs 0:=(t2.next n3 id jN).next n4 id jN;have out:∀ {h:Heap},(∀ a,(h.get? a).isSome=true->a<D)->h.get? (D+1)=none:=fun {h} k=>by
  cases q:h.get? (D+1) with
  | none=>rfl
  | some o=>exact absurd (k (D+1) (cK q)) (Nat.not_lt.mpr (Nat.le_succ D))
 have loop:∀ s₃:Shared,s₃={ s₂ with heap:=h₁,toks:=s₂.toks+([]:List (Str×Value)).length }->
   codeAny (model aX w) A (.compLoop (.ListComp jy [⟨.Name x px,oB,ifs,0⟩] sc pos) 0 (.ref I) (.ref D) (compEnvC sc (hM env sc.names []) (D+1) env)) (compPost (model aX w) A bM use Q (.ref D) (D+1)) s₃:=fun s₃ es=>by
  have kl:ct (gB sc c.scope) x=some .local:=by rw[yA,C.loc];rfl
  rw[es];refine CC (c':=⟨c.slots,gB sc c.scope⟩) (N:=H1.length) (μ₀:=μ₁) (s₀:=s₁) (Hf:=H2) (xv:=xv) (vs:=vs) (e:=e) (j:=j) EK tS hA r1 r2 ?_ kl hI (Nat.ne_of_lt (Nat.lt_succ_of_lt Pw)) (fun y b q hb=>?_) (fun μ' s' mv x' So M5 hm=>?_) ?_
  ·unfold fM Jf;rw[kl,M0];exact Bool.and_eq_true_iff.mpr ⟨beq_iff_eq.mpr C.slot,rfl⟩
  ·exact iU (f1.qo y b (u9 (acc:=[]) _ (fun _ _ z=>fJ z) q)).2.2.2 fun _ w=>ca (hb▸hI) w
  ·exact cX hm fun m hm=>M1 (H1.length,D) (D+1) μ' s' m q1 (m1.trans ⟨mv.n.forget fun b q=>.inr ((q:b=D+1)▸out EO),mv.g,mv.o⟩) (q2▸x') (q1▸.obj (p:=(D,D)) So) (out fun a q=>EO a (m1.n.live a q)) M5.1 M5.2 hm
  ·exact ⟨Nat.zero_le _,μ₃,_,⟨((m2.n.trans n3).trans n4).any,m2.g,m2.o⟩,x3.keeps k1,t4,cf,hN,tT (Ai _ Kv),by rw[List.drop_zero];exact e2⟩
 exact codeAny_compStart_list (loop _ rfl) (EN (s:={ s₂ with heap:=h₁,toks:=s₂.toks+([]:List (Str×Value)).length }) t4 (loop _ rfl))
end
end
section
open PySem PySem.W PySem.Calls PyProof.Rows PySem.SeqAt
section
variable{w:World}{G:Heap}{n:Nat}{cl:Nat->List V->Hp->Option (V×Hp)}{K:Frag}{mg mb:Str->Option Value}{μ μ₁ μ':Mu}{s s₁:Shared}{A:Around}{H:Hp}{h h' h₀:Heap}{S S':Addr->Prop}
 {c:Ctx} {env:Env} {e:aU}
theorem Ht{m:Nat}{mv:Value}(r:VR G μ h (.obj m) mv):VR G μ h' (.obj m) mv:=aM r.inv fun p hp e=>e▸.obj hp
theorem yC{elt it:E}{conds:List E}{j:Nat}{pe:PySem.Expr}(hr:bP gU (.comp elt j it conds) c pe=true){P:PySem.Expr->Prop}
  (k:∀ jy x px oB ifs sc pos,wk c sc x j->(x==("__debug__":Str))=false->bP gU it c oB=true->bP gU elt ⟨c.slots,gB sc c.scope⟩ jy=true->gr gU conds ⟨c.slots,gB sc c.scope⟩ ifs=true->P (.ListComp jy [⟨.Name x px,oB,ifs,0⟩] sc pos)):P pe:=
 uQ hr fun jy gs sc pos hr=>e1 hr (P:=fun gs=>P (.ListComp jy gs sc pos)) fun g hr=>aJ hr fun h0 hr=>by
  obtain ⟨t,oB,ifs,a⟩:=g;have h0:a=0:=UU h0;rw[h0];exact eName hr (P:=fun t=>P (.ListComp jy [⟨t,oB,ifs,0⟩] sc pos)) fun x px hr=>aJ hr fun h1 hr=>aJ hr fun h2 hr=>aJ hr fun h3 hr=>aJ hr fun h4 h5=>k jy x px oB ifs sc pos (CB h1) (eZ h2 id) h3 h4 h5
theorem qt{L:Addr}{m:Str->Option Value}(hn:h.Ns L m)(items:Array Value)(ht:h.IsTuple L items):False:=
 uB hn fun o' es ep rI r=>dj ht fun o ho hc q=>q.elim fun ep hd=>by
  have e:=UM (rI.symm.trans ho);rw[<-e,r.1] at hd;exact Data.noConfusion hd
theorem CE{elt it:E}{conds:List E}{j:Nat}(uF:bJ w G n cl it)(EK:bJ w G n cl elt)(tS:∀ y∈conds,iV w G n cl y):bJ w G n cl (.comp elt j it conds):=fun c pe hr=>yC hr fun jy x px oB ifs sc pos C M0 r0 r1 r2 env e A μ s H v H' fr hx hA he=>by
 rw[eval_ListComp];refine vb (use:=none) uF EK tS hA C M0 r0 r1 r2 fr hx he fun D L μ' s' m hv nx x' rv hL ho hg hn=>⟨m,hn,fun h' mU=>?_⟩;exact ⟨μ',⟨nx.n.done hL mU.extBut,nx.g,nx.o⟩,x'.Hr mU.extBut ho hg (qt hn),hv▸Ht (hv▸rv)⟩
theorem ER{l:List E}:(∀ x∈l,bJ w G n cl x)->nU w G n cl l:=
 List.rec (motive:=fun l=>(∀ x∈l,bJ w G n cl x)->nU w G n cl l) (fun _=>Cr) (fun a l ih h=>Aa (h a (.head _)) (ih fun x hx=>h x (.tail _ hx))) l
theorem Px{l:List E}:(∀ x∈l,bJ w G n cl x/\iV w G n cl x)->Ci w G n cl l:=
 List.rec (motive:=fun l=>(∀ x∈l,bJ w G n cl x/\iV w G n cl x)->Ci w G n cl l) (fun _=>Cp) (fun a l ih h=>z9 (h a (.head _)).1 (h a (.head _)).2 (ih fun x hx=>h x (.tail _ hx))) l
noncomputable def yD(w:World)(G:Heap)(n:Nat)(cl:Nat->List V->Hp->Option (V×Hp))(x:E):Prop:=bJ w G n cl x/\iV w G n cl x
theorem yD.of{x:E}{i:Nat}(h:bJ w G n cl x)(hd:z7 x=[i])(k:[6,8,16,19,20,21,23,24,25,2].contains i=true):yD w G n cl x:=⟨h,Ck h hd k⟩
theorem mj(X:Cx w G K mg mb n cl)(x:E):yD w G n cl x:=
 E.rec (motive_1:=yD w G n cl) (motive_2:=fun l=>∀ x∈l,yD w G n cl x) (fun i=>.of (D6 i) rfl rfl) (fun v=>⟨yq X v,Cm (yq X v)⟩) (fun op _ _ a b=>.of (D7 op a.1 b.1) rfl rfl) (fun op _ _ a b=>⟨Ea X op a.1 b.1,Cj X op a.1 b.1⟩)
  (fun i _ l=>Cq i (Px l)) (fun _ a=>⟨Ed a.1,Cn a.2⟩) (fun _ _ _ t a b=>⟨Ee t.2 a.1 b.1,Co t.2 a.2 b.2⟩) (fun f _ l=>.of (Cs X f (ER fun x hx=>(l x hx).1)) rfl rfl) (fun k _ l=>.of (En X k (ER fun x hx=>(l x hx).1)) rfl rfl)
  (fun _ m _ o l=>.of (Eu X m o.1 (ER fun x hx=>(l x hx).1)) rfl rfl) (fun _ _ _ o k d=>.of (Cu X o.1 k.1 d.1) rfl rfl) (fun _ _ o x=>.of (Ew o.1 x.1) rfl rfl) (fun _ o=>.of (Ex o.1) rfl rfl) (fun _ a=>.of (Ey X a.1) rfl rfl) (fun _ a=>.of (yr X a.1) rfl rfl)
  (fun _ a=>.of (Ac X a.1) rfl rfl) (fun _ k o=>.of (Ct X k o.1) rfl rfl) (fun _ _ o i=>.of (Ej X o.1 i.1) rfl rfl) (fun _ o=>.of (Ek o.1) rfl rfl) (fun _ k o=>.of (Em k o.1) rfl rfl) (fun _ l=>.of (Eg (ER fun x hx=>(l x hx).1)) rfl rfl) (fun _ l=>.of (Eh (ER fun x hx=>(l x hx).1)) rfl rfl)
  (fun kd _ l=>.of (Cz X kd fun x hx=>(l x hx).1) rfl rfl) (fun _ _ _ _ elt it l=>.of (CE it.1 elt.1 fun y hy=>(l y hy).2) rfl rfl) ⟨zZ,fun _ _ _ _ _ _ _ _ _ _ _ _ _ _ _ he=>fJ he⟩
  (fun _ h=>absurd h List.not_mem_nil) (fun _ _ a l x hx=>(UO hx).elim (fun e=>e▸a) (l x)) x
end
end
section
open PySem PySem.W PySem.Calls PyProof.Rows PySem.SeqAt
section
variable{w:World}{G:Heap}{n:Nat}{cl:Nat->List V->Hp->Option (V×Hp)}{K:Frag}{mg mb:Str->Option Value}{μ μ₁ μ':Mu}{s s₁ s₂:Shared}{A:Around}{H:Hp}{h h' h₀:Heap}
 {c:Ctx} {env:Env} {e:aU}
theorem FR.ext{L:Addr}(f:FR G μ h c env e)(k:Heap.ExtBut L h h')(h1:env.locals≠L)(h2:∀ x a,env.cells.lookup x=some a->a≠L)(hT:∀ items,¬ h.IsTuple L items):FR G μ h' c env e:=
 have kv:∀ {v mv},VR G μ h v mv->VR G μ h' v mv:=fun r=>r.but (S:=fun b=>b=L) (fun b o e q=>k b o q e) fun b items q=>q▸hT items
 ⟨f.kind,f.scope,f.u7,f.glob,f.blt,f.len,f.nodup,aM f.ns fun m hm hr=>⟨m,hm.extBut k h1,fun i x v a1 a2 a3=>aM (hr i x v a1 a2 a3) fun mv a b=>⟨mv,a,kv b⟩⟩,
  fun i x a1 a2=>fG (f.cell i x a1 a2) fun a mv g1 g2 g3=>aM g2 fun o ho hd=>⟨a,mv,g1,⟨o,k _ _ (h2 x a g1) ho,hd⟩,fun v Ks=>aM (g3 v Ks) fun zW p q=>⟨zW,p,kv q⟩⟩,f.own,
  fun x a hx=>lI (f.qo x a hx) fun p q r l=>iU l fun o ho=>⟨p,q,r,cK (k _ _ (h2 x a hx) ho)⟩,f.apart⟩
noncomputable def M6(G:Heap)(μ:Mu)(h:Heap)(o:Out)(f:Flow):Prop:=match o with
 | .next=>f=.next
 | .cont=>f=.cont
 | .ret v=>∃ mv,f=.ret mv/\VR G μ h v mv
noncomputable def SP(w:World)(G:Heap)(c:Ctx)(env:Env)(μ:Mu)(s:Shared)(o:Out)(e':aU)(H':Hp)(f:Flow)(s':Shared):Prop:=
 ∃ μ',Mv (SF env) μ s μ' s'/\HR w G μ' s'.heap H'/\FR G μ' s'.heap c env e'/\M6 G μ' s'.heap o f
noncomputable def sf(c:Ctx)(env:Env):Prop:=∀ (x:Str) (a:Addr),env.cells.lookup x=some a->(∃ i:Nat,c.slots[i]?=some x/\ct c.scope x=some .cell)
noncomputable def gx(w:World)(G:Heap)(n:Nat)(cl:Nat->List V->Hp->Option (V×Hp))(st:S)(c:Ctx)(ps:Stmt):Prop:=∀ (env:Env) (e:aU) (A:Around) (μ:Mu) (s:Shared) (H:Hp) (o:Out) (e':aU) (H':Hp),
 sf c env->FR G μ s.heap c env e->HR w G μ s.heap H->dQ A n->Dv (mf cl) st e H=some ((o,e'),H')->wpAny (model aX w) A (exec ps env) (SP w G c env μ s o e' H') bM s
noncomputable def lG(w:World)(G:Heap)(n:Nat)(cl:Nat->List V->Hp->Option (V×Hp))(st:S):Prop:=∀ (c:Ctx) (ps:Stmt),MK gU st c ps=true->gx w G n cl st c ps
noncomputable def ES(w:World)(G:Heap)(n:Nat)(cl:Nat->List V->Hp->Option (V×Hp))(l:List S)(c:Ctx)(ps:List Stmt):Prop:=∀ (env:Env) (e:aU) (A:Around) (μ:Mu) (s:Shared) (H:Hp) (o:Out) (e':aU) (H':Hp),
 sf c env->FR G μ s.heap c env e->HR w G μ s.heap H->dQ A n->aR (mf cl) l e H=some ((o,e'),H')->wpAny (model aX w) A (execs ps env) (SP w G c env μ s o e' H') bM s
noncomputable def lg(w:World)(G:Heap)(n:Nat)(cl:Nat->List V->Hp->Option (V×Hp))(l:List S):Prop:=∀ (c:Ctx) (ps:List Stmt),m7 gU l c ps=true->ES w G n cl l c ps
theorem SP.after{o:Out}{e':aU}{H':Hp}{f:Flow}{s':Shared}(m:Mv (SF env) μ s μ₁ s₁)(q:SP w G c env μ₁ s₁ o e' H' f s'):SP w G c env μ s o e' H' f s':=nY q fun μ' a y z r=>⟨μ',m.trans a,y,z,r⟩
theorem tU{p:Sem Flow}{o:Out}{e':aU}{H':Hp}(m:Mv (SF env) μ s μ₁ s₁)(h:wpAny (model aX w) A p (SP w G c env μ₁ s₁ o e' H') bM s₂){E:Value->Shared->Prop}:wpAny (model aX w) A p (SP w G c env μ s o e' H') E s₂:=wp_mono h fun _ _ q=>q.after m
theorem gW{o o':Out}{e e':aU}{H H':Hp}{P:Out->aU->Hp->Prop}(h:some ((o,e),H)=some ((o',e'),H') )(k:P o e H):P o' e' H':=
 eD (P:=fun (p:Out×aU) H=>P p.1 p.2 H) (a:=(o,e)) (a':=(o',e')) h k
theorem M7(x:E):(z7 x).contains 9=false/\(z7 x).contains 10=false:=by cases x<;>exact ⟨rfl,rfl⟩
theorem ET{v:PySem.Expr}(t:Option PySem.Expr)(l:Nat)(env:Env){P:Sem Bool->Prop}(k:P (pure false)):v.ctorIdx≠9->v.ctorIdx≠10->j6 v=false->P (swapsWith v t l env):=by
 cases v with
 | ListComp=>exact fun _ _ q=>gI q.symm
 | SetComp=>exact fun q=>absurd rfl q
 | DictComp=>exact fun _ q=>absurd rfl q
 | _=>exact fun _ _ _=>k
theorem iL{x:E}{v:PySem.Expr}{r:V×Hp}(hr:bP gU x c v=true)(he:ba (mf cl) x e H=some r)(hc:j6 v=false)(t:Option PySem.Expr)(l:Nat)(env:Env):swapsWith v t l env=pure false:=
 have h:=se hr he
 ET t l env (P:=fun z=>z=pure false) rfl (fun q=>gI ((M7 x).1.symm.trans (List.contains_iff_mem.mpr (q▸h)))) (fun q=>gI ((M7 x).2.symm.trans (List.contains_iff_mem.mpr (q▸h)))) hc
theorem Kz:lg w G n cl []:=fun c ps hr=>eN hr (P:=ES w G n cl [] c) fun env e A μ s H o e' H' hc f hx hA he=>
 gW (P:=fun o e' H'=>wpAny (model aX w) A (execs [] env) (SP w G c env μ s o e' H') bM s) he (wpAny_execs_nil ⟨μ,Mv.refl,hx,f,rfl⟩)
theorem Hu{a:S}{l:List S}(ha:lG w G n cl a)(hl:lg w G n cl l):lg w G n cl (a::l):=fun c ps hr=>eC hr (P:=ES w G n cl (a::l) c) fun p rest hr=>aJ hr fun h1 h2 env e A μ s H o e' H' hc f hx hA he=>bq he fun r H1 Sp he=>by
 obtain ⟨o1,e1⟩:=r;refine wpAny_execs_cons (wp_mono (ha c p h1 env e A μ s H o1 e1 H1 hc f hx hA Sp) fun fl s₁ q=>?_);cases o1 with
 | next=>
  refine nY q fun μ₁ m1 x1 f1 r1=>?_;rw[(r1:fl=.next)];exact tU m1 (hl c rest h2 env e1 A μ₁ s₁ H1 o e' H' hc f1 x1 hA he)
 | cont=>
  refine nY q fun μ₁ m1 x1 f1 r1=>?_;rw[(r1:fl=.cont)] at q⊢;exact gW (P:=fun o e' H'=>SP w G c env μ s o e' H' .cont s₁) he q
 | ret v=>
  refine nY q fun μ₁ m1 x1 f1 r1=>aM (r1:∃ mv,fl=.ret mv/\_) fun mv e1 _=>?_;rw[e1] at q⊢;exact gW (P:=fun o e' H'=>SP w G c env μ s o e' H' (.ret mv) s₁) he q
theorem vc{y:Str}{d:Addr}(hd:d=env.locals∨(ct c.scope y=some .cell/\env.cells.lookup y=some d)):SF env d:=hd.imp id fun h=>⟨y,h.2⟩
theorem EV{i:Nat}{y:Str}(f:FR G μ h c env e)(hs:fM c i y=true):i<e.length:=f.len▸(UW (iA hs).1).1
theorem KA{x:E}(zD:bJ w G n cl x):lG w G n cl (.ret x):=fun c ps hr=>Bf hr fun v p hr=>eS hr (P:=fun v=>gx w G n cl (.ret x) c (.Return v p)) fun v hr env e A μ s H o e' H' hc f hx hA he=>bq he fun u H1 e1 he=>
 gW (P:=fun o e' H'=>wpAny (model aX w) A (exec (.Return (some v) p) env) (SP w G c env μ s o e' H') bM s) he (wpAny_Return_some (one zD hr f hx hA e1 fun mv μ₁ s₁ m1 x1 r1 f1=>⟨μ₁,m1.any,x1,f1,mv,rfl,r1⟩))
theorem Hv:lG w G n cl .G4:=fun c ps hr=>Bf hr fun v p hr=>eO hr (P:=fun v=>gx w G n cl .G4 c (.Return v p)) fun env e A μ s H o e' H' hc f hx hA he=>
 gW (P:=fun o e' H'=>wpAny (model aX w) A (exec (.Return none p) env) (SP w G c env μ s o e' H') bM s) he (wpAny_Return_none ⟨μ,Mv.refl,hx,f,_,rfl,.none⟩)
theorem Hw:lG w G n cl .pass:=fun c ps hr=>MG hr fun p hr env e A μ s H o e' H' hc f hx hA he=>
 gW (P:=fun o e' H'=>wpAny (model aX w) A (exec (.Pass p) env) (SP w G c env μ s o e' H') bM s) he (wpAny_Pass ⟨μ,Mv.refl,hx,f,rfl⟩)
theorem Hx:lG w G n cl .cont:=fun c ps hr=>B7 hr fun p hr env e A μ s H o e' H' hc f hx hA he=>
 gW (P:=fun o e' H'=>wpAny (model aX w) A (exec (.Continue p) env) (SP w G c env μ s o e' H') bM s) he (by
  show wpAny _ _ (do standAt p;pure Flow.cont) _ _ _;exact wpAny_bind (wpAny_standAt (wpAny_pure ⟨μ,Mv.refl,hx,f,rfl⟩)))
theorem EW:lG w G n cl .stuck:=fun _ _ _ _ _ _ _ _ _ _ _ _ _ _ _ _ he=>fJ he
theorem KB{t:E}{a b:List S}(ht:iV w G n cl t)(ha:lg w G n cl a)(hb:lg w G n cl b):lG w G n cl (.ite t a b):=fun c ps hr=>RX hr fun t' a' b' p hr=>aJ hr fun h0 hr=>aJ hr fun h1 h2 env e A μ s H o e' H' hc f hx hA he=>bq he fun v H1 e1 he=>bc he fun bo Dj he=>
 wpAny_If (yp ht h0 f hx hA e1 Dj fun μ₁ s₁ m1 x1 f1=>by
  cases bo with
  | true=>exact tU m1.any (ha _ _ h1 env e A μ₁ s₁ H1 o e' H' hc f1 x1 hA he)
  | false=>exact tU m1.any (hb _ _ h2 env e A μ₁ s₁ H1 o e' H' hc f1 x1 hA he))
theorem wm(f:FR G μ h c env e):interactive env=false:=by
 unfold interactive;rw[f.kind];rfl
theorem wq{v:PySem.Expr}(h:isCall v=true):j6 v=false:=by
 unfold j6;rw[eq_of_beq h];rfl
theorem Hy{x:E}(zD:bJ w G n cl x):lG w G n cl (.expr x):=fun c ps hr=>MF hr fun v p hr=>aJ hr fun h1 h2 env e A μ s H o e' H' hc f hx hA he=>bq he fun u H1 e1 he=>
 gW (P:=fun o e' H'=>wpAny (model aX w) A (exec (.Expr v p) env) (SP w G c env μ s o e' H') bM s) he (wpAny_Expr_any (one zD h2 f hx hA e1 fun mv μ₁ s₁ m1 x1 r1 f1=>⟨μ₁,m1.any,x1,f1,rfl⟩) (wm f) (iL h2 e1 (wq h1) _ _ _))
theorem Hz{b:List S}(hb:lg w G n cl b):lG w G n cl (.zJ b):=fun c ps hr=>O9 hr fun b' hs o f p hr=>aJ hr fun hh hr=>aJ hr fun ho hr=>aJ hr fun hf Sq=>eN ho (P:=fun o=>gx w G n cl (.zJ b) c (.Try b' hs o f p))<|eN hf (P:=fun f=>gx w G n cl (.zJ b) c (.Try b' hs [] f p)) fun env e A μ s H o e' H' hc f hx hA he=>by
 cases hs with
 | nil=>exact gI hh
 | cons h₀ hs=>
  refine wpAny_Try_except (wp_mono (hb c b' Sq env e A μ s H o e' H' hc f hx hA he) fun fl s₁ q=>?_);cases fl<;>first|exact wpAny_execs_nil q|exact q
end
end
section
open PySem PySem.W PySem.Calls PyProof.Rows PySem.SeqAt
section
variable{w:World}{G:Heap}{n:Nat}{cl:Nat->List V->Hp->Option (V×Hp)}{K:Frag}{mg mb:Str->Option Value}{μ μ₁ μ':Mu}{s s₁:Shared}{A:Around}{H:Hp}{h h' h₀:Heap}
 {c:Ctx} {env:Env} {e:aU}
theorem e8{x:E}(h:(z7 x).contains 8=true){P:E->Prop}(k:∀ elt j it conds,P (.comp elt j it conds)):P x:=by
 cases x with
 | comp elt j it conds=>exact k elt j it conds
 | _=>exact gI h
theorem HA(X:Cx w G K mg mb n cl)(i:Nat)(x:E):lG w G n cl (.asg (.one i) x):=fun c ps hr=>rT hr fun ts v pos hr=>e1 hr (P:=fun ts=>gx w G n cl (.asg (.one i) x) c (.Assign ts v pos)) fun t hr=>aJ hr fun h1 hr=>aJ hr fun h2 hr=>eName h1 (P:=fun t=>gx w G n cl (.asg (.one i) x) c (.Assign [t] v pos)) fun y py h1 env e A μ s H o e' H' hc f hx hA he=>bq he fun u H1 e1 he=>bc he fun e2 hb he=>
 gW (P:=fun o e' H'=>wpAny (model aX w) A (exec (.Assign [.Name y py] v pos) env) (SP w G c env μ s o e' H') bM s) he<|by
  rw[<-UM ((if_pos (EV f h1)).symm.trans hb)];have sh:swapsWith v (some (.Name y py)) pos.line env=pure false->wpAny (model aX w) A (exec (.Assign [.Name y py] v pos) env) (SP w G c env μ s .next (e.set i (some u)) H1) bM s:=fun hs=>
   wpAny_Assign_Name (one (mj X x).1 h2 f hx hA e1 fun mv μ₁ s₁ m1 x1 r1 f1=>fP f1 x1 h1 r1 fun h' t d hd n2 x2 f2 hT=>⟨μ₁,⟨m1.n.any.trans (n2.weaken fun b q=>q▸vc hd),m1.g,m1.o⟩,x2,f2,rfl⟩) hs
  cases QN:j6 v with
  | false=>exact sh (iL h2 e1 QN _ _ _)
  | true=>
   refine e8 (x:=x) (List.contains_iff_mem.mpr ((eq_of_beq QN:v.ctorIdx=8)▸se h2 e1)) (P:=fun x=>bP gU x c v=true->ba (mf cl) x e H=some (u,H1)->wpAny (model aX w) A (exec (.Assign [.Name y py] v pos) env) (SP w G c env μ s .next (e.set i (some u)) H1) bM s) (fun elt j it conds h2 e1=>?_) h2 e1;refine yC h2 (P:=fun v=>(swapsWith v (some (.Name y py)) pos.line env=pure false->wpAny (model aX w) A (exec (.Assign [.Name y py] v pos) env) (SP w G c env μ s .next (e.set i (some u)) H1) bM s)->wpAny (model aX w) A (exec (.Assign [.Name y py] v pos) env) (SP w G c env μ s .next (e.set i (some u)) H1) bM s) (fun jy x' px oB ifs sc pos' C M0 r0 r1 r2 sh=>?_) sh;have sw:∀ b,swapsWith (.ListComp jy [⟨.Name x' px,oB,ifs,0⟩] sc pos') (some (.Name y py)) pos.line env=pure b->wpAny (model aX w) A (exec (.Assign [.Name y py] (.ListComp jy [⟨.Name x' px,oB,ifs,0⟩] sc pos') pos) env) (SP w G c env μ s .next (e.set i (some u)) H1) bM s:=fun b hb=>by
    cases b with
    | false=>exact sh hb
    | true=>
     rw[exec_Assign_Name_used _ _ _ _ hb];refine wpAny_bind (wpAny_standAt (wpAny_bind ?_));show wpAny _ _ (comprehension (.ListComp jy [⟨.Name x' px,oB,ifs,0⟩] sc pos') sc env (firstIterPos [⟨.Name x' px,oB,ifs,0⟩] pos') (newList []) false (eval oB env) (some (assign (.Name y py) env)) >>= fun _=>pure ()) _ _ _;refine wpAny_bind (vb (use:=some (assign (.Name y py) env)) (mj X it).1 (mj X elt).1 (fun z _=>(mj X z).2) hA C M0 r0 r1 r2 f hx e1 fun D L μ' s' m hv nx xx rv hL ho hg hn=>?_);show wpAny _ _ (assign (.Name y py) env (.ref D.2)) (fun _ QO=>∃ m,QO.heap.Ns L m/\∀ h',Heap.SameBut L QO.heap h'->_) _ _;have f1:=f.next nx.n;have QP:env.locals≠L:=fun q=>aM f.ns fun m' z _=>uB z fun o' _ _ rI _=>ca (q▸hL) rI;have QQ:∀ z a,env.cells.lookup z=some a->a≠L:=fun z a q q'=>iU (f.qo z a q).2.2.2 fun _ w=>ca (q'▸hL) w;refine wpAny_assign_Name (fP f1 xx h1 rv fun LY t d hd n2 x2 f2 hT=>?_);have Ss:L≠d:=hd.elim (fun q w=>QP (w.trans q).symm) fun q w=>QQ _ _ q.2 w.symm;have zU:LY.Ns L m:=hn.at' fun o q=>n2.keep L o q ho Ss;exact ⟨m,zU,fun h3 Py=>wpAny_pure (wpAny_pure ⟨μ',⟨(nx.n.any.trans (n2.weaken fun b q=>q▸vc hd)).done hL Py.extBut,nx.g,nx.o⟩,x2.Hr Py.extBut ho hg (qt zU),f2.ext Py.extBut QP QQ (qt zU),rfl⟩)⟩
   exact sw _ rfl
theorem Aj(X:Cx w G K mg mb n cl)(o:E)(k:Nat)(x:E):lG w G n cl (.setAttr o k x):=fun c ps hr=>rT hr fun ts v pos hr=>e1 hr (P:=fun ts=>gx w G n cl (.setAttr o k x) c (.Assign ts v pos)) fun t hr=>j2 hr (P:=fun t=>gx w G n cl (.setAttr o k x) c (.Assign [t] v pos)) fun o' a p hr=>aJ hr fun h1 hr=>aJ hr fun h2 hr=>aJ hr fun h3 hr=>aJ hr fun h4 h5=>by
 have h1:a=fV k:=eq_of_beq h1;rw[h1];refine fun env e A μ s H ou e' H' hc f hx hA he=>bq he fun v' H1 e1 he=>bq he fun ov H2 e2 he=>bc he fun H3 e3 he=>gW (P:=fun o e' H'=>wpAny (model aX w) A (exec (.Assign [.Attribute o' (fV k) p] v pos) env) (SP w G c env μ s o e' H') bM s) he ?_;refine plainObj_wpAny_Assign_Attribute (one (mj X x).1 h4 f hx hA e1 fun mv μ₁ s₁ m1 x1 r1 f1=>one (mj X o).1 h3 f1 x1 hA e2 fun mo μ₂ s₂ m2 x2 r2 f2=>?_) (iL h4 e1 (eZ h5 id) _ _ _);exact wp_mono (zT X.cls x2 r2 (r1.next' m2) h2 e3) fun _ s₃ q=>⟨μ₂,((m1.trans m2).trans q.1).any,q.2,f2.next q.1.n,rfl⟩
theorem CF(X:Cx w G K mg mb n cl)(o i x:E):lG w G n cl (.bZ o i x):=fun c ps hr=>rT hr fun ts v pos hr=>e1 hr (P:=fun ts=>gx w G n cl (.bZ o i x) c (.Assign ts v pos)) fun t hr=>fL hr (P:=fun t=>gx w G n cl (.bZ o i x) c (.Assign [t] v pos)) fun o' i' p hr=>aJ hr fun h1 hr=>aJ hr fun h2 hr=>aJ hr fun h3 h4 env e A μ s H ou e' H' hc f hx hA he=>bq he fun v' H1 e1 he=>bq he fun ov H2 e2 he=>bq he fun iv H3 e3 he=>bc he fun H4 e4 he=>
 gW (P:=fun o e' H'=>wpAny (model aX w) A (exec (.Assign [.Subscript o' i' p] v pos) env) (SP w G c env μ s o e' H') bM s) he<|wpAny_Assign_Subscript (one (mj X x).1 h3 f hx hA e1 fun mv μ₁ s₁ m1 x1 r1 f1=>one (mj X o).1 h1 f1 x1 hA e2 fun mo μ₂ s₂ m2 x2 r2 f2=>one (mj X i).1 h2 f2 x2 hA e3 fun mi μ₃ s₃ m3 x3 r3 f3=>
  bc e4 fun k hk e4=>bc e4 fun d hd e4=>cS e4 fun q e4=>aJ q fun q1 q2=>by
   have ro:=r2.next' m3;rw[iG hk] at ro;rw[<-UM e4];exact aM ro.inv fun p hp em=>em▸Cc hA.room x3 hp hd r3 (r1.next' (m2.trans m3)) q1 q2 fun h' t n4 x4=>⟨μ₃,(((m1.trans m2).trans m3).trans (⟨n4,rfl,rfl⟩:Mv gm μ₃ s₃ μ₃ { s₃ with heap:=h',toks:=t })).any,x4,f3.next n4,rfl⟩) (iL h3 e1 (eZ h4 id) _ _ _)
theorem KC(X:Cx w G K mg mb n cl)(i:Nat)(op:Bc)(x:E):lG w G n cl (.aug i op x):=fun c ps hr=>zM hr fun t o v pos hr=>aJ hr fun h1 hr=>aJ hr fun h2 h3=>eName h1 (P:=fun t=>gx w G n cl (.aug i op x) c (.AugAssign t o v pos)) fun y py h1 env e A μ s H ou e' H' hc f hx hA he=>bc he fun oo ho he=>bc he fun old hold he=>bq he fun v' H1 e1 he=>cS he fun Su he=>bc he fun a ha he=>bc he fun b hb he=>
 gW (P:=fun ou e' H'=>wpAny (model aX w) A (exec (.AugAssign (.Name y py) o v pos) env) (SP w G c env μ s ou e' H') bM s) he<|by
  rw[UU h2,DT Su];rw[hold,iF ha] at ho;rw[iF hb] at e1;refine wpAny_AugAssign_Name (yo f h1 ho fun mo ro=>one (mj X x).1 h3 f hx hA e1 fun mv μ₁ s₁ m1 x1 r1 f1=>?_);refine cX ro.inv fun t1 q1=>cX r1.inv fun t2 q2=>?_;rw[q1,q2];exact wpAny_iadd_int (fP (s:={ s₁ with toks:=s₁.toks+1 }) f1 x1 h1 (.int _ _) fun h' t d hd n2 x2 f2 hT=>⟨μ₁,⟨m1.n.any.trans (n2.weaken fun b q=>q▸vc hd),m1.g,m1.o⟩,x2,f2,rfl⟩)
end
end
section
open PySem PySem.W PySem.Calls PyProof.Rows PySem.SeqAt
section
variable{w:World}{G:Heap}{n:Nat}{cl:Nat->List V->Hp->Option (V×Hp)}{K:Frag}{mg mb:Str->Option Value}{μ μ₁ μ':Mu}{s s₁:Shared}{A:Around}{H:Hp}{h h' h₀:Heap}
 {c:Ctx} {env:Env} {e:aU}
noncomputable def SU(w:World)(G:Heap)(c:Ctx)(env:Env)(μ:Mu)(H:Hp)(s:Shared)(e':aU)(s':Shared):Prop:=Mv (SF env) μ s μ s'/\HR w G μ s'.heap H/\FR G μ s'.heap c env e'
theorem pI{i:Nat}{is:List Nat}{es:List PySem.Expr}(h:oF c (i::is) es=true){P:List PySem.Expr->Prop}(k:∀ y p es,fM c i y=true->oF c is es=true->P (.Name y p::es)):P es:=
 eC h fun e r h=>aJ h fun h1 h2=>eName h1 (P:=fun e=>P (e::r)) fun y p h1=>k y p r h1 h2
theorem EX(is:List Nat):∀ {es:List PySem.Expr},oF c is es=true->is.length=es.length:=
 List.rec (motive:=fun is=>∀ {es:List PySem.Expr},oF c is es=true->is.length=es.length) (fun {es} h=>eN h (P:=fun es=>0=es.length) rfl) (fun i is ih {es} h=>pI h (P:=fun es=>is.length+1=es.length) fun _ _ _ _ h2=>congrArg (·+1) (ih h2)) is
theorem vd(is:List Nat):∀ {es:List PySem.Expr},oF c is es=true->(assignEach es env).length=es.length/\(assignEach es env).findIdx? (·.1)=none:=
 List.rec (motive:=fun is=>∀ {es:List PySem.Expr},oF c is es=true->(assignEach es env).length=es.length/\(assignEach es env).findIdx? (·.1)=none) (fun {es} h=>eN h (P:=fun es=>(assignEach es env).length=es.length/\(assignEach es env).findIdx? (·.1)=none) ⟨rfl,rfl⟩)
  (fun i is ih {es} h=>pI h (P:=fun es=>(assignEach es env).length=es.length/\(assignEach es env).findIdx? (·.1)=none) fun y p es _ h2=>⟨congrArg (·+1) (ih h2).1,by
   show ((false,assign (.Name y p) env)::assignEach es env).findIdx? (·.1)=none;rw[List.findIdx?_cons,(ih h2).2];rfl⟩) is
theorem yE{E:Value->Shared->Prop}(is:List Nat):∀ {es:List PySem.Expr},oF c is es=true->∀ {vs:List V} {ms:List Value} {e e':aU} {s:Shared},bindM is vs e=some e'->dh G μ s.heap vs ms->FR G μ s.heap c env e->HR w G μ s.heap H->
  wpAny (model aX w) A (assignInOrder ((assignEach es env).map (·.2)) ms) (fun _ s'=>SU w G c env μ H s e' s') E s:=
 List.rec (motive:=fun is=>∀ {es:List PySem.Expr},oF c is es=true->∀ {vs:List V} {ms:List Value} {e e':aU} {s:Shared},bindM is vs e=some e'->dh G μ s.heap vs ms->FR G μ s.heap c env e->HR w G μ s.heap H->
  wpAny (model aX w) A (assignInOrder ((assignEach es env).map (·.2)) ms) (fun _ s'=>SU w G c env μ H s e' s') E s)
  (fun {es} h {vs ms e e' s} hb hv f x=>eN h (P:=fun es=>wpAny (model aX w) A (assignInOrder ((assignEach es env).map (·.2)) ms) (fun _ s'=>SU w G c env μ H s e' s') E s) (cS hb fun hz hb=>by
   rw[qG hz] at hv;rw[hv.zero,<-UM hb];exact wpAny_pure ⟨Mv.refl,x,f⟩))
  (fun i is ih {es} h {vs ms e e' s} hb hv f x=>pI h (P:=fun es=>wpAny (model aX w) A (assignInOrder ((assignEach es env).map (·.2)) ms) (fun _ s'=>SU w G c env μ H s e' s') E s) fun y py es h1 h2=>by
   cases vs with
   | nil=>exact fJ hb
   | cons v vs=>
     refine cS hb fun _ hb=>hv.two (P:=fun ms=>wpAny (model aX w) A (assignInOrder ((assignEach (.Name y py::es) env).map (·.2)) ms) (fun _ s'=>SU w G c env μ H s e' s') E s) fun mv ml hv hl=>?_;show wpAny _ _ (holding ml (assign (.Name y py) env mv) >>= fun _=>assignInOrder ((assignEach es env).map (·.2)) ml) _ _ _;refine wpAny_bind (wpAny_holding (wpAny_assign_Name (fP f x h1 hv fun h' t d hd n2 x2 f2 hT=>?_)));exact wpAny_mono (ih h2 (s:={ s with heap:=h',toks:=t }) hb (hl.next n2 fun b items q=>q▸hT items) f2 x2) (fun _ s' q=>fU q fun a1 a4 a5=>⟨⟨(n2.weaken fun b q=>q▸vc hd).trans a1.n,a1.g,a1.o⟩,a4,a5⟩) fun _ _ q=>q) is
theorem mI(is:List Nat):∀ {l:List V} {e e':aU},bindM is l e=some e'->is.length=l.length:=
 List.rec (motive:=fun is=>∀ {l:List V} {e e':aU},bindM is l e=some e'->is.length=l.length) (fun {l e e'} h=>cS h fun hz _=>by rw[qG hz];rfl) (fun i is ih {l e e'} h=>by
  cases l with
  | nil=>exact fJ h
  | cons a l=>exact cS h fun _ h=>congrArg (·+1) (ih h)) is
theorem ve(hA:A.handled=none){t:Tg}{pe:PySem.Expr}{v:V}{mv:Value}{e':aU}{E:Value->Shared->Prop}(h:DD c t pe=true)(hb:cP t v e=some e')(hv:VR G μ s.heap v mv)(f:FR G μ s.heap c env e)(x:HR w G μ s.heap H) :
  wpAny (model aX w) A (assign pe env mv) (fun _ s'=>SU w G c env μ H s e' s') E s:=by
 cases t with
 | one i=>exact eName h (P:=fun pe=>wpAny (model aX w) A (assign pe env mv) (fun _ s'=>SU w G c env μ H s e' s') E s) fun y py h=>cS hb fun _ hb=>UM hb▸wpAny_assign_Name (fP f x h hv fun h' t d hd n2 x2 f2 hT=>⟨⟨n2.weaken fun b q=>q▸vc hd,rfl,rfl⟩,x2,f2⟩)
 | many is=>
   refine qe h (P:=fun pe=>wpAny (model aX w) A (assign pe env mv) (fun _ s'=>SU w G c env μ H s e' s') E s) fun es k pos h=>bc hb fun l hl hb=>fH ((vH hl▸hv:VR G μ s.heap (.tup l) mv).inv) fun a items q ht _ hl=>q▸
   wpAny_assign_Tuple hA ht ((vd (env:=env) is h).1.trans ((EX is h).symm.trans ((mI is hb).trans (hl.length.trans Array.length_toList)))) (vd is h).2 fun h' hk=>?_
   have k:∀ b o,s.heap.get? b=some o->h'.get? b=some o:=fun b o eb=>hk b o (Nat.ne_of_lt (Heap.lt_size eb)) eb;have nx:bu gm μ s.heap μ h':=bu.of_keeps k;exact wpAny_mono (yE is h (s:={ s with heap:=h' }) hb (hl.nx nx) (f.next nx) (x.keeps k)) (fun _ s' q=>fU q fun a1 a4 a5=>⟨⟨nx.any.trans a1.n,a1.g,a1.o⟩,a4,a5⟩) fun _ _ q=>q
theorem KD{I:Addr}{x:V}{vs:List V}{i:Nat}(it:kc G μ h I x vs i):∃ o T vs,h.get? I=some o/\o.cls=.type T/\o.data=.fields vs/\(["enumerate","zip","dict_itemiterator","dict_reverseitemiterator","odict_iterator","itertools.zip_longest","itertools.pairwise"].contains T)=false:=by
 have it:=it.2.2;cases x with
 | tup l=>exact xQ it.2 fun a items uF _=>dj uF fun o ho hc hd=>⟨o,_,_,ho,hc,hd,by decide⟩
 | obj n=>exact aM it fun a _ uF=>dj uF fun o ho hc hd=>⟨o,_,_,ho,hc,hd,by decide⟩
 | _=>exact it.elim
theorem HB{t:Tg}{pe:PySem.Expr}(h:DD c t pe=true){I:Addr}{x:V}{vs:List V}{i:Nat}(it:kc G μ s.heap I x vs i)(mv:Value){Q:Unit->Shared->Prop}{E:Value->Shared->Prop}(hq:Q () s):wpAny (model aX w) A (letOwnedTupleGo pe (.ref I) mv) Q E s:=by
 cases t with
 | one i=>exact eName h (P:=fun pe=>wpAny (model aX w) A (letOwnedTupleGo pe (.ref I) mv) Q E s) fun _ _ _=>wpAny_pure hq
 | many is=>
  refine qe h (P:=fun pe=>wpAny (model aX w) A (letOwnedTupleGo pe (.ref I) mv) Q E s) fun es k pos h=>?_;refine dP (KD it) fun o T vs ho hc hd Kd=>?_;cases mv with
  | ref a=>
   unfold letOwnedTupleGo;refine wpAny_bind (wpAny_load ho ?_);rw[hc,hd];show wpAny _ _ (if ((["enumerate","zip","dict_itemiterator","dict_reverseitemiterator","odict_iterator","itertools.zip_longest","itertools.pairwise"].contains T)&&_)=true then _ else _) _ _ _;rw[Kd];exact wpAny_pure hq
  | _=>exact wpAny_pure hq
end
end
section
open PySem PySem.W PySem.Calls PyProof.Rows PySem.SeqAt
section
variable{w:World}{G:Heap}{n:Nat}{cl:Nat->List V->Hp->Option (V×Hp)}{K:Frag}{mg mb:Str->Option Value}{μ μ₁ μ':Mu}{s s₁:Shared}{A:Around}{H:Hp}{h h' h₀:Heap}
 {c:Ctx} {env:Env} {e:aU}
structure Ak(w:World)(G:Heap)(I:Addr)(vs:List V)(same:Hp->Bool)(P:Mu->Heap->Nat->Prop):Prop where
 own:∀ {μ h i},P μ h i->¬ Own μ I/\G.get? I=none/\(∃ o,h.get? I=some o)/\∀ items,¬ h.IsTuple I items
 next:∀ {S:Addr->Prop} {μ h μ' h' i},P μ h i->bu S μ h μ' h'->¬ S I->(∀ b items,S b->¬ h.IsTuple b items)->P μ' h' i
 item:∀ {A:Around} {μ:Mu} {s:Shared} {H:Hp} {i:Nat} {y:V} {Q:Option Value->Shared->Prop} {E:Value->Shared->Prop},HR w G μ s.heap H->P μ s.heap i->same H=true->vs[i]?=some y->
  (∀ mv h' t,VR G μ h' y mv->bu (fun b=>b=I) μ s.heap μ h'->HR w G μ h' H->P μ h' (i+1)->Q (some mv) { s with heap:=h',toks:=t })->wpAny (model aX w) A (pyNext (.ref I)) Q E s
 done:∀ {A:Around} {μ:Mu} {s:Shared} {H:Hp} {i:Nat} {Q:Option Value->Shared->Prop} {E:Value->Shared->Prop},A.handled=none->HR w G μ s.heap H->P μ s.heap i->same H=true->vs[i]?=none->
  (∀ h',Heap.ExtBut I s.heap h'->HR w G μ h' H->Q none { s with heap:=h' })->wpAny (model aX w) A (pyNext (.ref I)) Q E s
theorem EY(I:Addr)(x:V)(vs:List V):Ak w G I vs (cV x vs) (fun μ h i=>kc G μ h I x vs i) where
 own:=fun t=>⟨t.1,t.2.1,aM t.obj fun o ho _=>⟨o,ho⟩,t.jN⟩
 next:=fun t n h1 h2=>t.next n h1 h2
 item:=fun {A μ s H i y Q E} x t hs hy h=>yw x t hs hy fun mv h' a b c d=>h mv h' s.toks a b c d
 done:=fun hA x t hs hy h=>yy hA x t hs hy h
theorem kg{I:Addr}{a b c:Int}(t:IsRangeIter h I a b c)(items:Array Value)(ht:h.IsTuple I items):False:=
 dj ht fun o ho hc _=>by
  unfold IsRangeIter at t;have q:=UM (t.symm.trans ho);exact ye (s:="range_iterator") (t:="tuple") (by decide) ((congrArg Obj.cls q).trans hc)
theorem n9{I:Addr}{a b c:Int}(t:IsRangeIter h I a b c):∃ o,h.get? I=some o:=⟨_,t⟩
theorem Al(I:Addr)(k:Nat):Ak w G I (vN k) (fun _=>true) (fun μ h i=>¬ Own μ I/\G.get? I=none/\IsRangeIter h I ((0:Int)+(i:Nat) * 1) ((k:Int) - (i:Nat)) 1) where
 own:=fun {μ h i} t=>⟨t.1,t.2.1,n9 t.2.2,kg t.2.2⟩
 next:=fun {S μ h μ' h' i} t n h1 h2=>⟨fun q=>(n.fresh I q).elim t.1 fun z=>(n9 t.2.2).elim fun _ w=>ca z w,t.2.1,n.keep I _ t.2.2 t.1 h1⟩
 item:=fun {A μ s H i y Q E} x t hs hy h=>by
  rw[vN,List.getElem?_map] at hy;refine aM (Option.map_eq_some_iff.mp hy) fun j hj ey=>?_;have rL:i<k:=List.length_range (n:=k)▸(UW hj).1;have ej:i=j:=(List.getElem_range _).symm.trans (UW hj).2;refine wpAny_pyNext_range_item t.2.2 (Int.sub_pos.mpr (Int.ofNat_lt.mpr rL)) fun h' yx mU=>?_;have nx:bu (fun b=>b=I) μ s.heap μ h':=bu.of_same mU ((n9 yx).elim fun _ w=>cK w) rfl;have e1:(0:Int)+((i+1:Nat):Int) * 1=0+(i:Int) * 1+1:=by rw[Int.mul_one,Int.mul_one,Int.zero_add,Int.zero_add];rfl
  have e2:(k:Int) - ((i+1:Nat):Int)=(k:Int) - (i:Int) - 1:=(Int.sub_sub (k:Int) i 1).symm;have e3:(0:Int)+(i:Int) * 1=(i:Int):=by rw[Int.mul_one,Int.zero_add]
  refine h _ h' _ ?_ nx (x.Hr mU.extBut t.1 t.2.1 (kg t.2.2)) ⟨t.1,t.2.1,by rw[e1,e2];exact yx⟩;rw[e3,<-ey,<-ej];exact .int _ _
 done:=fun {A μ s H i Q E} hA x t hs hy h=>by
  rw[vN,List.getElem?_eq_none_iff,UQ,List.length_range] at hy;exact wpAny_pyNext_range_end hA t.2.2 (Int.sub_nonpos_of_le (Int.ofNat_le.mpr hy)) fun h' MU=>h h' MU (x.Hr MU t.1 t.2.1 (kg t.2.2))
noncomputable abbrev QR(cl:Nat->List V->Hp->Option (V×Hp))(t:Tg)(b:List S):V->aU->Hp->SR:=fun v e h=>(cP t v e).bind fun e=>aR (mf cl) b e h
noncomputable def EZ(w:World)(G:Heap)(cl:Nat->List V->Hp->Option (V×Hp))(c:Ctx)(env:Env)(t:Tg)(b:List S)(same:Hp->Bool)(P:Mu->Heap->Nat->Prop)(I:Addr)(vs:List V)(o:Out)(e':aU)(Hf:Hp)(μ₀:Mu)(s₀:Shared)(i:Nat)(s:Shared):Prop:=
 i<=vs.length/\∃ μ H e,Mv (fun b=>SF env b∨b=I) μ₀ s₀ μ s/\HR w G μ s.heap H/\P μ s.heap i/\FR G μ s.heap c env e/\same H=true/\eQ same (QR cl t b) (vs.drop i) e H=some ((o,e'),Hf)
theorem yF{t:Tg}{b:List S}{same:Hp->Bool}{P:Mu->Heap->Nat->Prop}{I:Addr}{vs:List V}{o:Out}{e':aU}{Hf:Hp}{μ₀:Mu}{s₀:Shared}{t':PySem.Expr}{b':List Stmt}{R:Result->Shared->Prop}
  (hA:dQ A n) (hc:sf c env) (K:Ak w G I vs same P) (hb:lg w G n cl b) (r1:DD c t t'=true) (r2:m7 gU b c b'=true)
  (Sv:∀ {μ:Mu} {s:Shared} {i:Nat} (mv:Value) {Q:Unit->Shared->Prop} {E:Value->Shared->Prop},P μ s.heap i->Q () s->wpAny (model aX w) A (letOwnedTupleGo t' (.ref I) mv) Q E s)
  (hI:s₀.heap.get? I=none) (Oz:¬ SF env I) (fin:∀ f s',SP w G c env μ₀ s₀ o e' Hf f s'->R (.ok f) s') (h0:EZ w G cl c env t b same P I vs o e' Hf μ₀ s₀ 0 s) :
  codeAny (model aX w) A (.forLoop t' (.ref I) b' [] env) R s:=by
 refine codeAny_forLoop_any (fun k s'=>∃ i,k=vs.length - i/\EZ w G cl c env t b same P I vs o e' Hf μ₀ s₀ i s') (fun k s₁ z=>aM z fun i ek z=>bY z fun hle z=>lC z fun μ H e nx hr it fr MY hl=>?_) _ ⟨0,rfl,h0⟩;rw[ek];have q4:=(K.own it).2.2.2;have QS:env.locals≠I:=fun q=>Oz (.inl q.symm);have Ox:∀ z a,env.cells.lookup z=some a->a≠I:=fun z a q w=>Oz (.inr ⟨z,w▸q⟩);have out:∀ {b},SF env b∨b=I->SF env b∨s₀.heap.get? b=none:=fun q=>q.imp id fun q=>(congrArg s₀.heap.get? q).trans hI
 by_cases rL:i<vs.length
 ·rw[Bu rL] at hl;refine bq hl fun r H1 hf hl=>bc hf fun e2 E0 hf=>K.item hr it MY (List.getElem?_eq_getElem rL) fun mv h1 t1 rv n1 x1 p1=>?_;have Oy:FR G μ h1 c env e:=fr.D2 n1 (fun q=>QS q) Ox (fun b items q=>q▸q4 items);refine Sv (s:={ s₁ with heap:=h1,toks:=t1 }) mv p1 (wpAny_mono (ve (s:={ s₁ with heap:=h1,toks:=t1 }) hA.handled r1 E0 rv Oy x1) (fun _ s₂ q=>fU q fun m2 x2 L7=>?_) fun _ _ q=>q);have p2:=K.next p1 m2.n Oz (yz Oy hc);obtain ⟨o1,e1⟩:=r;refine wp_mono (hb c b' r2 env e2 A μ s₂ H o1 e1 H1 hc L7 x2 hA hf) fun f s₃ q=>nY q fun μ₃ m3 x3 MZ rf=>?_;have nA:Mv (fun b=>SF env b∨b=I) μ₀ s₀ μ₃ s₃:=⟨((nx.n.trans (n1.weaken fun b q=>.inr q)).trans (m2.n.weaken fun b q=>.inl q)).trans (m3.n.weaken fun b q=>.inl q),m3.g.trans (m2.g.trans nx.g),m3.o.trans (m2.o.trans nx.o)⟩;have on:(if same H1=true then eQ same (QR cl t b) (vs.drop (i+1)) e1 H1 else none)=some ((o,e'),Hf)->∃ m,m<vs.length - i/\∃ i',m=vs.length - i'/\EZ w G cl c env t b same P I vs o e' Hf μ₀ s₀ i' s₃:=
   fun q=>cS q fun hs q=>⟨_,yB rL,i+1,rfl,rL,μ₃,H1,e1,nA,x3,K.next p2 m3.n Oz (yz L7 hc),MZ,hs,q⟩
  cases o1 with
  | ret v=>
   refine aM (rf:∃ mv,f=.ret mv/\VR G μ₃ s₃.heap v mv) fun mv ef rf=>?_;rw[ef];exact fin _ _ (gW (P:=fun o e' Hf=>SP w G c env μ₀ s₀ o e' Hf (.ret mv) s₃) hl ⟨μ₃,⟨nA.n.forget fun b q=>out q,nA.g,nA.o⟩,x3,MZ,mv,rfl,rf⟩)
  | next=>rw[(rf:f=.next)];exact on hl
  | cont=>rw[(rf:f=.cont)];exact on hl
 ·have hi:i=vs.length:=Nat.le_antisymm hle (Nat.not_lt.mp rL);rw[hi,List.drop_length] at hl;refine K.done hA.handled hr it MY (List.getElem?_eq_none (Nat.not_lt.mp rL)) fun h' hk x'=>wpAny_execs_nil (fin _ _ ?_);exact gW (P:=fun o e' Hf=>SP w G c env μ₀ s₀ o e' Hf .next _) hl ⟨μ,⟨(nx.n.done hI hk).forget fun b q=>out q,nx.g,nx.o⟩,x',fr.ext hk QS Ox q4,rfl⟩
theorem E4(f:FR G μ h c env e){I:Addr}(hI:h.get? I=none):¬ SF env I:=fun q=>q.elim (fun q=>aM f.ns fun m' z _=>uB z fun o' _ _ rI _=>ca (q▸hI) rI) fun q=>cX q fun x q=>iU (f.qo x I q).2.2.2 fun _ w=>ca hI w
theorem HC(X:Cx w G K mg mb n cl)(t:Tg)(it:E){b:List S}(hb:lg w G n cl b):lG w G n cl (.gN t it b):=fun c ps hr=>MD hr fun t' oB b' oe pos hr=>aJ hr fun ho hr=>aJ hr fun h1 hr=>aJ hr fun h2 h3=>eN ho (P:=fun oe=>gx w G n cl (.gN t it b) c (.For t' oB b' oe pos)) fun env e A μ s H ou e' H' hc f hx hA he=>bq he fun xv H1 e1 he=>bc he fun vs Kv he=>
 wpAny_For (one (mj X it).1 h2 f hx hA e1 fun mx μ₁ s₁ m1 x1 r1 f1=>Bs x1 r1 Kv fun I s₂ m2 x2 hI t2=>
  yF (o:=ou) (e':=e') (Hf:=H') (μ₀:=μ₁) (s₀:=s₁) hA hc (EY I xv vs) hb h1 h3 (fun mv _ _ hp hq=>HB h1 hp mv hq) hI (E4 f1 hI) (fun fl s' q=>q.after m1.any)
   ⟨Nat.zero_le _,μ₁,H1,e,m2.any,x2,t2,f1.next m2.n,tT Kv,by rw[List.drop_zero];exact he⟩) (rA h2 e1)
theorem HD(X:Cx w G K mg mb n cl)(i:Nat)(nn:E){b:List S}(hb:lg w G n cl b):lG w G n cl (.rH i nn b):=fun c ps hr=>MD hr fun t' oB b' oe pos hr=>aJ hr fun ho hr=>aJ hr fun h1 hr=>aJ hr fun h2 h5=>eN ho (P:=fun oe=>gx w G n cl (.rH i nn b) c (.For t' oB b' oe pos))<|
  eB h2 (P:=fun oB=>gx w G n cl (.rH i nn b) c (.For t' oB b' [] pos)) fun n' px pc h2 h4 h3 env e A μ s H ou e' H' hc f hx hA he=>bq he fun xv H1 e1 he=>bc he fun k hk he=>cS he fun q he=>aJ q fun q0 q1=>by
 rw[iF hk] at e1;refine wpAny_For (wpAny_Call_Name_kw (pG X.gn hx f h2 X.gn.bl.2.2.2.2.2.2.1 X.gn.bl.2.2.2.2.2.2.2 ?_)) (fun _=>rfl);rw[cN h4];refine callWith_of (P:=fun _=>True) rfl (fun hh _=>⟨.machine,.inr (.inl rfl),Looks.of_pure rfl⟩) ?_;refine Calls.evalArgs_plain (Calls.spliced_cons (one (mj X nn).1 h3 f hx hA e1 fun mx μ₁ s₁ m1 x1 r1 f1=>Calls.spliced_nil ⟨trivial,?_⟩));refine cX r1.inv fun tk em=>?_;rw[em];refine call_range_1 ?_;have k0:0<=k:=UU q0;refine wpAny_pyIter_range (IsRange.new _ _ _ _ _ _ _) (small_one (by decide) (by decide) (Int.le_trans (show (-(2 ^ 62):Int)<=0 by decide) k0) (Int.lt_trans (UU q1) (by decide))) ?_;have LX:Builtin.Range.rangeSize 0 k 1=((k.toNat:Nat):Int):=by rw[rangeSize_one,Int.toNat_of_nonneg k0];split<;>lia
 rw[LX]
 generalize Sw:s₁.heap.push { cls:=.type "range",data:=.fields #[.int 0 s₁.toks,.int k tk,.int 1 (s₁.toks+1)] }=Jl
 have k1:∀ b o,s₁.heap.get? b=some o->Jl.get? b=some o:=Sw▸bK _;have x2:HR w G μ₁ Jl H1:=x1.keeps k1;have nx:bu gm μ₁ s₁.heap μ₁ (Jl.push { cls:=.type "range_iterator",data:=.fields #[rawInt 0,rawInt ((k.toNat:Nat):Int),rawInt 1] }):=bu.of_keeps fun b o q=>bK _ _ _ (k1 b o q);have hI:s₁.heap.get? Jl.objs.size=none:=by
  cases q:s₁.heap.get? Jl.objs.size with
  | none=>rfl
  | some o=>exact ca (b7 Jl) (k1 _ _ q)
 refine yF (o:=ou) (e':=e') (Hf:=H') (μ₀:=μ₁) (s₀:=s₁) (t:=.one i) hA hc (Al Jl.objs.size k.toNat) hb h1 h5 (fun mv Q E hp hq=>eName h1 (P:=fun t'=>wpAny (model aX w) A (letOwnedTupleGo t' (.ref Jl.objs.size) mv) Q E _) fun _ _ _=>wpAny_pure hq) hI (E4 f1 hI) (fun fl s' q=>q.after m1.any)
  ⟨Nat.zero_le _,μ₁,H1,e,⟨nx.any,rfl,rfl⟩,x2.keeps (bK _),⟨x2.dB (b7 _),x2.jO (b7 _),?_⟩,f1.next nx,rfl,by rw[List.drop_zero];exact he⟩
 unfold IsRangeIter;rw[Heap.get?_push_size _ rfl];rfl
theorem HE{t:E}{e:aU}{H H':Hp}{b:Bool}(he:oD (mf cl) t e H=some (b,H')){G:Prop}(k:∀ v,ba (mf cl) t e H=some (v,H')->truth v H'=some b->G):G:=
 bq he fun v h1 e1 he=>xS (P:=fun H'=>(∀ v,ba (mf cl) t e H=some (v,H')->truth v H'=some b->G)->G) he (fun ht k=>k v e1 ht) k
noncomputable def Pz(w:World)(G:Heap)(cl:Nat->List V->Hp->Option (V×Hp))(c:Ctx)(env:Env)(t:E)(b:List S)(r:(Out×aU)×Hp)(μ:Mu)(s:Shared)(k:Nat)(s':Shared):Prop:=
 ∃ μ₁ H₁ e₁,Mv (SF env) μ s μ₁ s'/\HR w G μ₁ s'.heap H₁/\FR G μ₁ s'.heap c env e₁/\hJ (oD (mf cl) t) (fun e h=>aR (mf cl) b e h) k e₁ H₁=some r
theorem HF(X:Cx w G K mg mb n cl)(fuel:Nat)(t:E){b:List S}(hb:lg w G n cl b):lG w G n cl (.uC fuel t b):=fun c ps hr=>J5 hr fun t' b' oe pos hr=>aJ hr fun ho hr=>aJ hr fun h1 h2=>eN ho (P:=fun oe=>gx w G n cl (.uC fuel t b) c (.While t' b' oe pos)) fun env e A μ s H ou e' H' hc f hx hA he=>by
 refine wpAny_While (codeAny_whileLoop (Pz w G cl c env t b ((ou,e'),H') μ s) (fun k s₁ z=>dP z fun μ₁ H₁ e₁ nx x1 f1 hl=>?_) fuel ⟨μ,H,e,Mv.refl,hx,f,he⟩);cases k with
 | zero=>exact fJ hl
 | succ k=>
  refine bq hl fun bo H3 Dj hl=>HE Dj fun v e1 ht=>?_;refine yp (mj X t).2 h1 f1 x1 hA e1 ht fun μ₂ s₂ m2 x2 f2=>?_;have n2:=nx.trans m2.any;cases bo with
  | false=>
   rw[if_neg Bool.false_ne_true];exact wpAny_execs_nil (gW (P:=fun o e' H'=>SP w G c env μ s o e' H' .next s₂) hl ⟨μ₂,n2,x2,f2,rfl⟩)
  | true=>
   rw[if_pos rfl];refine bq hl fun r H4 hf hl=>?_;obtain ⟨o1,e2⟩:=r;refine wp_mono (hb c b' h2 env e₁ A μ₂ s₂ H3 o1 e2 H4 hc f2 x2 hA hf) fun fl s₃ q=>nY q fun μ₃ m3 x3 f3 rf=>?_;have n3:=n2.trans m3;cases o1 with
   | ret v=>
    refine aM (rf:∃ mv,fl=.ret mv/\VR G μ₃ s₃.heap v mv) fun mv ef rf=>?_;rw[ef];exact gW (P:=fun o e' H'=>SP w G c env μ s o e' H' (.ret mv) s₃) hl ⟨μ₃,n3,x3,f3,mv,rfl,rf⟩
   | next=>rw[(rf:fl=.next)];exact ⟨k,Nat.lt_succ_self _,μ₃,H4,e2,n3,x3,f3,hl⟩
   | cont=>rw[(rf:fl=.cont)];exact ⟨k,Nat.lt_succ_self _,μ₃,H4,e2,n3,x3,f3,hl⟩
end
end
section
open PySem PySem.W PySem.Calls PyProof.Rows PySem.SeqAt
section
variable{w:World}{G:Heap}{n:Nat}{cl:Nat->List V->Hp->Option (V×Hp)}{K:Frag}{mg mb:Str->Option Value}{μ μ₁ μ':Mu}{s s₁:Shared}{A:Around}{H:Hp}{h h' h₀:Heap}
 {c:Ctx} {env:Env} {e:aU}
noncomputable def mV(c:Ctx):List Nat->List Str->Prop
 | [],l=>l=[]
 | i::is,l=>∃ y ys,l=y::ys/\fM c i y=true/\mV c is ys
noncomputable def fZ:List Nat->List V->aU->aU
 | [],_,e=>e
 | i::is,l,e=>match l with
  | []=>e
  | v::vs=>fZ is vs (e.set i (some v))
theorem wu{E:Value->Shared->Prop}(is:List Nat):∀ {ys:List Str},mV c is ys->∀ {vs:List V} {ms:List Value} {e:aU} {s:Shared},is.length=vs.length->dh G μ s.heap vs ms->FR G μ s.heap c env e->HR w G μ s.heap H->
  wpAny (model aX w) A (assignInOrder (ys.map fun n=>bindName env n) ms) (fun _ s'=>SU w G c env μ H s (fZ is vs e) s') E s:=
 List.rec (motive:=fun is=>∀ {ys:List Str},mV c is ys->∀ {vs:List V} {ms:List Value} {e:aU} {s:Shared},is.length=vs.length->dh G μ s.heap vs ms->FR G μ s.heap c env e->HR w G μ s.heap H->
  wpAny (model aX w) A (assignInOrder (ys.map fun n=>bindName env n) ms) (fun _ s'=>SU w G c env μ H s (fZ is vs e) s') E s)
  (fun {ys} h {vs ms e s} hb hv f x=>by
   rw[List.eq_nil_of_length_eq_zero hb.symm] at hv;rw[(h:ys=[]),hv.zero];exact wpAny_pure ⟨Mv.refl,x,f⟩)
  (fun i is ih {ys} h {vs ms e s} hb hv f x=>fG h fun y ys ey h1 h2=>by
   cases vs with
   | nil=>exact absurd hb (Nat.succ_ne_zero _)
   | cons v vs=>
    rw[ey];refine hv.two (P:=fun ms=>wpAny (model aX w) A (assignInOrder ((y::ys).map fun n=>bindName env n) ms) (fun _ s'=>SU w G c env μ H s (fZ (i::is) (v::vs) e) s') E s) fun mv ml hv hl=>?_;show wpAny _ _ (holding ml (bindName env y mv) >>= fun _=>assignInOrder (ys.map fun n=>bindName env n) ml) _ _ _;refine wpAny_bind (wpAny_holding (wpAny_bindName (fP f x h1 hv fun h' t d hd n2 x2 f2 hT=>?_)));exact wpAny_mono (ih h2 (s:={ s with heap:=h',toks:=t }) (Nat.succ.inj hb) (hl.next n2 fun b items q=>q▸hT items) f2 x2) (fun _ s' q=>fU q fun a1 a4 a5=>⟨⟨(n2.weaken fun b q=>q▸vc hd).trans a1.n,a1.g,a1.o⟩,a4,a5⟩) fun _ _ q=>q) is
theorem E9(i:Nat)(v:V)(is:List Nat):∀ {vs:List V} {e:aU},is.length=vs.length->fZ (is++[i]) (vs++[v]) e=(fZ is vs e).set i (some v):=
 List.rec (motive:=fun is=>∀ {vs:List V} {e:aU},is.length=vs.length->fZ (is++[i]) (vs++[v]) e=(fZ is vs e).set i (some v)) (fun {vs e} h=>by rw[List.eq_nil_of_length_eq_zero h.symm];rfl) (fun j is ih {vs e} h=>by
  cases vs with
  | nil=>exact absurd h (Nat.succ_ne_zero _)
  | cons u vs=>exact ih (Nat.succ.inj h)) is
theorem Fa(i:Nat)(v:V)(is:List Nat):i∉is->∀ {vs:List V} {e:aU},fZ is vs (e.set i (some v))=(fZ is vs e).set i (some v):=
 List.rec (motive:=fun is=>i∉is->∀ {vs:List V} {e:aU},fZ is vs (e.set i (some v))=(fZ is vs e).set i (some v)) (fun _ {_ _}=>rfl) (fun j is ih h {vs e}=>by
  cases vs with
  | nil=>rfl
  | cons u vs=>
   show fZ is vs ((e.set i (some v)).set j (some u))=_;rw[List.set_comm _ _ fun q:i=j=>h (q▸.head _)];exact ih fun q=>h (.tail _ q)) is
theorem Fb(is:List Nat):is.Nodup->∀ {vs:List V} {e:aU},is.length=vs.length->fZ is.reverse vs.reverse e=fZ is vs e:=
 List.rec (motive:=fun is=>is.Nodup->∀ {vs:List V} {e:aU},is.length=vs.length->fZ is.reverse vs.reverse e=fZ is vs e) (fun _ {_ _} _=>rfl) (fun j is ih h {vs e} hl=>by
  rw[List.nodup_cons] at h;cases vs with
  | nil=>exact absurd hl (Nat.succ_ne_zero _)
  | cons u vs=>
   have hl:=Nat.succ.inj hl;rw[List.reverse_cons,List.reverse_cons,E9 _ _ _ (by rw[List.length_reverse,List.length_reverse,hl]),ih h.2 hl];exact (Fa j u is h.1).symm) is
theorem Am(is:List Nat):∀ {vs:List V} {e e':aU},bindM is vs e=some e'->fZ is vs e=e':=
 List.rec (motive:=fun is=>∀ {vs:List V} {e e':aU},bindM is vs e=some e'->fZ is vs e=e') (fun {vs e e'} h=>cS h fun _ h=>UM h) (fun i is ih {vs e e'} h=>by
  cases vs with
  | nil=>exact fJ h
  | cons a l=>exact cS h fun _ h=>ih h) is
theorem Fc(i:Nat)(y:Str)(h1:fM c i y=true)(is:List Nat):∀ {ys:List Str},mV c is ys->mV c (is++[i]) (ys++[y]):=
 List.rec (motive:=fun is=>∀ {ys:List Str},mV c is ys->mV c (is++[i]) (ys++[y])) (fun {ys} h=>⟨y,[],by rw[(h:ys=[])];rfl,h1,rfl⟩) (fun j is ih {ys} h=>fG h fun z zs e h2 h3=>⟨z,zs++[y],by rw[e];rfl,h2,ih h3⟩) is
theorem yG(is:List Nat):∀ {ys:List Str},mV c is ys->mV c is.reverse ys.reverse/\is.length=ys.length:=
 List.rec (motive:=fun is=>∀ {ys:List Str},mV c is ys->mV c is.reverse ys.reverse/\is.length=ys.length) (fun {ys} h=>by rw[(h:ys=[])];exact ⟨rfl,rfl⟩) (fun i is ih {ys} h=>fG h fun z zs e h2 h3=>by
  rw[e,List.reverse_cons,List.reverse_cons];exact ⟨Fc i z h2 _ (ih h3).1,congrArg (·+1) (ih h3).2⟩) is
theorem HG{f:PySem.Expr->Option Str}(hf:∀ y p z,f (.Name y p)=some z->y=z)(is:List Nat):∀ {es:List PySem.Expr},oF c is es=true->(es.filterMap f).length=es.length->mV c is (es.filterMap f):=
 List.rec (motive:=fun is=>∀ {es:List PySem.Expr},oF c is es=true->(es.filterMap f).length=es.length->mV c is (es.filterMap f)) (fun {es} h=>eN h (P:=fun es=>(es.filterMap f).length=es.length->mV c [] (es.filterMap f)) fun _=>rfl)
  (fun i is ih {es} h=>pI h (P:=fun es=>(es.filterMap f).length=es.length->mV c (i::is) (es.filterMap f)) fun y p es h1 h2 hl=>by
   cases q:f (.Name y p) with
   | none=>
    rw[List.filterMap_cons_none q] at hl;exact absurd (hl▸List.length_filterMap_le f es) (Nat.not_succ_le_self _)
   | some z=>
    rw[List.filterMap_cons_some q] at hl⊢;exact ⟨z,_,rfl,hf y p z q▸h1,ih h2 (Nat.succ.inj hl)⟩) is
noncomputable def L8(c:Ctx)(is:List Nat)(m:Sem (Option (List Str))):Prop:=m=pure none∨∃ names,m=pure (some names)/\mV c is names
theorem wz{α:Type}{q:Prop}[Decidable q]{a b:α}{P:α->Prop}(k:q->P a)(l:¬ q->P b):P (if q then a else b):=by
 by_cases h:q
 ·rw[if_pos h];exact k h
 ·rw[if_neg h];exact l h
theorem M8{es:List PySem.Expr}{k:Nat}{p:Pos}{pv:PySem.Expr}{P:Sem (Option (List Str))->Prop}(h:P (pure none)):(pv.ctorIdx==25)=false->P (swappedStores [.Tuple es k p] pv env):=by
 cases pv with
 | Tuple=>exact fun q=>gI q.symm
 | _=>exact fun _=>h
theorem uG(env:Env){is:List Nat}{es:List PySem.Expr}{k:Nat}{p:Pos}{pv:PySem.Expr}(hs:zO pv=true)(hr:oF c is es=true):L8 c is (swappedStores [.Tuple es k p] pv env):=
 lK hs (fun q=>eZ q fun q=>M8 (.inl rfl) q) fun hs=>qe hs (P:=fun pv=>L8 c is (swappedStores [.Tuple es k p] pv env)) fun vs k2 p2 hs=>by
  unfold swappedStores;refine wz (P:=L8 c is) (fun _=>.inl rfl) fun _=>wz (P:=L8 c is) (fun _=>.inl rfl) fun _=>wz (P:=L8 c is) (fun _=>.inl rfl) fun h3=>wz (P:=L8 c is) (fun _=>.inl rfl) fun h4=>?_;refine lK hs (fun q=>absurd q h4) fun q=>eZ q fun h5=>?_;rw[if_neg (h5▸Bool.false_ne_true)];refine .inr ⟨_,rfl,HG (fun y p z h=>?_) is hr ?_⟩
  ·dsimp only at h
   exact cS h fun _ h=>UM h
  ·refine Decidable.byContradiction fun z=>h3 ?_;rw[Bool.or_eq_true];exact .inl (bne_iff_ne.mpr z)
theorem An(X:Cx w G K mg mb n cl){is:List Nat}{x:E}{es:List PySem.Expr}{k:Nat}{p pos:Pos}{pv:PySem.Expr}{v:V}{H1:Hp}{e2:aU}(hA:dQ A n)(h1:oF c is es=true)(h2:bP gU x c pv=true)(h3:zO pv=true)(h4:j6 pv=false)(h5:is.Nodup)
  (f:FR G μ s.heap c env e) (hx:HR w G μ s.heap H) (e1:ba (mf cl) x e H=some (v,H1)) (hb:cP (.many is) v e=some e2):wpAny (model aX w) A (exec (.Assign [.Tuple es k p] pv pos) env) (SP w G c env μ s .next e2 H1) bM s:=by
 have su:∀ {μ₁ s₁ s₂},Mv gm μ s μ₁ s₁->SU w G c env μ₁ H1 s₁ e2 s₂->SP w G c env μ s .next e2 H1 .next s₂:=fun m z=>⟨_,m.any.trans z.1,z.2.1,z.2.2,rfl⟩;rw[arm_exec_Assign];refine wpAny_bind (wpAny_standAt (wpAny_bind ?_));show wpAny _ _ (swapsWith pv (some (.Tuple es k p)) pos.line env) _ _ _;rw[iL h2 e1 h4];refine wpAny_pure ?_;rw[if_neg Bool.false_ne_true];refine wpAny_bind (one (mj X x).1 h2 f hx hA e1 fun mv μ₁ s₁ m1 x1 r1 f1=>wpAny_bind ?_);refine (uG (c:=c) env (k:=k) (p:=p) h3 h1).elim (fun q=>?_) fun q=>aM q fun names q hn=>?_
 ·rw[q];refine wpAny_pure ?_;show wpAny _ _ (assign (.Tuple es k p) env mv >>= fun _=>pure Flow.next) _ _ _;refine wpAny_bind (wpAny_mono (ve (t:=.many is) hA.handled ?_ hb r1 f1 x1) (fun _ s₂ z=>wpAny_pure (su m1 z)) fun _ _ z=>z);exact h1
 ·rw[q];refine wpAny_pure ?_;show wpAny _ _ (PySem.rule "assign.swapped-stores" >>= fun _=>unpackItems mv names.length none >>= fun items=>assignInOrder (names.reverse.map fun n=>bindName env n) items.reverse >>= fun _=>pure Flow.next) _ _ _;refine wpAny_bind (wpAny_rule (wpAny_bind ?_));refine bc hb fun l hl hb=>fH ((vH hl▸r1:VR G μ₁ s₁.heap (.tup l) mv).inv) fun a items em ht _ QT=>?_;have hz:names.length=items.size:=(yG is hn).2.symm.trans ((mI is hb).trans (QT.length.trans Array.length_toList));rw[hz,em];refine wpAny_unpackItems_tuple hA.handled ht fun h' hk=>?_;have kk:∀ b o,s₁.heap.get? b=some o->h'.get? b=some o:=fun b o eb=>hk b o (Nat.ne_of_lt (Heap.lt_size eb)) eb;have nx:bu gm μ₁ s₁.heap μ₁ h':=bu.of_keeps kk;have fe:=(Fb is h5 (e:=e) (mI is hb)).trans (Am is hb);refine wpAny_bind (wpAny_mono (wu is.reverse (yG is hn).1 (s:={ s₁ with heap:=h' }) (vs:=l.reverse) (by rw[List.length_reverse,List.length_reverse];exact mI is hb) ((QT.nx nx).reverse) (f1.next nx) (x1.keeps kk)) (fun _ s₂ z=>wpAny_pure ?_) fun _ _ z=>z);rw[fe] at z;exact su (m1.trans (⟨nx,rfl,rfl⟩:Mv gm μ₁ s₁ μ₁ { s₁ with heap:=h' })) z
end
end
section
open PySem PySem.W PySem.Calls PyProof.Rows PySem.SeqAt
section
variable{w:World}{G:Heap}{n:Nat}{cl:Nat->List V->Hp->Option (V×Hp)}{K:Frag}{mg mb:Str->Option Value}
theorem HI(X:Cx w G K mg mb n cl)(is:List Nat)(x:E):lG w G n cl (.asg (.many is) x):=fun c ps hr=>rT hr fun ts v pos hr=>e1 hr (P:=fun ts=>gx w G n cl (.asg (.many is) x) c (.Assign ts v pos)) fun t hr=>aJ hr fun h1 hr=>aJ hr fun h2 hr=>aJ hr fun h3 hr=>aJ hr fun h4 h5=>qe h1 (P:=fun t=>gx w G n cl (.asg (.many is) x) c (.Assign [t] v pos)) fun es k p h1 env e A μ s H o e' H' hc f hx hA he=>bq he fun u H1 e1 he=>bc he fun e2 hb he=>
 gW (P:=fun o e' H'=>wpAny (model aX w) A (exec (.Assign [.Tuple es k p] v pos) env) (SP w G c env μ s o e' H') bM s) he (An X hA h1 h2 h3 (lK h4 (fun q=>eZ q id) gI) (UU h5) f hx e1 hb)
theorem PA(X:Cx w G K mg mb n cl)(l:List S):lg w G n cl l:=
 S.rec_1 (motive_1:=lG w G n cl) (motive_2:=lg w G n cl) (fun t x=>by
   cases t with
   | one i=>exact HA X i x
   | many is=>exact HI X is x) (Aj X) (CF X) (KC X) (fun x=>Hy (mj X x).1) (fun x=>KA (mj X x).1) Hv (fun t _ _ a b=>KB (mj X t).2 a b) (fun k t _ b=>HF X k t b) (fun t it _ b=>HC X t it b) (fun i k _ b=>HD X i k b)
  Hx Hw (fun _ b=>Hz b) EW Kz (fun _ _ a l=>Hu a l) l
end
end
section
open PySem PySem.W PySem.Calls PyProof.Rows PySem.SeqAt
structure HJ(G:Heap)(f:Nat)(a:Addr):Prop where
 ok:∃ (o:Obj) (fd:FuncData) (body:List Stmt) (F:Om) (slots:List Str),G.get? a=some o/\o.data=.func fd/\fd.body=.stmts body/\fd.closure=[]/\fd.defaults=.none/\fd.globals=mainGlobals/\fd.builtins=builtinsNs/\
  G.CodeRec fd.code fd.qualname/\fd.scope.isCoroutine=false/\fd.scope.kind=.function/\aY.fn f=some F/\DE gU F slots fd.params body fd.scope=true
theorem CG{x:Str}{a:Addr}(names:List (Str×NameKind)):∀ {n:Nat} {acc:List (Str×Addr)},(cellsFrom n names acc).lookup x=some a->acc.lookup x=some a∨(x,NameKind.cell)∈names:=
 List.rec (motive:=fun names=>∀ {n:Nat} {acc:List (Str×Addr)},(cellsFrom n names acc).lookup x=some a->acc.lookup x=some a∨(x,NameKind.cell)∈names) (fun h=>.inl h) (fun z r ih n acc h=>by
  obtain ⟨y,k⟩:=z;have h:(if (k==NameKind.cell)=true then cellsFrom (n+1) r ((y,n)::acc) else cellsFrom n r acc).lookup x=some a:=h
  by_cases q:(k==NameKind.cell)=true
  ·rw[if_pos q] at h;exact (ih h).elim (fun z=>gE z (P:=fun o=>o=some a->acc.lookup x=some a∨(x,NameKind.cell)∈(y,k)::r) (fun e _=>.inr (by rw[e,eq_of_beq q];exact .head _)) (fun _=>.inl) rfl) fun z=>.inr (.tail _ z)
  ·rw[if_neg q] at h;exact (ih h).imp id (.tail _)) names
theorem tV{x:Str}(names:List (Str×NameKind)):∀ {n:Nat} {acc:List (Str×Addr)},((acc.lookup x).isSome=true∨(x,NameKind.cell)∈names)->((cellsFrom n names acc).lookup x).isSome=true:=
 List.rec (motive:=fun names=>∀ {n:Nat} {acc:List (Str×Addr)},((acc.lookup x).isSome=true∨(x,NameKind.cell)∈names)->((cellsFrom n names acc).lookup x).isSome=true) (fun {n acc} h=>h.elim id fun h=>absurd h List.not_mem_nil) (fun z r ih n acc h=>by
  obtain ⟨y,k⟩:=z;show ((if (k==NameKind.cell)=true then cellsFrom (n+1) r ((y,n)::acc) else cellsFrom n r acc).lookup x).isSome=true
  by_cases q:(k==NameKind.cell)=true
  ·rw[if_pos q];exact ih (h.elim (fun h=>.inl (gE rfl (P:=fun o=>o.isSome=true) (fun _=>rfl) fun _=>h)) fun h=>(UO h).elim (fun e=>.inl (gE rfl (P:=fun o=>o.isSome=true) (fun _=>rfl) fun w=>absurd (congrArg Prod.fst e) w)) .inr)
  ·rw[if_neg q];exact ih (h.imp id fun h=>(UO h).elim (fun e=>absurd (beq_iff_eq.mpr (congrArg Prod.snd e).symm) q) id)) names
theorem Ao{B:List (Str×Value)->(Str->Option Value)->Str->Option Value}{u:Str->Value->(Str->Option Value)->Str->Option Value}(h0:∀ m,B [] m=m)(hB:∀ n v r m,B ((n,v)::r) m=B r (u n v m))(hu:∀ n v m x,x≠n->u n v m x=m x){x:Str}(names:List Str) :
  x∉names->∀ {ms:List Value} {m:Str->Option Value},B (names.zip ms) m x=m x:=
 List.rec (motive:=fun names=>x∉names->∀ {ms:List Value} {m:Str->Option Value},B (names.zip ms) m x=m x) (fun _ {ms m}=>congrFun (h0 m) x) (fun y names ih h {ms m}=>by
  cases ms with
  | nil=>exact congrFun (h0 m) x
  | cons v ms=>exact (congrFun (hB y v _ m) x).trans ((ih fun q=>h (.tail _ q)).trans (hu y v m x fun q=>h (q▸.head _)))) names
theorem Bv{B:List (Str×Value)->(Str->Option Value)->Str->Option Value}{u:Str->Value->(Str->Option Value)->Str->Option Value}(h0:∀ m,B [] m=m)(hB:∀ n v r m,B ((n,v)::r) m=B r (u n v m))(hu:∀ n v m x,x≠n->u n v m x=m x){x:Str}(hx:∀ v m,u x v m x=some v){v:Value}(names:List Str) :
  names.Nodup->∀ {ms:List Value} {i:Nat} {m:Str->Option Value},names[i]?=some x->ms[i]?=some v->B (names.zip ms) m x=some v:=
 List.rec (motive:=fun names=>names.Nodup->∀ {ms:List Value} {i:Nat} {m:Str->Option Value},names[i]?=some x->ms[i]?=some v->B (names.zip ms) m x=some v) (fun _ {ms i m} h=>fJ h) (fun y names ih hn {ms i m} h1 h2=>by
  rw[List.nodup_cons] at hn;cases ms with
  | nil=>exact fJ h2
  | cons a ms=>
   refine (congrFun (hB y a _ m) x).trans ?_;cases i with
   | zero=>
    have e1:y=x:=UM h1;have e2:a=v:=UM h2;rw[e1] at hn⊢;rw[e2];exact (Ao h0 hB hu names hn.1).trans (hx v m)
   | succ i=>exact ih hn.2 h1 h2) names
theorem Fd{kindOf:Str->Option NameKind}{names:List Str}{ms:List Value}{m:Str->Option Value}{i:Nat}{x:Str}{v:Value}(hn:names.Nodup)(h1:names[i]?=some x)(h2:ms[i]?=some v)(hk:kindOf x=some .local):bindL kindOf (names.zip ms) m x=some v:=
 Bv (B:=bindL kindOf) (u:=fun n v m=>if kindOf n=some .local then fun y=>if y=n then some v else m y else m) (fun _=>rfl) (fun _ _ _ _=>rfl) (fun n v m x h=>by
  by_cases q:kindOf n=some .local
  ·rw[if_pos q];exact if_neg h
  ·rw[if_neg q]) (fun v m=>by rw[if_pos hk];exact if_pos rfl) names hn h1 h2
theorem Fe{kindOf:Str->Option NameKind}{names:List Str}{ms:List Value}{m:Str->Option Value}{i:Nat}{x:Str}{v:Value}(hn:names.Nodup)(h1:names[i]?=some x)(h2:ms[i]?=some v)(hk:kindOf x=some .cell):bindC kindOf (names.zip ms) m x=some v:=
 Bv (B:=bindC kindOf) (u:=fun n v m=>if kindOf n=some .local then m else fun y=>if y=n then some v else m y) (fun _=>rfl) (fun _ _ _ _=>rfl) (fun n v m x h=>by
  by_cases q:kindOf n=some .local
  ·rw[if_pos q]
  ·rw[if_neg q];exact if_neg h) (fun v m=>by rw[if_neg (by rw[hk];exact fun e=>NameKind.noConfusion (UM e))];exact if_pos rfl) names hn h1 h2
section
variable{w:World}{G:Heap}{n:Nat}{K:Frag}{mg mb:Str->Option Value}
theorem CH:tN w G 0 (run aY 0):=fun _ _ _ _ _ _ _ _ _ _ he=>fJ he
theorem Ff{args:List V}{k:Nat}{i:Nat}{u:V}(h:(args.map some++List.replicate k none:aU)[i]?=some (some u)):i<args.length/\args[i]?=some u:=by
 by_cases hi:i<args.length
 ·rw[List.getElem?_append_left (by rw[UQ];exact hi),List.getElem?_map] at h;exact aM (Option.map_eq_some_iff.mp h) fun u' h3 h4=>⟨hi,UM h4▸h3⟩
 ·rw[List.getElem?_append_right (by rw[UQ];exact Nat.not_lt.mp hi)] at h;exact fJ (List.eq_of_mem_replicate (List.mem_of_getElem? h)).symm
theorem vf{s:Shared}{b:Addr}(hb:s.heap.objs.size<=b):s.heap.get? b=none:=by
 cases q:s.heap.get? b with
 | none=>rfl
 | some o=>exact absurd (Heap.lt_size q) (Nat.not_lt.mpr hb)
theorem CI(X:Cx w G K mg mb n (run aY n))(hF:∀ (f:Nat) (a:Addr),zR f=some a->HJ G f a):tN w G (n+1) (run aY (n+1)):=fun f a args H v H' μ s A ms he PB hx hv hA=>My (hF f a PB).ok fun o fd body F slots g1 g2 g3 g4 g5 g6 g7 z=>JY z fun g8 g9 PC Sx CJ=>
 bc he fun F' KE he=>cS he fun L9 he=>bq he fun r H1 hb he=>by
 rw[UM (KE.symm.trans Sx)] at L9 hb;obtain ⟨ou,e'⟩:=r;have p9:=UU (bN (aE (aE (aE (aE (aE (aE (aE CJ))))))));have hle:F.np<=slots.length:=Nat.le_trans L9.2 (Nat.le_of_eq (UU (bN CJ)));have hlen:(slots.take F.np).length=ms.length:=by rw[List.length_take,Nat.min_eq_left hle,<-hv.length,L9.1]
 have PD:(slots.take F.np).Nodup:=p9.sublist (List.take_sublist _ _);have E0:bindArgs fd ⟨ms,[]⟩=pure ((slots.take F.np).zip ms):=zV (qG (bN (aE (aE CJ)))) (Option.isNone_iff_eq_none.mp (bN (aE (aE (aE CJ))))) (qG (bN (aE (aE (aE (aE CJ)))))) (Option.isNone_iff_eq_none.mp (bN (aE (aE (aE (aE (aE CJ))))))) g5 (eq_of_beq (bN (aE (aE (aE (aE (aE (aE CJ)))))))) hlen PD;refine codeAny_call_cells (Nat.lt_of_lt_of_le (Nat.lt_succ_of_le (Nat.le_succ_of_le (Nat.le_add_right _ _))) hA.depth) (hx.ground _ _ g1) g2 (X.gn.lim.keeps fun b o e=>hx.ground b o e) (g8.keeps fun b o e=>hx.ground b o e) g3 E0 g4 (fun x Sy=>?_) (fun s₁ I=>?_) g9 (eZ (bN (aE (aE (aE (aE (aE (aE (aE (aE CJ))))))))) id) PC
 ·exact lK (List.all_eq_true.mp (bN (aE (aE (aE (aE (aE (aE (aE (aE (aE CJ)))))))))) x.1 (List.of_mem_zip (a:=x.1) (b:=x.2) Sy).1) (fun q=>.inl (eq_of_beq q)) fun q=>.inr ⟨eq_of_beq q,tV _ (.inr (mem_of_lookup (eq_of_beq q)))⟩
 generalize hE:callEnvC fd s.heap.objs.size a=env at I⊢
 have eS:env.scope=fd.scope:=hE▸rfl;have eL:env.locals=s.heap.objs.size:=hE▸rfl;have eC:env.cells=cellsFrom (s.heap.objs.size+1) fd.scope.names []:=hE▸rfl;have eK:∀ x,env.kindOf x=ct fd.scope x:=fun x=>by unfold Env.kindOf ct;rw[eS]
 have keep:=I.toInCall.keep;have nx:bu gm μ s.heap μ s₁.heap:=bu.of_keeps keep;refine GX I.toInCall.same fun h₁ tk es=>?_;subst es;have x1:HR w G μ h₁ H:=hx.keeps keep;have above:∀ {x b},env.cells.lookup x=some b->s.heap.objs.size<b:=fun {x b} q=>eL▸I.above x b (mem_of_lookup q);have Sz:dh G μ h₁ args ms:=hv.nx nx;have yH:∀ {i:Nat} {x:Str} {u:V},slots[i]?=some x->(args.map some++List.replicate (F.ns - F.np) none:aU)[i]?=some (some u)->(slots.take F.np)[i]?=some x/\∃ mv,ms[i]?=some mv/\VR G μ h₁ u mv:=fun h1 h2=>⟨(List.getElem?_take_of_lt (L9.1▸(Ff h2).1)).trans h1,Sz.get (Ff h2).2⟩;have f1:FR G μ h₁ ⟨slots,fd.scope⟩ env (args.map some++List.replicate (F.ns - F.np) none):=
  ⟨(congrArg Scope.kind eS).trans PC,congrArg Scope.names eS,PC,hE▸g6,hE▸g7,by rw[UN,UQ,List.length_replicate,L9.1,Nat.add_sub_cancel' L9.2];exact UU (bN CJ),p9,
   ⟨_,I.toInCall.ns,fun i x u a1 a2 a3=>bY (yH a1 a3) fun b1 b2=>aM b2 fun mv b3 b4=>⟨mv,Fd PD b1 b3 ((eK x).trans a2),b4⟩⟩,
   fun i x a1 a2=>iU (eC▸tV _ (.inr (mem_of_lookup a2)):(env.cells.lookup x).isSome=true) fun b Dj=>⟨b,_,Dj,I.cell x b Dj,fun u a3=>bY (yH a1 a3) fun b1 b2=>aM b2 fun mv b3 b4=>⟨mv,Fe PD b1 b3 ((eK x).trans a2),b4⟩⟩,
   eL▸⟨hx.dB (b7 _),hx.jO (b7 _)⟩,
   fun x b q=>have nb:=vf (Nat.le_of_lt (above q));⟨hx.dB nb,hx.jO nb,eL▸Nat.ne_of_gt (above q),aM (I.cell x b q) fun o' rI _=>cK rI⟩,
   fun x y b q r=>name_of_addr I.apart (mem_of_lookup q) (mem_of_lookup r)⟩
 have hc:sf ⟨slots,fd.scope⟩ env:=fun x b q=>(CG (n:=s.heap.objs.size+1) (acc:=[]) fd.scope.names (eC▸q)).elim (fun q=>fJ q) fun q=>lK (List.all_eq_true.mp (bN (aE (aE (aE (aE (aE (aE (aE (aE (aE (aE CJ))))))))))) _ q) (fun z=>absurd rfl (bne_iff_ne.mp z)) fun z=>(List.mem_iff_getElem?.mp (List.contains_iff_mem.mp z)).elim fun i hi=>⟨i,hi,la _ (UU (bN (aE (aE (aE (aE (aE (aE (aE (aE (aE (aE (aE CJ))))))))))))) q⟩;have SE:=hA.depth;have SG:=hA.units;have Fg:dQ (A.deeper env) n:=⟨hA.handled,by show A.depth+1+_+_<=_;lia,by show A.units+3+_+_<_;lia⟩;refine wp_mono (PA X F.body ⟨slots,fd.scope⟩ body (aE (aE (aE (aE (aE (aE (aE (aE (aE (aE (aE (aE CJ)))))))))))) env _ (A.deeper env) μ { s with heap:=h₁,toks:=tk } H ou e' H1 hc f1 x1 Fg hb) fun fl s₂ q=>nY q fun μ₂ m2 x2 f2 r2=>?_;have nA:Mv gm μ s μ₂ s₂:=⟨(nx.any.trans m2.n).forget fun b q=>.inr (q.elim (fun q=>(congrArg s.heap.get? (q.trans eL)).trans (b7 _)) fun q=>cX q fun x q=>vf (Nat.le_of_lt (above q))),m2.g,m2.o⟩;cases ou with
 | next=>
  rw[(r2:fl=.next)];exact eD (P:=fun v H'=>EP w G μ s v H' .none s₂) he ⟨μ₂,nA,x2,.none⟩
 | ret u=>
  refine aM (r2:∃ mv,fl=.ret mv/\VR G μ₂ s₂.heap u mv) fun mv ef r2=>?_;rw[ef];exact eD (P:=fun v H'=>EP w G μ s v H' mv s₂) he ⟨μ₂,nA,x2,r2⟩
 | cont=>exact fJ he
end
end
section
open PySem PySem.W PySem.Calls PyProof.Rows PySem.SeqAt
structure GF(w:World)(G:Heap)(K:Frag)(mg mb:Str->Option Value):Prop where
 tab:tH w G
 cls:DW G K
 gn:GN G mg mb
 fn:∀ (f:Nat) (a:Addr),zR f=some a->HJ G f a
 new:∀ (k:Nat) (C:Addr),lE[k]?=some C->makesIn K C=true/\keepIn K (.ref C)=true/\∃ f fI,pz k=some f/\zR f=some fI/\findIn K (.ref C) "__init__"=some (some (.ref fI))/\typeIn K (.ref fI)=some (.type "function")
theorem Fh{w:World}{G:Heap}{K:Frag}{mg mb:Str->Option Value}(X:GF w G K mg mb)(d:Nat):tN w G d (run aY d):=
 Nat.rec (motive:=fun d=>tN w G d (run aY d)) CH (fun d ih=>CI ⟨X.tab,X.cls,X.gn,fun f a h=>G0 ((X.fn f a h).ok) fun o fd _ _ _ h1 h2 _=>⟨o,fd,h1,h2⟩,ih,X.new⟩ X.fn) d
noncomputable def Fi(e:Value)(f:Int->Tok->Bool):Bool:=if h:e.ctorIdx=4 then Value.int.elim (motive:=fun _=>Bool) e h f else false
theorem M9{e:Value}{f:Int->Tok->Bool}(h:Fi e f=true){P:Value->Prop}(k:∀ a b,f a b=true->P (.int a b)):P e:=cM h fun q x=>Value.int.elim (motive:=fun e=>∀ q:e.ctorIdx=4,Value.int.elim (motive:=fun _=>Bool) e q f=true->P e) e q (fun a b _ x=>k a b x) q x
noncomputable def Fj(e:Value)(f:Str->Tok->Bool):Bool:=if h:e.ctorIdx=6 then Value.str.elim (motive:=fun _=>Bool) e h f else false
theorem Na{e:Value}{f:Str->Tok->Bool}(h:Fj e f=true){P:Value->Prop}(k:∀ a b,f a b=true->P (.str a b)):P e:=cM h fun q x=>Value.str.elim (motive:=fun e=>∀ q:e.ctorIdx=6,Value.str.elim (motive:=fun _=>Bool) e q f=true->P e) e q (fun a b _ x=>k a b x) q x
noncomputable def Fl(e:Value)(f:Bool->Bool):Bool:=if h:e.ctorIdx=3 then Value.bool.elim (motive:=fun _=>Bool) e h f else false
theorem Nb{e:Value}{f:Bool->Bool}(h:Fl e f=true){P:Value->Prop}(k:∀ a,f a=true->P (.bool a)):P e:=cM h fun q x=>Value.bool.elim (motive:=fun e=>∀ q:e.ctorIdx=3,Value.bool.elim (motive:=fun _=>Bool) e q f=true->P e) e q (fun a _ x=>k a x) q x
noncomputable def vg(e:Value)(f:Addr->Bool):Bool:=if h:e.ctorIdx=10 then Value.ref.elim (motive:=fun _=>Bool) e h f else false
theorem Fm{e:Value}{f:Addr->Bool}(h:vg e f=true){P:Value->Prop}(k:∀ a,f a=true->P (.ref a)):P e:=cM h fun q x=>Value.ref.elim (motive:=fun e=>∀ q:e.ctorIdx=10,Value.ref.elim (motive:=fun _=>Bool) e q f=true->P e) e q (fun a _ x=>k a x) q x
noncomputable def wA(e:Value)(f:String->Bool):Bool:=if h:e.ctorIdx=8 then Value.type.elim (motive:=fun _=>Bool) e h f else false
theorem Nc{e:Value}{f:String->Bool}(h:wA e f=true){P:Value->Prop}(k:∀ a,f a=true->P (.type a)):P e:=cM h fun q x=>Value.type.elim (motive:=fun e=>∀ q:e.ctorIdx=8,Value.type.elim (motive:=fun _=>Bool) e q f=true->P e) e q (fun a _ x=>k a x) q x
noncomputable def Jm(e:Data)(f:Array Value->Nat->Bool):Bool:=if h:e.ctorIdx=2 then Data.seq.elim (motive:=fun _=>Bool) e h f else false
theorem PE{e:Data}{f:Array Value->Nat->Bool}(h:Jm e f=true){P:Data->Prop}(k:∀ a b,f a b=true->P (.seq a b)):P e:=cM h fun q x=>Data.seq.elim (motive:=fun e=>∀ q:e.ctorIdx=2,Data.seq.elim (motive:=fun _=>Bool) e q f=true->P e) e q (fun a b _ x=>k a b x) q x
noncomputable def Ap(e:Data)(f:Array DictEntry->Nat->Bool):Bool:=if h:e.ctorIdx=3 then Data.dict.elim (motive:=fun _=>Bool) e h f else false
theorem Jn{e:Data}{f:Array DictEntry->Nat->Bool}(h:Ap e f=true){P:Data->Prop}(k:∀ a b,f a b=true->P (.dict a b)):P e:=cM h fun q x=>Data.dict.elim (motive:=fun e=>∀ q:e.ctorIdx=3,Data.dict.elim (motive:=fun _=>Bool) e q f=true->P e) e q (fun a b _ x=>k a b x) q x
noncomputable def yI(e:Data)(f:Array Value->Bool):Bool:=if h:e.ctorIdx=9 then Data.fields.elim (motive:=fun _=>Bool) e h f else false
theorem HK{e:Data}{f:Array Value->Bool}(h:yI e f=true){P:Data->Prop}(k:∀ a,f a=true->P (.fields a)):P e:=cM h fun q x=>Data.fields.elim (motive:=fun e=>∀ q:e.ctorIdx=9,Data.fields.elim (motive:=fun _=>Bool) e q f=true->P e) e q (fun a _ x=>k a x) q x
noncomputable def Fn(e:Data)(f:FuncData->Bool):Bool:=if h:e.ctorIdx=7 then Data.func.elim (motive:=fun _=>Bool) e h f else false
theorem Nd{e:Data}{f:FuncData->Bool}(h:Fn e f=true){P:Data->Prop}(k:∀ a,f a=true->P (.func a)):P e:=cM h fun q x=>Data.func.elim (motive:=fun e=>∀ q:e.ctorIdx=7,Data.func.elim (motive:=fun _=>Bool) e q f=true->P e) e q (fun a _ x=>k a x) q x
noncomputable def HM(e:FuncBody)(f:List Stmt->Bool):Bool:=if h:e.ctorIdx=0 then FuncBody.stmts.elim (motive:=fun _=>Bool) e h f else false
theorem PF{e:FuncBody}{f:List Stmt->Bool}(h:HM e f=true){P:FuncBody->Prop}(k:∀ a,f a=true->P (.stmts a)):P e:=cM h fun q x=>FuncBody.stmts.elim (motive:=fun e=>∀ q:e.ctorIdx=0,FuncBody.stmts.elim (motive:=fun _=>Bool) e q f=true->P e) e q (fun a _ x=>k a x) q x
noncomputable def Aq(e:Value):Bool:=e.ctorIdx==0
theorem Jo{e:Value}(h:Aq e=true){P:Value->Prop}(k:P .none):P e:=Value.none.elim (motive:=P) e (eq_of_beq h) k
mutual
noncomputable def Nf(h:Heap):V->Value->Bool
 | .none,v=>Aq v
 | .bool b,v=>Fl v fun c=>b==c
 | .int i,v=>Fi v fun j _=>i==j
 | .str n,v=>Fj v fun s _=>s==fV n&&decide (n<tE)
 | .tup l,v=>vg v fun a=>(h.get? a).any fun o=>wA o.cls (fun T=>T=="tuple")&&Jm o.data fun items _=>KG h l items.toList
 | .tab t,v=>vg v fun a=>vQ[t]?==some a
 | _,_=>false
noncomputable def KG(h:Heap):List V->List Value->Bool
 | [],ms=>ms.isEmpty
 | v::l,ms=>GK ms fun m ml=>Nf h v m&&KG h l ml
end
theorem noOwn(a:Addr):¬ Own [] a:=fun q=>aM q fun p hp _=>List.not_mem_nil hp
theorem Jp{v:Value}{T:String}(h:wA v (fun S=>S==T)=true):v=.type T:=Nc h (P:=fun v=>v=.type T) fun S q=>congrArg Value.type (eq_of_beq q)
section
variable{h G:Heap}(k:∀ b o,h.get? b=some o->G.get? b=some o)
include k
theorem Fo{v:V}{mv:Value}:Nf h v mv=true->VR G [] G v mv:=
 V.rec (motive_1:=fun v=>∀ {mv:Value},Nf h v mv=true->VR G [] G v mv) (motive_2:=fun l=>∀ {ms:List Value},KG h l ms=true->dh G [] G l ms) (fun e=>Jo e .none) (fun b _ e=>Nb e fun c q=>eq_of_beq q▸.bool b) (fun i _ e=>M9 e fun j t q=>eq_of_beq q▸.int i t)
  (fun n _ e=>Na e fun s t q=>eq_of_beq (bN q)▸.str n t (UU (aE q))) (fun l ih _ e=>Fm e fun a q=>cU q fun o ho q=>PE (e:=o.data) (aE q) (P:=fun d=>o.data=d->VR G [] G (.tup l) (.ref a)) (fun items ep q2 ed=>.tup ⟨o,k _ _ ho,Jp (bN q),ep,ed⟩ (noOwn _) (ih q2)) rfl)
  (fun _ _ e=>gI e) (fun t _ e=>Fm e fun a q=>.tab (eq_of_beq q)) (fun _ _ _ e=>gI e) (fun e=>eN e .nil) (fun v l ih J3 _ e=>eC e fun m ml q=>.cons (ih (bN q)) (J3 (aE q))) v
end
noncomputable def Bw(h:Heap):List (V×V)->List DictEntry->Bool
 | [],es=>es.isEmpty
 | p::l,es=>GK es fun e r=>(p.1.Ba.any fun i=>Fi e.key fun j _=>i==j&&e.hash==hashInt i)&&(Nf h p.2 e.val&&Bw h l r)
noncomputable def vh(l:List (V×V)):List Int:=l.map fun p=>p.1.Ba.getD 0
noncomputable def Ng(h:Heap)(a:Addr)(l:List (V×V)):Bool:=(h.get? a).any fun o=>wA o.cls (fun T=>T=="dict")&&(o.dict.isNone&&(o.slots.isEmpty&&(Ap o.data fun es _=>Bw h l es.toList&&decide (vh l).Nodup)))
theorem Fp{w:World}{h G:Heap}(k:∀ b o,h.get? b=some o->G.get? b=some o)(l:List (V×V)):∀ {es:List DictEntry},Bw h l es=true->
  ∃ xs,Pairs (intKind aX w) es xs/\Pr R0 (VR G [] G) l xs/\xs.map (·.1)=vh l/\∀ e∈es,∃ i,(intKind aX w).is i e.key=true/\e.hash=(intKind aX w).hash i:=
 List.rec (motive:=fun l=>∀ {es:List DictEntry},Bw h l es=true->∃ xs,Pairs (intKind aX w) es xs/\Pr R0 (VR G [] G) l xs/\xs.map (·.1)=vh l/\∀ e∈es,∃ i,(intKind aX w).is i e.key=true/\e.hash=(intKind aX w).hash i)
  (fun {es} e=>eN e (P:=fun es=>∃ xs,Pairs (intKind aX w) es xs/\Pr R0 (VR G [] G) [] xs/\xs.map (·.1)=vh []/\∀ e∈es,∃ i,(intKind aX w).is i e.key=true/\e.hash=(intKind aX w).hash i) ⟨[],.nil,.nil,rfl,fun _ h=>absurd h List.not_mem_nil⟩)
  (fun p l ih {es} e=>eC e (P:=fun es=>∃ xs,Pairs (intKind aX w) es xs/\Pr R0 (VR G [] G) (p::l) xs/\xs.map (·.1)=vh (p::l)/\∀ e∈es,∃ i,(intKind aX w).is i e.key=true/\e.hash=(intKind aX w).hash i) fun en r q=>cU (bN q) fun i hi q1=>nY (ih (aE (aE q))) fun xs h1 h2 h3 h4=>by
   have QU:(intKind aX w).is i en.key=true/\en.hash=hashInt i:=M9 (e:=en.key) q1 (P:=fun v=>(intKind aX w).is i v=true/\en.hash=hashInt i) fun j t q=>⟨eq_of_beq (bN q)▸intKind_is _ _ i t,eq_of_beq (aE q)⟩;refine ⟨(i,en.val)::xs,.cons QU.1 rfl h1,.cons (iF hi) (Fo k (bN (aE q))) h2,?_,fun e he=>(UO he).elim (fun q=>q▸⟨i,QU⟩) (h4 e)⟩;show i::xs.map (·.1)=p.1.Ba.getD 0::vh l;rw[hi,h3];rfl) l
theorem HN{w:World}{h G:Heap}(k:∀ b o,h.get? b=some o->G.get? b=some o){a:Addr}{l:List (V×V)}(e:Ng h a l=true):∃ xs,G.DictOf (intKind aX w) a xs/\Pr R0 (VR G [] G) l xs:=
 cU e fun o ho q=>Jn (e:=o.data) (aE (aE (aE q))) (P:=fun d=>o.data=d->∃ xs,G.DictOf (intKind aX w) a xs/\Pr R0 (VR G [] G) l xs) (fun es ep z ed=>nY (Fp (w:=w) k l (bN z)) fun xs h1 h2 h3 h4=>
  ⟨xs,⟨o,es,ep,k _ _ ho,⟨Jp (bN q),Option.isNone_iff_eq_none.mp (bN (aE q)),Array.isEmpty_iff.mp (bN (aE (aE q)))⟩,ed,fun e he=>h4 e (Array.mem_toList_iff.mpr he),h1,h3▸UU (aE z)⟩,h2⟩) rfl
noncomputable def SH(h:Heap)(es:Array DictEntry):Bool:=
 (Pc.all fun x=>(nsFind es x.1).any fun mv=>Nf h x.2 mv)&&((Oo.all fun x=>(nsFind es x.1).any fun v=>vg v fun a=>zR x.2==some a)&&((J9.all fun x=>(nsFind es x.1).any fun v=>vg v fun a=>lE[x.2]?==some a) &&
 ((nsFind es "len").isNone&&((nsFind es "list").isNone&&((nsFind es "tuple").isNone&&(nsFind es "range").isNone)))))
noncomputable def QV(h:Heap):Bool:=(h.get? mainGlobals).any fun o=>Ap o.data fun es _=>SH h es
theorem qu{β:Type}{x:Str}{b:β}(l:List (Str×β)):l.lookup x=some b->(x,b)∈l:=
 List.rec (motive:=fun l=>l.lookup x=some b->(x,b)∈l) (fun h=>fJ h) (fun z l ih h=>gE h (P:=fun o=>o=some b->(x,b)∈z::l) (fun e o=>by rw[e,<-UM o];exact .head _) (fun _ o=>.tail _ (ih o)) rfl) l
theorem Nh{h G:Heap}(k:∀ b o,h.get? b=some o->G.get? b=some o){mg mb:Str->Option Value}(hg:G.Ns mainGlobals mg)(hb:G.Ns builtinsNs mb)(hl:G.NoLimit)
  (Jq:mb "len"=some (.builtin "len")/\mb "list"=some (.type "list")/\mb "tuple"=some (.type "tuple")/\mb "range"=some (.type "range")) (e:QV h=true):GN G mg mb:=
 cU e fun o hm q=>Jn (e:=o.data) q (P:=fun d=>o.data=d->GN G mg mb) (fun es ep e ed=>dP hg fun o' Ow SI ho hd hs hn=>by
  have eo:=UM (ho.symm.trans (k _ _ hm));have q:Ow=es:=(Data.dict.inj ((eo▸hd).symm.trans ed:Data.dict Ow SI=Data.dict es ep)).1;rw[q] at hn;have nn:∀ x,(nsFind es x).isNone=true->mg x=none:=fun x z=>(hn x).symm.trans (Option.isNone_iff_eq_none.mp z);refine ⟨hg,hb,hl,fun x v hx=>cU (List.all_eq_true.mp (bN e) _ (qu _ hx)) fun mv SJ z=>⟨mv,(hn x).symm.trans SJ,Fo k z⟩,fun x f hx=>cU (List.all_eq_true.mp (bN (aE e)) _ (qu _ hx)) fun v hv z=>?_,fun x c hx=>cU (List.all_eq_true.mp (bN (aE (aE e))) _ (qu _ hx)) fun v hv z=>?_,
   nn _ (bN (aE (aE (aE e)))),Jq.1,nn _ (bN (aE (aE (aE (aE e))))),Jq.2.1,nn _ (bN (aE (aE (aE (aE (aE e)))))),Jq.2.2.1,nn _ (aE (aE (aE (aE (aE (aE e)))))),Jq.2.2.2⟩
  ·exact Fm z (P:=fun v=>nsFind es x=some v->∃ a,zR f=some a/\mg x=some (.ref a)) (fun a z hv=>⟨a,eq_of_beq z,(hn x).symm.trans hv⟩) hv
  ·exact Fm z (P:=fun v=>nsFind es x=some v->∃ a,lE[c]?=some a/\mg x=some (.ref a)) (fun a z hv=>⟨a,eq_of_beq z,(hn x).symm.trans hv⟩) hv) rfl
noncomputable def QW(b:FuncBody):Option (List Stmt):=if h:b.ctorIdx=0 then FuncBody.stmts.elim (motive:=fun _=>Option (List Stmt)) b h some else none
noncomputable def QX(d:Data):Option FuncData:=if h:d.ctorIdx=7 then Data.func.elim (motive:=fun _=>Option FuncData) d h some else none
theorem KH{b:FuncBody}{l:List Stmt}(e:QW b=some l):b=.stmts l:=by
 cases b with
 | stmts m=>exact congrArg FuncBody.stmts (UM e)
 | expr=>exact fJ e
noncomputable def QY(h:Heap)(s:Nat×Option Nat×List Str×Nat×Str):Bool:=(h.get? s.2.2.2.1).any fun o=>Fn o.data fun fd=>fd.closure.isEmpty&&(Aq fd.defaults&&(fd.globals==mainGlobals&&(fd.builtins==builtinsNs&&((vg fd.code fun c=>(h.get? c).any fun o=>yI o.data fun vs=>(vs[1]?).any fun x=>Fj x fun t _=>t==fd.qualname)&&(!fd.scope.isCoroutine&&fd.scope.kind==.function)))))
noncomputable def OA(h:Heap)(s:Nat×Option Nat×List Str×Nat×Str):Option (Arguments×List Stmt×Scope):=(h.get? s.2.2.2.1).bind fun o=>(QX o.data).bind fun fd=>(QW fd.body).bind fun b=>some (fd.params,b,fd.scope)
theorem Ni{h G:Heap}(k:∀ b o,h.get? b=some o->G.get? b=some o)(e1:tD.map (fun s=>OA h s)=tD.map (fun s=>(vR s.1 s.2.1).map (·.2)))(e2:(tD.all fun s=>QY h s)=true)
  {f:Nat} {a:Addr} (hf:zR f=some a):HJ G f a:=aM (Option.map_eq_some_iff.mp hf) fun s hs ea=>by
 have hlen:DH.length=tD.length:=by decide +kernel
 have rL:f<DH.length:=hlen▸(UW hs).1;refine cU (List.all_eq_true.mp DI f (List.mem_range.mpr rL)) fun s' mU z=>cU z fun F hF z=>cU z fun d hd z=>cU (List.all_eq_true.mp e2 _ (List.mem_of_getElem? hs)) fun o ho b=>?_;rw[<-UM (hs.symm.trans mU)] at z hd;have m:OA h s=some d.2:=by
  have m:(tD.map (fun s=>OA h s))[f]?=(tD.map (fun s=>(vR s.1 s.2.1).map (·.2)))[f]?:=e1▸rfl;rw[List.getElem?_map,List.getElem?_map,hs,Option.map_some,Option.map_some,hd] at m;exact UM m
 refine bc m fun o' rI m=>bc m fun fd QZ m=>bc m fun bb Jq m=>?_;rw[<-UM (ho.symm.trans rI)] at QZ;refine Nd (e:=o.data) b (P:=fun dd=>o.data=dd->QX dd=some fd->HJ G f a) (fun SK b ed PG=>?_) rfl QZ;have PG:SK=fd:=UM PG;rw[PG] at b ed;have m:=UM m;have m1:fd.params=d.2.1:=congrArg Prod.fst m;have m2:bb=d.2.2.1:=congrArg (fun x=>x.2.1) m;have m3:fd.scope=d.2.2.2:=congrArg (fun x=>x.2.2) m;refine ⟨o,fd,bb,F,s.2.2.1,ea▸k _ _ ho,ed,KH Jq,qG (bN b),Jo (bN (aE b)) (P:=fun v=>v=.none) rfl,eq_of_beq (bN (aE (aE b))),eq_of_beq (bN (aE (aE (aE b)))),?_,eZ (bN (aE (aE (aE (aE (aE b)))))) id,eq_of_beq (aE (aE (aE (aE (aE (aE b)))))),hF,?_⟩
 ·exact Fm (bN (aE (aE (aE (aE b))))) (P:=fun v=>G.CodeRec v fd.qualname) fun c z=>cU z fun o2 Ma z=>HK (e:=o2.data) z (P:=fun dd=>o2.data=dd->G.CodeRec (.ref c) fd.qualname) (fun vs z e3=>cU z fun x hx z=>Na z (P:=fun x=>vs[1]?=some x->G.CodeRec (.ref c) fd.qualname) (fun t u z hx=>⟨c,o2,vs,u,rfl,k _ _ Ma,e3,eq_of_beq z▸hx⟩) hx) rfl
 ·rw[m1,m2,m3];exact aE z
noncomputable def Nj(K:Frag)(c:Nat)(C:Addr)(f:Nat):Bool:=(findIn K (.ref C) "__getattribute__"==some (some (.builtin "object.__getattribute__")))&&((findIn K (.ref C) "__getattr__"==some none)&&(hasDictIn K C &&
  ((Bj.all fun n=>findIn K (.ref C) (fV n)==some none)&&((findIn K (.ref C) "__setattr__"==some (some (.builtin "object.__setattr__")))&&(plainOver K C&&(makesIn K C&&(keepIn K (.ref C) &&
  ((zR f).any fun fI=>findIn K (.ref C) "__init__"==some (some (.ref fI))&&typeIn K (.ref fI)==some (.type "function")))))))))
noncomputable def HO(K:Frag):Bool:=(List.range lE.length).all fun c=>lE[c]?.any fun C=>(pz c).any fun f=>Nj K c C f
noncomputable def yJ:List (Nat×Nat×Nat):=[(0,35,2),(0,36,3),(1,40,36),(1,41,37),(1,39,38),(1,54,39),(1,42,40)]
theorem kh{α:Type}{p C:Prop}[Decidable p]{x y:Option α}{f:α}(h:(if p then x else y)=some f)(k1:p->x=some f->C)(k2:y=some f->C):C:=by
 by_cases q:p
 ·exact k1 q ((if_pos q).symm.trans h)
 ·exact k2 ((if_neg q).symm.trans h)
theorem iM{c m f c0 m0 f0:Nat}(k:(c0,m0,f0)∈yJ)(a:c=c0)(b:m=m0)(h:some f0=some f):(c,m,f)∈yJ:=by
 rw[a,b,<-UM h];exact k
theorem Fq{c m f:Nat}(h:rq c m=some f):(c,m,f)∈yJ:=
 kh h (fun a h=>kh h (iM (by decide) a) fun h=>kh h (iM (by decide) a) fJ)
  fun h=>kh h (fun a h=>kh h (iM (by decide) a) fun h=>kh h (iM (by decide) a) fun h=>kh h (iM (by decide) a) fun h=>kh h (iM (by decide) a) fun h=>kh h (iM (by decide) a) fJ) fJ
noncomputable def Jr(K:Frag):Bool:=yJ.all fun x=>lE[x.1]?.any fun C=>(zR x.2.2).any fun a=>findIn K (.ref C) (fV x.2.1)==some (some (.ref a))&&isFn K (.ref a)
theorem tW{K:Frag}(e:HO K=true){c:Nat}{C:Addr}(h:lE[c]?=some C):∃ f,pz c=some f/\Nj K c C f=true:=
 cU (List.all_eq_true.mp e c (List.mem_range.mpr (UW h).1)) fun C' h1 z=>cU z fun f h2 z=>⟨f,h2,UM (h1.symm.trans h)▸z⟩
theorem HP{G:Heap}{K:Frag}(hK:K.In G)(e:HO K=true)(e2:Jr K=true):DW G K:=
 ⟨hK,fun c C h=>aM (tW e h) fun f _ q=>⟨eq_of_beq (bN q),eq_of_beq (bN (aE q))⟩,fun c C h=>aM (tW e h) fun f _ q=>bN (aE (aE q)),
  fun c C n h hn=>aM (tW e h) fun f _ q=>eq_of_beq (List.all_eq_true.mp (bN (aE (aE (aE q)))) n (List.contains_iff_mem.mp hn)),
  fun c C m f h hm=>cU (List.all_eq_true.mp e2 _ (Fq hm)) fun C' h1 z=>cU z fun a h2 z=>by
   rw[<-UM (h.symm.trans h1)] at z;exact ⟨a,eq_of_beq (bN z),aE z,h2⟩,
  fun c C h=>aM (tW e h) fun f _ q=>⟨eq_of_beq (bN (aE (aE (aE (aE q))))),bN (aE (aE (aE (aE (aE q)))))⟩⟩
theorem KI{K:Frag}(e:HO K=true):∀ (k:Nat) (C:Addr),lE[k]?=some C->makesIn K C=true/\keepIn K (.ref C)=true/\∃ f fI,pz k=some f/\zR f=some fI/\findIn K (.ref C) "__init__"=some (some (.ref fI))/\typeIn K (.ref fI)=some (.type "function"):=
 fun k C h=>aM (tW e h) fun f hf q=>cU (aE (aE (aE (aE (aE (aE (aE (aE q)))))))) fun fI Pj z=>
  ⟨bN (aE (aE (aE (aE (aE (aE q)))))),bN (aE (aE (aE (aE (aE (aE (aE q))))))),f,fI,hf,Pj,eq_of_beq (bN z),eq_of_beq (aE z)⟩
end
section
open PySem PySem.W PySem.Calls PyProof.Rows
noncomputable abbrev pw:Program:=PySem.Challenge.pw_xm0337_01
noncomputable def hk(P:Params)(s:String):Int:=PyData.keyHash P (Str.ofString s)
noncomputable def vs(s:String)(t:Nat):Value:=.str (Str.ofString s) t
noncomputable def vi(i:Int)(t:Nat):Value:=.int i t
noncomputable def GO(i:Nat):Stmt:=(pw.main.body[i]?).getD (.Pass ⟨0,0,0,0⟩)
noncomputable def stM(i j:Nat):Stmt:=match GO i with
 | .ClassDef _ _ _ b _ _ _ _ _ _ _=>(b[j]?).getD (.Pass ⟨0,0,0,0⟩)
 | s=>s
noncomputable def GP(st:Stmt)(qual:String)(g:Nat)(pm code:Value)(bi:Nat):FuncData:=match st with
 | .FunctionDef n a b _ _ _ sc _ _ _=>{ name:=n,qualname:=Str.ofString qual,params:=a,body:=.stmts b,scope:=sc,globals:=g,closure:=[],defaults:=.none,kwdefaults:=.none,pyModule:=pm,code:=code,builtins:=bi }
 | _=>default
noncomputable def Nk(name:String)(bases mro:List Value)(ns:Nat)(qual:String)(hasDict:Bool)(PH:List Value):ClassData:=
 { name:=Str.ofString name,bases:=bases,mro:=mro,ns:=ns,qualname:=Str.ofString qual,hasDict:=hasDict,subclasses:=PH }
noncomputable def cu:String:="/claim/cut.py"
noncomputable def i0(n:Nat):Value:=.int n 0
noncomputable def de(P:Params)(s:String)(t:Nat)(v:Value):DictEntry:=⟨hk P s,vs s t,v⟩
noncomputable def tu(l:List Value):Obj:=⟨.type "tuple",none,.seq l.toArray 0,#[]⟩
noncomputable def fi(l:List Value):Obj:=⟨.none,none,.fields l.toArray,#[]⟩
noncomputable def co(l:List Value):Obj:=⟨.type "code",none,.fields l.toArray,#[]⟩
noncomputable def nv:List String->Nat->List Value
 | [],_=>[]
 | s::l,t=>vs s t::nv l (t+1)
noncomputable def f7(st:Stmt)(nm qn:String)(pm:Value)(a t ln ac:Nat)(ns:List String)(c:List Value)(r:List Obj):List Obj:=
 tu []::fi c::tu (nv ns (t+3))::tu []::⟨.none,none,.func (GP st qn 0 .none .none 0),#[]⟩::co [vs nm t,vs qn (t+1),vs cu (t+2),i0 ln,i0 ac,i0 0,i0 0,i0 3,.ref a,.bool true,i0 181,.ref (a+1),.none,.ref (a+2),.ref (a+3),.ref (a+4),i0 (t+3+ns.length),i0 ln,vs cu (t+4+ns.length)]::⟨.type "function",none,.func (GP st qn 3 pm (.ref (a+5)) 0),#[]⟩::r
noncomputable def g7(i:Nat)(nm:String)(pm:Value)(a t ln ac:Nat)(ns:List String)(c:List Value)(r:List Obj):List Obj:=f7 (GO i) nm nm pm a t ln ac ns c r
noncomputable def Q0(P:Params)(r:List Obj):List Obj:=co [vs "<module>" 182,vs "<module>" 183,vs cu 184,i0 1,i0 0,i0 0,i0 0,i0 0,.ref 11,.bool false,i0 181,.ref 12,.none,.none,.none,.none,i0 185,i0 1,vs cu 186]::⟨.type "frame",none,.plain,#[some (.ref 13),some (.ref 3),some (.ref 3),none,some (vs "__main__" 164),none,some (.ref 0)]⟩::r
noncomputable def Q1(P:Params)(r:List Obj):List Obj:=Q0 P (g7 0 "_wall" (vs "__main__" 164) 15 187 1 1 ["k"] [] (tu [.type "Exception"]::⟨.type "builtin_function_or_method",none,.fields #[.builtin "type.__prepare__",.type "type"],#[]⟩::⟨.type "dict",none,.dict (List.toArray [de P "__module__" 203 (vs "framerune.faults" 194),de P "__qualname__" 205 (vs "RuneError" 204),de P "__firstlineno__" 207 (vi (5) 206),de P "__init__" 216 (.ref 35),de P "__static_attributes__" 219 (.ref 36)]) 5,#[]⟩::tu []::fi [i0 7,i0 4,.ref 34]::co [vs "RuneError" 198,vs "RuneError" 199,vs cu 200,i0 5,i0 0,i0 0,i0 0,i0 0,.ref 25,.bool false,i0 181,.ref 26,.none,.none,.none,.none,i0 201,i0 5,vs cu 202]::⟨.type "frame",none,.plain,#[some (.ref 27),some (.ref 3),some (.ref 24),none,some (vs "framerune.faults" 194),none,some (.ref 0)]⟩::f7 (stM 2 0) "__init__" "RuneError.__init__" (vs "framerune.faults" 194) 29 208 7 3 ["self","code","at"] [] (tu [vs "at" 217,vs "code" 218]::⟨.type "dict",none,.dict (List.toArray [de P "__module__" 203 (vs "framerune.faults" 194),de P "__firstlineno__" 207 (vi (5) 206),de P "__init__" 216 (.ref 35),de P "__static_attributes__" 219 (.ref 36),de P "__weakref__" 221 (.ref 39),de P "__doc__" 222 .none]) 3,#[]⟩::⟨.type "type",none,.cls (Nk "RuneError" [.type "Exception"] [.ref 38,.type "Exception",.type "BaseException",.type "object"] 37 "RuneError" true [.ref 51]),#[some (.ref 22),none,some (vs "RuneError" 196),some (vs "RuneError" 204),some (.builtin "Exception.__new__"),some (.bool true)]⟩::⟨.type "getset_descriptor",none,.fields #[vs "__weakref__" 220,.ref 38,.builtin "ExceptionGroup.__weakref__",.none],#[]⟩::⟨.type "super",none,.fields #[.ref 38,.ref 38,.ref 38],#[]⟩::⟨.type "builtin_function_or_method",none,.fields #[.builtin "object.__init_subclass__",.ref 38],#[]⟩::tu [.ref 38]::⟨.type "builtin_function_or_method",none,.fields #[.builtin "type.__prepare__",.type "type"],#[]⟩::⟨.type "dict",none,.dict (List.toArray [de P "__module__" 234 (vs "framerune.faults" 194),de P "__qualname__" 236 (vs "BadKind" 235),de P "__firstlineno__" 238 (vi (10) 237),de P "__static_attributes__" 239 (.ref 49)]) 4,#[]⟩::tu []::fi []::co [vs "BadKind" 229,vs "BadKind" 230,vs cu 231,i0 10,i0 0,i0 0,i0 0,i0 0,.ref 45,.bool false,i0 181,.ref 46,.none,.none,.none,.none,i0 232,i0 10,vs cu 233]::⟨.type "frame",none,.plain,#[some (.ref 47),some (.ref 3),some (.ref 44),none,some (vs "framerune.faults" 194),none,some (.ref 0)]⟩::tu []::⟨.type "dict",none,.dict (List.toArray [de P "__module__" 234 (vs "framerune.faults" 194),de P "__firstlineno__" 238 (vi (10) 237),de P "__static_attributes__" 239 (.ref 49),de P "__doc__" 240 .none]) 2,#[]⟩::⟨.type "type",none,.cls (Nk "BadKind" [.ref 38] [.ref 51,.ref 38,.type "Exception",.type "BaseException",.type "object"] 50 "BadKind" true []),#[some (.ref 42),none,some (vs "BadKind" 227),some (vs "BadKind" 235),some (.builtin "Exception.__new__"),some (.bool true)]⟩::⟨.type "super",none,.fields #[.ref 51,.ref 51,.ref 51],#[]⟩::⟨.type "builtin_function_or_method",none,.fields #[.builtin "object.__init_subclass__",.ref 51],#[]⟩::r)))
noncomputable def Q3(P:Params)(r:List Obj):List Obj:=Q1 P (⟨.type "dict",none,.dict (List.toArray [⟨0,vi (0) 245,vi (20) 305⟩,⟨1,vi (1) 247,vi (9) 306⟩,⟨2,vi (2) 249,vi (10) 307⟩,⟨3,vi (3) 251,vi (11) 308⟩,⟨4,vi (4) 253,vi (12) 309⟩,⟨5,vi (5) 255,vi (13) 310⟩,⟨6,vi (6) 257,vi (14) 311⟩,⟨7,vi (7) 259,vi (15) 312⟩,⟨8,vi (8) 261,vi (16) 313⟩,⟨9,vi (9) 263,vi (17) 314⟩,⟨10,vi (10) 265,vi (18) 315⟩,⟨11,vi (11) 267,vi (19) 316⟩,⟨12,vi (12) 269,vi (1) 317⟩,⟨13,vi (13) 271,vi (4) 318⟩]) 14,#[]⟩::⟨.type "dict",none,.dict (List.toArray [⟨20,vi (20) 334,vi (0) 245⟩,⟨9,vi (9) 335,vi (1) 247⟩,⟨10,vi (10) 336,vi (2) 249⟩,⟨11,vi (11) 337,vi (3) 251⟩,⟨12,vi (12) 338,vi (4) 253⟩,⟨13,vi (13) 339,vi (5) 255⟩,⟨14,vi (14) 340,vi (6) 257⟩,⟨15,vi (15) 341,vi (7) 259⟩,⟨16,vi (16) 342,vi (8) 261⟩,⟨17,vi (17) 343,vi (9) 263⟩,⟨18,vi (18) 344,vi (10) 265⟩,⟨19,vi (19) 345,vi (11) 267⟩,⟨1,vi (1) 346,vi (12) 269⟩,⟨4,vi (4) 347,vi (13) 271⟩]) 14,#[]⟩::⟨.type "dict",none,.dict (List.toArray [⟨1,vi (1) 247,.ref 57⟩,⟨2,vi (2) 249,.ref 58⟩,⟨3,vi (3) 251,.ref 59⟩,⟨4,vi (4) 253,.ref 60⟩,⟨5,vi (5) 255,.ref 61⟩,⟨6,vi (6) 257,.ref 62⟩,⟨7,vi (7) 259,.ref 63⟩,⟨8,vi (8) 261,.ref 64⟩,⟨9,vi (9) 263,.ref 65⟩,⟨10,vi (10) 265,.ref 66⟩,⟨11,vi (11) 267,.ref 67⟩]) 11,#[]⟩::tu [vi (0) 365,vi (255) 366]::tu [vi (0) 367,vi (65535) 368]::tu [vi (-128) 370,vi (127) 371]::tu [vi (0) 372,vi (255) 373]::tu [vi (-32768) 375,vi (32767) 376]::tu [vi (0) 377,vi (65535) 378]::tu [vi (-2147483648) 380,vi (2147483647) 381]::tu [vi (0) 382,vi (4294967295) 383]::tu [vi (-9223372036854775808) 385,vi (9223372036854775807) 386]::tu [vi (0) 387,vi (18446744073709551615) 388]::tu [vi (-2147483648) 390,vi (2147483647) 391]::r)
noncomputable def Q4(P:Params)(r:List Obj):List Obj:=Q3 P (tu []::⟨.type "builtin_function_or_method",none,.fields #[.builtin "type.__prepare__",.type "type"],#[]⟩::⟨.type "dict",none,.dict (List.toArray [de P "__module__" 411 (vs "framerune.kinds" 243),de P "__qualname__" 413 (vs "KindTable" 412),de P "__firstlineno__" 415 (vi (47) 414),de P "__init__" 424 (.ref 81),de P "row" 432 (.ref 88),de P "put" 447 (.ref 95),de P "__static_attributes__" 453 (.ref 96)]) 7,#[]⟩::tu []::fi [i0 49,i0 4,.ref 80,i0 63,i0 4,.ref 87,i0 68,i0 4,.ref 94]::co [vs "KindTable" 406,vs "KindTable" 407,vs cu 408,i0 47,i0 0,i0 0,i0 0,i0 0,.ref 71,.bool false,i0 181,.ref 72,.none,.none,.none,.none,i0 409,i0 47,vs cu 410]::⟨.type "frame",none,.plain,#[some (.ref 73),some (.ref 3),some (.ref 70),none,some (vs "framerune.kinds" 243),none,some (.ref 0)]⟩::f7 (stM 39 0) "__init__" "KindTable.__init__" (vs "framerune.kinds" 243) 75 416 49 1 ["self","number","row"] [] (f7 (stM 39 1) "row" "KindTable.row" (vs "framerune.kinds" 243) 82 425 63 2 ["self","k"] [] (f7 (stM 39 2) "put" "KindTable.put" (vs "framerune.kinds" 243) 89 433 68 2 ["self","row","found","depth","weight","opened","level","inner","k"] [] (tu [vs "depths" 448,vs "index" 449,vs "opens" 450,vs "rows" 451,vs "weights" 452]::⟨.type "dict",none,.dict (List.toArray [de P "__module__" 411 (vs "framerune.kinds" 243),de P "__firstlineno__" 415 (vi (47) 414),de P "__init__" 424 (.ref 81),de P "row" 432 (.ref 88),de P "put" 447 (.ref 95),de P "__static_attributes__" 453 (.ref 96),de P "__dict__" 455 (.ref 99),de P "__weakref__" 457 (.ref 100),de P "__doc__" 458 .none]) 4,#[]⟩::⟨.type "type",none,.cls (Nk "KindTable" [.type "object"] [.ref 98,.type "object"] 97 "KindTable" true []),#[none,none,some (vs "KindTable" 404),some (vs "KindTable" 412),some (.builtin "object.__new__"),some (.bool true)]⟩::⟨.type "getset_descriptor",none,.fields #[vs "__dict__" 454,.ref 98,.builtin "function.__dict__",.builtin "function.__dict__#set"],#[]⟩::⟨.type "getset_descriptor",none,.fields #[vs "__weakref__" 456,.ref 98,.builtin "ExceptionGroup.__weakref__",.none],#[]⟩::⟨.type "super",none,.fields #[.ref 98,.ref 98,.ref 98],#[]⟩::⟨.type "builtin_function_or_method",none,.fields #[.builtin "object.__init_subclass__",.ref 98],#[]⟩::g7 40 "inner_kinds" (vs "framerune.kinds" 243) 103 461 96 1 ["row","sort"] [] (g7 41 "row_level" (vs "framerune.kinds" 243) 110 469 105 1 ["sort"] [] (g7 42 "row_length" (vs "framerune.kinds" 243) 117 476 109 1 ["sort"] [] (g7 43 "check_kind_row" (vs "framerune.kinds" 243) 124 483 115 2 ["kt","row","sort","inner"] [] (g7 44 "check_named" (vs "framerune.kinds" 243) 131 493 137 2 ["kt","row"] [] (g7 45 "check_args" (vs "framerune.kinds" 243) 138 501 141 2 ["kt","args","arg"] [] (g7 46 "may_stand" (vs "framerune.kinds" 243) 145 510 145 2 ["kt","k","sort"] [] (g7 47 "class_kind" (vs "framerune.kinds" 243) 152 519 150 3 ["kt","tid","args"] [] (g7 48 "value_kind" (vs "framerune.kinds" 243) 159 528 154 3 ["kt","tid","args"] [] (g7 49 "prim_kind" (vs "framerune.kinds" 243) 166 537 158 2 ["tid","args"] [] (g7 50 "array_kind" (vs "framerune.kinds" 243) 173 545 162 2 ["kt","elem"] [] (g7 51 "boxed_kind" (vs "framerune.kinds" 243) 180 553 164 2 ["kt","k"] [] (g7 52 "kind_sort" (vs "framerune.kinds" 243) 187 561 166 2 ["kt","k"] [] (g7 53 "elem_of" (vs "framerune.kinds" 243) 194 569 168 2 ["kt","k","row"] [] (g7 54 "tid_of" (vs "framerune.kinds" 243) 201 578 173 2 ["kt","k","row"] [] (g7 55 "args_of" (vs "framerune.kinds" 243) 208 587 182 2 ["kt","k","row"] [] (g7 56 "is_value" (vs "framerune.kinds" 243) 215 596 187 2 ["kt","k"] [] (g7 57 "is_ref" (vs "framerune.kinds" 243) 222 604 191 2 ["kt","k","sort"] [] (g7 58 "is_var" (vs "framerune.kinds" 243) 229 613 196 2 ["kt","k","sort"] [] (g7 59 "int_range" (vs "framerune.kinds" 243) 236 622 199 1 ["k"] [] (g7 60 "is_number" (vs "framerune.kinds" 243) 243 629 203 1 ["k"] [] (tu [vi (1) 656,vi (2) 658,vi (3) 660]::r)))))))))))))))))))))))))
noncomputable def Q5(P:Params)(r:List Obj):List Obj:=Q4 P (⟨.type "dict",none,.dict (List.toArray [⟨4,vi (4) 253,vi (3) 251⟩,⟨6,vi (6) 257,vi (5) 255⟩,⟨8,vi (8) 261,vi (7) 259⟩,⟨10,vi (10) 265,vi (9) 263⟩]) 4,#[]⟩::r)
noncomputable def Q6(P:Params)(r:List Obj):List Obj:=Q5 P (g7 80 "bound_kinds" (vs "framerune.kindline" 668) 252 676 224 2 ["host","k","out","seen","todo","b","inner"] [] (g7 81 "param_is_value" (vs "framerune.kindline" 668) 259 689 238 2 ["host","k","b"] [] (g7 82 "surely_class" (vs "framerune.kindline" 668) 266 698 248 2 ["host","k","b"] [] (g7 83 "is_iface" (vs "framerune.kindline" 668) 273 707 255 2 ["host","k"] [] (g7 84 "base_chain" (vs "framerune.kindline" 668) 280 715 257 2 ["host","k","out","seen"] [] (g7 85 "all_ifaces" (vs "framerune.kindline" 668) 287 725 265 2 ["host","k","found","seen","at"] [] (g7 86 "add_ifaces" (vs "framerune.kindline" 668) 294 736 271 4 ["host","kinds","found","seen","todo","k","inner"] [] (g7 87 "stands_for_ref" (vs "framerune.kindline" 668) 301 749 281 2 ["host","k"] [] (g7 88 "reduced" (vs "framerune.kindline" 668) 308 757 283 2 ["host","k","under"] [] (g7 89 "is_nullable" (vs "framerune.kindline" 668) 315 766 286 2 ["kt","k"] [] (tu []::⟨.type "builtin_function_or_method",none,.fields #[.builtin "type.__prepare__",.type "type"],#[]⟩::⟨.type "dict",none,.dict (List.toArray [de P "__module__" 783 (vs "framerune.kindrel" 774),de P "__qualname__" 785 (vs "KindHost" 784),de P "__firstlineno__" 787 (vi (289) 786),de P "__init__" 795 (.ref 335),de P "base" 803 (.ref 342),de P "ifaces_at" 811 (.ref 349),de P "sort" 819 (.ref 356),de P "variance" 827 (.ref 363),de P "under" 835 (.ref 370),de P "has_new" 843 (.ref 377),de P "__static_attributes__" 853 (.ref 378)]) 11,#[]⟩::tu []::fi [i0 291,i0 4,.ref 334,i0 302,i0 4,.ref 341,i0 307,i0 4,.ref 348,i0 312,i0 4,.ref 355,i0 315,i0 4,.ref 362,i0 318,i0 4,.ref 369,i0 321,i0 4,.ref 376]::co [vs "KindHost" 778,vs "KindHost" 779,vs cu 780,i0 289,i0 0,i0 0,i0 0,i0 0,.ref 325,.bool false,i0 181,.ref 326,.none,.none,.none,.none,i0 781,i0 289,vs cu 782]::⟨.type "frame",none,.plain,#[some (.ref 327),some (.ref 3),some (.ref 324),none,some (vs "framerune.kindrel" 774),none,some (.ref 0)]⟩::f7 (stM 91 0) "__init__" "KindHost.__init__" (vs "framerune.kindrel" 774) 329 788 291 2 ["self","kt"] [] (f7 (stM 91 1) "base" "KindHost.base" (vs "framerune.kindrel" 774) 336 796 302 2 ["self","k"] [] (f7 (stM 91 2) "ifaces_at" "KindHost.ifaces_at" (vs "framerune.kindrel" 774) 343 804 307 2 ["self","k"] [] (f7 (stM 91 3) "sort" "KindHost.sort" (vs "framerune.kindrel" 774) 350 812 312 2 ["self","k"] [] (f7 (stM 91 4) "variance" "KindHost.variance" (vs "framerune.kindrel" 774) 357 820 315 2 ["self","tid"] [] (f7 (stM 91 5) "under" "KindHost.under" (vs "framerune.kindrel" 774) 364 828 318 2 ["self","k"] [] (f7 (stM 91 6) "has_new" "KindHost.has_new" (vs "framerune.kindrel" 774) 371 836 321 2 ["self","k"] [] (tu [vs "bases" 844,vs "bounds" 845,vs "gflags" 846,vs "ifaces" 847,vs "kt" 848,vs "news" 849,vs "sorts" 850,vs "unders" 851,vs "variances" 852]::⟨.type "dict",none,.dict (List.toArray [de P "__module__" 783 (vs "framerune.kindrel" 774),de P "__firstlineno__" 787 (vi (289) 786),de P "__init__" 795 (.ref 335),de P "base" 803 (.ref 342),de P "ifaces_at" 811 (.ref 349),de P "sort" 819 (.ref 356),de P "variance" 827 (.ref 363),de P "under" 835 (.ref 370),de P "has_new" 843 (.ref 377),de P "__static_attributes__" 853 (.ref 378),de P "__dict__" 855 (.ref 381),de P "__weakref__" 857 (.ref 382),de P "__doc__" 858 .none]) 4,#[]⟩::⟨.type "type",none,.cls (Nk "KindHost" [.type "object"] [.ref 380,.type "object"] 379 "KindHost" true []),#[none,none,some (vs "KindHost" 776),some (vs "KindHost" 784),some (.builtin "object.__new__"),some (.bool true)]⟩::⟨.type "getset_descriptor",none,.fields #[vs "__dict__" 854,.ref 380,.builtin "function.__dict__",.builtin "function.__dict__#set"],#[]⟩::⟨.type "getset_descriptor",none,.fields #[vs "__weakref__" 856,.ref 380,.builtin "ExceptionGroup.__weakref__",.none],#[]⟩::⟨.type "super",none,.fields #[.ref 380,.ref 380,.ref 380],#[]⟩::⟨.type "builtin_function_or_method",none,.fields #[.builtin "object.__init_subclass__",.ref 380],#[]⟩::r))))))))))))))))))
noncomputable def Q7(P:Params)(r:List Obj):List Obj:=Q6 P (g7 92 "plain_base" (vs "framerune.kindrel" 774) 385 861 323 2 ["host","k","kt","sort"] [] (g7 93 "plain_sort" (vs "framerune.kindrel" 774) 392 871 343 2 ["host","k","tid"] [] (g7 94 "loose_base" (vs "framerune.kindrel" 774) 399 880 352 2 ["host","k","kt","best","b"] [] (tu []::fi []::⟨.none,none,.func (GP (GO 95) "loose_ifaces" 0 .none .none 0),#[]⟩::co [vs "loose_ifaces" 891,vs "loose_ifaces" 892,vs cu 893,i0 363,i0 2,i0 0,i0 0,i0 3,.ref 406,.bool true,i0 181,.ref 407,.none,.none,.none,.ref 408,i0 894,i0 363,vs cu 895]::⟨.type "function",none,.func (GP (GO 95) "loose_ifaces" 3 (vs "framerune.kindrel" 774) (.ref 409) 0),#[]⟩::tu []::⟨.type "builtin_function_or_method",none,.fields #[.builtin "type.__prepare__",.type "type"],#[]⟩::⟨.type "dict",none,.dict (List.toArray [de P "__module__" 906 (vs "framerune.kindrel" 774),de P "__qualname__" 908 (vs "Book" 907),de P "__firstlineno__" 910 (vi (369) 909),de P "__init__" 918 (.ref 424),de P "__static_attributes__" 923 (.ref 425)]) 5,#[]⟩::tu []::fi [i0 371,i0 4,.ref 423]::co [vs "Book" 901,vs "Book" 902,vs cu 903,i0 369,i0 0,i0 0,i0 0,i0 0,.ref 414,.bool false,i0 181,.ref 415,.none,.none,.none,.none,i0 904,i0 369,vs cu 905]::⟨.type "frame",none,.plain,#[some (.ref 416),some (.ref 3),some (.ref 413),none,some (vs "framerune.kindrel" 774),none,some (.ref 0)]⟩::f7 (stM 97 0) "__init__" "Book.__init__" (vs "framerune.kindrel" 774) 418 911 371 2 ["self","strict"] [] (tu [vs "listed" 919,vs "pairs" 920,vs "proved" 921,vs "strict" 922]::⟨.type "dict",none,.dict (List.toArray [de P "__module__" 906 (vs "framerune.kindrel" 774),de P "__firstlineno__" 910 (vi (369) 909),de P "__init__" 918 (.ref 424),de P "__static_attributes__" 923 (.ref 425),de P "__dict__" 925 (.ref 428),de P "__weakref__" 927 (.ref 429),de P "__doc__" 928 .none]) 4,#[]⟩::⟨.type "type",none,.cls (Nk "Book" [.type "object"] [.ref 427,.type "object"] 426 "Book" true []),#[none,none,some (vs "Book" 899),some (vs "Book" 907),some (.builtin "object.__new__"),some (.bool true)]⟩::⟨.type "getset_descriptor",none,.fields #[vs "__dict__" 924,.ref 427,.builtin "function.__dict__",.builtin "function.__dict__#set"],#[]⟩::⟨.type "getset_descriptor",none,.fields #[vs "__weakref__" 926,.ref 427,.builtin "ExceptionGroup.__weakref__",.none],#[]⟩::⟨.type "super",none,.fields #[.ref 427,.ref 427,.ref 427],#[]⟩::⟨.type "builtin_function_or_method",none,.fields #[.builtin "object.__init_subclass__",.ref 427],#[]⟩::r)))))
noncomputable def Q8(P:Params)(r:List Obj):List Obj:=Q7 P (g7 98 "ref_assignable" (vs "framerune.kindrel" 774) 432 931 376 3 ["host","s","t"] [] (g7 99 "source_assignable" (vs "framerune.kindrel" 774) 439 940 378 3 ["host","s","t"] [] (g7 100 "assign_settled" (vs "framerune.kindrel" 774) 446 949 380 4 ["host","s","t","strict","book"] [] (g7 101 "settle_book" (vs "framerune.kindrel" 774) 453 960 386 2 ["host","book","at","pair"] [] (g7 102 "has_proof" (vs "framerune.kindrel" 774) 460 970 394 3 ["host","pair","book"] [] (g7 103 "assign_within" (vs "framerune.kindrel" 774) 467 979 401 4 ["host","s","t","book","kt"] [] (g7 104 "assign_look" (vs "framerune.kindrel" 774) 474 990 417 4 ["host","s","t","book","kt","at"] [] (g7 105 "param_within" (vs "framerune.kindrel" 774) 481 1002 431 4 ["host","k","t","book","b","at"] [] (g7 106 "var_within" (vs "framerune.kindrel" 774) 488 1014 439 4 ["host","s","t","book","kt","ways","have","want","i","way","pair"] [] (g7 107 "inner_within" (vs "framerune.kindrel" 774) 495 1031 457 4 ["host","s","t","book","kt"] [] (g7 108 "elems_within" (vs "framerune.kindrel" 774) 502 1042 464 4 ["host","s","t","book"] [] (tu [vi (0) 1068,vi (0) 1074]::r))))))))))))
noncomputable def Q9(P:Params)(r:List Obj):List Obj:=Q8 P (⟨.type "dict",none,.dict (List.toArray [⟨3,vi (3) 251,.ref 511⟩,⟨4,vi (4) 253,.ref 512⟩,⟨5,vi (5) 255,.ref 513⟩,⟨6,vi (6) 257,.ref 514⟩,⟨7,vi (7) 259,.ref 515⟩,⟨8,vi (8) 261,.ref 516⟩,⟨2,vi (2) 249,.ref 517⟩]) 7,#[]⟩::tu [vi (5) 255,vi (7) 259,vi (9) 263]::tu [vi (5) 255,vi (6) 257,vi (7) 259,vi (8) 261,vi (9) 263,vi (10) 265]::tu [vi (7) 259,vi (9) 263]::tu [vi (7) 259,vi (8) 261,vi (9) 263,vi (10) 265]::tu [vi (9) 263]::tu [vi (9) 263,vi (10) 265]::tu [vi (6) 257,vi (7) 259,vi (8) 261,vi (9) 263,vi (10) 265]::⟨.type "dict",none,.dict (List.toArray [⟨3,vi (3) 251,.ref 519⟩,⟨5,vi (5) 255,.ref 520⟩,⟨7,vi (7) 259,.ref 521⟩,⟨9,vi (9) 263,.ref 522⟩]) 4,#[]⟩::tu [vi (4) 253,vi (6) 257,vi (8) 261,vi (10) 265]::tu [vi (6) 257,vi (8) 261,vi (10) 265]::tu [vi (8) 261,vi (10) 265]::tu [vi (10) 265]::r)
noncomputable def Ra(P:Params)(r:List Obj):List Obj:=Q9 P (tu [vi (3) 251,vi (4) 253,vi (5) 255,vi (6) 257,vi (8) 261,vi (10) 265]::g7 124 "nullable_inner" (vs "framerune.csconv" 1066) 524 1090 485 2 ["kt","k"] [] (g7 125 "conv_plain" (vs "framerune.csconv" 1066) 531 1098 489 2 ["kt","k","held_kind"] [] (g7 126 "is_enum" (vs "framerune.csconv" 1066) 538 1107 492 2 ["host","k"] [] (g7 127 "const_fits" (vs "framerune.csconv" 1066) 545 1115 494 3 ["s","const","t","low","high"] [] (g7 128 "implicit_of" (vs "framerune.csconv" 1066) 552 1126 501 4 ["host","s","const","t","kt","held_kind","thing"] [] (g7 129 "implicit_null" (vs "framerune.csconv" 1066) 559 1139 526 2 ["host","t","kt"] [] (g7 130 "implicit_wrap" (vs "framerune.csconv" 1066) 566 1148 533 4 ["host","s","const","held_kind","have"] [] (g7 131 "implicit_number" (vs "framerune.csconv" 1066) 573 1159 542 4 ["host","s","const","t"] [] (g7 132 "implicit_param" (vs "framerune.csconv" 1066) 580 1169 546 3 ["host","s","t","kt"] [] (g7 133 "goes" (vs "framerune.csconv" 1066) 587 1179 553 4 ["host","s","const","t"] [] (g7 134 "better_conv" (vs "framerune.csconv" 1066) 594 1189 555 5 ["host","s","const","t1","t2","forth","back","a","b"] [] (tu [vs "object" 1206,vs "string" 1207,vs "I" 1208,vs "Root" 1209,vs "Sub" 1210,vs "Leaf" 1211,vs "Odd" 1212,vs "ValueType" 1213,vs "Array" 1214,vs "Delegate" 1215,vs "Enum" 1216,vs "G" 1217,vs "H" 1218,vs "D" 1219,vs "K" 1220,vs "[]" 1221]::tu [vs "int" 1223,vs "uint" 1224,vs "long" 1225,vs "ulong" 1226,vs "short" 1227,vs "ushort" 1228,vs "byte" 1229,vs "sbyte" 1230,vs "char" 1231,vs "bool" 1232,vs "nint" 1233,vs "bad" 1234,vs "P" 1235,vs "E" 1236]::g7 138 "_law_take" (vs "law_xm0337_01" 1204) 603 1238 576 2 ["w","n"] [] (g7 139 "_law_over" (vs "law_xm0337_01" 1204) 610 1246 579 2 ["w","x","name","args"] [] (g7 140 "_law_lies" (vs "law_xm0337_01" 1204) 617 1256 588 3 ["w","x","y"] [] (r)))))))))))))))
noncomputable def SM(P:Params)(r:List Obj):List Obj:=Ra P (g7 141 "_law_turns" (vs "law_xm0337_01" 1204) 624 1265 590 3 ["w","x","y","ways","j","a","b"] [] (g7 142 "_law_is" (vs "law_xm0337_01" 1204) 631 1278 600 3 ["w","x","y","z"] [] (g7 143 "_law_span" (vs "law_xm0337_01" 1204) 638 1288 611 1 ["name","spans"] [] (g7 144 "_law_number" (vs "law_xm0337_01" 1204) 645 1296 614 3 ["s","const","t","have","want"] [] (g7 145 "_law_way" (vs "law_xm0337_01" 1204) 652 1307 628 4 ["w","s","const","t","none"] [] (g7 146 "_law_apart" (vs "law_xm0337_01" 1204) 659 1318 645 2 ["x","y","have","name","want"] [] (g7 147 "_law_better" (vs "law_xm0337_01" 1204) 666 1329 652 4 ["w","s","x","y","forth","back"] [] (tu []::fi []::⟨.none,none,.func (GP (GO 148) "_law_kind" 0 .none .none 0),#[]⟩::co [vs "_law_kind" 1341,vs "_law_kind" 1342,vs cu 1343,i0 664,i0 3,i0 0,i0 0,i0 3,.ref 673,.bool true,i0 181,.ref 674,.none,.none,.none,.ref 675,i0 1344,i0 664,vs cu 1345]::⟨.type "function",none,.func (GP (GO 148) "_law_kind" 3 (vs "law_xm0337_01" 1204) (.ref 676) 0),#[]⟩::g7 149 "_law_face" (vs "law_xm0337_01" 1204) 678 1347 676 1 ["n","root","between","thing"] [] (tu []::fi []::⟨.none,none,.func (GP (GO 150) "_law_world" 0 .none .none 0),#[]⟩::co [vs "_law_world" 1357,vs "_law_world" 1358,vs cu 1359,i0 679,i0 1,i0 0,i0 0,i0 3,.ref 685,.bool true,i0 181,.ref 686,.none,.none,.none,.ref 687,i0 1360,i0 679,vs cu 1361]::⟨.type "function",none,.func (GP (GO 150) "_law_world" 3 (vs "law_xm0337_01" 1204) (.ref 688) 0),#[]⟩::g7 151 "_law_leaf" (vs "law_xm0337_01" 1204) 690 1363 701 1 ["w"] [] (g7 152 "_law_value" (vs "law_xm0337_01" 1204) 697 1370 703 1 ["w","name"] [] (g7 153 "_law_term" (vs "law_xm0337_01" 1204) 704 1378 708 2 ["w","deep","n","first"] [] (g7 154 "_law_near" (vs "law_xm0337_01" 1204) 711 1388 720 2 ["w","x","name","args","n","first"] [] (g7 155 "_law_row" (vs "law_xm0337_01" 1204) 718 1400 735 1 ["w","sort","x","y","n","s","const"] [] (g7 156 "_law_ask" (vs "law_xm0337_01" 1204) 725 1413 747 6 ["w","host","s","const","x","y","k","a","b"] [] (tu []::fi []::⟨.none,none,.func (GP (GO 157) "law" 0 .none .none 0),#[]⟩::co [vs "law" 1428,vs "law" 1429,vs cu 1430,i0 756,i0 1,i0 0,i0 0,i0 3,.ref 732,.bool true,i0 181,.ref 733,.none,.none,.none,.ref 734,i0 1431,i0 756,vs cu 1432]::⟨.type "function",none,.func (GP (GO 157) "law" 3 (vs "law_xm0337_01" 1204) (.ref 735) 0),#[]⟩::r)))))))))))))))
noncomputable def Nl(P:Params)(r:List DictEntry):List DictEntry:=de P "__doc__" 166 .none::de P "__package__" 167 .none::de P "__loader__" 168 (.builtin "__main__.__loader__#opaque")::de P "__spec__" 169 .none::de P "__annotations__" 170 (.ref 6)::de P "__builtins__" 171 (.ref 4)::de P "__file__" 173 (vs cu 172)::de P "__cached__" 174 .none::de P "_wall" 193 (.ref 21)::de P "RuneError" 226 (.ref 38)::de P "BadKind" 242 (.ref 51)::de P "VOID" 246 (vi (0) 245)::de P "BOOL" 248 (vi (1) 247)::de P "CHAR" 250 (vi (2) 249)::de P "I1" 252 (vi (3) 251)::de P "U1" 254 (vi (4) 253)::de P "I2" 256 (vi (5) 255)::de P "U2" 258 (vi (6) 257)::de P "I4" 260 (vi (7) 259)::de P "U4" 262 (vi (8) 261)::de P "I8" 264 (vi (9) 263)::de P "U8" 266 (vi (10) 265)::de P "NINT" 268 (vi (11) 267)::de P "OBJECT" 270 (vi (12) 269)::de P "STRING" 272 (vi (13) 271)::de P "NULLK" 274 (vi (14) 273)::de P "BAD" 276 (vi (15) 275)::de P "PRIM_END" 278 (vi (16) 277)::de P "R_PRIM" 280 (vi (1) 279)::de P "R_CLASS" 282 (vi (2) 281)::de P "R_VALUE" 284 (vi (3) 283)::de P "R_ARRAY" 286 (vi (4) 285)::de P "R_BYREF" 288 (vi (5) 287)::de P "R_VAR" 290 (vi (6) 289)::de P "R_MVAR" 292 (vi (7) 291)::de P "R_BOXED" 294 (vi (8) 293)::de P "R_ROREF" 296 (vi (9) 295)::de P "R_FTN" 298 (vi (10) 297)::de P "R_RAW" 300 (vi (11) 299)::de P "DEEPEST_KIND" 302 (vi (24) 301)::de P "HEAVIEST_KIND" 304 (vi (4096) 303)::r
noncomputable def Nm(P:Params)(r:List DictEntry):List DictEntry:=Nl P (de P "PRIM_TID" 333 (.ref 54)::de P "TID_PRIM" 362 (.ref 55)::de P "ARRAY_TID" 364 (vi (5) 363)::de P "INT_RANGES" 403 (.ref 56)::r)
noncomputable def Nn(P:Params)(r:List DictEntry):List DictEntry:=Nm P (de P "KindTable" 460 (.ref 98)::de P "inner_kinds" 468 (.ref 109)::de P "row_level" 475 (.ref 116)::de P "row_length" 482 (.ref 123)::de P "check_kind_row" 492 (.ref 130)::de P "check_named" 500 (.ref 137)::de P "check_args" 509 (.ref 144)::de P "may_stand" 518 (.ref 151)::de P "class_kind" 527 (.ref 158)::de P "value_kind" 536 (.ref 165)::de P "prim_kind" 544 (.ref 172)::de P "array_kind" 552 (.ref 179)::de P "boxed_kind" 560 (.ref 186)::de P "kind_sort" 568 (.ref 193)::de P "elem_of" 577 (.ref 200)::de P "tid_of" 586 (.ref 207)::de P "args_of" 595 (.ref 214)::de P "is_value" 603 (.ref 221)::de P "is_ref" 612 (.ref 228)::de P "is_var" 621 (.ref 235)::de P "int_range" 628 (.ref 242)::de P "is_number" 635 (.ref 249)::de P "S_CLASS" 637 (vi (1) 636)::de P "S_STRUCT" 639 (vi (2) 638)::de P "S_IFACE" 641 (vi (3) 640)::de P "S_DELEGATE" 643 (vi (4) 642)::de P "S_ENUM" 645 (vi (5) 644)::de P "VA_NONE" 647 (vi (0) 646)::de P "VA_OUT" 649 (vi (1) 648)::de P "VA_IN" 651 (vi (2) 650)::de P "GB_CLASS" 653 (vi (1) 652)::de P "GB_STRUCT" 655 (vi (2) 654)::de P "T_OBJECT" 657 (vi (1) 656)::de P "T_VALUETYPE" 659 (vi (2) 658)::de P "T_ENUM" 661 (vi (3) 660)::de P "T_ARRAY" 663 (vi (5) 662)::de P "T_DELEGATE" 665 (vi (6) 664)::de P "T_NULLABLE" 667 (vi (8) 666)::de P "VALUE_ROOTS" 670 (.ref 250)::r)
noncomputable def Np(P:Params)(r:List DictEntry):List DictEntry:=Nn P (de P "SIGNED_TWIN" 675 (.ref 251)::r)
noncomputable def Nq(P:Params)(r:List DictEntry):List DictEntry:=Np P (de P "bound_kinds" 688 (.ref 258)::de P "param_is_value" 697 (.ref 265)::de P "surely_class" 706 (.ref 272)::de P "is_iface" 714 (.ref 279)::de P "base_chain" 724 (.ref 286)::de P "all_ifaces" 735 (.ref 293)::de P "add_ifaces" 748 (.ref 300)::de P "stands_for_ref" 756 (.ref 307)::de P "reduced" 765 (.ref 314)::de P "is_nullable" 773 (.ref 321)::de P "KindHost" 860 (.ref 380)::r)
noncomputable def Nr(P:Params)(r:List DictEntry):List DictEntry:=Nq P (de P "plain_base" 870 (.ref 391)::de P "plain_sort" 879 (.ref 398)::de P "loose_base" 890 (.ref 405)::de P "loose_ifaces" 896 (.ref 410)::de P "MOST_QUESTIONS" 898 (vi (512) 897)::de P "Book" 930 (.ref 427)::r)
noncomputable def Nt(P:Params)(r:List DictEntry):List DictEntry:=Nr P (de P "ref_assignable" 939 (.ref 438)::de P "source_assignable" 948 (.ref 445)::de P "assign_settled" 959 (.ref 452)::de P "settle_book" 969 (.ref 459)::de P "has_proof" 978 (.ref 466)::de P "assign_within" 989 (.ref 473)::de P "assign_look" 1001 (.ref 480)::de P "param_within" 1013 (.ref 487)::de P "var_within" 1030 (.ref 494)::de P "inner_within" 1041 (.ref 501)::de P "elems_within" 1051 (.ref 508)::de P "CV_NUM" 1053 (vi (1) 1052)::de P "CV_REF" 1055 (vi (2) 1054)::de P "CV_BOX" 1057 (vi (4) 1056)::de P "CV_WRAP" 1059 (vi (6) 1058)::de P "CV_NULL" 1061 (vi (8) 1060)::de P "CV_LIFT" 1063 (vi (9) 1062)::de P "CV_SAME" 1065 (vi (10) 1064)::de P "C_NONE" 1069 (vi (0) 1068)::de P "C_IDENT" 1071 (vi (1) 1070)::de P "C_IMPLICIT" 1073 (vi (2) 1072)::de P "NO_WAY" 1075 (.ref 509)::r)
noncomputable def Nu(P:Params)(r:List DictEntry):List DictEntry:=Nt P (de P "WIDER" 1083 (.ref 510)::de P "SIGNED_OVER" 1088 (.ref 518)::r)
noncomputable def Nv(P:Params)(r:List DictEntry):List DictEntry:=Nu P (de P "NARROW" 1089 (.ref 523)::de P "nullable_inner" 1097 (.ref 530)::de P "conv_plain" 1106 (.ref 537)::de P "is_enum" 1114 (.ref 544)::de P "const_fits" 1125 (.ref 551)::de P "implicit_of" 1138 (.ref 558)::de P "implicit_null" 1147 (.ref 565)::de P "implicit_wrap" 1158 (.ref 572)::de P "implicit_number" 1168 (.ref 579)::de P "implicit_param" 1178 (.ref 586)::de P "goes" 1188 (.ref 593)::de P "better_conv" 1203 (.ref 600)::de P "_law_refs" 1222 (.ref 601)::de P "_law_values" 1237 (.ref 602)::de P "_law_take" 1245 (.ref 609)::de P "_law_over" 1255 (.ref 616)::de P "_law_lies" 1264 (.ref 623)::r)
noncomputable def PI(P:Params)(r:List DictEntry):List DictEntry:=Nv P (de P "_law_turns" 1277 (.ref 630)::de P "_law_is" 1287 (.ref 637)::de P "_law_span" 1295 (.ref 644)::de P "_law_number" 1306 (.ref 651)::de P "_law_way" 1317 (.ref 658)::de P "_law_apart" 1328 (.ref 665)::de P "_law_better" 1340 (.ref 672)::de P "_law_kind" 1346 (.ref 677)::de P "_law_face" 1356 (.ref 684)::de P "_law_world" 1362 (.ref 689)::de P "_law_leaf" 1369 (.ref 696)::de P "_law_value" 1377 (.ref 703)::de P "_law_term" 1387 (.ref 710)::de P "_law_near" 1399 (.ref 717)::de P "_law_row" 1412 (.ref 724)::de P "_law_ask" 1427 (.ref 731)::de P "law" 1433 (.ref 736)::r)
noncomputable def Js(P:Params)(r:List Value):List Value:=i0 1::i0 0::.ref 20::i0 5::i0 0::.ref 27::i0 10::i0 0::.ref 47::r
noncomputable def Jt(P:Params)(r:List Value):List Value:=Js P r
noncomputable def Ju(P:Params)(r:List Value):List Value:=Jt P (i0 47::i0 0::.ref 73::i0 96::i0 0::.ref 108::i0 105::i0 0::.ref 115::i0 109::i0 0::.ref 122::i0 115::i0 0::.ref 129::i0 137::i0 0::.ref 136::i0 141::i0 0::.ref 143::i0 145::i0 0::.ref 150::i0 150::i0 0::.ref 157::i0 154::i0 0::.ref 164::i0 158::i0 0::.ref 171::i0 162::i0 0::.ref 178::i0 164::i0 0::.ref 185::i0 166::i0 0::.ref 192::i0 168::i0 0::.ref 199::i0 173::i0 0::.ref 206::i0 182::i0 0::.ref 213::i0 187::i0 0::.ref 220::i0 191::i0 0::.ref 227::i0 196::i0 0::.ref 234::i0 199::i0 0::.ref 241::i0 203::i0 0::.ref 248::r)
noncomputable def Jv(P:Params)(r:List Value):List Value:=Ju P r
noncomputable def Jw(P:Params)(r:List Value):List Value:=Jv P (i0 224::i0 0::.ref 257::i0 238::i0 0::.ref 264::i0 248::i0 0::.ref 271::i0 255::i0 0::.ref 278::i0 257::i0 0::.ref 285::i0 265::i0 0::.ref 292::i0 271::i0 0::.ref 299::i0 281::i0 0::.ref 306::i0 283::i0 0::.ref 313::i0 286::i0 0::.ref 320::i0 289::i0 0::.ref 327::r)
noncomputable def Jx(P:Params)(r:List Value):List Value:=Jw P (i0 323::i0 0::.ref 390::i0 343::i0 0::.ref 397::i0 352::i0 0::.ref 404::i0 363::i0 0::.ref 409::i0 369::i0 0::.ref 416::r)
noncomputable def Jy(P:Params)(r:List Value):List Value:=Jx P (i0 376::i0 0::.ref 437::i0 378::i0 0::.ref 444::i0 380::i0 0::.ref 451::i0 386::i0 0::.ref 458::i0 394::i0 0::.ref 465::i0 401::i0 0::.ref 472::i0 417::i0 0::.ref 479::i0 431::i0 0::.ref 486::i0 439::i0 0::.ref 493::i0 457::i0 0::.ref 500::i0 464::i0 0::.ref 507::r)
noncomputable def Jz(P:Params)(r:List Value):List Value:=Jy P r
noncomputable def JA(P:Params)(r:List Value):List Value:=Jz P (i0 485::i0 0::.ref 529::i0 489::i0 0::.ref 536::i0 492::i0 0::.ref 543::i0 494::i0 0::.ref 550::i0 501::i0 0::.ref 557::i0 526::i0 0::.ref 564::i0 533::i0 0::.ref 571::i0 542::i0 0::.ref 578::i0 546::i0 0::.ref 585::i0 553::i0 0::.ref 592::i0 555::i0 0::.ref 599::i0 576::i0 0::.ref 608::i0 579::i0 0::.ref 615::i0 588::i0 0::.ref 622::r)
noncomputable def Nw(P:Params)(r:List Value):List Value:=JA P (i0 590::i0 0::.ref 629::i0 600::i0 0::.ref 636::i0 611::i0 0::.ref 643::i0 614::i0 0::.ref 650::i0 628::i0 0::.ref 657::i0 645::i0 0::.ref 664::i0 652::i0 0::.ref 671::i0 664::i0 0::.ref 676::i0 676::i0 0::.ref 683::i0 679::i0 0::.ref 688::i0 701::i0 0::.ref 695::i0 703::i0 0::.ref 702::i0 708::i0 0::.ref 709::i0 720::i0 0::.ref 716::i0 735::i0 0::.ref 723::i0 747::i0 0::.ref 730::i0 756::i0 0::.ref 735::r)
noncomputable def lo(P:Params)(a b:Obj)(r:List Obj):List Obj:=boot_o_0 P::boot_o_1 P::⟨.none,none,.dict (List.toArray [de P "type.__subclasses__.Exception.0" 223 (i0 38),de P "type.__subclasses__.Exception.n" 224 (i0 1)]) 2,#[]⟩::a::boot_o_4 P::boot_o_5 P::boot_o_6 P::boot_o_7 P::boot_o_8 P::boot_o_9 P::boot_o_10 P::tu []::b::r
noncomputable def hq(P:Params)(s:String)(t:Nat)(l:List DictEntry)(n:Nat)(m:List Value)(r:List Obj):Heap:=⟨List.toArray (lo P ⟨.type "dict",none,.dict (List.toArray (de P "__name__" 165 (vs s t)::l)) n,#[]⟩ (fi m) r),(boot_heap P).life⟩
noncomputable def wB(P:Params):Heap:=⟨List.toArray (boot_o_0 P::boot_o_1 P::boot_o_2 P::boot_o_3 P::boot_o_4 P::boot_o_5 P::boot_o_6 P::boot_o_7 P::boot_o_8 P::boot_o_9 P::boot_o_10 P::tu []::fi []::Q0 P []),(boot_heap P).life⟩
noncomputable def HQ(P:Params):Heap:=hq P "framerune.kinds" 243 (Nl P []) 42 (Js P []) (Q1 P [])
noncomputable def HS(P:Params):Heap:=hq P "framerune.kinds" 243 (Nm P []) 46 (Jt P []) (Q3 P [])
noncomputable def HT(P:Params):Heap:=hq P "framerune.kindline" 668 (Nn P []) 85 (Ju P []) (Q4 P [])
noncomputable def HU(P:Params):Heap:=hq P "framerune.kindline" 668 (Np P []) 86 (Jv P []) (Q5 P [])
noncomputable def Nx(P:Params):Heap:=hq P "framerune.kindrel" 774 (Nq P []) 97 (Jw P []) (Q6 P [])
noncomputable def Ny(P:Params):Heap:=hq P "framerune.kindrel" 774 (Nr P []) 103 (Jx P []) (Q7 P [])
noncomputable def HV(P:Params):Heap:=hq P "framerune.csconv" 1066 (Nt P []) 125 (Jy P []) (Q8 P [])
noncomputable def HW(P:Params):Heap:=hq P "framerune.csconv" 1066 (Nu P []) 127 (Jz P []) (Q9 P [])
noncomputable def Nz(P:Params):Heap:=hq P "law_xm0337_01" 1204 (Nv P []) 144 (JA P []) (Ra P [])
noncomputable def dH(P:Params):Heap:=hq P "law_xm0337_01" 1204 (PI P []) 161 (Nw P []) (SM P [])
noncomputable def wC:Nat:=187
noncomputable def mn:Pos:=⟨0,0,0,0⟩
noncomputable def od:Nat:=1434
noncomputable def HX:Env:={ scope:=pw.main.scope,locals:=mainNs,globals:=mainNs,cells:=[],code:=.ref 13,frame:=some 14 }
noncomputable def tX:Code:=.body (behindTheImports pw) HX
noncomputable def st(h:Params->Heap)(k:Nat)(w:World)(os:OsState):Shared:=⟨h w.params,#[],boot_drawn,k,os⟩
noncomputable def wF:String:="special-get-raises"
noncomputable def sl(a b:Nat):List Stmt:=((behindTheImports pw).drop a).take b
theorem HY:∀ (w:World) (os:OsState),topGo treeTable pw w 11 (some (.ref 6)) 12 (st boot_heap boot_toks w os) (topStub pw)=some (st wB wC w os,⟨denote treeTable tX,tX,mn,[topFrame mn]⟩):=by
 intro w os;kernel_rfl
theorem HZ:∀ (w:World) (os:OsState),segRun treeTable pw w 11 (some (.ref 6)) 1 1 (st wB wC w os) (blockOf (behindTheImports pw) HX tX mn [topFrame mn])=some (.next,st wB wC w os,tX,mn):=by
 intro w os;kernel_rfl
noncomputable abbrev Sg(l:List Stmt)(n:Nat)(h:Params->Heap)(k:Nat)(p:Pos)(h':Params->Heap)(k':Nat)(p':Pos)(w:World)(os:OsState):Prop:=
 segRun treeTable pw w 11 (some (.ref 6)) 1 n (st h k w os) (piecesOf l HX tX p [topFrame mn])=some (.next,st h' k' w os,tX,p')
theorem both{Q:World->OsState->Prop}(f:∀ b w os,Q (World.withFollow w wF b) os)(w:World)(os:OsState):Q w os:=by
 have h:=f (w.params.followText wF) w os;rw[World.withFollow_self w wF] at h;exact h
theorem SN(w os):Sg (sl 0 35) 761 wB wC mn HQ 305 ⟨42,0,42,13⟩ w os:=by kernel_rfl
theorem PJ(w os):Sg (sl 35 4) 644 HQ 305 ⟨42,0,42,13⟩ HS 404 ⟨46,0,46,10⟩ (World.withFollow w wF false) os:=by kernel_rfl
theorem PK(w os):Sg (sl 35 4) 644 HQ 305 ⟨42,0,42,13⟩ HS 404 ⟨46,0,46,10⟩ (World.withFollow w wF true) os:=by kernel_rfl
theorem SO:∀ w os,Sg (sl 35 4) 644 HQ 305 ⟨42,0,42,13⟩ HS 404 ⟨46,0,46,10⟩ w os:=both fun b=>match b with|false=>PJ|true=>PK
theorem SQ(w os):Sg (sl 39 40) 1105 HS 404 ⟨46,0,46,10⟩ HT 671 ⟨222,0,222,11⟩ w os:=by kernel_rfl
theorem PL(w os):Sg (sl 79 1) 71 HT 671 ⟨222,0,222,11⟩ HU 676 ⟨223,0,223,11⟩ (World.withFollow w wF false) os:=by kernel_rfl
theorem PM(w os):Sg (sl 79 1) 71 HT 671 ⟨222,0,222,11⟩ HU 676 ⟨223,0,223,11⟩ (World.withFollow w wF true) os:=by kernel_rfl
theorem SS:∀ w os,Sg (sl 79 1) 71 HT 671 ⟨222,0,222,11⟩ HU 676 ⟨223,0,223,11⟩ w os:=both fun b=>match b with|false=>PL|true=>PM
theorem SV(w os):Sg (sl 80 12) 750 HU 676 ⟨223,0,223,11⟩ Nx 861 ⟨289,0,322,16⟩ w os:=by kernel_rfl
theorem SW(w os):Sg (sl 92 6) 357 Nx 861 ⟨289,0,322,16⟩ Ny 931 ⟨369,0,375,24⟩ w os:=by kernel_rfl
theorem SX(w os):Sg (sl 98 23) 476 Ny 931 ⟨369,0,375,24⟩ HV 1076 ⟨481,0,481,6⟩ w os:=by kernel_rfl
theorem PN(w os):Sg (sl 121 2) 252 HV 1076 ⟨481,0,481,6⟩ HW 1089 ⟨483,0,483,11⟩ (World.withFollow w wF false) os:=by kernel_rfl
theorem PO(w os):Sg (sl 121 2) 252 HV 1076 ⟨481,0,481,6⟩ HW 1089 ⟨483,0,483,11⟩ (World.withFollow w wF true) os:=by kernel_rfl
theorem SY:∀ w os,Sg (sl 121 2) 252 HV 1076 ⟨481,0,481,6⟩ HW 1089 ⟨483,0,483,11⟩ w os:=both fun b=>match b with|false=>PN|true=>PO
theorem SZ(w os):Sg (sl 123 18) 531 HW 1089 ⟨483,0,483,11⟩ Nz 1265 ⟨588,0,589,83⟩ w os:=by kernel_rfl
theorem Ta(w os):Sg (sl 141 17) 538 Nz 1265 ⟨588,0,589,83⟩ dH od ⟨756,0,770,15⟩ w os:=by kernel_rfl
theorem H0:∀ (w:World) (os:OsState),topRun treeTable pw w 11 (some (.ref 6)) 2 (st dH od w os) ⟨doneF .next,tX,⟨756,0,770,15⟩,[topFrame mn]⟩=some (st dH od w os):=by
 intro w os;kernel_rfl
theorem Fs:behindTheImports pw=sl 0 35++(sl 35 4++(sl 39 40++(sl 79 1++(sl 80 12++(sl 92 6++(sl 98 23++(sl 121 2++(sl 123 18++(sl 141 17++[]))))))))):=by kernel_rfl
theorem H5(w:World)(os:OsState):topRun treeTable pw w 11 (some (.ref 6)) (12+(1+(761+(644+(1105+(71+(750+(357+(476+(252+(531+(538+2)))))))))))) (st boot_heap boot_toks w os) (topStub pw)=some (st dH od w os):=by
 refine go_top (HY w os) ?_;refine piece_block (b:=behindTheImports pw) (env:=HX) (HZ w os) ?_;rw[Fs];exact piece_app (SN w os) (piece_app (SO w os) (piece_app (SQ w os) (piece_app (SS w os) (piece_app (SV w os) (piece_app (SW w os) (piece_app (SX w os) (piece_app (SY w os) (piece_app (SZ w os) (piece_app (Ta w os) (piece_nil (H0 w os)))))))))))
end
section
open PySem PySem.W PySem.Calls PyProof.Rows
noncomputable def vq:Program:=view pw [157]
noncomputable def tY:List Str:=(pw.boundNames.filter fun n=>n != ("law":Str)).eraseDups
noncomputable def rB:Hook:=⟨Heap,fun s=>s.heap,fun w=>dH w.params,fun w h=>∀ b o,(dH w.params).get? b=some o->h.get? b=some o,
 fun w s e=>by intro b o h;have e':s.heap=dH w.params:=e;rw[e'];exact h,fun w h h' x k b o e=>k b o (x b o e)⟩
theorem Fu:∀ w:World,(fencedOpening treeTable pw w 12000).map (fun s=>(s.heap,s.gens,s.drawn,s.toks))=some (boot_heap w.params,Array.mk [],boot_drawn,boot_toks):=
 boot_open (by kernel_rfl) (by kernel_rfl) (by intro s;kernel_rfl)
theorem Fv:∀ w:World,((boot_heap w.params).isNs mainGlobals&&(Array.mk ([]:List GenState)).size==0,(boot_heap w.params).objs.size,(boot_heap w.params).nsMap mainGlobals "__annotations__")=(true,11,some (.ref 6)):=by
 intro w;kernel_rfl
theorem KJ:∀ (w:World) (os:OsState),(staticsOk (importedModules pw.main.body) (boot_heap w.params) (dH w.params)&&namesBound pw (dH w.params)&&gensDone (st dH od w os)&&laidKept (boot_heap w.params) (dH w.params))=true:=by
 intro w os;kernel_rfl
theorem KL:∀ (w:World) (os:OsState),openSeen vq tY (importedModules pw.main.body) (fun s=>xlAt vq [] s&&recOk [] s) true (st dH od w os)=openGood vq tY:=by
 intro w os;kernel_rfl
end
section
open PySem PySem.W PySem.Calls PyProof.Rows
noncomputable abbrev Rb:Shared->Bool:=fun s=>xlAt vq [] s&&recOk [] s
theorem NA:LeftO pw vq tY Rb rB.obs rB.val 12000:=
 LeftO.of_pieces (H₀:=boot_heap) (H₁:=dH) (gs₀:=#[]) (gs₁:=#[]) (d₀:=boot_drawn) (d₁:=boot_drawn) (k₀:=boot_toks) (k₁:=od) (m₀:=11) (ann:=some (.ref 6))
  Fu Fv H5 (by decide) fun w=>funext fun os=>Prod.ext (KJ w os) (Prod.ext (KL w os) rfl)
end
section
open PySem PySem.W PySem.Calls PyProof.Rows
abbrev vj:OpenLaw:=PySem.Challenge.rw_xm0337_01
noncomputable abbrev p0:Program:=vj.row.prog
theorem H6:namesResolve p0=true:=by kernel_rfl
theorem KM:namesMeet p0 p0.main.body (fun _ n=>attrL n)=true:=by kernel_rfl
theorem KN:(["vars","dir","locals"]:List Str).filter (readsOut p0 p0.main.body)=[]:=by kernel_rfl
theorem KO:noRoadLSs { strict:=!(importedModules p0.main.body).all cThrough.contains,foot:=none,bare:=(["vars","dir","locals"]:List Str).filter (readsOut p0 p0.main.body) } p0.main.body=true:=by
 rw[KN];kernel_rfl
theorem As:looksOpen p0=true:=look_both (look_both (look_both (look_both (by kernel_rfl) H6) (by kernel_rfl)) KO) KM
theorem yK:vj.row.wellSaid=true:=by
 unfold OpenRow.wellSaid OpenRow.partSaid;rw[As]
 kernel_rfl
theorem CK:noRoadLSs { strict:=true,foot:=some vj.bound',writes:=vj.writes,may:=vj.may } vj.footing=true:=by kernel_rfl
theorem Au:vj.bound'.all (fun n=>!builtinNamed n||vj.about==[n]||!vj.reads n)=true:=by kernel_rfl
theorem CL:namesMeet vj.prog vj.above (fun _ n=>!vj.own.contains n)=true:=by kernel_rfl
theorem Fw:vj.wellSaid=true:=by
 unfold OpenLaw.wellSaid;rw[yK,CK,Au,CL]
 kernel_rfl
theorem CM:p0.tablesWhole=true:=by kernel_rfl
end
section
open PySem PySem.W PySem.Calls PyProof.Rows
noncomputable def Fx:DefRec:=((defOf vq ("law":Str)).get (by kernel_rfl)).1
theorem H7:defOf vq vj.row.name=some (Fx,[]):=by kernel_rfl
theorem head(call:WalkO vq tY (XL vq []) rB.says vj.row.toRowW Fx [] fun f vs=>PySem.call f vs):vj.Holds:=by
 refine holds_law Fw fun _=>?_;refine holds_open (r:=vj.row) (q:=vq) (loose:=tY) (Xt:=Rb) (XP:=XL vq []) (Yf:=rB.obs) (Ya:=rB.val) (YP:=rB.says) (d:=Fx) (kwd:=[]) (N:=12000) NA rB.of rB.keeps
  (fun s e=>xl_of s (Bool.and_eq_true_iff.mp e).1) XL.keeps H7 (by kernel_rfl) (by kernel_rfl) (fun s e=>recFacts_of (Bool.and_eq_true_iff.mp e).2) (by kernel_rfl) yK (by kernel_rfl) ⟨rfl,rfl,rfl,rfl,rfl,CM⟩ ?_ call
 w_witness2
end
section
open PySem PySem.W PySem.Calls PyProof.Rows
noncomputable def NB:List Addr:=[98,380,427,97,379,426]++(([1,35,46]:List Nat)++yJ.map (·.2.2)).filterMap zR
noncomputable def KQ(h:Heap):List Addr->Frag
 | []=>[]
 | b::l=>(h.get? b).elim (KQ h l) fun o=>(b,o)::KQ h l
noncomputable def KF(P:Params):Frag:=KQ (dH P) NB
theorem H8{α β:Type}[BEq α][LawfulBEq α]{x y:α}{b:β}{l:List (α×β)}(h:x≠y):((y,b)::l).lookup x=l.lookup x:=by
 show (bif x==y then some b else l.lookup x)=_;rw[beq_false_of_ne h];rfl
theorem NC(l:List Addr)(h:Heap)(a:Addr)(o:Obj):(KQ h l).lookup a=some o->h.get? a=some o:=
 List.rec (motive:=fun l=>(KQ h l).lookup a=some o->h.get? a=some o) (fun h=>fJ h) (fun b l ih e=>
  Option.rec (motive:=fun m=>h.get? b=m->(m.elim (KQ h l) fun o=>(b,o)::KQ h l).lookup a=some o->h.get? a=some o) (fun _ e=>ih e)
   (fun ob q e=>by
    by_cases qa:a=b
    ·rw[qa] at e⊢;exact q.trans ((List.lookup_cons_self (α:=Addr)).symm.trans e)
    ·exact ih ((H8 qa).symm.trans e)) (h.get? b) rfl e) l
theorem KR:∀ P:Params,((List.range vQ.length).all fun t=>Ng (dH P) (vQ[t]?.getD 0) (aA t))=true:=by intro P;kernel_rfl
theorem ND:∀ P:Params,QV (dH P)=true:=by intro P;kernel_rfl
theorem KS:∀ P:Params,tD.map (fun s=>OA (dH P) s)=tD.map (fun s=>(vR s.1 s.2.1).map (·.2)):=by intro P;kernel_rfl
theorem KT:∀ P:Params,(tD.all fun s=>QY (dH P) s)=true:=by intro P;kernel_rfl
theorem Fy:∀ P:Params,HO (KF P)=true:=by intro P;kernel_rfl
theorem H9:∀ P:Params,Jr (KF P)=true:=by intro P;kernel_rfl
theorem KU:∀ P:Params,((dH P).get? sysModules).isSome=true:=by intro P;kernel_rfl
theorem NF{w:World}{G:Heap}(Y:∀ b o,(dH w.params).get? b=some o->G.get? b=some o){mg mb:Str->Option Value}(hg:G.Ns mainGlobals mg)(hb:G.Ns builtinsNs mb)(hl:G.NoLimit)
  (Jq:mb "len"=some (.builtin "len")/\mb "list"=some (.type "list")/\mb "tuple"=some (.type "tuple")/\mb "range"=some (.type "range")):GF w G (KF w.params) mg mb where
 tab:=⟨fun t a h=>HN Y (by
  have:=List.all_eq_true.mp (KR w.params) t (List.mem_range.mpr (UW h).1);rw[h] at this;exact this),by
  obtain ⟨o,ho⟩:=Option.isSome_iff_exists.mp (KU w.params);rw[Y _ _ ho];rfl⟩
 cls:=HP (fun a o e=>Y _ _ (NC _ _ _ _ e)) (Fy w.params) (H9 w.params)
 gn:=Nh Y hg hb hl Jq (ND w.params)
 fn:=fun f a h=>Ni Y (KS w.params) (KT w.params) h
 new:=KI (Fy w.params)
end
section
open PySem PySem.W PySem.Calls PyProof.Rows
theorem Fz{G:Heap}{μ:Mu}{h:Heap}:∀ {vals:List Value} {ns:List Int},IntsAre vals ns->dh G μ h (ns.map V.int) vals
 | _,_,.nil=>.nil
 | _,_,.cons n t r=>.cons (.int n t) (Fz r)
theorem KV{w:World}{G:Heap}:HR w G [] G []:=
 ⟨rfl,fun _ _ e=>e,fun _ _ _ _ h=>fJ h,fun _ h=>h.elim fun _ h=>absurd h.1 List.not_mem_nil,fun _ _ _ h=>fJ h⟩
noncomputable def JB:Prop:=∀ l:List Int,l.length<=63->∃ d H',d<=200/\run aY d 88 [.qF (l.map V.int)] []=some (.bool true,H')
theorem KW:bootBuiltins ("len":Str)=some (.builtin "len")/\bootBuiltins ("list":Str)=some (.type "list")/\bootBuiltins ("tuple":Str)=some (.type "tuple")/\bootBuiltins ("range":Str)=some (.type "range"):=by
 refine ⟨?_,?_,?_,?_⟩<;>kernel_rfl
theorem FA:Oo.lookup Fx.name=some 88:=by kernel_rfl
theorem CN(ns:List Int):vj.row.claim.post [ofPy (PyData.list (List.map PyData.int ns))] (WData.bool true) [ofPy (PyData.list (List.map PyData.int ns))]=true:=by kernel_rfl
theorem FC(L:JB):vj.Holds:=by
 refine head ?_;intro w s₀ s₁ mg mb G Y fa o pm cd doc dV kV ho hd hcd hD MS hg args vals as PQ PR Tc Td Te;refine Ground.open G ?_;intro T B D TE TW
 wrow_args PQ PR Tc Td Te
 rename_i ns hs Rc hL1 hr1 hl2 a4 a3 a2 vs1 a1 hL ra w1 r0 hI hr hlen Ph
 have X:=NF (w:=w) (G:=s₁.heap) Y T.g T.b T.nolimit (by
  have h:=KW;refine ⟨?_,?_,?_,?_⟩
  ·rw[T.builtins _ (by decide)];exact h.1
  ·rw[T.builtins _ (by decide)];exact h.2.1
  ·rw[T.builtins _ (by decide)];exact h.2.2.1
  ·rw[T.builtins _ (by decide)];exact h.2.2.2)
 obtain ⟨fa',PB,NG⟩:=X.gn.fn Fx.name 88 FA;rw[MS] at NG;cases NG;obtain ⟨d,H',Rd,PS⟩:=L ns (by lia);have hv:dh s₁.heap [] s₁.heap [.qF (ns.map V.int)] [.ref a2]:=.cons (.qF hL (Fz hI)) .nil;have Fg:Bp callerA d:=⟨rfl,by show 1+claimMargin+3 * d+2<=recursionLimit;have:claimMargin=300:=rfl;have:recursionLimit=1000:=rfl;lia,by show 4+12 * d+115<cLine;have:cLine=9900:=rfl;lia⟩;refine wpAny_call (codeAny_mono (Fh X d 88 fa _ [] (.bool true) H' [] s₁ callerA [.ref a2] PS PB KV hv Fg) fun r s' z=>?_);cases r with
 | error=>exact z.elim
 | ok f=>cases f with
  | ret mv=>
   refine dj z fun μ' m x' rv=>?_;have rv:mv=.bool true:=rv.inv;rw[rv];exact GoodW.toG ⟨.inl ⟨.bool true,.bool true,[],rfl,fun cls=>rfl,.bool true,CN ns,fun _=>⟨List.nodup_nil,fun a h=>by cases h⟩⟩,fun b o e=>m.n.keep b o e (noOwn b) (fun q=>q),m.o,m.g.trans hg⟩
  | _=>exact z.elim
end
section
noncomputable abbrev pg(n:Nat):xK:=⟨aA,rq,pz,run aY n⟩
section
variable(n:Nat)(a0 a1 a2 a3 a4 a5 a6 a7:V)(h:Hp)
theorem CO:run aY (n+1) 1 [a0] h=bf (aR (pg n) jz [some a0,none,none] h) fin:=rfl
theorem rM:run aY (n+1) 2 [a0,a1] h=bf (aR (pg n) kK [some a0,some a1] h) fin:=rfl
theorem lh:run aY (n+1) 3 [a0,a1] h=bf (aR (pg n) kL [some a0,some a1,none,none,none,none,none,none,none] h) fin:=rfl
theorem uH:run aY (n+1) 4 [a0] h=bf (aR (pg n) m8 [some a0,none] h) fin:=rfl
theorem yL:run aY (n+1) 5 [a0] h=bf (aR (pg n) qI [some a0] h) fin:=rfl
theorem wG:run aY (n+1) 6 [a0] h=bf (aR (pg n) oH [some a0] h) fin:=rfl
theorem qv:run aY (n+1) 7 [a0,a1] h=bf (aR (pg n) jC [some a0,some a1,none,none] h) fin:=rfl
theorem uI:run aY (n+1) 8 [a0,a1] h=bf (aR (pg n) nc [some a0,some a1] h) fin:=rfl
theorem wH:run aY (n+1) 9 [a0,a1] h=bf (aR (pg n) oI [some a0,some a1,none] h) fin:=rfl
theorem yM:run aY (n+1) 10 [a0,a1] h=bf (aR (pg n) qJ [some a0,some a1,none] h) fin:=rfl
theorem wI:run aY (n+1) 11 [a0,a1,a2] h=bf (aR (pg n) oK [some a0,some a1,some a2] h) fin:=rfl
theorem wJ:run aY (n+1) 12 [a0,a1,a2] h=bf (aR (pg n) oL [some a0,some a1,some a2] h) fin:=rfl
theorem JC:run aY (n+1) 13 [a0,a1] h=bf (aR (pg n) qK [some a0,some a1] h) fin:=rfl
theorem wK:run aY (n+1) 14 [a0,a1] h=bf (aR (pg n) oN [some a0,some a1] h) fin:=rfl
theorem wL:run aY (n+1) 15 [a0,a1] h=bf (aR (pg n) oO [some a0,some a1] h) fin:=rfl
theorem yN:run aY (n+1) 16 [a0,a1] h=bf (aR (pg n) qL [some a0,some a1] h) fin:=rfl
theorem CP:run aY (n+1) 17 [a0,a1] h=bf (aR (pg n) uS [some a0,some a1,none] h) fin:=rfl
theorem FD:run aY (n+1) 18 [a0,a1] h=bf (aR (pg n) xX [some a0,some a1,none] h) fin:=rfl
theorem CQ:run aY (n+1) 19 [a0,a1] h=bf (aR (pg n) uU [some a0,some a1,none] h) fin:=rfl
theorem Av:run aY (n+1) 20 [a0,a1] h=bf (aR (pg n) sR [some a0,some a1] h) fin:=rfl
theorem FE:run aY (n+1) 21 [a0,a1] h=bf (aR (pg n) xY [some a0,some a1,none] h) fin:=rfl
theorem FF:run aY (n+1) 22 [a0,a1] h=bf (aR (pg n) xZ [some a0,some a1,none] h) fin:=rfl
theorem yO:run aY (n+1) 23 [a0] h=bf (aR (pg n) qN [some a0] h) fin:=rfl
theorem yP:run aY (n+1) 24 [a0] h=bf (aR (pg n) qO [some a0] h) fin:=rfl
theorem Aw:run aY (n+1) 28 [a0,a1] h=bf (aR (pg n) sU [some a0,some a1] h) fin:=rfl
theorem wM:run aY (n+1) 29 [a0,a1] h=bf (aR (pg n) oS [some a0,some a1,none,none] h) fin:=rfl
theorem wN:run aY (n+1) 30 [a0,a1] h=bf (aR (pg n) oT [some a0,some a1,none,none,none] h) fin:=rfl
theorem wO:run aY (n+1) 31 [a0,a1,a2,a3] h=bf (aR (pg n) oU [some a0,some a1,some a2,some a3,none,none,none] h) fin:=rfl
theorem jR:run aY (n+1) 32 [a0,a1] h=bf (aR (pg n) jD [some a0,some a1] h) fin:=rfl
theorem Mb:run aY (n+1) 33 [a0,a1] h=bf (aR (pg n) uX [some a0,some a1,none] h) fin:=rfl
theorem uJ:run aY (n+1) 34 [a0,a1] h=bf (aR (pg n) nE [some a0,some a1] h) fin:=rfl
theorem Dk:run aY (n+1) 35 [a0,a1] h=bf (aR (pg n) kN [some a0,some a1] h) fin:=rfl
theorem lq:run aY (n+1) 36 [a0,a1] h=bf (aR (pg n) kO [some a0,some a1] h) fin:=rfl
theorem gX:run aY (n+1) 37 [a0,a1] h=bf (aR (pg n) gQ [some a0,some a1] h) fin:=rfl
theorem rN:run aY (n+1) 38 [a0,a1] h=bf (aR (pg n) kP [some a0,some a1] h) fin:=rfl
theorem mW:run aY (n+1) 39 [a0,a1] h=bf (aR (pg n) hY [some a0,some a1] h) fin:=rfl
theorem jS:run aY (n+1) 40 [a0,a1] h=bf (aR (pg n) jH [some a0,some a1] h) fin:=rfl
theorem wQ:run aY (n+1) 42 [a0,a1] h=bf (aR (pg n) oV [some a0,some a1,none,none] h) fin:=rfl
theorem wR:run aY (n+1) 43 [a0,a1] h=bf (aR (pg n) oW [some a0,some a1,none] h) fin:=rfl
theorem wU:run aY (n+1) 44 [a0,a1] h=bf (aR (pg n) oY [some a0,some a1,none,none,none] h) fin:=rfl
theorem tZ:run aY (n+1) 45 [a0,a1] h=bf (aR (pg n) lQ [some a0,some a1,none,none] h) fin:=rfl
theorem yQ:run aY (n+1) 46 [a0,a1] h=bf (aR (pg n) qQ [some a0,some a1] h) fin:=rfl
theorem mX:run aY (n+1) 48 [a0,a1,a2] h=bf (aR (pg n) ig [some a0,some a1,some a2] h) fin:=rfl
theorem jT:run aY (n+1) 49 [a0,a1,a2,a3] h=bf (aR (pg n) jI [some a0,some a1,some a2,some a3,none] h) fin:=rfl
theorem uK:run aY (n+1) 50 [a0,a1] h=bf (aR (pg n) nI [some a0,some a1,none,none] h) fin:=rfl
theorem yR:run aY (n+1) 51 [a0,a1,a2] h=bf (aR (pg n) qR [some a0,some a1,some a2] h) fin:=rfl
theorem rO:run aY (n+1) 52 [a0,a1,a2,a3] h=bf (aR (pg n) kR [some a0,some a1,some a2,some a3,none] h) fin:=rfl
theorem uL:run aY (n+1) 53 [a0,a1,a2,a3] h=bf (aR (pg n) nJ [some a0,some a1,some a2,some a3,none,none] h) fin:=rfl
theorem ki:run aY (n+1) 55 [a0,a1,a2,a3] h=bf (aR (pg n) o5 [some a0,some a1,some a2,some a3,none,none,none,none,none,none,none] h) fin:=rfl
theorem t5:run aY (n+1) 56 [a0,a1,a2,a3] h=bf (aR (pg n) lT [some a0,some a1,some a2,some a3,none] h) fin:=rfl
theorem t6:run aY (n+1) 57 [a0,a1,a2,a3] h=bf (aR (pg n) lU [some a0,some a1,some a2,some a3] h) fin:=rfl
theorem qw:run aY (n+1) 58 [a0,a1] h=bf (aR (pg n) jK [some a0,some a1] h) fin:=rfl
theorem wV:run aY (n+1) 59 [a0,a1] h=bf (aR (pg n) o6 [some a0,some a1,none] h) fin:=rfl
theorem CS:run aY (n+1) 60 [a0,a1] h=bf (aR (pg n) uY [some a0,some a1] h) fin:=rfl
theorem wW:run aY (n+1) 61 [a0,a1,a2] h=bf (aR (pg n) o7 [some a0,some a1,some a2,none,none] h) fin:=rfl
theorem bR:run aY (n+1) 62 [a0,a1,a2,a3] h=bf (aR (pg n) nN [some a0,some a1,some a2,some a3,none,none,none] h) fin:=rfl
theorem lu:run aY (n+1) 63 [a0,a1] h=bf (aR (pg n) kY [some a0,some a1,none] h) fin:=rfl
theorem hP:run aY (n+1) 64 [a0,a1,a2,a3] h=bf (aR (pg n) kZ [some a0,some a1,some a2,some a3,none] h) fin:=rfl
theorem pJ:run aY (n+1) 65 [a0,a1,a2,a3] h=bf (aR (pg n) jb [some a0,some a1,some a2,some a3] h) fin:=rfl
theorem KX:run aY (n+1) 67 [a0,a1,a2,a3] h=bf (aR (pg n) DF [some a0,some a1,some a2,some a3] h) fin:=rfl
theorem cY:run aY (n+1) 68 [a0,a1,a2,a3,a4] h=bf (aR (pg n) nO [some a0,some a1,some a2,some a3,some a4,none,none,none,none] h) fin:=rfl
theorem Ax:run aY (n+1) 69 [a0,a1] h=bf (aR (pg n) sY [some a0,some a1] h) fin:=rfl
theorem Ay:run aY (n+1) 70 [a0,a1] h=bf (aR (pg n) sZ [some a0,some a1,none,none] h) fin:=rfl
theorem kj:run aY (n+1) 71 [a0,a1,a2] h=bf (aR (pg n) s8 [some a0,some a1,some a2] h) fin:=rfl
theorem yS:run aY (n+1) 72 [a0,a1,a2] h=bf (aR (pg n) qV [some a0,some a1,some a2,none,none,none,none] h) fin:=rfl
theorem FG:run aY (n+1) 73 [a0,a1,a2] h=bf (aR (pg n) yb [some a0,some a1,some a2,none] h) fin:=rfl
theorem Az:run aY (n+1) 74 [a0] h=bf (aR (pg n) s9 [some a0,none] h) fin:=rfl
theorem wX:run aY (n+1) 75 [a0,a1,a2] h=bf (aR (pg n) o9 [some a0,some a1,some a2,none,none] h) fin:=rfl
theorem dI:run aY (n+1) 76 [a0,a1,a2,a3] h=bf (aR (pg n) u0 [some a0,some a1,some a2,some a3,none] h) fin:=rfl
theorem yT:run aY (n+1) 77 [a0,a1] h=bf (aR (pg n) qX [some a0,some a1,none,none,none] h) fin:=rfl
theorem dp:run aY (n+1) 78 [a0,a1,a2,a3] h=bf (aR (pg n) ph [some a0,some a1,some a2,some a3,none,none] h) fin:=rfl
theorem km:run aY (n+1) 79 [a0,a1,a2] h=bf (aR (pg n) tf [some a0,some a1,some a2,none,none,none,none,none,none] h) fin:=rfl
theorem AA:run aY (n+1) 80 [a0] h=bf (aR (pg n) tg [some a0,none,none,none] h) fin:=rfl
theorem yU:run aY (n+1) 81 [a0] h=bf (aR (pg n) rg [some a0,none,none,none,none,none,none,none,none,none,none] h) fin:=rfl
theorem AB:run aY (n+1) 82 [a0] h=bf (aR (pg n) th [some a0] h) fin:=rfl
theorem rC:run aY (n+1) 83 [a0] h=bf (aR (pg n) rj [some a0,none] h) fin:=rfl
theorem fQ:run aY (n+1) 84 [a0,a1] h=bf (aR (pg n) tj [some a0,some a1,none,none] h) fin:=rfl
theorem dC:run aY (n+1) 85 [a0,a1] h=bf (aR (pg n) tp [some a0,some a1,none,none,none,none] h) fin:=rfl
theorem CT:run aY (n+1) 86 [a0] h=bf (aR (pg n) u3 [some a0,none,none,none,none,none,none] h) fin:=rfl
theorem CU:run aY (n+1) 87 [a0,a1,a2,a3,a4,a5] h=bf (aR (pg n) u4 [some a0,some a1,some a2,some a3,some a4,some a5,none,none,none] h) fin:=rfl
theorem NH:run aY (n+1) 88 [a0] h=bf (aR (pg n) Jh [some a0,none,none,none,none,none,none,none,none,none,none,none,none] h) fin:=rfl
end
end
section
section
variable{P:xK}{e e1:aU}{h h1 h2 h3:Hp}{v x y z:V}{a b c:E}{r:Option (V×Hp)}
theorem ae:ba P (.lit v) e h=some (v,h):=rfl
theorem aC{i:Nat}(q:e[i]?=some (some v)):ba P (.loc i) e h=some (v,h):=by show e[i]?.bind _=_;rw[q];rfl
theorem b8{op:Bc}(p:ba P a e h=some (x,h1))(q:ba P b e h1=some (y,h2))(k:lD op x y h2=r):ba P (.bin op a b) e h=r:=by show bf (ba P a e h) _=_;rw[p,bE,q];exact k
theorem ao{m:Nat}{op:G3}{t:Bool}(p:ba (pg m) a e h=some (x,h1))(q:ba (pg m) b e h1=some (y,h2))(k:bg aA op x y h2=some t):ba (pg m) (.cmp op a b) e h=some (.bool t,h2):=by show bf (ba (pg m) a e h) _=_;rw[p,bE,q];show (bg aA op x y h2).bind _=_;rw[k];rfl
theorem ah{i:Bool}{es:List E}(k:gA P i es e h=r):ba P (.aV i es) e h=r:=k
theorem JD{t:Bool}(p:ba P a e h=some (x,h1))(k:truth x h1=some t):ba P (.not_ a) e h=some (.bool !t,h1):=by show bf (ba P a e h) _=_;rw[p,bE,k];rfl
theorem aZ{t:Bool}(p:ba P a e h=some (.bool t,h1)):ba P (.not_ a) e h=some (.bool !t,h1):=JD p rfl
theorem aP{t:Bool}(p:ba P c e h=some (x,h1))(k:truth x h1=some t)(l:cond t (ba P a e h1) (ba P b e h1)=r):ba P (.ite c a b) e h=r:=by show bf (ba P c e h) _=_;rw[p,bE,k];exact l
theorem af{m:Nat}{f:Nat}{as:List E}{vs:List V}(p:eY (pg m) as e h=some (vs,h1))(k:run aY m f vs h1=r):ba (pg m) (.call f as) e h=r:=by show bf (eY (pg m) as e h) _=_;rw[p];exact k
theorem bO{m:Nat}{mm f:Nat}{as:List E}{vs:List V}(p:ba (pg m) a e h=some (x,h1))(o:B6 (pg m) x mm h1=some f)(q:eY (pg m) as e h1=some (vs,h2))(k:run aY m f (x::vs) h2=r):ba (pg m) (.own a mm as) e h=r:=by show bf (ba (pg m) a e h) _=_;rw[p,bE,o];show bf (eY (pg m) as e h1) _=_;rw[q];exact k
theorem NI{k f:Nat}{as:List E}{vs:List V}(p:eY P as e h=some (vs,h1))(i:P.init k=some f)(q:P.call f (.obj h1.length::vs) (h1++[.ins k []])=some (.none,h2)):ba P (.new k as) e h=some (.obj h1.length,h2):=by show bf (eY P as e h) _=_;rw[p,bE,i];show bf (P.call f _ _) _=_;rw[q];rfl
theorem vk{m k f:Nat}{as:List E}{vs:List V}(p:eY (pg m) as e h=some (vs,h1))(i:pz k=some f)(q:run aY m f (.obj h1.length::vs) (h1++[.ins k []])=some (.none,h2)):ba (pg m) (.new k as) e h=some (.obj h1.length,h2):=NI p i q
theorem bS{m:Nat}{d:E}(p:ba (pg m) a e h=some (x,h1))(i:xU x h1=true)(q:ba (pg m) b e h1=some (y,h2))(s:ba (pg m) d e h2=some (z,h3))(k:fW aA x y z h3=some v):ba (pg m) (.jj a b d) e h=some (v,h3):=by show bf (ba (pg m) a e h) _=_;rw[p,bE,if_pos i,q,bE,s];show (fW aA x y z h3).map _=_;rw[k];rfl
theorem jd(p:ba P a e h=some (x,h1))(i:Du x h1=true)(q:ba P b e h1=some (y,h2))(k:uD x y h2=r):ba P (.app a b) e h=r:=by show bf (ba P a e h) _=_;rw[p,bE,if_pos i,q];exact k
theorem JE(p:ba P a e h=some (x,h1))(k:B3 x h1=r):ba P (.pop a) e h=r:=by show bf (ba P a e h) _=_;rw[p];exact k
theorem br(p:ba P a e h=some (x,h1))(k:iT x h1=some v):ba P (.len a) e h=some (v,h1):=by show bf (ba P a e h) _=_;rw[p,bE,k];rfl
theorem t7(p:ba P a e h=some (x,h1))(k:mF x h1=r):ba P (.toList a) e h=r:=by show bf (ba P a e h) _=_;rw[p];exact k
theorem mJ(p:ba P a e h=some (x,h1))(k:vM x h1=r):ba P (.jv a) e h=r:=by show bf (ba P a e h) _=_;rw[p];exact k
theorem aK{n:Nat}(p:ba P a e h=some (x,h1))(k:cC x n h1=some v):ba P (.attr a n) e h=some (v,h1):=by show bf (ba P a e h) _=_;rw[p,bE,k];rfl
theorem aB{m:Nat}(p:ba (pg m) a e h=some (x,h1))(q:ba (pg m) b e h1=some (y,h2))(k:bI aA x y h2=some v):ba (pg m) (.sub a b) e h=some (v,h2):=by show bf (ba (pg m) a e h) _=_;rw[p,bE,q];show (bI aA x y h2).map _=_;rw[k];rfl
theorem FH(p:ba P a e h=some (x,h1))(k:B4 x h1=r):ba P (.rev a) e h=r:=by show bf (ba P a e h) _=_;rw[p];exact k
theorem nV{n:Nat}(p:ba P a e h=some (x,h1))(k:B5 x n h1=r):ba P (.pre a n) e h=r:=by show bf (ba P a e h) _=_;rw[p];exact k
theorem aI{es:List E}{vs:List V}(p:eY P es e h=some (vs,h1))(k:bp vs=true):ba P (.tup es) e h=some (.tup vs,h1):=by show bf (eY P es e h) _=_;rw[p,bE,if_pos k]
theorem c7{es:List E}{vs:List V}(p:eY P es e h=some (vs,h1))(k:jw vs h1=r):ba P (.lst es) e h=r:=by show bf (eY P es e h) _=_;rw[p];exact k
theorem eR{kd:Nat}{es:List E}{vs:List V}(p:eY P es e (h++[.dict kd []])=some (vs,h1))(k:eI h.length vs h1=r):ba P (.dict kd es) e h=r:=by show bf (eY P es e (h++[.dict kd []])) _=_;rw[p];exact k
theorem ag:eY P [] e h=some ([],h):=rfl
theorem aa{es:List E}{vs:List V}(p:ba P a e h=some (x,h1))(q:eY P es e h1=some (vs,h2)):eY P (a::es) e h=some (x::vs,h2):=by show bf (ba P a e h) _=_;rw[p,bE,q];rfl
theorem ai{i:Bool}(p:ba P a e h=r):gA P i [a] e h=r:=p
theorem bz{t u:Bool}{es:List E}(p:ba P a e h=some (.bool t,h1))(q:gA P false (b::es) e h1=some (.bool u,h1)):gA P false (a::b::es) e h=some (.bool (t||u),h1):=by
 show bf (ba P a e h) _=_;rw[p];cases t
 ·exact q
 ·rfl
theorem b9{t u:Bool}{es:List E}(p:ba P a e h=some (.bool t,h1))(q:gA P true (b::es) e h1=some (.bool u,h1)):gA P true (a::b::es) e h=some (.bool (t&&u),h1):=by
 show bf (ba P a e h) _=_;rw[p];cases t
 ·rfl
 ·exact q
noncomputable def FI{α:Type}:Bool->Bool->α->α->α
 | true,true,g,_=>g
 | false,false,g,_=>g
 | _,_,_,s=>s
theorem aL{i t:Bool}{es:List E}(p:ba P a e h=some (x,h1))(k:truth x h1=some t)(l:FI t i (gA P i (b::es) e h1) (some (x,h1))=r):gA P i (a::b::es) e h=r:=by
 show bf (ba P a e h) _=_;rw[p,bE,k,<-l];cases t<;>cases i<;>rfl
theorem aO{α:Type}{g s q:α}(p:g=q):FI true true g s=q:=p
theorem aT{α:Type}{g s q:α}(p:g=q):FI false false g s=q:=p
theorem bC{α:Type}{g s q:α}(p:s=q):FI true false g s=q:=p
theorem aS{α:Type}{g s q:α}(p:s=q):FI false true g s=q:=p
theorem aG{α:Type}{g s q:α}(p:g=q):cond true g s=q:=p
theorem aF{α:Type}{g s q:α}(p:s=q):cond false g s=q:=p
theorem aN{p:Bool}(q:p=true):truth (.bool p) h=some true:=by rw[q];rfl
theorem aD{p:Bool}(q:p=false):truth (.bool p) h=some false:=by rw[q];rfl
theorem PT{i:Int}(q:i≠0):truth (.int i) h=some true:=congrArg some (UT q)
theorem Rf{t:Option Bool}(p:truth x h=t):truth x h=t:=p
theorem v_any{v w:V}(p:v=w):v=w:=p
theorem cD{v w:V}{h:Hp}(p:v=w):some (v,h)=some (w,h):=by rw[p]
theorem NJ:truth (.int 0) h=some false:=rfl
theorem NK{n:Nat}{l:List V}(p:h[n]?=some (.list l))(q:bp l=true):truth (.obj n) h=some (decide (l≠[])):=by show (fK h n).bind _=_;rw[hW p];exact if_pos q
theorem yV{tb:Nat->List (V×V)}(q:sI x y=true):bg tb .eq x y h=some (decide (x=y)):=if_pos q
theorem AD{tb:Nat->List (V×V)}(q:sI x y=true):bg tb .ne x y h=some (!decide (x=y)):=if_pos q
theorem cT{tb:Nat->List (V×V)}{n kd:Nat}{l:List (V×V)}(p:h[n]?=some (.dict kd l))(q:keyOk kd x=true):bg tb .isin x (.obj n) h=some (aW l x).isSome:=by show (lJ h n).bind _=_;rw[sG p];exact if_pos q
theorem ku{tb:Nat->List (V×V)}{n kd:Nat}{l:List (V×V)}(p:h[n]?=some (.dict kd l))(q:keyOk kd x=true):bg tb .eH x (.obj n) h=some (!(aW l x).isSome):=by show ((lJ h n).bind _).bind _=_;rw[sG p];show (if keyOk kd x=true then _ else none:Option Bool).bind _=_;rw[if_pos q];rfl
theorem bL{n k c:Nat}{fs:List (Nat×V)}(p:h[n]?=some (.ins c fs))(q:nZ fs k=some v):cC (.obj n) k h=some v:=by show (isAt h n).bind _=_;rw[Dr p];exact q
theorem FJ{n m k f:Nat}{fs:List (Nat×V)}(p:h[n]?=some (.ins k fs))(q:nZ fs m=none)(s:rq k m=some f){d:Nat}:B6 (pg d) (.obj n) m h=some f:=by show (isAt h n).bind _=_;rw[Dr p];show (if (nZ fs m).isNone=true then rq k m else none)=_;rw[q];exact s
theorem dS{n kd:Nat}{l:List (V×V)}(p:h[n]?=some (.dict kd l)):xU (.obj n) h=true:=by show (lJ h n).isSome=true;rw[sG p];rfl
theorem gb{n:Nat}{l:List V}(p:h[n]?=some (.list l)):Du (.obj n) h=true:=by show (fK h n).isSome=true;rw[hW p];rfl
theorem cw{tb:Nat->List (V×V)}{n kd:Nat}{l:List (V×V)}(p:h[n]?=some (.dict kd l))(q:keyOk kd x=true):fW tb (.obj n) x y h=some ((aW l x).getD y):=by show (lJ h n).bind _=_;rw[sG p];exact if_pos q
theorem bh{tb:Nat->List (V×V)}{n kd:Nat}{l:List (V×V)}(p:h[n]?=some (.dict kd l))(q:keyOk kd x=true)(s:aW l x=some v):bI tb (.obj n) x h=some v:=by show h[n]?.bind _=_;rw[p];show (if keyOk kd x=true then aW l x else none)=_;rw[if_pos q];exact s
theorem KY{l:List V}{i:Int}:Ds l (.int i)=if decide (0<=i)&&gO i then l[i.toNat]? else none:=rfl
theorem JF{l:List V}{i:Int}{j:Nat}(w:i=j)(q:gO i=true)(s:l[j]?=some v):Ds l (.int i)=some v:=by
 rw[KY,q,w,UT (Int.natCast_nonneg j),Int.toNat_natCast];exact s
theorem hU{tb:Nat->List (V×V)}{n:Nat}{l:List V}{i:Int}{j:Nat}(p:h[n]?=some (.list l))(w:i=j)(q:gO i=true)(s:l[j]?=some v):bI tb (.obj n) (.int i) h=some v:=by show h[n]?.bind _=_;rw[p];exact JF w q s
theorem bB{tb:Nat->List (V×V)}{l:List V}{i:Int}{j:Nat}(w:i=j)(q:gO i=true)(s:l[j]?=some v):bI tb (.tup l) (.int i) h=some v:=JF w q s
theorem fR{n:Nat}{l:List V}(p:h[n]?=some (.list l))(q:bp l=true):iT (.obj n) h=some (.int l.length):=by show (fK h n).bind _=_;rw[hW p];exact if_pos q
theorem cA{l:List V}(q:bp l=true):iT (.tup l) h=some (.int l.length):=if_pos q
theorem gY{n:Nat}{l:List V}(p:h[n]?=some (.list l))(q:bp l=true):uD (.obj n) x h=some (.none,h.set n (.list (l++[x]))):=by show (fK h n).bind _=_;rw[hW p];exact if_pos q
theorem mK{n:Nat}{l:List V}(p:h[n]?=some (.list l))(q:bp l=true):vM (.obj n) h=some (.tup l,h):=by show (fK h n).bind _=_;rw[hW p];exact if_pos q
theorem gF{l:List V}(q:bp l=true):jw l h=some (.obj h.length,h++[.list l]):=if_pos q
theorem pK{l:List V}(q:bp l=true):mF (.tup l) h=some (.obj h.length,h++[.list l]):=if_pos q
theorem Bx{n:Nat}{l:List V}(p:h[n]?=some (.list l))(q:bp l.reverse=true):B4 (.obj n) h=some (.obj h.length,h++[.list l.reverse]):=by show (fK h n).bind _=_;rw[hW p];exact if_pos q
theorem bF{n kd:Nat}{l:List (V×V)}(p:h[n]?=some (.dict kd l))(q:keyOk kd x=true)(s:bp l=true):dn (.obj n) x y h=some (h.set n (.dict kd (hH l x y))):=by show (lJ h n).bind _=_;rw[sG p];show (if (keyOk kd x&&bp l)=true then _ else none)=_;rw[q,s];rfl
theorem gG{n k c:Nat}{fs:List (Nat×V)}(p:h[n]?=some (.ins c fs))(s:bp fs=true):fX (.obj n) k x h=some (h.set n (.ins c (vL fs k x))):=by show (isAt h n).bind _=_;rw[Dr p];exact if_pos s
theorem iu{n:Nat}{l:List V}(p:h[n]?=some (.list l)):dR (.obj n) h=some l:=hW p
theorem KZ{n:Nat}{l:List V}(p:h[n]?=some (.list l)):cV (.obj n) l h=true:=by show (fK h n).any _=true;rw[hW p];exact UT rfl
theorem NL{n:Nat}{l:List V}(p:h[n]?=some (.list (l++[x])))(k:bp (l++[x])=true):B3 (.obj n) h=some (x,h.set n (.list l)):=by show (fK h n).bind _=_;rw[hW p];refine (if_pos k).trans ?_;rw[List.getLast?_concat,List.dropLast_concat];rfl
theorem FK{n m:Nat}{l l':List V}(p:h[n]?=some (.list l))(q:h[m]?=some (.list l'))(k:bp (l++l')=true):lD .add (.obj n) (.obj m) h=some (.obj h.length,h++[.list (l++l')]):=by show (fK h n).bind _=_;rw[hW p];show (fK h m).bind _=_;rw[hW q];exact if_pos k
theorem FL{n k:Int}(a:decide (0<k)=true)(b:gO k=true):lD .fdiv (.int n) (.int k) h=some (.int (n / k),h):=by show (ite _ _ _:Option Int).bind _=_;rw[a,b];rfl
theorem bD{n m:Nat}{o o':O}(p:n≠m)(q:h[m]?=some o):(h.set n o')[m]?=some o:=by rw[List.getElem?_set_ne p,q]
theorem d9{n:Nat}{o:O}(q:n<h.length):(h.set n o)[n]?=some o:=by simp[q]
theorem bj{m:Nat}{o:O}{l:Hp}(q:h[m]?=some o):(h++l)[m]?=some o:=by rw[List.getElem?_append_left (UW q).1,q]
theorem bT{o:O}:(h++[o])[h.length]?=some o:=by simp
noncomputable def yW(kd:Nat):List V->List (V×V)->Option (List (V×V))
 | [],acc=>some acc
 | k::l,acc=>match l with
  | []=>none
  | v::vs=>if (keyOk kd k&&bp acc)=true then yW kd vs (hH acc k v) else none
noncomputable def OB(kd n:Nat)(vs:List V):Prop:=∀ (acc kvs:List (V×V)) (h:Hp),h[n]?=some (.dict kd acc)->yW kd vs acc=some kvs->eI n vs h=some (.obj n,h.set n (.dict kd kvs))
theorem CV{kd n:Nat}(vs:List V):OB kd n vs/\∀ k,OB kd n (k::vs):=
 List.rec (motive:=fun vs=>OB kd n vs/\∀ k,OB kd n (k::vs)) ⟨fun acc kvs h hn e=>by
  rw[<-UM e,<-(UW hn).2,List.set_getElem_self];rfl,fun _ _ _ _ _ e=>fJ e⟩ (fun v l ih=>⟨ih.2 v,fun k acc kvs h hn e=>cS e fun c e=>by
   show (dn _ _ _ _).bind _=_;rw[bF hn (bN c) (aE c)];refine (ih.1 _ _ _ (d9 (UW hn).1) e).trans ?_;rw[List.set_set]⟩) vs
theorem yX{kd n:Nat}{vs:List V}{acc kvs:List (V×V)}{h:Hp}(hn:h[n]?=some (.dict kd acc))(e:yW kd vs acc=some kvs):eI n vs h=some (.obj n,h.set n (.dict kd kvs)):=(CV vs).1 _ _ _ hn e
theorem FN{h:Hp}{x y:O}:(h++[x]).set h.length y=h++[y]:=by rw[List.set_append_right _ _ (Nat.le_refl _),Nat.sub_self];rfl
theorem mL{kd:Nat}{h:Hp}{vs:List V}{acc kvs:List (V×V)}(e:yW kd vs acc=some kvs):eI h.length vs (h++[.dict kd acc])=some (.obj h.length,h++[.dict kd kvs]):=by rw[yX bT e,FN]
theorem jn{i:Nat}{l:aU}(q:i<l.length):cP (.one i) v l=some (l.set i (some v)):=if_pos q
theorem bd0{p:Option V}{l:aU}:cP (.one 0) v (p::l)=some (some v::l):=rfl
theorem uA{p p1:Option V}{l:aU}:cP (.one 1) v (p::p1::l)=some (p::some v::l):=jn (by simp)
theorem cR{p p1 p2:Option V}{l:aU}:cP (.one 2) v (p::p1::p2::l)=some (p::p1::some v::l):=jn (by simp)
theorem fy{p p1 p2 p3:Option V}{l:aU}:cP (.one 3) v (p::p1::p2::p3::l)=some (p::p1::p2::some v::l):=jn (by simp)
theorem cH{p p1 p2 p3 p4:Option V}{l:aU}:cP (.one 4) v (p::p1::p2::p3::p4::l)=some (p::p1::p2::p3::some v::l):=jn (by simp)
theorem dO{p p1 p2 p3 p4 p5:Option V}{l:aU}:cP (.one 5) v (p::p1::p2::p3::p4::p5::l)=some (p::p1::p2::p3::p4::some v::l):=jn (by simp)
theorem iB{p p1 p2 p3 p4 p5 p6:Option V}{l:aU}:cP (.one 6) v (p::p1::p2::p3::p4::p5::p6::l)=some (p::p1::p2::p3::p4::p5::some v::l):=jn (by simp)
theorem By{p p1 p2 p3 p4 p5 p6 p7:Option V}{l:aU}:cP (.one 7) v (p::p1::p2::p3::p4::p5::p6::p7::l)=some (p::p1::p2::p3::p4::p5::p6::some v::l):=jn (by simp)
theorem uM{p p1 p2 p3 p4 p5 p6 p7 p8:Option V}{l:aU}:cP (.one 8) v (p::p1::p2::p3::p4::p5::p6::p7::p8::l)=some (p::p1::p2::p3::p4::p5::p6::p7::some v::l):=jn (by simp)
theorem Ia{p p1 p2 p3 p4 p5 p6 p7 p8 p9:Option V}{l:aU}:cP (.one 9) v (p::p1::p2::p3::p4::p5::p6::p7::p8::p9::l)=some (p::p1::p2::p3::p4::p5::p6::p7::p8::some v::l):=jn (by simp)
theorem yY{p p1 p2 p3 p4 p5 p6 p7 p8 p9 Tf:Option V}{l:aU}:cP (.one 10) v (p::p1::p2::p3::p4::p5::p6::p7::p8::p9::Tf::l)=some (p::p1::p2::p3::p4::p5::p6::p7::p8::p9::some v::l):=jn (by simp)
end
section
variable{P:xK}{e e1 e2:aU}{h h1 h2 h3:Hp}{v x y z:V}{a b c:E}{r:SR}{l A B:List S}{o:Out×aU}
theorem pL(A:List S):∀ (e:aU) (h:Hp),aR P (A++l) e h=bf (aR P A e h) fun r h=>cond r.1.on (aR P l r.2 h) (some (r,h)):=
 List.rec (motive:=fun A=>∀ (e:aU) (h:Hp),aR P (A++l) e h=bf (aR P A e h) fun r h=>cond r.1.on (aR P l r.2 h) (some (r,h))) (fun _ _=>rfl) (fun s A ih e h=>by
  show bf (Dv P s e h) (fun r h=>cond r.1.on (aR P (A++l) r.2 h) (some (r,h)))=bf (bf (Dv P s e h) fun r h=>cond r.1.on (aR P A r.2 h) (some (r,h))) _;cases Dv P s e h with
  | none=>rfl
  | some p=>
   obtain ⟨⟨o,e1⟩,h1⟩:=p;cases o
   ·exact ih e1 h1
   ·rfl
   ·rfl) A
theorem aj(k:aR P l e h=r):aR P ([]++l) e h=r:=k
theorem ab{s:S}(k:aR P (s::(A++l)) e h=r):aR P (s::A++l) e h=r:=k
theorem cJ:aR P [] e h=some ((.next,e),h):=rfl
theorem rD{s:S}(p:Dv P s e h=some ((.next,e1),h1))(k:aR P l e1 h1=r):aR P (s::l) e h=r:=by show bf (Dv P s e h) _=_;rw[p];exact k
theorem wY{s:S}(p:Dv P s e h=some ((.ret v,e1),h1)):aR P (s::l) e h=some ((.ret v,e1),h1):=by show bf (Dv P s e h) _=_;rw[p];rfl
theorem av{t:Tg}(p:ba P a e h=some (v,h1))(b:cP t v e=some e1)(k:aR P l e1 h1=r):aR P (.asg t a::l) e h=r:=rD (by show bf (ba P a e h) _=_;rw[p,bE,b];rfl) k
theorem c9(p:ba P a e h=some (v,h1))(k:aR P l e h1=r):aR P (.expr a::l) e h=r:=rD (by show bf (ba P a e h) _=_;rw[p];rfl) k
theorem au(p:ba P a e h=some (v,h1)):aR P (.ret a::l) e h=some ((.ret v,e),h1):=wY (by show bf (ba P a e h) _=_;rw[p];rfl)
theorem FO:aR P (.cont::l) e h=some ((.cont,e),h):=rfl
theorem fT{n:Nat}(p:ba P b e h=some (v,h1))(q:ba P a e h1=some (x,h2))(w:fX x n v h2=some h3)(k:aR P l e h3=r):aR P (.setAttr a n b::l) e h=r:=rD (by show bf (ba P b e h) _=_;rw[p,bE,q,bE,w];rfl) k
theorem bG{h4:Hp}(p:ba P c e h=some (v,h1))(q:ba P a e h1=some (x,h2))(i:ba P b e h2=some (y,h3))(w:dn x y v h3=some h4)(k:aR P l e h4=r):aR P (.bZ a b c::l) e h=r:=rD (by show bf (ba P c e h) _=_;rw[p,bE,q,bE,i,bE,w];rfl) k
theorem t8{i:Nat}{n m:Int}(q:e[i]?=some (some (.int n)))(p:ba P a e h=some (.int m,h1))(b:cP (.one i) (.int (n+m)) e=some e1)(k:aR P l e1 h1=r):aR P (.aug i .add a::l) e h=r:=rD (by
 show e[i]?.bind _=_;rw[q];show bf (ba P a e h) _=_;rw[p];exact cS b fun _ b=>by rw[<-UM b];rfl) k
theorem aq{t:Bool}(p:ba P a e h=some (x,h1))(q:truth x h1=some t)(k:cond t (aR P (A++l) e h1) (aR P (B++l) e h1)=r):aR P (.ite a A B::l) e h=r:=by
 rw[<-k];show bf (bf (ba P a e h) _) _=_;rw[p,bE,q];cases t
 ·exact (pL B e h1).symm
 ·exact (pL A e h1).symm
theorem K8(k:aR P (A++l) e h=r):aR P (.zJ A::l) e h=r:=((pL A e h).symm.trans k:bf (aR P A e h) _=r)
noncomputable def dq(P:xK)(t:Tg)(b:List S)(v:V)(e:aU)(h:Hp):SR:=(cP t v e).bind fun e=>aR P b e h
theorem eT{t:Tg}{vs:List V}(p:ba P a e h=some (x,h1))(c:dR x h1=some vs)(k:eQ (cV x vs) (dq P t A) vs e h1=some ((.next,e1),h2))(q:aR P l e1 h2=r):aR P (.gN t a A::l) e h=r:=rD (by show bf (ba P a e h) _=_;rw[p,bE,c];exact k) q
theorem AE{t:Tg}{vs:List V}(p:ba P a e h=some (x,h1))(c:dR x h1=some vs)(k:eQ (cV x vs) (dq P t A) vs e h1=some ((.ret v,e1),h2)):aR P (.gN t a A::l) e h=some ((.ret v,e1),h2):=wY (by show bf (ba P a e h) _=_;rw[p,bE,c];exact k)
theorem NM{i:Nat}{k:Int}(p:ba P a e h=some (.int k,h1)):Dv P (.rH i a A) e h=if decide (0<=k)&&decide (k<jk) then eQ (fun _=>true) (dq P (.one i) A) (vN k.toNat) e h1 else none:=by
 show bf (ba P a e h) _=_;rw[p];rfl
theorem JG{i k:Nat}(p:ba P a e h=some (.int k,h1))(c:k<jk):Dv P (.rH i a A) e h=eQ (fun _=>true) (dq P (.one i) A) (vN k) e h1:=by
 rw[NM p,UT (Int.natCast_nonneg k),UT (Int.ofNat_lt.mpr c),Int.toNat_natCast];rfl
theorem FP{i k:Nat}(p:ba P a e h=some (.int k,h1))(c:k<jk)(s:eQ (fun _=>true) (dq P (.one i) A) (vN k) e h1=some ((.next,e1),h2))(q:aR P l e1 h2=r):aR P (.rH i a A::l) e h=r:=rD ((JG p c).trans s) q
theorem Bz{i k:Nat}(p:ba P a e h=some (.int k,h1))(c:k<jk)(s:eQ (fun _=>true) (dq P (.one i) A) (vN k) e h1=some ((.ret v,e1),h2)):aR P (.rH i a A::l) e h=some ((.ret v,e1),h2):=wY ((JG p c).trans s)
theorem AF{n:Nat}(k:hJ (oD P a) (aR P A) n e h=some ((.next,e1),h2))(q:aR P l e1 h2=r):aR P (.uC n a A::l) e h=r:=rD k q
theorem wt{t:Bool}(p:ba P a e h=some (x,h1))(q:truth x h1=some t):oD P a e h=some (t,h1):=by show bf (ba P a e h) _=_;rw[p,bE,q];rfl
theorem w_end{n:Nat}{t:aU->Hp->Option (Bool×Hp)}{f:aU->Hp->SR}(p:t e h=some (false,h1)):hJ t f (n+1) e h=some ((.next,e),h1):=by show bf (t e h) _=_;rw[p];rfl
theorem w_next{n:Nat}{t:aU->Hp->Option (Bool×Hp)}{f:aU->Hp->SR}(p:t e h=some (true,h1))(q:f e h1=some ((.next,e1),h2))(k:hJ t f n e1 h2=r):hJ t f (n+1) e h=r:=by show bf (t e h) _=_;rw[p];show bf (f e h1) _=_;rw[q];exact k
theorem K9{n:Nat}{t:aU->Hp->Option (Bool×Hp)}{f:aU->Hp->SR}(p:t e h=some (true,h1))(q:f e h1=some ((.cont,e1),h2))(k:hJ t f n e1 h2=r):hJ t f (n+1) e h=r:=by show bf (t e h) _=_;rw[p];show bf (f e h1) _=_;rw[q];exact k
theorem yZ{same:Hp->Bool}{f:V->aU->Hp->SR}:eQ same f [] e h=some ((.next,e),h):=rfl
theorem d7{same:Hp->Bool}{f:V->aU->Hp->SR}{vs:List V}(p:f v e h=some ((.next,e1),h1))(s:same h1=true)(k:eQ same f vs e1 h1=r):eQ same f (v::vs) e h=r:=by show bf (f v e h) _=_;rw[p];show (if same h1=true then _ else none)=_;rw[if_pos s];exact k
theorem t9{same:Hp->Bool}{f:V->aU->Hp->SR}{vs:List V}(p:f v e h=some ((.ret x,e1),h1)):eQ same f (v::vs) e h=some ((.ret x,e1),h1):=by show bf (f v e h) _=_;rw[p];rfl
theorem dJ{t:Tg}(p:cP t v e=some e1)(k:aR P A e1 h=r):dq P t A v e h=r:=by show (cP t v e).bind _=_;rw[p];exact k
theorem aw{q:Option (V×Hp)}(p:aR P A e h=some ((.ret v,e1),h1))(k:some (v,h1)=q):bf (aR P A e h) fin=q:=by rw[p,<-k];rfl
theorem mq{q:Option (V×Hp)}(p:aR P A e h=some ((.next,e1),h1))(k:some (.none,h1)=q):bf (aR P A e h) fin=q:=by rw[p,<-k];rfl
end
section
variable{n:Nat}{same:Hp->Bool}{f:V->Hp->Option (Option V×Hp)}{v y:V}{vs acc:List V}{h h1 h2:Hp}{r:Option (Unit×Hp)}
theorem La(p:f v h=some (none,h1))(s:same h1=true)(k:iW n same f vs h1=r):iW n same f (v::vs) h=r:=by
 show bf (f v h) _=_;rw[p];exact (if_pos s).trans k
theorem FQ(p:f v h=some (some y,h1))(hn:h1[n]?=some (.list acc))(lk:bp acc=true)(w:h1.set n (.list (acc++[y]))=h2)(s:same h2=true)(k:iW n same f vs h2=r):iW n same f (v::vs) h=r:=by
 show bf (f v h) _=_;rw[p];show (fK h1 n).bind _=_;rw[hW hn];show (if (bp acc&&same _)=true then iW n same f vs _ else none)=r;rw[w,lk,s];exact k
end
end
local macro_rules | `(tactic| exists [$as,*],[$bs,*],$ts,*) => `(tactic| first $[|apply $as]* $[|exact $ts]* $[|apply $bs]* |with_unfolding_all exact rfl)
section
inductive T
 | nm (n:Nat)|one (n:Nat) (a:T)|two (n:Nat) (a b:T)
noncomputable def enc:T->V
 | .nm n=>.tup [.str n,.tup []]
 | .one n a=>.tup [.str n,.tup [enc a]]
 | .two n a b=>.tup [.str n,.tup [enc a,enc b]]
theorem gJ:∀ {t u:T},enc t=enc u->t=u
 | .nm n,.nm m,e=>by simp only[enc,V.tup.injEq,List.cons.injEq,V.str.injEq,and_true] at e;rw[e]
 | .nm n,.one m a,e=>by simp[enc] at e
 | .nm n,.two m a b,e=>by simp[enc] at e
 | .one n a,.nm m,e=>by simp[enc] at e
 | .one n a,.one m b,e=>by
  simp only[enc,V.tup.injEq,List.cons.injEq,V.str.injEq,and_true] at e;rw[e.1,gJ e.2]
 | .one n a,.two m b c,e=>by simp[enc] at e
 | .two n a b,.nm m,e=>by simp[enc] at e
 | .two n a b,.one m c,e=>by simp[enc] at e
 | .two n a b,.two m c d,e=>by
  simp only[enc,V.tup.injEq,List.cons.injEq,V.str.injEq,and_true] at e;rw[e.1,gJ e.2.1,gJ e.2.2]
noncomputable instance:DecidableEq T:=fun t u=>decidable_of_iff (enc t=enc u) ⟨gJ,fun e=>e▸rfl⟩
noncomputable def dD:List T:=[.nm 59,.nm 25,.nm 24,.nm 23,.nm 22,.nm 20,.nm 21,.nm 16,.nm 17,.nm 18,.nm 19,.nm 26,.nm 0,.nm 1,.nm 60,.nm 27,
 .nm 7,.nm 10,.nm 8,.nm 9,.nm 3,.nm 4,.nm 5,.nm 6,.nm 2,.nm 28,.nm 29]
noncomputable def kz(n:Nat):Bool:=[59,25,24,23,22,20,21,16,17,18,19,26,0,1,60,27].contains n
noncomputable def bk:T->Int
 | .nm n=>if kz n then 1 else if n=28∨n=29 then 3 else 2
 | .one n _=>if n=15 then 4 else if n=99 then 8 else if n=61 then 3 else 2
 | .two _ _ _=>2
noncomputable def eV:T->Int
 | .nm n=>if n=7 then 2 else if n=10 then 3 else if n=8 then 5 else if n=9 then 6 else if n=3 then 64 else if n=4 then 65 else if n=5 then 66 else if n=6 then 67 else if n=2 then 68 else if n=28 then 70 else if n=29 then 71 else 0
 | .one n _=>if n=61 then 8 else if n=11 then 72 else if n=14 then 75 else 0
 | .two n _ _=>if n=12 then 73 else 74
noncomputable def aQ:T->List T
 | .nm _=>[]
 | .one _ a=>[a]
 | .two _ a b=>[a,b]
noncomputable def kn(ts:List T)(t:T):Int:=(ts.idxOf t:Nat)
noncomputable abbrev kv(ts:List T)(t:T):V:=.int (kn ts t)
noncomputable def cG(ts:List T)(t:T):V:=match t with
 | .nm n=>if kz n then .tup [.int 1,kv ts t] else .tup [.int (bk t),.int (eV t),.tup []]
 | .one n a=>if n=15∨n=99 then .tup [.int (bk t),kv ts a] else .tup [.int (bk t),.int (eV t),.tup [kv ts a]]
 | .two n a b=>.tup [.int 2,.int (eV t),.tup [kv ts a,kv ts b]]
noncomputable def okN:T->Bool
 | .nm n=>decide (T.nm n∈dD)
 | .one n _=>n==15||n==99||n==61||n==11||n==14
 | .two n _ _=>n==12||n==13
structure Tb(ts:List T):Prop where
 base:∃ r,ts=dD++r
 nodup:ts.Nodup
 args:∀ t∈ts,∀ a∈aQ t,a∈ts
 len:ts.length<=9000
 ok:∀ t∈ts,okN t=true
noncomputable def mr:T->Int
 | .nm _=>1
 | .one n a=>if n=99 then mr a else mr a+1
 | .two _ a b=>max (mr a) (mr b)+1
noncomputable def vm:T->Int
 | .nm _=>1
 | .one _ a=>vm a+1
 | .two _ a b=>vm a+vm b+1
noncomputable def ua(ts:List T)(l:List T):List (V×V):=l.map fun t=>(cG ts t,kv ts t)
structure Rp(h:Hp)(ts:List T):Prop where
 tb:Tb ts
 h2:h[2]?=some (.ins 0 [(30,.obj 3),(31,.obj 4),(32,.obj 5),(33,.obj 6),(34,.obj 7)])
 h3:h[3]?=some (.list (ts.map (cG ts)))
 h4:h[4]?=some (.dict 2 (ua ts ts))
 h5:h[5]?=some (.list (ts.map fun t=>.int (mr t)))
 h6:h[6]?=some (.list (ts.map fun t=>.int (vm t)))
 h7:h[7]?=some (.list (ts.map fun _=>.int 0))
section
variable{h:Hp}{ts:List T}{t:T}{n:Nat}
theorem vn(ht:t∈ts):ts.idxOf t<ts.length:=List.idxOf_lt_length_iff.mpr ht
theorem ub(ht:t∈ts):ts[ts.idxOf t]?=some t:=by
 rw[List.getElem?_eq_getElem (vn ht),List.getElem_idxOf (vn ht)]
theorem vo:0<=kn ts t:=by unfold kn;lia
theorem eW{u:T}(ht:t∈ts)(hu:u∈ts):kn ts t=kn ts u↔t=u:=by
 constructor
 ·intro e;have e':ts.idxOf t=ts.idxOf u:=by unfold kn at e;lia
  have a:=ub ht;rw[e',ub hu] at a;exact (UM a).symm
 ·rintro rfl;rfl
theorem NN(b:Tb ts)(ht:t∈ts):kn ts t<9000:=by have:=vn ht;have:=b.len;unfold kn;lia
theorem iN(b:Tb ts){u:T}(hu:u∈dD):u∈ts:=by (refine cX b.base fun r y0_1=>?_;obtain rfl:=y0_1);exact UP _ hu
theorem mM(b:Tb ts){u:T}(hu:u∈dD):kn ts u=(dD.idxOf u:Nat):=by
 (refine cX b.base fun r y1_1=>?_;obtain rfl:=y1_1)
 unfold kn;rw[List.idxOf_append,if_pos hu]
theorem jU(b:Tb ts)(ht:t∈ts){u:T}(hu:u∈dD){i:Int}(hi:i=(dD.idxOf u:Nat)):kn ts t=i↔t=u:=by
 rw[hi,<-mM b hu];exact eW ht (iN b hu)
theorem mN(t:T):bk t=1∨bk t=2∨bk t=3∨bk t=4∨bk t=8:=by
 cases t with
 | nm n=>simp only[bk];split;simp;split<;>simp
 | one n a=>simp only[bk];split;simp;split;simp;split<;>simp
 | two n a b=>simp[bk]
theorem bA{α:Type}{l:List α}(p:l.length<=10000):bp l=true:=UT (Nat.lt_of_le_of_lt p (by decide))
theorem je{i:Int}(p:0<=i)(q:i<=10000):gO i=true:=by
 unfold gO intMax;rw[UT (by lia),UT (by lia)];rfl
theorem BA{l:List V}{v:V}(b:Tb ts)(ht:t∈ts)(p:h[n]?=some (.list l))(q:l[ts.idxOf t]?=some v):bI aA (.obj n) (kv ts t) h=some v:=
 hU p (j:=ts.idxOf t) rfl (je vo (Int.le_of_lt (Int.lt_trans (NN b ht) (by decide)))) q
theorem jf(R:Rp h ts)(ht:t∈ts):run aY (n+1) 2 [.obj 2,kv ts t] h=some (cG ts t,h):=by
 have h3:¬ kn ts t<0:=Int.not_lt.mpr vo;have h4:kn ts t<(ts.length:Int):=Int.ofNat_lt.mpr (vn ht);have hl:bp (ts.map (cG ts))=true:=bA (by rw[UQ];exact Nat.le_trans R.tb.len (by decide));have hr:(ts.map (cG ts))[ts.idxOf t]?=some (cG ts t):=by rw[List.getElem?_map,ub ht];rfl
 rw[rM]
 with_reducible repeat' first|(apply aD;(with_unfolding_all simp[h3,h4];done))|exists[aK,aB,ao,ah,ai,aL,br,aj,aq,au,aw],[aF,aT,bL,fR],ae,BA R.tb ht R.h3 hr,R.h2,R.h3,hl,aD rfl
end
end
section
section
variable{h:Hp}{ts:List T}{t:T}{n:Nat}
theorem ee(R:Rp h ts):B6 (pg n) (.obj 2) 35 h=some 2:=FJ R.h2 rfl rfl
theorem sj(R:Rp h ts):B6 (pg n) (.obj 2) 36 h=some 3:=FJ R.h2 rfl rfl
theorem t0{a:V}{l:List V}:bI aA (.tup (a::l)) (.int 0) h=some a:=bB (j:=0) rfl rfl rfl
theorem t1{a b:V}{l:List V}:bI aA (.tup (a::b::l)) (.int 1) h=some b:=bB (j:=1) rfl rfl rfl
theorem t2{a b c:V}{l:List V}:bI aA (.tup (a::b::c::l)) (.int 2) h=some c:=bB (j:=2) rfl rfl rfl
theorem dw(ts:List T)(t:T):(bk t=1/\cG ts t=.tup [.int 1,kv ts t])∨((bk t=2∨bk t=3)/\cG ts t=.tup [.int (bk t),.int (eV t),.tup ((aQ t).map (kv ts))])∨((bk t=4∨bk t=8)/\∃ n a,t=.one n a/\cG ts t=.tup [.int (bk t),kv ts a]):=by
 cases t with
 | nm n=>
  by_cases p:kz n=true
  ·exact .inl ⟨by simp only[bk,p,if_true],by simp only[cG,p,if_true]⟩
  ·refine .inr (.inl ⟨?_,by simp only[cG,p];rfl⟩);simp only[bk,p]
   by_cases q:n=28∨n=29
   ·right;simp[q]
   ·left;simp[q]
 | one n a=>
  by_cases p:n=15
  ·subst p;exact .inr (.inr ⟨.inl rfl,_,_,rfl,rfl⟩)
  ·by_cases p2:n=99
   ·subst p2;exact .inr (.inr ⟨.inr rfl,_,_,rfl,rfl⟩)
   ·refine .inr (.inl ⟨?_,by simp only[cG,p,p2,or_self,if_false];rfl⟩);simp only[bk,p,p2,if_false]
    by_cases q:n=61
    ·right;simp[q]
    ·left;simp[q]
 | two n a b=>exact .inr (.inl ⟨.inl rfl,rfl⟩)
theorem mY:bI aA (cG ts t) (.int 0) h=some (.int (bk t)):=by
 rcases dw ts t with ⟨p,q⟩|⟨p,q⟩|⟨p,_,_,_,q⟩<;>rw[q]
 ·rw[p];exact t0
 ·exact t0
 ·exact t0
theorem Lb(hs:bk t=2∨bk t=3):bI aA (cG ts t) (.int 1) h=some (.int (eV t)):=by
 rcases dw ts t with ⟨p,q⟩|⟨p,q⟩|⟨p,_,_,_,q⟩
 ·lia
 ·rw[q];exact t1
 ·lia
theorem Lc(hs:bk t=2∨bk t=3):bI aA (cG ts t) (.int 2) h=some (.tup ((aQ t).map (kv ts))):=by
 rcases dw ts t with ⟨p,q⟩|⟨p,q⟩|⟨p,_,_,_,q⟩
 ·lia
 ·rw[q];exact t2
 ·lia
noncomputable def el(t:T):T:=match t with
 | .one _ a=>a
 | t=>t
theorem FT(hs:bk t=4∨bk t=8):bI aA (cG ts t) (.int 1) h=some (kv ts (el t)):=by
 rcases dw ts t with ⟨p,q⟩|⟨p,q⟩|⟨p,n,a,rfl,q⟩
 ·lia
 ·lia
 ·rw[q];exact t1
theorem bH(R:Rp h ts)(ht:t∈ts):run aY (n+2) 16 [.obj 2,kv ts t] h=some (.int (bk t),h):=by
 rw[yN]
 with_reducible repeat' exists[ag,aa,bO,aB,au,aw],[],ae,ee R,jf R ht,mY
noncomputable def dz:T->Int
 | .nm n=>if kz n then (dD.idxOf (T.nm n):Nat) else 100
 | _=>100
noncomputable def kA:T->Bool
 | .nm n=>kz n
 | _=>false
theorem FU(b:Tb ts)(ht:t∈ts)(hk:kn ts t<16):kA t=true:=by
 have key:∀ i,i<16->∀ u,dD[i]?=some u->kA u=true:=by decide
 refine cX b.base fun r hr=>?_;have hi:ts.idxOf t<16:=by unfold kn at hk;lia
 have hg:=ub ht;rw[hr] at hg hi;rw[List.getElem?_append_left (Nat.lt_of_lt_of_le hi (by decide))] at hg;exact key _ hi _ hg
theorem y8:∀ n,kz n=true->T.nm n∈dD/\dD.idxOf (T.nm n)<16:=by
 intro n h;have:∀ n∈[59,25,24,23,22,20,21,16,17,18,19,26,0,1,60,27],T.nm n∈dD/\dD.idxOf (T.nm n)<16:=by decide
 exact this n (by simpa [kz] using h)
theorem iO(t:T):bk t=1↔kA t=true:=by
 cases t with
 | nm n=>
  simp only[bk,kA]
  split
  ·rename_i h;simp[h]
  ·rename_i h;split<;>simp[h]
 | one n a=>simp only[bk,kA];split;simp;split;simp;split<;>simp
 | two n a b=>simp[bk,kA]
theorem hV(b:Tb ts)(ht:t∈ts):(0<=dz t/\dz t<16/\kn ts t=dz t/\bk t=1)∨(dz t=100/\16<=kn ts t/\bk t≠1):=by
 have hs:=iO t
 by_cases p:kA t=true
 ·cases t with
  | nm n=>
   have hp:kz n=true:=p;refine bY (y8 n hp) fun hb rL=>?_;have e:dz (.nm n)=(dD.idxOf (T.nm n):Nat):=by simp only[dz,hp,if_true]
   exact .inl ⟨by rw[e];exact Int.natCast_nonneg _,by rw[e];exact Int.ofNat_lt.mpr rL,by rw[e];exact mM b hb,hs.mpr p⟩
  | one n a=>cases p
  | two n a b=>cases p
 ·refine .inr ⟨?_,Int.not_lt.mp fun q=>p (FU b ht q),fun q=>p (hs.mp q)⟩;cases t with
  | nm n=>exact if_neg p
  | one n a=>rfl
  | two n a b=>rfl
noncomputable def isVal(t:T):Bool:=(decide (1<=dz t)&&decide (dz t<=11))||decide (bk t=3)
noncomputable def isRef(t:T):Bool:=decide (dz t=12)||decide (dz t=13)||decide (dz t=14)||decide (bk t=2)||decide (bk t=4)||decide (bk t=8)
theorem kB(R:Rp h ts)(ht:t∈ts):run aY (n+2) 20 [.obj 2,kv ts t] h=some (.bool (isVal t),h):=by
 have hp:=hV R.tb ht;rw[Av]
 by_cases q:1<=kn ts t/\kn ts t<=11
 ·have:isVal t=true:=by unfold isVal;simp;lia
  with_reducible repeat' first|(apply aN;(with_unfolding_all simp[q.1,q.2,this];done))|(apply aD;(with_unfolding_all simp[q.1,q.2,this];done))|exists[ag,aa,bO,aB,ao,ah,ai,aj,ab,aq,au,aw,b9],[aG,aF],ae,aN rfl,aD rfl|apply cD|(apply v_any;(with_unfolding_all simp[q.1,q.2,this];done))
 ·have:isVal t=decide (bk t=3):=by
   unfold isVal;have:¬ (1<=dz t/\dz t<=11):=by lia
   simp only[<-Bool.decide_and,this];simp
  have q':(decide (1<=kn ts t)&&decide (kn ts t<=11))=false:=by simp;lia
  with_reducible repeat' first|(apply aN;(with_unfolding_all simp[this];done))|(apply aD;(with_unfolding_all simp[this];done))|exists[ag,aa,bO,aB,ao,ah,ai,aj,ab,aq,au,aw,b9],[aG,aF],ae,ee R,jf R ht,mY,aD q',aN rfl,aD rfl|apply cD|(apply v_any;(with_unfolding_all simp[this];done))
theorem FV(t:T):bk t≠6/\bk t≠7:=by rcases mN t with q|q|q|q|q<;>rw[q]<;>decide
theorem dK(R:Rp h ts)(ht:t∈ts):run aY (n+2) 22 [.obj 2,kv ts t] h=some (.bool false,h):=by
 have:=FV t;rw[FF]
 with_reducible repeat' first|exists[ag,aa,bO,aB,ao,ah,ai,av,au,aw,bz],[],ae,ee R,jf R ht,mY,cR|apply cD|(apply v_any;(with_unfolding_all simp[this];done))
theorem fj(R:Rp h ts)(ht:t∈ts):run aY (n+2) 21 [.obj 2,kv ts t] h=some (.bool (isRef t),h):=by
 have hp:=hV R.tb ht;have Mc:kn ts t=12↔dz t=12:=by lia
 have Md:kn ts t=13↔dz t=13:=by lia
 have Ib:kn ts t=14↔dz t=14:=by lia
 rw[FE]
 by_cases q:dz t=12∨dz t=13∨dz t=14
 ·have:isRef t=true:=by unfold isRef;simp;lia
  with_reducible repeat' first|(apply aN;(with_unfolding_all simp[Mc,Md,Ib,q,this];done))|(apply aD;(with_unfolding_all simp[Mc,Md,Ib,q,this];done))|exists[ag,aa,bO,aB,ao,ah,ai,aj,ab,av,aq,au,aw,bz],[aG,aF],ae,aN rfl,aD rfl,cR|apply cD|(apply v_any;(with_unfolding_all simp[Mc,Md,Ib,q,this];done))
 ·simp only[not_or] at q;have:isRef t=(decide (bk t=2)||(decide (bk t=4)||decide (bk t=8))):=by
   unfold isRef;simp[q,Bool.or_assoc]
  with_reducible repeat' first|(apply aN;(with_unfolding_all simp[Mc,Md,Ib,q,this];done))|(apply aD;(with_unfolding_all simp[Mc,Md,Ib,q,this];done))|exists[ag,aa,bO,aB,ao,ah,ai,aj,ab,av,aq,au,aw,bz],[aG,aF],ae,ee R,jf R ht,mY,aN rfl,aD rfl,cR|apply cD|(apply v_any;(with_unfolding_all simp[Mc,Md,Ib,q,this];done))
end
end
section
section
variable{h:Hp}{ts:List T}{t:T}{n:Nat}
theorem jV(R:Rp h ts)(ht:t∈ts)(q:bk t=4∨bk t=8):run aY (n+2) 17 [.obj 2,kv ts t] h=some (kv ts (el t),h):=by
 rw[CP];have e1:=FT (h:=h) (ts:=ts) q;rcases q with q|q<;>with_reducible repeat' first|(apply aN;(with_unfolding_all simp[q];done))|(apply aD;(with_unfolding_all simp[q];done))|exists[ag,aa,bO,aB,ao,ah,ai,aL,ab,av,aq,au,aw],[aG,aT,bC],ae,ee R,jf R ht,mY,e1,aN rfl,aD rfl,cR
noncomputable def Ic(i:Int):Int:=match aW (aA 0) (.int i) with|some (.int j)=>j|_=>0
theorem Ie{i:Int}(h0:0<=i)(h1:i<16):(aW (aA 0) (.int i)).getD (.int 0)=.int (Ic i):=by
 have key:∀ k:Nat,k<16->(aW (aA 0) (.int (k:Nat))).getD (.int 0)=.int (Ic (k:Nat)):=by decide
 (refine cX (Int.eq_ofNat_of_zero_le h0) fun k y0_1=>?_;obtain rfl:=y0_1)
 exact key k (Int.ofNat_lt.mp h1)
noncomputable def cF(t:T):Int:=if bk t=1 then Ic (dz t) else if bk t=4 then 5 else if bk t=8 then 0 else eV t
theorem Ld{tb:Nat->List (V×V)}{t:Nat}{i:Int}{d v:V}(p:(aW (tb t) (.int i)).getD d=v):fW tb (.tab t) (.int i) d h=some v:=by rw[<-p];rfl
theorem iP(R:Rp h ts)(ht:t∈ts):run aY (n+2) 18 [.obj 2,kv ts t] h=some (.int (cF t),h):=by
 rw[FD];rcases mN t with q|q|q|q|q
 ·rcases hV R.tb ht with ⟨a,b,c,d⟩|⟨a,b,c⟩
  ·have e:=Ie a b;rw[<-c] at e;have e2:Ic (kn ts t)=cF t:=by simp only[cF,q,c,if_true]
   rw[e2] at e
   with_reducible repeat' first|(apply aN;(with_unfolding_all simp[q];done))|(apply aD;(with_unfolding_all simp[q];done))|exists[ag,aa,bO,aB,ao,ah,ai,aL,bS,aj,ab,av,aq,au,aw],[aG,aF,aT,bC],ae,ee R,jf R ht,mY,Ld e,aN rfl,aD rfl,cR|apply cD|(apply v_any;(with_unfolding_all simp[q];done))
  ·exact absurd q c
 ·have e1:eV t=cF t:=by simp[cF,q]
  have e2:=Lb (h:=h) (ts:=ts) (.inl q:bk t=2∨bk t=3)
  with_reducible repeat' first|(apply aN;(with_unfolding_all simp[q,e1];done))|(apply aD;(with_unfolding_all simp[q,e1];done))|exists[ag,aa,bO,aB,ao,ah,ai,aL,bS,aj,ab,av,aq,au,aw],[aG,aF,aT,bC],ae,ee R,jf R ht,mY,e2,aN rfl,aD rfl,cR|apply cD|(apply v_any;(with_unfolding_all simp[q,e1];done))
 ·have e1:eV t=cF t:=by simp[cF,q]
  have e2:=Lb (h:=h) (ts:=ts) (.inr q:bk t=2∨bk t=3)
  with_reducible repeat' first|(apply aN;(with_unfolding_all simp[q,e1];done))|(apply aD;(with_unfolding_all simp[q,e1];done))|exists[ag,aa,bO,aB,ao,ah,ai,aL,bS,aj,ab,av,aq,au,aw],[aG,aF,aT,bC],ae,ee R,jf R ht,mY,e2,aN rfl,aD rfl,cR|apply cD|(apply v_any;(with_unfolding_all simp[q,e1];done))
 ·have e1:cF t=5:=by simp[cF,q]
  with_reducible repeat' first|(apply aN;(with_unfolding_all simp[q,e1];done))|(apply aD;(with_unfolding_all simp[q,e1];done))|exists[ag,aa,bO,aB,ao,ah,ai,aL,bS,aj,ab,av,aq,au,aw],[aG,aF,aT,bC],ae,ee R,jf R ht,mY,aN rfl,aD rfl,cR|apply cD|(apply v_any;(with_unfolding_all simp[q,e1];done))
 ·have e1:cF t=0:=by simp[cF,q]
  with_reducible repeat' first|(apply aN;(with_unfolding_all simp[q,e1];done))|(apply aD;(with_unfolding_all simp[q,e1];done))|exists[ag,aa,bO,aB,ao,ah,ai,aL,bS,aj,ab,av,aq,au,aw],[aG,aF,aT,bC],ae,ee R,jf R ht,mY,aN rfl,aD rfl,cR|apply cD|(apply v_any;(with_unfolding_all simp[q,e1];done))
noncomputable def jg(t:T):List T:=if bk t=2∨bk t=3 then aQ t else []
theorem qx(R:Rp h ts)(ht:t∈ts):run aY (n+2) 19 [.obj 2,kv ts t] h=some (.tup ((jg t).map (kv ts)),h):=by
 rw[CQ]
 by_cases q:bk t=2∨bk t=3
 ·have e2:=Lc (h:=h) (ts:=ts) q;have e1:jg t=aQ t:=if_pos q;have q':(decide (V.int (bk t)=V.int 2)||decide (V.int (bk t)=V.int 3))=true:=by simpa using q
  rw[e1]
  with_reducible repeat' exists[ag,aa,bO,aB,ao,ah,ai,aI,aj,ab,av,aq,au,aw,bz],[aG,aF],ae,ee R,jf R ht,mY,e2,aN q',aN rfl,aD rfl,cR
 ·have e1:jg t=[]:=if_neg q;have q':(decide (V.int (bk t)=V.int 2)||decide (V.int (bk t)=V.int 3))=false:=by simpa using q
  rw[e1]
  with_reducible repeat' exists[ag,aa,bO,aB,ao,ah,ai,aI,aj,ab,av,aq,au,aw,bz],[aG,aF],ae,ee R,jf R ht,mY,aD q',aN rfl,aD rfl,cR
noncomputable def isOpt(t:T):Bool:=match t with
 | .one n _=>n==61
 | _=>false
theorem Ig(b:Tb ts)(ht:t∈ts):(bk t=3/\cF t=8)↔isOpt t=true:=by
 have ok:=b.ok t ht;cases t with
 | nm n=>
  have hb:T.nm n∈dD:=UU ok;have key:∀ u∈dD,¬ (bk u=3/\cF u=8):=by decide +kernel
  exact ⟨fun q=>absurd q (key _ hb),fun q=>by cases q⟩
 | one n a=>
  simp only[okN,Bool.or_eq_true,beq_iff_eq] at ok;rcases ok with (((rfl|rfl)|rfl)|rfl)|rfl<;>simp[isOpt,bk,cF,eV]
 | two n a c=>simp[isOpt,bk]
theorem gK(R:Rp h ts)(ht:t∈ts):run aY (n+3) 34 [.obj 2,kv ts t] h=some (.bool (isOpt t),h):=by
 rw[uJ];have e:(decide (V.int (bk t)=V.int 3)&&decide (V.int (cF t)=V.int 8))=isOpt t:=by
  rw[Bool.eq_iff_iff,<-Ig R.tb ht];simp
 with_reducible repeat' first|exists[ag,aa,af,ao,ah,ai,au,aw,b9],[],ae,bH R ht,iP R ht,congrArg V.bool e|apply cD
theorem fm(hq:isOpt t=true):jg t=[el t]/\t=.one 61 (el t):=by
 cases t with
 | one n a=>
  have:n=61:=eq_of_beq hq;subst this;exact ⟨rfl,rfl⟩
 | nm n=>cases hq
 | two n a b=>cases hq
theorem eG(R:Rp h ts)(ht:t∈ts):run aY (n+4) 58 [.obj 2,kv ts t] h=some (if isOpt t then kv ts (el t) else .int (-1),h):=by
 rw[qw];cases q:isOpt t with
 | true=>
  have a:=qx (n:=n+1) R ht;rw[(fm q).1] at a
  with_reducible repeat' first|(apply aN;(with_unfolding_all simp[q];done))|(apply aD;(with_unfolding_all simp[q];done))|exists[ag,aa,af,aB,aj,ab,aq,au,aw],[aG,aF,bB],ae,gK R ht,a,t0,aN rfl,aD rfl
 | false=>with_reducible repeat' first|(apply aN;(with_unfolding_all simp[q];done))|(apply aD;(with_unfolding_all simp[q];done))|exists[ag,aa,af,aB,aj,ab,aq,au,aw],[aG,aF,bB],ae,gK R ht,aN rfl,aD rfl
noncomputable def eX(t:T):T:=if isOpt t then el t else t
theorem kC(R:Rp h ts)(ht:t∈ts):run aY (n+5) 59 [.obj 2,kv ts t] h=some (kv ts (eX t),h):=by
 rw[wV];have a:=eG (n:=n) R ht;cases q:isOpt t with
 | true=>
  have h2:¬ kn ts (el t)<0:=Int.not_lt.mpr vo;rw[q,if_pos (Eq.refl true)] at a;have:eX t=el t:=by rw[eX,q];rfl
  rw[this]
  with_reducible repeat' first|(apply aN;(with_unfolding_all simp[h2];done))|(apply aD;(with_unfolding_all simp[h2];done))|exists[ag,aa,af,ao,aP,av,au,aw],[aG,aF],ae,a,aN rfl,aD rfl,cR
 | false=>
  rw[q] at a;have:eX t=t:=by rw[eX,q];rfl
  rw[this]
  with_reducible repeat' exists[ag,aa,af,ao,aP,av,au,aw],[aG,aF],ae,a,aN rfl,aD rfl,cR
noncomputable def gf(t:T):Bool:=decide (dz t≠0)&&decide (dz t≠14)&&decide (bk t≠8)
theorem rE(R:Rp h ts)(ht:t∈ts):run aY (n+2) 10 [.obj 2,kv ts t] h=some (.bool (gf t),h):=by
 rw[yM];have hp:=hV R.tb ht;have e0:kn ts t=0↔dz t=0:=by lia
 have Ib:kn ts t=14↔dz t=14:=by lia
 by_cases q:dz t=0∨dz t=14
 ·have q':(decide (kv ts t=V.int 0)||decide (kv ts t=V.int 14))=true:=by simpa [e0,Ib] using q
  have:gf t=false:=by unfold gf;simp;lia
  rw[this]
  with_reducible repeat' first|exists[ag,aa,bO,aB,ao,ah,ai,aj,ab,av,aq,au,aw,bz],[aG,aF],ae,aN q',aN rfl,aD rfl,cR|apply cD
 ·have q':(decide (kv ts t=V.int 0)||decide (kv ts t=V.int 14))=false:=by simpa [e0,Ib] using q
  have:(decide (bk t<=4)||(decide (V.int (bk t)=V.int 6)||decide (V.int (bk t)=V.int 7)))=gf t:=by
   simp only[not_or] at q;unfold gf;rcases mN t with p|p|p|p|p<;>simp[p,q]
  with_reducible repeat' first|exists[ag,aa,bO,aB,ao,ah,ai,aj,ab,av,aq,au,aw,bz],[aG,aF],ae,aD q',ee R,jf R ht,mY,congrArg V.bool this,aN rfl,aD rfl,cR|apply cD
end
end
section
section
variable{h:Hp}{ts:List T}{t:T}{n:Nat}
noncomputable def PU(i:Int):Nat:=if i=2 then 7 else if i=3 then 10 else if i=5 then 8 else if i=6 then 9 else if i=64 then 3 else if i=65 then 4 else if i=66 then 5 else if i=67 then 6 else if i=68 then 2 else if i=70 then 28 else 29
noncomputable def Rg(i:Int):List T->T
 | []=>.nm (PU i)
 | [a]=>.one (if i=8 then 61 else if i=72 then 11 else 14) a
 | a::b::_=>.two (if i=73 then 12 else 13) a b
theorem dE{k:Nat}(q:okN (.nm k)=true):T.nm k∈dD:=UU q
theorem vp(o:okN t=true)(p:bk t=2∨bk t=3):Rg (eV t) (aQ t)=t/\0<eV t/\(aW (aA 1) (.int (eV t))).isSome=false:=by
 cases t with
 | nm k=>
  have key:∀ u∈dD,(bk u=2∨bk u=3)->Rg (eV u) (aQ u)=u/\0<eV u/\(aW (aA 1) (.int (eV u))).isSome=false:=by decide +kernel
  exact key _ (dE o) p
 | one k a=>
  simp only[okN,Bool.or_eq_true,beq_iff_eq] at o;rcases o with (((rfl|rfl)|rfl)|rfl)|rfl
  ·rcases p with p|p<;>exact absurd p (by decide:¬ (4:Int)=_)
  ·rcases p with p|p<;>exact absurd p (by decide:¬ (8:Int)=_)
  ·exact ⟨rfl,(by decide:(0:Int)<8),(by decide:(aW (aA 1) (.int 8)).isSome=false)⟩
  ·exact ⟨rfl,(by decide:(0:Int)<72),(by decide:(aW (aA 1) (.int 72)).isSome=false)⟩
  ·exact ⟨rfl,(by decide:(0:Int)<75),(by decide:(aW (aA 1) (.int 75)).isSome=false)⟩
 | two k a b=>
  simp only[okN,Bool.or_eq_true,beq_iff_eq] at o;rcases o with rfl|rfl
  ·exact ⟨rfl,(by decide:(0:Int)<73),(by decide:(aW (aA 1) (.int 73)).isSome=false)⟩
  ·exact ⟨rfl,(by decide:(0:Int)<74),(by decide:(aW (aA 1) (.int 74)).isSome=false)⟩
theorem map_inj:∀ {l m:List T},(∀ a∈l,a∈ts)->(∀ a∈m,a∈ts)->l.map (kv ts)=m.map (kv ts)->l=m
 | [],[],_,_,_=>rfl
 | [],_::_,_,_,e=>by cases e
 | _::_,[],_,_,e=>by cases e
 | a::l,b::m,p,q,e=>by
  rw[List.map_cons,List.map_cons,List.cons.injEq,V.int.injEq] at e;rw[(eW (p a (.head _)) (q b (.head _))).mp e.1,map_inj (fun x h=>p x (.tail _ h)) (fun x h=>q x (.tail _ h)) e.2]
theorem FW(b:Tb ts){u:T}(o1:okN t=true)(a1:∀ a∈aQ t,a∈ts)(o2:okN u=true)(a2:∀ a∈aQ u,a∈ts)(e:cG ts t=cG ts u):t=u:=by
 have pr:∀ {v:T},okN v=true->bk v=1->v∈ts:=fun {v} o s=>by
  cases v with
  | nm k=>exact iN b (dE o)
  | one k a=>exact absurd ((iO _).mp s) (by intro h;cases h)
  | two k a c=>exact absurd ((iO _).mp s) (by intro h;cases h)
 rcases dw ts t with ⟨p,q⟩|⟨p,q⟩|⟨p,k,a,rfl,q⟩<;>rcases dw ts u with ⟨p',q'⟩|⟨p',q'⟩|⟨p',k',a',rfl,q'⟩<;>rw[q,q'] at e
 ·rw[V.tup.injEq,List.cons.injEq,List.cons.injEq,V.int.injEq] at e;exact (eW (pr o1 p) (pr o2 p')).mp (V.int.inj e.2.1)
 ·cases congrArg (fun v=>match v with|V.tup l=>l.length|_=>0) e
 ·simp only[V.tup.injEq,List.cons.injEq,V.int.injEq] at e;lia
 ·cases congrArg (fun v=>match v with|V.tup l=>l.length|_=>0) e
 ·simp only[V.tup.injEq,List.cons.injEq,V.int.injEq,and_true] at e;rw[<-(vp o1 p).1,<-(vp o2 p').1,e.2.1,map_inj a1 a2 e.2.2]
 ·cases congrArg (fun v=>match v with|V.tup l=>l.length|_=>0) e
 ·simp only[V.tup.injEq,List.cons.injEq,V.int.injEq] at e;lia
 ·cases congrArg (fun v=>match v with|V.tup l=>l.length|_=>0) e
 ·simp only[V.tup.injEq,List.cons.injEq,V.int.injEq,and_true] at e;have e2:=(eW (a1 a (.head _)) (a2 a' (.head _))).mp e.2;have e1:k=k':=by
   have key:∀ x:Nat,∀ c:T,okN (.one x c)=true->bk (.one x c)=4∨bk (.one x c)=8->x=if bk (.one x c)=4 then 15 else 99:=by
    intro x c o s;simp only[okN,Bool.or_eq_true,beq_iff_eq] at o;rcases o with (((rfl|rfl)|rfl)|rfl)|rfl
    ·rfl
    ·rfl
    ·rcases s with s|s<;>exact absurd s (by decide:¬ (3:Int)=_)
    ·rcases s with s|s<;>exact absurd s (by decide:¬ (2:Int)=_)
    ·rcases s with s|s<;>exact absurd s (by decide:¬ (2:Int)=_)
   rw[key k a o1 p,key k' a' o2 p',e.1]
  rw[e1,e2]
theorem BB(b:Tb ts)(o1:okN t=true)(a1:∀ a∈aQ t,a∈ts):aW (ua ts ts) (cG ts t)=if t∈ts then some (kv ts t) else none:=by
 have:∀ l:List T,(∀ u∈l,u∈ts)->aW (ua ts l) (cG ts t)=if t∈l then some (kv ts t) else none:=by
  intro l
  induction l with
  | nil=>intro _;rfl
  | cons u l ih=>
   intro hl;have hu:=hl u (.head _);show (if cG ts u=cG ts t then some (kv ts u) else aW (ua ts l) (cG ts t))=_
   by_cases q:u=t
   ·subst q;rw[if_pos rfl,if_pos (.head _)]
   ·rw[if_neg fun e=>q (FW b (b.ok u hu) (b.args u hu) o1 a1 e),ih fun v hv=>hl v (.tail _ hv)];have:t∈u::l↔t∈l:=⟨fun h=>(UO h).resolve_left fun e=>q e.symm,.tail _⟩;simp only[this]
 exact this ts fun _ h=>h
theorem wZ:∀ l:List T,kJ (l.map (kv ts))=true/\cL 6 (l.map (kv ts))=true
 | []=>⟨by simp[kJ],by simp[cL]⟩
 | a::l=>⟨by rw[List.map_cons,kJ,(wZ l).1];simp[vK],by rw[List.map_cons,cL,(wZ l).2];simp[plain]⟩
theorem w7:keyOk 2 (cG ts t)=true:=by
 rcases dw ts t with ⟨p,q⟩|⟨p,q⟩|⟨p,k,a,rfl,q⟩<;>rw[q]
 ·simp[keyOk,kJ,vK,plain,cL]
 ·simp[keyOk,kJ,vK,plain,cL,wZ]
 ·simp[keyOk,kJ,vK,plain,cL]
theorem vu(R:Rp h ts)(ht:t∈ts):run aY (n+1) 3 [.obj 2,cG ts t] h=some (kv ts t,h):=by
 rw[lh];have h1:=BB R.tb (R.tb.ok t ht) (R.tb.args t ht);rw[if_pos ht] at h1;have h2:(aW (ua ts ts) (cG ts t)).getD (.int (-1))=kv ts t:=by rw[h1];rfl
 have h0:=vo (ts:=ts) (t:=t);have h3:fW aA (.obj 4) (cG ts t) (.int (-1)) h=some (kv ts t):=by rw[<-h2];exact cw R.h4 w7
 with_reducible repeat' first|(apply aN;(with_unfolding_all simp[h0];done))|exists[aK,ao,bS,ab,av,aq,au,aw],[aG,bL,dS,cw],ae,R.h2,R.h4,h3,aN rfl,cR
theorem nW(o1:okN t=true)(hs:bk t≠1):run aY (n+1) 4 [cG ts t] h=some (.tup ((aQ t).map (kv ts)),h):=by
 rw[uH];have r0:=mY (h:=h) (ts:=ts) (t:=t);rcases dw ts t with ⟨p,q⟩|⟨p,q⟩|⟨p,k,a,rfl,q⟩
 ·exact absurd p hs
 ·have e:=Lc (h:=h) (ts:=ts) p;have q':(decide (V.int (bk t)=V.int 2)||decide (V.int (bk t)=V.int 3))=true:=by simpa using p
  with_reducible repeat' exists[ag,aa,aB,ao,ah,ai,aI,aj,ab,av,aq,au,aw,bz],[aG,aF],ae,r0,e,aN q',aN rfl,aD rfl,uA
 ·have e:=FT (h:=h) (ts:=ts) p;rcases p with p|p<;>with_reducible repeat' first|(apply aN;(with_unfolding_all simp[p];done))|(apply aD;(with_unfolding_all simp[p];done))|exists[ag,aa,aB,ao,ah,ai,aI,aj,ab,av,aq,au,aw,bz],[aG,aF],ae,r0,e,aN rfl,aD rfl,uA
theorem za{s:Int}:run aY (n+1) 5 [.int s] h=some (.int (if s=2∨s=3∨s=4 then 1 else 0),h):=by
 rw[yL]
 by_cases q:s=2∨s=3∨s=4
 ·have q':(decide (V.int s=V.int 2)||(decide (V.int s=V.int 3)||decide (V.int s=V.int 4)))=true:=by simpa using q
  rw[if_pos q]
  with_reducible repeat' exists[ao,ah,ai,aj,ab,aq,au,aw,bz],[aG,aF],ae,aN q',aN rfl,aD rfl
 ·have q':(decide (V.int s=V.int 2)||(decide (V.int s=V.int 3)||decide (V.int s=V.int 4)))=false:=by simpa using q
  rw[if_neg q]
  with_reducible repeat' exists[ao,ah,ai,aj,ab,aq,au,aw,bz],[aG,aF],ae,aD q',aN rfl,aD rfl
theorem w8{s:Int}(hs:s≠10):run aY (n+1) 6 [.int s] h=some (.int (if s=2∨s=3 then 3 else 2),h):=by
 rw[wG]
 by_cases q:s=2∨s=3
 ·have q':(decide (V.int s=V.int 2)||decide (V.int s=V.int 3))=true:=by simpa using q
  rw[if_pos q]
  with_reducible repeat' exists[ao,ah,ai,aj,ab,aq,au,aw,bz],[aG,aF],ae,aN q',aN rfl,aD rfl
 ·have q':(decide (V.int s=V.int 2)||decide (V.int s=V.int 3))=false:=by simpa using q
  rw[if_neg q]
  with_reducible repeat' first|(apply aN;(with_unfolding_all simp[hs];done))|(apply aD;(with_unfolding_all simp[hs];done))|exists[ao,ah,ai,aj,ab,aq,au,aw,bz],[aG,aF],ae,aD q',aN rfl,aD rfl
theorem Ih:iT (cG ts t) h=some (.int (if bk t=2∨bk t=3 then 3 else 2)):=by
 rcases dw ts t with ⟨p,q⟩|⟨p,q⟩|⟨p,k,a,rfl,q⟩<;>rw[q]
 ·rw[if_neg (by lia)];rfl
 ·rw[if_pos p];rfl
 ·rw[if_neg (by lia)];rfl
theorem w9(R:Rp h ts){l:List T}(Th:∀ a∈l,a∈ts)(Ti:∀ a∈l,gf a=true):run aY (n+3) 9 [.obj 2,.tup (l.map (kv ts))] h=some (.none,h):=by
 rw[wH];have loop:∀ l:List T,(∀ a∈l,a∈ts)->(∀ a∈l,gf a=true)->∀ {L:List V} {v:V} {x:Option V},∃ x',eQ (cV (.tup L) L) (dq (pg (n+2)) (.one 2) [.ite (.not_ (.call 10 [.loc 0,.loc 2])) [.stuck] []]) (l.map (kv ts)) [some (.obj 2),some v,x] h=some ((.next,[some (.obj 2),some v,x']),h):=by
  intro l
  induction l with
  | nil=>intro _ _ L v x;exact ⟨x,rfl⟩
  | cons a l ih=>
   intro p q L v x;refine cX (ih (fun b hb=>p b (.tail _ hb)) (fun b hb=>q b (.tail _ hb)) (L:=L) (v:=v) (x:=some (kv ts a))) fun x' e=>?_;refine ⟨x',d7 (dJ cR ?_) rfl e⟩;have:=q a (.head _);have pm:=rE (n:=n) R (p a (.head _));rw[this] at pm
   with_reducible repeat' first|(apply aC;with_unfolding_all exact rfl)|exists[ag,aa,af,aZ,cJ,aj,aq],[aF],pm,aD rfl,cR
 obtain ⟨x',e⟩:=loop l Th Ti;exact mq (eT (aC rfl) rfl e cJ) rfl
end
end
section
noncomputable def Fr(X:List Nat)(h h':Hp):Prop:=∀ i o,i∉X->h[i]?=some o->h'[i]?=some o
theorem Fr.rfl'{X:List Nat}{h:Hp}:Fr X h h:=fun _ _ _ e=>e
theorem Fr.trans{X:List Nat}{a b c:Hp}(p:Fr X a b)(q:Fr X b c):Fr X a c:=fun i o hi e=>q i o hi (p i o hi e)
theorem Fr.mono{X Y:List Nat}{a b:Hp}(p:Fr X a b)(q:∀ i∈X,i∈Y):Fr Y a b:=fun i o hi e=>p i o (fun hx=>hi (q i hx)) e
theorem Fr.nil{X:List Nat}{a b:Hp}(p:Fr [] a b):Fr X a b:=p.mono (fun _ h=>by cases h)
theorem Fr.app{X:List Nat}{h l:Hp}:Fr X h (h++l):=fun i o _ e=>bj e
theorem Fr.set{X:List Nat}{h:Hp}{n:Nat}{o:O}(hn:n∈X):Fr X h (h.set n o):=fun i p hi e=>bD (fun q=>hi (q▸hn)) e
theorem bU{h:Hp}{i:Nat}{o:O}(e:h[i]?=some o):i<h.length:=(UW e).1
theorem Fr.at{h h':Hp}{i:Nat}{o:O}(p:Fr [] h h')(e:h[i]?=some o):h'[i]?=some o:=p i o (fun q=>by cases q) e
theorem Fr.len{h h':Hp}(p:Fr [] h h'):h.length<=h'.length:=by
 rcases Nat.eq_zero_or_pos h.length with z|z
 ·lia
 ·have:=bU (p.at (List.getElem?_eq_getElem (i:=h.length - 1) (by lia)));lia
theorem dT{ts r:List T}{t:T}(ht:t∈ts):kn (ts++r) t=kn ts t:=by
 unfold kn;rw[List.idxOf_append,if_pos ht]
theorem xa{ts r:List T}:∀ {l:List T},(∀ a∈l,a∈ts)->l.map (kv (ts++r))=l.map (kv ts)
 | [],_=>rfl
 | a::l,p=>by rw[List.map_cons,List.map_cons,xa fun x h=>p x (.tail _ h),kv,dT (p a (.head _))]
theorem BC{ts r:List T}{t:T}(ht:bk t=1->t∈ts)(ha:∀ a∈aQ t,a∈ts):cG (ts++r) t=cG ts t:=by
 cases t with
 | nm n=>
  simp only[cG]
  split
  ·rename_i hp;rw[kv,dT (ht ((iO _).mpr hp))]
  ·rfl
 | one n a=>simp only[cG,kv];rw[dT (ha a (.head _))]
 | two n a b=>simp only[cG,kv];rw[dT (ha a (.head _)),dT (ha b (.tail _ (.head _)))]
noncomputable def ht:T->Nat
 | .nm _=>1
 | .one _ a=>ht a+1
 | .two _ a b=>max (ht a) (ht b)+1
theorem xb(t:T):1<=mr t:=by
 induction t with
 | nm n=>exact Int.le_refl 1
 | one n a ih=>simp only[mr];split<;>lia
 | two n a b ia ib=>simp only[mr];lia
theorem Le(t:T):mr t<=ht t:=by
 induction t with
 | nm n=>exact Int.le_refl 1
 | one n a ih=>simp only[mr,ht];split<;>lia
 | two n a b ia ib=>simp only[mr,ht];lia
theorem Lf(t:T):∃ w:Nat,vm t=w/\w+1<=2 ^ ht t:=by
 induction t with
 | nm n=>exact ⟨1,rfl,Nat.le_refl 2⟩
 | one n a ih=>
  refine aM ih fun w e p=>?_;refine ⟨w+1,by simp only[vm,e];rfl,?_⟩;simp only[ht,Nat.pow_succ];lia
 | two n a b ia ib=>
  refine aM ia fun w e p=>?_;refine aM ib fun v f q=>?_;refine ⟨w+v+1,by simp only[vm,e,f];rfl,?_⟩;have m1:=Nat.pow_le_pow_right (n:=2) (by decide) (Nat.le_max_left (ht a) (ht b));have m2:=Nat.pow_le_pow_right (n:=2) (by decide) (Nat.le_max_right (ht a) (ht b));simp only[ht,Nat.pow_succ];lia
section
variable{h:Hp}{ts:List T}{t:T}{n:Nat}
structure GQ(ts:List T)(t:T):Prop where
 ok:okN t=true
 prim:bk t≠1
 args:∀ a∈aQ t,a∈ts
 st:bk t≠8->∀ a∈aQ t,gf a=true
 bx:bk t=8->isVal (el t)=true
 Rh:ht t<=8
noncomputable def NO:List S:=[.expr (.own (.loc 0) 35 [.loc 3])]
theorem qy(R:Rp h ts)(N:GQ ts t):run aY (n+5) 7 [.obj 2,cG ts t] h=some (.none,h):=by
 have loop:∀ l:List T,(∀ a∈l,a∈ts)->∀ {L:List V} {r:V} {s x:Option V},∃ x',eQ (cV (.tup L) L) (dq (pg (n+4)) (.one 3) NO) (l.map (kv ts)) [some (.obj 2),some r,s,x] h=some ((.next,[some (.obj 2),some r,s,x']),h):=by
  intro l
  induction l with
  | nil=>intro _ L r s x;exact ⟨x,rfl⟩
  | cons a l ih=>
   intro p L r s x;refine cX (ih (fun b hb=>p b (.tail _ hb)) (L:=L) (r:=r) (s:=s) (x:=some (kv ts a))) fun x' e=>?_;refine ⟨x',d7 (dJ fy ?_) rfl e⟩;have ha:=p a (.head _);unfold NO
   with_reducible repeat' first|(apply aC;with_unfolding_all exact rfl)|exists[ag,aa,af,bO,aB,ao,ah,ai,aZ,br,cJ,aj,ab,av,aq,c9],[aG,aF],ae,ee R,jf R ha,aN rfl,aD rfl,cR,fy
 refine cX (loop (aQ t) N.args (L:=(aQ t).map (kv ts)) (r:=cG ts t) (s:=some (.int (bk t))) (x:=none)) fun x' lp=>?_;have NP:=nW (h:=h) (ts:=ts) (n:=n+3) N.ok N.prim;have rl:=Ih (h:=h) (ts:=ts) (t:=t);have r0:=mY (h:=h) (ts:=ts) (t:=t);have rr:=w8 (h:=h) (n:=n+3) (s:=bk t) (by rcases mN t with q|q|q|q|q<;>rw[q]<;>decide);have s5:¬ bk t<=1/\¬ 11<bk t:=by have:=N.prim;rcases mN t with q|q|q|q|q<;>lia
 have q1:(decide (V.int (if bk t=2∨bk t=3 then 3 else 2)=V.int 0)||(decide (bk t<=1)||decide (bk t>11)))=false:=by
  rw[US s5.1,US s5.2];split<;>rfl
 have q3:(!decide (V.int (if bk t=2∨bk t=3 then 3 else 2)=V.int (if bk t=2∨bk t=3 then 3 else 2)))=false:=by simp
 rw[qv]
 by_cases q:bk t=2∨bk t=3
 ·have q':(decide (V.int (bk t)=V.int 2)||decide (V.int (bk t)=V.int 3))=true:=by simpa using q
  have e1:=Lb (h:=h) (ts:=ts) q;have e2:=Lc (h:=h) (ts:=ts) q;refine fU (vp N.ok q) fun _ m1 m2=>?_;have m3:¬ eV t<=0:=Int.not_le.mpr m1;have pa:=w9 (n:=n) R N.args (N.st (by lia));have cn:run aY (n+4) 8 [.obj 2,cG ts t] h=some (.none,h):=by
   have q2:(decide (eV t<=0)||(aW (aA 1) (.int (eV t))).isSome)=false:=by rw[m2,US m3];rfl
   rw[uI]
   with_reducible repeat' first|(apply aC;with_unfolding_all exact rfl)|exists[ag,aa,af,bO,aB,ao,ah,ai,aZ,br,cJ,aj,ab,av,aq,c9,mq,bz],[aG,aF],ae,aD q2,e1,e2,pa,aN rfl,aD rfl,cR,fy
  with_reducible repeat' first|(apply aC;with_unfolding_all exact rfl)|refine' eT (af (aa (aC ?_) ag) NP) ?_ lp ?_|exists[ag,aa,af,bO,aB,ao,ah,ai,aZ,br,cJ,aj,ab,av,aq,c9,mq,bz],[aG,aF],ae,rl,r0,rr,aD q1,aD q3,aN q',cn,aN rfl,aD rfl,cR,fy
 ·have q':(decide (V.int (bk t)=V.int 2)||decide (V.int (bk t)=V.int 3))=false:=by simpa using q
  have p:bk t=4∨bk t=8:=by have:=N.prim;rcases mN t with q|q|q|q|q<;>lia
  have e1:=FT (h:=h) (ts:=ts) p;have ha:el t∈aQ t:=by
   rcases dw ts t with ⟨p',_⟩|⟨p',_⟩|⟨_,k,a,rfl,_⟩
   ·lia
   ·lia
   ·exact .head _
  rcases p with p|p
  ·have m:=rE (n:=n+2) R (N.args _ ha);rw[N.st (by lia) _ ha] at m
   with_reducible repeat' first|(apply aC;with_unfolding_all exact rfl)|refine' eT (af (aa (aC ?_) ag) NP) ?_ lp ?_|(apply aN;(with_unfolding_all simp[p];done))|(apply aD;(with_unfolding_all simp[p];done))|exists[ag,aa,af,bO,aB,ao,ah,ai,aZ,br,cJ,aj,ab,av,aq,c9,mq,bz],[aG,aF],ae,rl,r0,rr,aD q1,aD q3,aD q',e1,m,aN rfl,aD rfl,cR,fy
  ·have m:=kB (n:=n+2) R (N.args _ ha);rw[N.bx p] at m;have m2:=dK (n:=n+2) R (N.args _ ha)
   with_reducible repeat' first|(apply aC;with_unfolding_all exact rfl)|refine' eT (af (aa (aC ?_) ag) NP) ?_ lp ?_|(apply aN;(with_unfolding_all simp[p];done))|(apply aD;(with_unfolding_all simp[p];done))|exists[ag,aa,af,bO,aB,ao,ah,ai,aZ,br,cJ,aj,ab,av,aq,c9,mq,bz],[aG,aF],ae,rl,r0,rr,aD q1,aD q3,aD q',e1,m,m2,aN rfl,aD rfl,cR,fy
end
end
section
noncomputable def Lg(h:Hp)(ts:List T)(t:T):Hp:=((((h.set 3 (.list (ts.map (cG ts)++[cG ts t]))).set 4 (.dict 2 (ua ts ts++[(cG ts t,.int ts.length)]))).set 5 (.list ((ts.map fun t=>V.int (mr t))++[.int (mr t)]))).set 6 (.list ((ts.map fun t=>V.int (vm t))++[.int (vm t)]))).set 7 (.list ((ts.map fun _=>V.int 0)++[.int 0]))
noncomputable def lH:List Nat:=[3,4,5,6,7]
theorem BD{h:Hp}{ts:List T}{t:T}:Fr lH h (Lg h ts t):=
 ((((Fr.set (by decide)).trans (Fr.set (by decide))).trans (Fr.set (by decide))).trans (Fr.set (by decide))).trans (Fr.set (by decide))
section
variable{h:Hp}{ts:List T}{t:T}{n:Nat}
theorem Ii(R:Rp h ts){a:T}(ha:a∈ts):bI aA (.obj 5) (kv ts a) h=some (.int (mr a))/\bI aA (.obj 6) (kv ts a) h=some (.int (vm a))/\bI aA (.obj 7) (kv ts a) h=some (.int 0):=by
 have g:=ub ha;exact ⟨BA R.tb ha R.h5 (by rw[List.getElem?_map,g];rfl),BA R.tb ha R.h6 (by rw[List.getElem?_map,g];rfl),BA R.tb ha R.h7 (by rw[List.getElem?_map,g];rfl)⟩
noncomputable def lvl(t:T):Int:=if bk t=2∨bk t=3∨bk t=4 then 1 else 0
noncomputable def Lh:List S:=[.ite (.cmp .gt (.bin .add (.sub (.attr (.loc 0) 32) (.loc 7)) (.loc 6)) (.loc 3)) [.asg (.one 3) (.bin .add (.sub (.attr (.loc 0) 32) (.loc 7)) (.loc 6))] [],.aug 4 .add (.sub (.attr (.loc 0) 33) (.loc 7)),.ite (.cmp .eq (.sub (.attr (.loc 0) 34) (.loc 7)) (.lit (.int (1)))) [.asg (.one 5) (.lit (.int (1)))] []]
theorem uc(R:Rp h ts){a:T}(ha:a∈ts){m:Nat}{r x2 x7:Option V}{d w l:Int}:dq (pg m) (.one 7) Lh (kv ts a) [some (.obj 2),r,x2,some (.int d),some (.int w),some (.int 0),some (.int l),x7,none] h=some ((.next,[some (.obj 2),r,x2,some (.int (if mr a+l>d then mr a+l else d)),some (.int (w+vm a)),some (.int 0),some (.int l),some (kv ts a),none]),h):=by
 refine fU (Ii R ha) fun e1 e2 e3=>?_;refine dJ By ?_;unfold Lh
 by_cases q:mr a+l>d
 ·rw[if_pos q]
  with_reducible repeat' first|(apply aN;(with_unfolding_all simp[q];done))|(apply aD;(with_unfolding_all simp[q];done))|exists[aK,aB,ao,b8,cJ,aj,ab,av,aq,t8],[aG,aF,bL],ae,R.h2,e1,e2,e3,aN rfl,aD rfl,fy,cH,By
 ·rw[if_neg q]
  with_reducible repeat' first|(apply aN;(with_unfolding_all simp[q];done))|(apply aD;(with_unfolding_all simp[q];done))|exists[aK,aB,ao,b8,cJ,aj,ab,av,aq,t8],[aG,aF,bL],ae,R.h2,e1,e2,e3,aN rfl,aD rfl,fy,cH,By
theorem Ij(k:Nat)(a:T):(if mr a+lvl (.one k a)>1 then mr a+lvl (.one k a) else 1)=mr (.one k a):=by
 have p:=xb a
 by_cases q:k=99
 ·subst q;have e1:lvl (.one 99 a)=0:=rfl;have e2:mr (.one 99 a)=mr a:=rfl;rw[e1,e2];split<;>lia
 ·have e1:lvl (.one k a)=1:=if_pos (by simp only[bk,q,if_false];split;simp;split<;>simp);have e2:mr (.one k a)=mr a+1:=if_neg q;rw[e1,e2];split<;>lia
theorem Ik(k:Nat)(a b:T):(if mr b+lvl (.two k a b)>(if mr a+lvl (.two k a b)>1 then mr a+lvl (.two k a b) else 1) then mr b+lvl (.two k a b) else (if mr a+lvl (.two k a b)>1 then mr a+lvl (.two k a b) else 1))=mr (.two k a b):=by
 have p:=xb a;have p':=xb b;have:lvl (.two k a b)=1:=rfl;rw[this];simp only[mr]
 split<;>split at *<;>lia
theorem FX(R:Rp h ts)(N:GQ ts t){m:Nat}{x2 r:Option V}{L:List V}:∃ x7,eQ (cV (.tup L) L) (dq (pg m) (.one 7) Lh) ((aQ t).map (kv ts)) [some (.obj 2),r,x2,some (.int 1),some (.int 1),some (.int 0),some (.int (lvl t)),none,none] h=some ((.next,[some (.obj 2),r,x2,some (.int (mr t)),some (.int (vm t)),some (.int 0),some (.int (lvl t)),x7,none]),h):=by
 have ar:=N.args;cases t with
 | nm k=>exact ⟨none,rfl⟩
 | one k a=>
  refine ⟨some (kv ts a),d7 (uc R (ar a (.head _))) rfl ?_⟩;rw[Ij,show vm (.one k a)=1+vm a from Int.add_comm _ _];exact yZ
 | two k a b=>
  refine ⟨some (kv ts b),d7 (uc R (ar a (.head _))) rfl (d7 (uc R (ar b (.tail _ (.head _)))) rfl ?_)⟩;rw[Ik,show vm (.two k a b)=1+vm a+vm b by simp only[vm];lia];exact yZ
theorem pM{kvs:List (V×V)}{k v:V}(g:aW kvs k=none):hH kvs k v=kvs++[(k,v)]:=by
 induction kvs with
 | nil=>rfl
 | cons p l ih=>
  obtain ⟨a,x⟩:=p;unfold aW at g
  split at g
  ·cases g
  ·rename_i q
   show (if a=k then _ else _)=_;rw[if_neg q,ih g];rfl
theorem CW(R:Rp h ts)(hl:ts.length<9000):bp (ua ts ts)=true/\(∀ f:T->V,bp (ts.map f)=true):=
 have a:∀ {β:Type} (f:T->β),bp (ts.map f)=true:=fun f=>bA (by rw[UQ];exact Nat.le_trans (Nat.le_of_lt hl) (by decide))
 ⟨a _,fun f=>a f⟩
theorem CX(R:Rp h ts)(N:GQ ts t)(new:t∉ts)(hl:ts.length<9000):run aY (n+6) 3 [.obj 2,cG ts t] h=some (.int ts.length,Lg h ts t):=by
 have h1:=BB R.tb N.ok N.args;rw[if_neg new] at h1;have g1:fW aA (.obj 4) (cG ts t) (.int (-1)) h=some (.int (-1)):=by rw[cw R.h4 w7,h1];rfl
 refine cX (FX R N (m:=n+5) (x2:=some (.int (-1))) (r:=some (cG ts t)) (L:=(aQ t).map (kv ts))) fun x7 lp=>?_;have NP:=nW (h:=h) (ts:=ts) N.ok N.prim (n:=n+4);have r0:=mY (h:=h) (ts:=ts) (t:=t);have ck:=qy (n:=n) R N;have s6:(decide (V.int (bk t)=V.int 6)||decide (V.int (bk t)=V.int 7))=false:=by have:=FV t;simpa using this
 have lv:run aY (n+5) 5 [.int (bk t)] h=some (.int (lvl t),h):=za;refine aM (Lf t) fun w w1 w2=>?_;have d2:¬ (mr t>24):=by have:=Le t;have:=N.Rh;lia
 have w3:¬ (vm t>4096):=by
  have:=Nat.pow_le_pow_right (n:=2) (by decide) N.Rh;lia
 refine bY (CW R hl) fun k2 k1=>?_;have hlen:((ts.map (cG ts)).length:Int)=ts.length:=by rw[UQ]
 have ins:=pM (v:=.int ts.length) h1;have m4:=bD (o':=.list (ts.map (cG ts)++[cG ts t])) (by decide:3≠4) R.h4;have ss:=bF (y:=.int ts.length) m4 (w7 (ts:=ts) (t:=t)) k2;rw[ins] at ss;have ln:=fR R.h3 (k1 _);rw[hlen] at ln;rw[lh]
 with_reducible repeat' first|(apply aC;with_unfolding_all exact rfl)|refine' eT (af (aa (aC ?_) ag) NP) ?_ lp ?_|(apply aD;(with_unfolding_all simp[d2,w3];done))|exists[ag,aa,af,aK,aB,ao,ah,ai,br,bS,jd,aj,av,aq,au,c9,bG,aw,bz],[aF,bL,dS,gb,cw,fR,gY,bF],ae,g1,R.h2,R.h4,ck,aD s6,r0,lv,ln,ss,k1 _,R.h3,R.h4,R.h5,R.h6,R.h7,aD rfl,cR,fy,cH,dO,iB,uM|apply bD (by decide)
end
end
section
section
variable{h h':Hp}{ts:List T}{t:T}{n:Nat}
theorem Ri(b:Tb ts){v:T}(o:okN v=true)(s:bk v=1):v∈ts:=by
 cases v with
 | nm k=>exact iN b (dE o)
 | one k a=>exact absurd ((iO _).mp s) (by intro h;cases h)
 | two k a c=>exact absurd ((iO _).mp s) (by intro h;cases h)
theorem Tb.add(b:Tb ts)(N:GQ ts t)(new:t∉ts)(hl:ts.length<9000):Tb (ts++[t]) where
 base:=by refine cX b.base fun r e=>?_;exact ⟨r++[t],by rw[e,List.append_assoc]⟩
 nodup:=List.nodup_append.mpr ⟨b.nodup,List.nodup_cons.mpr ⟨List.not_mem_nil,List.nodup_nil⟩,fun a ha c hc e=>by
  rw[UL hc] at e;exact new (e▸ha)⟩
 args:=fun u hu a ha=>by
  rcases UR hu with q|q
  ·exact UP _ (b.args u q a ha)
  ·rw[UL q] at ha;exact UP _ (N.args a ha)
 len:=by rw[UN,List.length_singleton];exact hl
 ok:=fun u hu=>by
  rcases UR hu with q|q
  ·exact b.ok u q
  ·rw[UL q];exact N.ok
theorem AG(new:t∉ts):kn (ts++[t]) t=ts.length:=by
 unfold kn;rw[List.idxOf_append,if_neg new];simp
theorem Il(R:Rp h ts)(N:GQ ts t)(new:t∉ts)(hl:ts.length<9000):Rp (Lg h ts t) (ts++[t]):=by
 have b:=R.tb;have Rj:∀ u∈ts,cG (ts++[t]) u=cG ts u:=fun u hu=>BC (fun _=>hu) (b.args u hu);have Rk:cG (ts++[t]) t=cG ts t:=BC (fun s=>absurd s N.prim) N.args;have e3:(ts++[t]).map (cG (ts++[t]))=ts.map (cG ts)++[cG ts t]:=by
  rw[List.map_append,List.map_singleton,Rk,List.map_congr_left Rj]
 have e4:ua (ts++[t]) (ts++[t])=ua ts ts++[(cG ts t,.int ts.length)]:=by
  unfold ua;rw[List.map_append,List.map_singleton,Rk,kv,AG new];congr 1;exact List.map_congr_left fun u hu=>by rw[Rj u hu,kv,dT hu]
 have f:=BD (h:=h) (ts:=ts) (t:=t);refine ⟨b.add N new hl,f 2 _ (by decide) R.h2,?_,?_,?_,?_,?_⟩
 ·rw[e3];exact bD (by decide) (bD (by decide) (bD (by decide) (bD (by decide) (d9 (bU R.h3)))))
 ·rw[e4];exact bD (by decide) (bD (by decide) (bD (by decide) (d9 (by rw[List.length_set];exact bU R.h4))))
 ·rw[List.map_append];exact bD (by decide) (bD (by decide) (d9 (by simp only[List.length_set];exact bU R.h5)))
 ·rw[List.map_append];exact bD (by decide) (d9 (by simp only[List.length_set];exact bU R.h6))
 ·rw[List.map_append];exact d9 (by simp only[List.length_set];exact bU R.h7)
theorem Rp.fr{X:List Nat}(R:Rp h ts)(f:Fr X h h')(q:∀ i,i<8->i∉X):Rp h' ts:=
 ⟨R.tb,f 2 _ (q 2 (by decide)) R.h2,f 3 _ (q 3 (by decide)) R.h3,f 4 _ (q 4 (by decide)) R.h4,f 5 _ (q 5 (by decide)) R.h5,f 6 _ (q 6 (by decide)) R.h6,f 7 _ (q 7 (by decide)) R.h7⟩
theorem Rp.pure(R:Rp h ts)(f:Fr [] h h'):Rp h' ts:=R.fr f fun _ _ q=>by cases q
theorem BE(R:Rp h ts)(N:GQ ts t)(hl:ts.length<9000):∃ r h',run aY (n+6) 3 [.obj 2,cG ts t] h=some (kv (ts++r) t,h')/\Rp h' (ts++r)/\t∈ts++r/\Fr lH h h'/\(t∈ts/\r=[]∨t∉ts/\r=[t]):=by
 by_cases q:t∈ts
 ·exact ⟨[],h,by rw[List.append_nil];exact vu R q,by rw[List.append_nil];exact R,by rw[List.append_nil];exact q,Fr.rfl',.inl ⟨q,rfl⟩⟩
 ·exact ⟨[t],_,by rw[kv,AG q];exact CX R N q hl,Il R N q hl,List.mem_append_right _ (.head _),BD,.inr ⟨q,rfl⟩⟩
theorem BF{P:xK}{a:E}{l:List S}{e:aU}{r:Option (V×Hp)}(p:ba P a e h=r):bf (aR P (.ret a::l) e h) fin=r:=by
 show bf (bf (bf (ba P a e h) _) _) fin=r;rw[p];cases r<;>rfl
theorem JH{P:xK}{a:E}{A l:List S}{e:aU}{r:Option (V×Hp)}(p:ba P a e h=some (.bool false,h))(k:bf (aR P l e h) fin=r):bf (aR P (.ite a A []::l) e h) fin=r:=by
 rw[aq p rfl rfl];exact k
theorem pN{i:Int}{l:List V}{r:Option (V×Hp)}(R:Rp h ts)(m:(aW (aA 1) (.int i)).isSome=false)(e:run aY n 3 [.obj 2,.tup [.int 2,.int i,.tup l]] h=r):run aY (n+1) 11 [.obj 2,.int i,.tup l] h=r:=by
 rw[wI];exact JH (m▸ao (aC rfl) ae rfl) (BF (bO (mm:=36) (aC rfl) (sj R) (aa (aI (aa ae (aa (aC rfl) (aa (aC rfl) ag))) rfl) ag) e))
theorem xc{i:Int}{l:List V}{r:Option (V×Hp)}(R:Rp h ts)(m:(aW (aA 1) (.int i)).isSome=false)(e:run aY n 3 [.obj 2,.tup [.int 3,.int i,.tup l]] h=r):run aY (n+1) 12 [.obj 2,.int i,.tup l] h=r:=by
 rw[wJ];exact JH (m▸ao (aC rfl) ae rfl) (BF (bO (mm:=36) (aC rfl) (sj R) (aa (aI (aa ae (aa (aC rfl) (aa (aC rfl) ag))) rfl) ag) e))
theorem xd{v x:V}{h':Hp}(R:Rp h ts)(e:run aY n 3 [.obj 2,.tup [.int 4,v]] h=some (x,h')):run aY (n+1) 14 [.obj 2,v] h=some (x,h'):=by
 rw[wK]
 with_reducible repeat' exists[ag,aa,bO,aI,au,aw],[],ae,sj R,e
theorem xe{v x:V}{h':Hp}(R:Rp h ts)(e:run aY n 3 [.obj 2,.tup [.int 8,v]] h=some (x,h')):run aY (n+1) 15 [.obj 2,v] h=some (x,h'):=by
 rw[wL]
 with_reducible repeat' exists[ag,aa,bO,aI,au,aw],[],ae,sj R,e
end
end
section
structure Wd where
 wg:Int
 AH:Int
 CY:Int
 CZ:Int
 C0:Int
 eE:Bool
 zE:Int
 f:Nat->Nat
noncomputable abbrev ob:T:=.nm 0
noncomputable def bX(i:Nat):List T:=match i with
 | 0=>[.nm 2]
 | 1=>[]
 | 2=>[.one 11 (.nm 3)]
 | 3=>[.one 11 (.nm 4)]
 | 4=>[.two 12 (.nm 4) (.nm 3)]
 | 5=>[.one 11 ob]
 | 6=>[.two 12 (.nm 1) ob]
 | _=>[.one 11 (.nm 28),.nm 2]
noncomputable def xM:List Nat:=[3,4,5,6,28,16]
noncomputable def gg(n:Nat):List T:=if n=0 then [] else if n=4 then [.nm 3] else if n=5 then [.nm 4] else if n=10 then [.nm 7] else if n=29 then [.nm 10]
 else if [1,2,7,8,9,3,6].contains n then [ob] else [.nm 7]
section
variable(W:Wd)
noncomputable def eh(n:Nat):List T:=if xM.contains n then bX (W.f n) else []
noncomputable def jW(n:Nat):List T:=gg n++eh W n
noncomputable def cW:T->List T
 | .nm n=>jW W n
 | .one n a=>if n=15 then [.nm 8] else if n=14 then [ob,.one 11 a] else if n=11 then [ob] else [.nm 7]
 | .two n a _=>if n=13 then [.nm 9] else if W.eE then [ob,.one 11 a] else [ob]
noncomputable def ez:T->List T
 | .nm n=>eh W n
 | .one n a=>if n=14 then [.one 11 a] else []
 | .two n a _=>if n=12/\W.eE=true then [.one 11 a] else []
noncomputable def gH:T->List T
 | .one n a=>if n=99 then ez W a else ez W (.one n a)
 | t=>ez W t
noncomputable def pO(n:Nat):List Int:=if n=11 then [W.wg] else if n=12 then [W.AH,W.CY] else if n=13 then [W.CZ,W.C0] else []
end
noncomputable def cZ(t:T):Int:=if cF t=68 then 3 else if cF t=70 then 2 else if cF t=71 then 5 else if cF t=72 then 3 else if cF t=73 then 3 else if cF t=74 then 4 else if isVal t then 2 else if cF t=0 then 0 else 1
noncomputable def isIf(t:T):Bool:=decide (bk t=2)&&decide (cZ t=3)
noncomputable def Tj(W:Wd)(ts pend:List T)(fs:List (V×V)):Prop:=∀ t∈ts,(aW fs (kv ts t)).getD (.tup [])=.tup (((if t∈pend then [] else ez W t)).map (kv ts))
noncomputable def eno(n:Nat):V:=.tup [.str n,.tup []]
noncomputable def eF(l:List T):List V:=l.map enc
noncomputable def lx:List (V×V):=[(.str 0,.obj 20),(.str 1,.obj 18),(.str 2,.obj 18),(.str 7,.obj 18),(.str 8,.obj 18),(.str 9,.obj 18),(.str 10,.obj 21),(.str 29,.obj 22),(.str 3,.obj 31),(.str 4,.obj 41),(.str 5,.obj 51),(.str 6,.obj 60),(.str 28,.obj 70),(.str 16,.obj 80)]
noncomputable def da:List (V×V):=[(.str 59,.int 0),(.str 25,.int 1),(.str 24,.int 2),(.str 23,.int 3),(.str 22,.int 4),(.str 20,.int 5),(.str 21,.int 6),(.str 16,.int 7),(.str 17,.int 8),(.str 18,.int 9),(.str 19,.int 10),(.str 26,.int 11),(.str 0,.int 12),(.str 1,.int 13),(.str 60,.int 14),(.str 27,.int 15),(.str 7,.int 16),(.str 10,.int 17),(.str 8,.int 18),(.str 9,.int 19),(.str 3,.int 20),(.str 4,.int 21),(.str 5,.int 22),(.str 6,.int 23),(.str 2,.int 24),(.str 28,.int 25),(.str 29,.int 26)]
noncomputable def FY:List (Nat×V):=[(38,.obj 2),(43,.obj 83),(44,.obj 10),(45,.obj 84),(46,.obj 85),(47,.obj 86),(37,.obj 14),(48,.obj 15),(49,.obj 16)]
noncomputable def iQ:List (V×V):=[(.int 68,.int 3),(.int 70,.int 2),(.int 71,.int 5),(.int 72,.int 3),(.int 73,.int 3),(.int 74,.int 4)]
noncomputable def mZ(n:Nat):Nat:=if n=0 then 20 else if n=10 then 21 else if n=29 then 22 else if n=3 then 31 else if n=4 then 41 else if n=5 then 51 else if n=6 then 60 else if n=28 then 70 else if n=16 then 80 else 18
noncomputable def dG:List Nat:=[0,1,2,7,8,9,10,29,3,4,5,6,28,16]
noncomputable def mw(fs:List (V×V))(n:Nat):Prop:=(fs.map (·.1)).Nodup/\∀ k∈fs.map (·.1),k∈(List.range n).map fun (i:Nat)=>V.int (i:Int)
structure Rs(W:Wd)(h:Hp):Prop where
 h8:h[8]?=some (.ins 1 FY)
 AI:h[83]?=some (.dict 0 [(.int 21,.int 20),(.int 22,.int 21)])
 FZ:h[84]?=some (.dict 0 iQ)
 PV:h[85]?=some (.dict 0 [(.int 72,.tup [.int W.wg]),(.int 73,.tup [.int W.AH,.int W.CY]),(.int 74,.tup [.int W.CZ,.int W.C0])])
 Dl:h[86]?=some (.dict 0 [(.int 26,.int W.zE)])
 GR:h[17]?=some (.dict 1 [(.str 11,.tup [.int W.wg]),(.str 12,.tup [.int W.AH,.int W.CY]),(.str 13,.tup [.int W.CZ,.int W.C0])])
 BG:h[19]?=some (.dict 1 lx)
 ov:∀ n∈dG,h[mZ n]?=some (.list (eF (jW W n)))
 Me:h[81]?=some (.dict 1 da)
 zE:W.zE=7∨W.zE=4∨W.zE=9
 vN:∀ i∈[W.wg,W.AH,W.CY,W.CZ,W.C0],i=0∨i=1∨i=2
 lean:W.eE=true->W.AH=0∨W.AH=W.wg
structure St(W:Wd)(h:Hp)(ts:List T)(pend:List T)(a:Int):Prop where
 rp:Rp h ts
 rs:Rs W h
 sk:h[82]?=some (.dict 1 [(.str 56,.obj 19),(.str 58,.obj 17),(.str 62,.obj 81),(.str 55,.int a),(.str 57,.bool W.eE)])
 fs:∃ fs,h[10]?=some (.dict 0 fs)/\Tj W ts pend fs/\mw fs ts.length/\∀ i:Int,(ts.length:Int)<=i->aW fs (.int i)=none
 oh:∀ t∈ts,t∉pend->∀ u∈ez W t,u∈ts
 gd:∀ t∈ts,(bk t≠8->∀ a∈aQ t,gf a=true)/\(∀ a,t=.one 99 a->isVal a=true)
section
variable{W:Wd}{h h':Hp}{ts pend:List T}{t:T}{n:Nat}{a:Int}
theorem Rs.fr{X:List Nat}(R:Rs W h)(f:Fr X h h')(q:∀ i∈X,i<8∨i=10∨i=82∨87<=i):Rs W h' where
 h8:=f 8 _ (fun x=>absurd (q 8 x) (by decide)) R.h8
 AI:=f 83 _ (fun x=>absurd (q 83 x) (by decide)) R.AI
 FZ:=f 84 _ (fun x=>absurd (q 84 x) (by decide)) R.FZ
 PV:=f 85 _ (fun x=>absurd (q 85 x) (by decide)) R.PV
 Dl:=f 86 _ (fun x=>absurd (q 86 x) (by decide)) R.Dl
 GR:=f 17 _ (fun x=>absurd (q 17 x) (by decide)) R.GR
 BG:=f 19 _ (fun x=>absurd (q 19 x) (by decide)) R.BG
 ov:=fun n hn=>f _ _ (fun x=>absurd (q _ x) (by
  have key:∀ n∈dG,¬ (mZ n<8∨mZ n=10∨mZ n=82∨87<=mZ n):=by decide
  exact key n hn)) (R.ov n hn)
 Me:=f 81 _ (fun x=>absurd (q 81 x) (by decide)) R.Me
 zE:=R.zE
 vN:=R.vN
 lean:=R.lean
theorem St.fr{X:List Nat}(R:St W h ts pend a)(f:Fr X h h')(q:∀ i∈X,87<=i):St W h' ts pend a where
 rp:=R.rp.fr f fun i hi x=>absurd (q i x) (by lia)
 rs:=R.rs.fr f fun i x=>.inr (.inr (.inr (q i x)))
 sk:=f 82 _ (fun x=>absurd (q 82 x) (by decide)) R.sk
 fs:=by refine aM R.fs fun fs e p=>?_;exact ⟨fs,f 10 _ (fun x=>absurd (q 10 x) (by decide)) e,p⟩
 oh:=R.oh
 gd:=R.gd
theorem St.pure(R:St W h ts pend a)(f:Fr [] h h'):St W h' ts pend a:=R.fr f fun _ q=>by cases q
theorem St.big(R:St W h ts pend a):87<=h.length:=bU R.rs.Dl
theorem AJ(R:Rs W h){i:Int}:run aY (n+1) 39 [.obj 8,.int i] h=some (.tup (((if i=72 then [W.wg] else if i=73 then [W.AH,W.CY] else if i=74 then [W.CZ,W.C0] else [])).map V.int),h):=by
 have e:(aW [(V.int 72,V.tup [.int W.wg]),(.int 73,.tup [.int W.AH,.int W.CY]),(.int 74,.tup [.int W.CZ,.int W.C0])] (.int i)).getD (.tup [])=.tup (((if i=72 then [W.wg] else if i=73 then [W.AH,W.CY] else if i=74 then [W.CZ,W.C0] else [])).map V.int):=by
  by_cases q1:i=72
  ·subst q1;rfl
  by_cases q2:i=73
  ·subst q2;rfl
  by_cases q3:i=74
  ·subst q3;rfl
  have a1:∀ {x:Int},i≠x->V.int x≠V.int i:=fun q e=>q (V.int.inj e).symm;rw[if_neg q1,if_neg q2,if_neg q3,aW,if_neg (a1 q1),aW,if_neg (a1 q2),aW,if_neg (a1 q3)];rfl
 rw[mW,<-e]
 with_reducible repeat' exists[ag,aK,aI,bS,au,aw],[bL,dS,cw],R.h8,R.PV
theorem JI(R:Rs W h){m k:Nat}(p:nZ FY m=none)(q:rq 1 m=some k):B6 (pg n) (.obj 8) m h=some k:=FJ R.h8 p q
theorem k8(R:Rs W h){m:Nat}{v:V}(p:nZ FY m=some v):cC (.obj 8) m h=some v:=bL R.h8 p
theorem pP(S:Rs W h)(R:Rp h ts)(ht:t∈ts):run aY (n+3) 43 [.obj 8,kv ts t] h=some (.int (cZ t),h):=by
 have a1:∀ {i x:Int},i≠x->V.int x≠V.int i:=fun q e=>q (V.int.inj e).symm;have kt:cC (.obj 8) 38 h=some (.obj 2):=k8 S rfl;have hv:=dK (n:=n) R ht;have hi:=iP (n:=n) R ht;have ha:=kB (n:=n) R ht;rw[wR];have so:cC (.obj 8) 45 h=some (.obj 84):=k8 S rfl
 by_cases q1:cF t=68
 ·have e:cZ t=3:=if_pos q1;rw[q1] at hi;rw[e]
  with_reducible repeat' exists[ag,aa,af,aK,aB,ao,aP,aj,ab,av,aq,au,aw],[aG,aF,bh,cT],ae,kt,so,hv,hi,S.FZ,aN rfl,aD rfl,cR
 by_cases q2:cF t=70
 ·have e:cZ t=2:=by rw[cZ,if_neg q1,if_pos q2]
  rw[q2] at hi;rw[e]
  with_reducible repeat' exists[ag,aa,af,aK,aB,ao,aP,aj,ab,av,aq,au,aw],[aG,aF,bh,cT],ae,kt,so,hv,hi,S.FZ,aN rfl,aD rfl,cR
 by_cases q3:cF t=71
 ·have e:cZ t=5:=by rw[cZ,if_neg q1,if_neg q2,if_pos q3]
  rw[q3] at hi;rw[e]
  with_reducible repeat' exists[ag,aa,af,aK,aB,ao,aP,aj,ab,av,aq,au,aw],[aG,aF,bh,cT],ae,kt,so,hv,hi,S.FZ,aN rfl,aD rfl,cR
 by_cases q4:cF t=72
 ·have e:cZ t=3:=by rw[cZ,if_neg q1,if_neg q2,if_neg q3,if_pos q4]
  rw[q4] at hi;rw[e]
  with_reducible repeat' exists[ag,aa,af,aK,aB,ao,aP,aj,ab,av,aq,au,aw],[aG,aF,bh,cT],ae,kt,so,hv,hi,S.FZ,aN rfl,aD rfl,cR
 by_cases q5:cF t=73
 ·have e:cZ t=3:=by rw[cZ,if_neg q1,if_neg q2,if_neg q3,if_neg q4,if_pos q5]
  rw[q5] at hi;rw[e]
  with_reducible repeat' exists[ag,aa,af,aK,aB,ao,aP,aj,ab,av,aq,au,aw],[aG,aF,bh,cT],ae,kt,so,hv,hi,S.FZ,aN rfl,aD rfl,cR
 by_cases q6:cF t=74
 ·have e:cZ t=4:=by rw[cZ,if_neg q1,if_neg q2,if_neg q3,if_neg q4,if_neg q5,if_pos q6]
  rw[q6] at hi;rw[e]
  with_reducible repeat' exists[ag,aa,af,aK,aB,ao,aP,aj,ab,av,aq,au,aw],[aG,aF,bh,cT],ae,kt,so,hv,hi,S.FZ,aN rfl,aD rfl,cR
 have no:(aW iQ (.int (cF t))).isSome=false:=by
  rw[iQ,aW,if_neg (a1 q1),aW,if_neg (a1 q2),aW,if_neg (a1 q3),aW,if_neg (a1 q4),aW,if_neg (a1 q5),aW,if_neg (a1 q6)];rfl
 have e:cZ t=if isVal t then 2 else if cF t=0 then 0 else 1:=by rw[cZ,if_neg q1,if_neg q2,if_neg q3,if_neg q4,if_neg q5,if_neg q6]
 rw[e];cases q:isVal t with
 | true=>
  rw[q] at ha;have un:cC (.obj 8) 47 h=some (.obj 86):=k8 S rfl;have tw:kn ts t=26->False:=fun x=>by
   have:=(jU R.tb ht (u:=.nm 29) (by decide) rfl).mp x;subst this;exact q3 (by decide)
  have nu:(aW [(V.int 26,V.int W.zE)] (kv ts t)).isSome=false:=by rw[aW,if_neg (a1 tw)];rfl
  with_reducible repeat' exists[ag,aa,af,aK,aB,ao,aP,aj,ab,av,aq,au,aw],[aG,aF,bh,cT],ae,kt,so,un,hv,hi,ha,S.FZ,S.Dl,aD no,aD nu,aN rfl,aD rfl,cR
 | false=>
  rw[q] at ha
  by_cases q7:cF t=0
  ·rw[if_pos q7];rw[q7] at hi no
   with_reducible repeat' exists[ag,aa,af,aK,aB,ao,aP,aj,ab,av,aq,au,aw],[aG,aF,bh,cT],ae,kt,so,hv,hi,ha,S.FZ,aD no,NJ,aN rfl,aD rfl,cR
  ·rw[if_neg q7]
   with_reducible repeat' exists[ag,aa,af,aK,aB,ao,aP,aj,ab,av,aq,au,aw],[aG,aF,bh,cT],ae,kt,so,hv,hi,ha,S.FZ,aD no,PT q7,aN rfl,aD rfl,cR
end
end
section
noncomputable def di(t:T):Option T:=if t=.nm 4 then some (.nm 3) else if t=.nm 5 then some (.nm 4) else if t=ob then none else if t=.nm 1 then some ob else if bk t=4 then some (.nm 8) else if isVal t then some (if cZ t=5 then .nm 10 else .nm 7) else if bk t≠2∨cZ t=3 then none else if cF t=3 then some (.nm 7) else if cZ t=4/\cF t≠6 then some (.nm 9) else some ob
noncomputable def dW(t:T):Option T:=match t with
 | .one n a=>if n=99 then di a else di t
 | t=>di t
noncomputable def bV(ts:List T):Option T->V
 | none=>.int (-1)
 | some t=>kv ts t
section
variable{W:Wd}{h h':Hp}{ts pend:List T}{t:T}{n:Nat}{a:Int}
theorem AK(S:Rs W h)(R:Rp h ts)(ht:t∈ts):run aY (n+5) 28 [.obj 8,kv ts t] h=some (.bool (isIf t),h):=by
 have kt:cC (.obj 8) 38 h=some (.obj 2):=k8 S rfl;have so:=JI (n:=n+4) S (m:=39) rfl rfl;have ps:run aY (n+4) 38 [.obj 8,kv ts t] h=some (.int (cZ t),h):=by
  rw[rN]
  with_reducible repeat' first|exists[ag,aa,af,bO,aK,ao,ah,ai,au,aw],[],ae,pP S R ht|apply cD
 have ks:=bH (n:=n+2) R ht;have e:V.bool (decide (V.int (bk t)=V.int 2)&&decide (V.int (cZ t)=V.int 3))=.bool (isIf t):=by simp[isIf]
 rw[Aw]
 with_reducible repeat' first|exists[ag,aa,af,bO,aK,ao,ah,ai,au,aw,b9],[],ae,kt,so,ps,ks,e|apply cD
theorem pQ{i:Int}{k:Nat}(R:Rp h ts)(hm:T.nm k∈dD)(hr:cG ts (.nm k)=.tup [.int 2,.int i,.tup []])(m:(aW (aA 1) (.int i)).isSome=false):run aY (n+2) 11 [.obj 2,.int i,.tup []] h=some (kv ts (.nm k),h):=
 pN R m (hr▸vu R (iN R.tb hm))
theorem xf(S:Rs W h)(R:Rp h ts)(ht:t∈ts):run aY (n+4) 42 [.obj 8,kv ts t] h=some (bV ts (di t),h):=by
 have a1:∀ {i x:Int},i≠x->V.int x≠V.int i:=fun q e=>q (V.int.inj e).symm;have kt:cC (.obj 8) 38 h=some (.obj 2):=k8 S rfl;have bs:cC (.obj 8) 43 h=some (.obj 83):=k8 S rfl;have ks:=bH (n:=n+1) R ht;have iv:=kB (n:=n+1) R ht;have ps:=pP (n:=n) S R ht;have td:=iP (n:=n+1) R ht;have num:∀ {u:T},u∈dD->∀ {i:Int},i=(dD.idxOf u:Nat)->kv ts u=.int i:=fun hu _ hi=>by rw[kv,mM R.tb hu,hi]
 rw[wQ]
 by_cases q1:t=.nm 4
 ·subst q1;have e1:kv ts (.nm 4)=.int 21:=num (by decide) rfl;have e2:kv ts (.nm 3)=.int 20:=num (by decide) rfl;rw[show di (.nm 4)=some (.nm 3) from rfl,bV,e1,e2]
  with_reducible repeat' exists[ag,aa,af,aK,aB,ao,ah,ai,aI,aP,aj,ab,av,aq,au,aw],[aG,aF,bh,cT],ae,bs,S.AI,bh S.AI rfl rfl,aN rfl,aD rfl,cR,fy
 by_cases q2:t=.nm 5
 ·subst q2;have e1:kv ts (.nm 5)=.int 22:=num (by decide) rfl;have e2:kv ts (.nm 4)=.int 21:=num (by decide) rfl;rw[show di (.nm 5)=some (.nm 4) from rfl,bV,e1,e2]
  with_reducible repeat' exists[ag,aa,af,aK,aB,ao,ah,ai,aI,aP,aj,ab,av,aq,au,aw],[aG,aF,bh,cT],ae,bs,S.AI,bh S.AI rfl rfl,aN rfl,aD rfl,cR,fy
 have Tl:kn ts t≠21:=fun x=>q1 ((jU R.tb ht (u:=.nm 4) (by decide) rfl).mp x);have To:kn ts t≠22:=fun x=>q2 ((jU R.tb ht (u:=.nm 5) (by decide) rfl).mp x);have nb:(aW [(V.int 21,V.int 20),(.int 22,.int 21)] (kv ts t)).isSome=false:=by rw[aW,if_neg (a1 Tl),aW,if_neg (a1 To)];rfl
 have b2:di t=if t=ob then none else if t=.nm 1 then some ob else if bk t=4 then some (.nm 8) else if isVal t then some (if cZ t=5 then .nm 10 else .nm 7) else if bk t≠2∨cZ t=3 then none else if cF t=3 then some (.nm 7) else if cZ t=4/\cF t≠6 then some (.nm 9) else some ob:=by rw[di,if_neg q1,if_neg q2]
 rw[b2]
 by_cases q3:t=ob
 ·subst q3;have e1:kv ts ob=.int 12:=num (by decide) rfl;rw[e1] at ks nb⊢;rw[if_pos (Eq.refl ob),bV]
  with_reducible repeat' exists[ag,aa,af,aK,aB,ao,ah,ai,aI,aP,aj,ab,av,aq,au,aw],[aG,aF,bh,cT],ae,bs,S.AI,aD nb,kt,ks,aN rfl,aD rfl,cR,fy
 rw[if_neg q3];have Tp:kn ts t≠12:=fun x=>q3 ((jU R.tb ht (u:=ob) (by decide) rfl).mp x)
 by_cases q4:t=.nm 1
 ·subst q4;have e1:kv ts (.nm 1)=.int 13:=num (by decide) rfl;have e2:kv ts ob=.int 12:=num (by decide) rfl;rw[e1] at ks nb⊢;rw[if_pos (Eq.refl (T.nm 1)),bV,e2]
  with_reducible repeat' exists[ag,aa,af,aK,aB,ao,ah,ai,aI,aP,aj,ab,av,aq,au,aw],[aG,aF,bh,cT],ae,bs,S.AI,aD nb,kt,ks,aN rfl,aD rfl,cR,fy
 rw[if_neg q4];have Tq:kn ts t≠13:=fun x=>q4 ((jU R.tb ht (u:=.nm 1) (by decide) rfl).mp x);have F0:decide (kv ts t=V.int 12)=false:=US fun x=>Tp (V.int.inj x);have Li:decide (kv ts t=V.int 13)=false:=US fun x=>Tq (V.int.inj x)
 by_cases q5:bk t=4
 ·rw[if_pos q5,bV];rw[q5] at ks;have cb:=pQ (n:=n+1) R (k:=8) (i:=5) (by decide) rfl rfl
  with_reducible repeat' exists[ag,aa,af,aK,aB,ao,ah,ai,aI,aP,aj,ab,av,aq,au,aw],[aG,aF,bh,cT],ae,bs,S.AI,aD nb,kt,ks,aD F0,aD Li,cb,aN rfl,aD rfl,cR,fy
 rw[if_neg q5];have f4:decide (V.int (bk t)=V.int 4)=false:=US fun x=>q5 (V.int.inj x);cases q6:isVal t with
 | true=>
  rw[q6] at iv
  by_cases q7:cZ t=5
  ·rw[q7] at ps;rw[if_pos (Eq.refl true),if_pos q7,bV];have cb:=pQ (n:=n+1) R (k:=10) (i:=3) (by decide) rfl rfl
   with_reducible repeat' exists[ag,aa,af,aK,aB,ao,ah,ai,aI,aP,aj,ab,av,aq,au,aw],[aG,aF,bh,cT],ae,bs,S.AI,aD nb,kt,ks,aD F0,aD Li,aD f4,iv,ps,cb,aN rfl,aD rfl,cR,fy
  ·rw[if_pos (Eq.refl true),if_neg q7,bV];have f5:decide (V.int (cZ t)=V.int 5)=false:=US fun x=>q7 (V.int.inj x);have cb:=pQ (n:=n+1) R (k:=7) (i:=2) (by decide) rfl rfl
   with_reducible repeat' exists[ag,aa,af,aK,aB,ao,ah,ai,aI,aP,aj,ab,av,aq,au,aw],[aG,aF,bh,cT],ae,bs,S.AI,aD nb,kt,ks,aD F0,aD Li,aD f4,aD f5,iv,ps,cb,aN rfl,aD rfl,cR,fy
 | false=>
  rw[q6] at iv;rw[if_neg (by decide)]
  by_cases q7:bk t≠2∨cZ t=3
  ·rw[if_pos q7,bV];have f6:((!decide (V.int (bk t)=V.int 2))||decide (V.int (cZ t)=V.int 3))=true:=by simpa using q7
   with_reducible repeat' exists[ag,aa,af,aK,aB,ao,ah,ai,aI,aP,aj,ab,av,aq,au,aw,bz,b9],[aG,aF,bh,cT],ae,bs,S.AI,aD nb,kt,ks,aD F0,aD Li,aD f4,aN f6,iv,ps,aN rfl,aD rfl,cR,fy
  ·rw[if_neg q7];have f6:((!decide (V.int (bk t)=V.int 2))||decide (V.int (cZ t)=V.int 3))=false:=by simpa using q7
   by_cases q8:cF t=3
   ·rw[if_pos q8,bV];rw[q8] at td;have cb:=pQ (n:=n+1) R (k:=7) (i:=2) (by decide) rfl rfl
    with_reducible repeat' exists[ag,aa,af,aK,aB,ao,ah,ai,aI,aP,aj,ab,av,aq,au,aw,bz,b9],[aG,aF,bh,cT],ae,bs,S.AI,aD nb,kt,ks,aD F0,aD Li,aD f4,aD f6,iv,ps,td,cb,aN rfl,aD rfl,cR,fy
   ·rw[if_neg q8];have f7:decide (V.int (cF t)=V.int 3)=false:=US fun x=>q8 (V.int.inj x)
    by_cases q9:cZ t=4/\cF t≠6
    ·rw[if_pos q9,bV];have f8:(decide (V.int (cZ t)=V.int 4)&&!decide (V.int (cF t)=V.int 6))=true:=by simpa using q9
     have cb:=pQ (n:=n+1) R (k:=9) (i:=6) (by decide) rfl rfl
     with_reducible repeat' exists[ag,aa,af,aK,aB,ao,ah,ai,aI,aP,aj,ab,av,aq,au,aw,bz,b9],[aG,aF,bh,cT],ae,bs,S.AI,aD nb,kt,ks,aD F0,aD Li,aD f4,aD f6,aD f7,aN f8,iv,ps,td,cb,aN rfl,aD rfl,cR,fy
    ·rw[if_neg q9,bV,num (u:=ob) (by decide) (i:=12) rfl];have f8:(decide (V.int (cZ t)=V.int 4)&&!decide (V.int (cF t)=V.int 6))=false:=by simpa using q9
     with_reducible repeat' exists[ag,aa,af,aK,aB,ao,ah,ai,aI,aP,aj,ab,av,aq,au,aw,bz,b9],[aG,aF,bh,cT],ae,bs,S.AI,aD nb,kt,ks,aD F0,aD Li,aD f4,aD f6,aD f7,aD f8,iv,ps,td,aN rfl,aD rfl,cR,fy
theorem AL(hb:∀ a,t≠.one 99 a):bk t≠8:=by
 intro q;rcases dw [] t with ⟨p,_⟩|⟨p,_⟩|⟨p,k,a,rfl,_⟩
 ·lia
 ·lia
 ·by_cases e:k=99
  ·exact hb a (by rw[e])
  ·simp only[bk,e,if_false] at q
   split at q
   ·cases q
   ·split at q<;>cases q
theorem BH(S:Rs W h)(R:Rp h ts)(ht:t∈ts)(hb:bk t≠8):run aY (n+5) 36 [.obj 8,kv ts t] h=some (bV ts (di t),h):=by
 have kt:cC (.obj 8) 38 h=some (.obj 2):=k8 S rfl;have ks:=bH (n:=n+2) R ht;have iv:=dK (n:=n+2) R ht;have f:(false||decide (V.int (bk t)=V.int 8))=false:=by simpa using hb
 rw[lq]
 with_reducible repeat' exists[ag,aa,af,aK,ao,ah,ai,aj,aq,au,aw,bz],[aF],ae,kt,ks,iv,aD f,xf S R ht,aD rfl
theorem Lj(S:Rs W h)(R:Rp h ts)(ht:t∈ts)(hb:∀ a,t=.one 99 a->isVal a=true):run aY (n+7) 36 [.obj 8,kv ts t] h=some (bV ts (dW t),h):=by
 by_cases q:∃ a,t=.one 99 a
 ·(refine cX q fun a y0_1=>?_;obtain rfl:=y0_1)
  have va:=hb a rfl;have ha:a∈ts:=R.tb.args _ ht a (.head _);have na:bk a≠8:=by
   intro x;unfold isVal at va;rcases hV R.tb ha with ⟨p,p1,p2,p3⟩|⟨p,p1,p2⟩
   ·lia
   ·rw[p,x] at va;revert va;decide
  have kt:cC (.obj 8) 38 h=some (.obj 2):=k8 S rfl;have ks:=bH (n:=n+4) R ht;have iv:=dK (n:=n+4) R ht;have e:run aY (n+5) 17 [.obj 2,kv ts (.one 99 a)] h=some (kv ts a,h):=jV R ht (.inr rfl);have pb:=BH (n:=n) S R ha na;have so:=JI (n:=n+5) S (m:=40) rfl rfl;have lb:run aY (n+6) 44 [.obj 8,kv ts (.one 99 a)] h=some (bV ts (di a),h):=by
   have ks:=bH (n:=n+3) R ht;rw[wU]
   with_reducible repeat' exists[ag,aa,af,bO,aK,ao,ah,ai,ab,av,aq,au,aw],[aG],ae,kt,ks,e,so,pb,aN rfl,cR
  show run aY (n+7) 36 _ h=some (bV ts (di a),h);rw[lq]
  with_reducible repeat' exists[ag,aa,af,bO,aK,ao,ah,ai,ab,av,aq,au,aw,bz],[aG],ae,kt,ks,iv,lb,aN rfl,cR
 ·have Dj:∀ a,t≠.one 99 a:=fun a e=>q ⟨a,e⟩;have:dW t=di t:=by
   cases t with
   | one k a=>exact if_neg fun e=>Dj a (by rw[e])
   | _=>rfl
  rw[this];exact BH S R ht (AL Dj)
theorem zb(S:St W h ts [] a)(ht:t∈ts)(hb:∀ a,t=.one 99 a->isVal a=true):run aY (n+5) 37 [.obj 8,kv ts t] h=some (.tup ((gH W t).map (kv ts)),h):=by
 refine dj S.fs fun fs zc fp fl=>?_;have R:=S.rp;have kt:cC (.obj 8) 38 h=some (.obj 2):=k8 S.rs rfl;have ifs:cC (.obj 8) 44 h=some (.obj 10):=k8 S.rs rfl;have so:=JI (n:=n+3) S.rs (m:=41) rfl rfl;have nb:∀ {k:Nat} {u:T},u∈ts->bk u≠8->run aY (k+3) 37 [.obj 8,kv ts u] h=some (.tup ((ez W u).map (kv ts)),h):=fun {k u} hu q=>by
  have f:(false||decide (V.int (bk u)=V.int 8))=false:=by simpa using q
  have e:=fp u hu;rw[if_neg List.not_mem_nil] at e;have g:fW aA (.obj 10) (kv ts u) (.tup []) h=some (.tup ((ez W u).map (kv ts))):=by rw[<-e];exact cw zc rfl
  have ks:=bH (n:=k) R hu;have iv:=dK (n:=k) R hu;rw[gX]
  with_reducible repeat' exists[ag,aa,af,bO,aK,ao,ah,ai,aI,bS,aj,ab,av,aq,au,aw,bz],[aG,aF,dS,cw],ae,kt,ifs,ks,iv,aD f,zc,g,aN rfl,aD rfl,cR
 by_cases q:∃ a,t=.one 99 a
 ·(refine cX q fun a y2_1=>?_;obtain rfl:=y2_1)
  have va:=hb a rfl;have ha:a∈ts:=R.tb.args _ ht a (.head _);have na:bk a≠8:=by
   intro x;unfold isVal at va;rcases hV R.tb ha with ⟨p,p1,p2,p3⟩|⟨p,p1,p2⟩
   ·lia
   ·rw[p,x] at va;revert va;decide
  have ks:=bH (n:=n+2) R ht;have iv:=dK (n:=n+2) R ht;have e:run aY (n+3) 17 [.obj 2,kv ts (.one 99 a)] h=some (kv ts a,h):=jV R ht (.inr rfl);have lb:run aY (n+4) 45 [.obj 8,kv ts (.one 99 a)] h=some (.tup ((ez W a).map (kv ts)),h):=by
   have ks:=bH (n:=n+1) R ht;rw[tZ]
   with_reducible repeat' exists[ag,aa,af,bO,aK,ao,ah,ai,aI,bS,aj,ab,av,aq,au,aw],[aG,aF,dS,cw],ae,kt,ks,e,so,nb ha na,aN rfl,aD rfl,cR
  show run aY (n+5) 37 _ h=some (.tup ((ez W a).map (kv ts)),h);rw[gX]
  with_reducible repeat' exists[ag,aa,af,bO,aK,ao,ah,ai,aI,bS,aj,ab,av,aq,au,aw,bz],[aG,aF,dS,cw],ae,kt,ks,iv,lb,aN rfl,aD rfl,cR
 ·have Dj:∀ a,t≠.one 99 a:=fun a e=>q ⟨a,e⟩;have:gH W t=ez W t:=by
   cases t with
   | one k a=>exact if_neg fun e=>Dj a (by rw[e])
   | _=>rfl
  rw[this];exact nb ht (AL Dj)
end
end
section
noncomputable def rk:T->Nat
 | .nm n=>if n=0 then 0 else if [2,1,7,8,9].contains n then 1 else if n=4 then 4 else if n=5 then 5 else if [29,3,6,28,16].contains n then 3 else 2
 | .one n _=>if n=11 then 1 else if n=99 then 6 else 2
 | .two _ _ _=>2
noncomputable def vw:Nat->Option T->List T
 | 0,_=>[]
 | _+1,none=>[]
 | c+1,some t=>t::vw c (dW t)
noncomputable def zF(t:T):List T:=vw 7 (some t)
noncomputable def mA:List T:=[.nm 3,.nm 4,ob,.nm 8,.nm 10,.nm 7,.nm 9]
theorem iw{c:Prop}[Decidable c]{a b:Option T}(p:∀ u,a=some u->u∈mA)(q:∀ u,b=some u->u∈mA):∀ u,(if c then a else b)=some u->u∈mA:=by split<;>assumption
theorem jX{t u:T}(e:di t=some u):u∈mA:=by
 have s:∀ x,x∈mA->∀ u,some x=some u->u∈mA:=fun x h u e=>UM e▸h;have z:∀ u,(none:Option T)=some u->u∈mA:=fun u e=>by cases e
 have i:(if cZ t=5 then T.nm 10 else .nm 7)∈mA:=by split<;>decide
 exact iw (s _ (.head _)) (iw (s _ (.tail _ (.head _))) (iw z (iw (s ob (by decide)) (iw (s (.nm 8) (by decide)) (iw (s _ i) (iw z (iw (s (.nm 7) (by decide)) (iw (s (.nm 9) (by decide)) (s ob (by decide)))))))))) u e
theorem pR(t:T):rk t<=6:=by
 cases t with
 | nm n=>simp only[rk];(repeat' split)<;>decide
 | one n a=>simp only[rk];(repeat' split)<;>decide
 | two n a b=>exact (by decide:2<=6)
theorem xg{t u:T}(o:okN t=true)(e:dW t=some u):rk u<rk t/\u∈dD/\isRef u=true/\bk u≠8:=by
 have big:u∈mA->u∈dD/\isRef u=true/\bk u≠8:=by
  have key:∀ u∈mA,u∈dD/\isRef u=true/\bk u≠8:=by decide
  exact key u
 cases t with
 | nm k=>
  have key:∀ t∈dD,∀ u∈dW t,rk u<rk t:=by decide +kernel
  exact ⟨key _ (dE o) _ e,big (jX e)⟩
 | one k a=>
  simp only[okN,Bool.or_eq_true,beq_iff_eq] at o;rcases o with (((rfl|rfl)|rfl)|rfl)|rfl
  ·cases e;exact (by decide:1<2/\T.nm 8∈dD/\isRef (.nm 8)=true/\bk (.nm 8)≠8)
  ·have b:=jX (t:=a) e;have key:∀ u∈mA,rk u<6:=by decide
   exact ⟨key u b,big b⟩
  ·have e':some (.nm 7)=some u:=e;cases e';exact (by decide:1<2/\T.nm 7∈dD/\isRef (.nm 7)=true/\bk (.nm 7)≠8)
  ·cases e
  ·cases e;exact (by decide:0<2/\ob∈dD/\isRef ob=true/\bk ob≠8)
 | two k a b=>
  simp only[okN,Bool.or_eq_true,beq_iff_eq] at o;rcases o with rfl|rfl
  ·cases e
  ·cases e;exact (by decide:1<2/\T.nm 9∈dD/\isRef (.nm 9)=true/\bk (.nm 9)≠8)
theorem vx{ts pre:List T}{t:T}{v:V}(ht:t∈ts)(hp:∀ u∈pre,u∈ts)(n:t∉pre):aW (pre.map fun u=>(kv ts u,v)) (kv ts t)=none:=by
 induction pre with
 | nil=>rfl
 | cons u l ih=>
  rw[List.map_cons,aW,if_neg fun e=>n ((eW (hp u (.head _)) ht).mp (V.int.inj e)▸.head _)];exact ih (fun x h=>hp x (.tail _ h)) fun h=>n (.tail _ h)
theorem C3{ts pre:List T}{t:T}{v:V}(n:t∈pre):aW (pre.map fun u=>(kv ts u,v)) (kv ts t)=some v:=by
 induction pre with
 | nil=>cases n
 | cons u l ih=>
  rw[List.map_cons,aW]
  split
  ·rfl
  ·rename_i q
   rcases UO n with e|e
   ·exact absurd (congrArg (kv ts) e.symm) q
   ·exact ih e
theorem Fr.drop{X Y:List Nat}{h h':Hp}(f:Fr X h h')(q:∀ i∈X,i∈Y∨h.length<=i):Fr Y h h':=fun i o hi e=>
 f i o (fun x=>(q i x).elim hi fun z=>absurd (bU e) (Nat.not_lt.mpr z)) e
noncomputable def Rl:List S:=[.bZ (.loc 3) (.loc 1) (.lit (.int (1))),.expr (.app (.loc 2) (.loc 1)),.asg (.one 1) (.own (.loc 0) 40 [.loc 1])]
noncomputable def OC:E:=.aV true [.cmp .ne (.loc 1) (.lit (.int (-1))),.cmp .eH (.loc 1) (.loc 3)]
section
variable{W:Wd}{h h':Hp}{ts pend:List T}{t:T}{n:Nat}{a:Int}
theorem Im{o:Nat}(ho:87<=o):∀ (c:Nat) (cur:Option T) (pre:List T) (hh:Hp),Rs W hh->Rp hh ts->(∀ t,cur=some t->t∈ts/\rk t<c/\(∀ a,t=.one 99 a->isVal a=true)/\∀ u∈pre,rk t<rk u)->(∀ u∈pre,u∈ts)->pre.length+c<=20->
  hh[o]?=some (.list (pre.map (kv ts)))->hh[o+1]?=some (.dict 0 (pre.map fun u=>(kv ts u,.int 1)))->∀ k:Nat,
  ∃ v vy,hJ (oD (pg (n+7)) OC) (aR (pg (n+7)) Rl) (k+c+1) [some (.obj 8),some (bV ts cur),some (.obj o),some (.obj (o+1))] hh=some ((.next,[some (.obj 8),some v,some (.obj o),some (.obj (o+1))]),vy)/\vy[o]?=some (.list ((pre++vw c cur).map (kv ts)))/\Fr [o,o+1] hh vy:=by
 intro c
 induction c with
 | zero=>
  intro cur pre hh S R hc hp hl h1 h2 k;cases cur with
  | some t=>exact absurd (hc t rfl).2.1 (Nat.not_lt_zero _)
  | none=>
   refine ⟨_,hh,w_end (wt (x:=.bool false) ?_ rfl),by rw[vw,List.append_nil];exact h1,Fr.rfl'⟩;have e:(!decide (bV ts none=V.int (-1)))=false:=rfl;unfold OC
   with_reducible repeat' first|exists[ag,aa,bO,ao,ah,ai,aL,jd,cJ,av,c9,bG],[aO,aS,gb,gY,bF,ku],ae,aD e,aN rfl,aD rfl,uA|apply bD (by decide)
 | succ c ih=>
  intro cur pre hh S R hc hp hl h1 h2 k;cases cur with
  | none=>
   refine ⟨_,hh,w_end (wt (x:=.bool false) ?_ rfl),by rw[vw,List.append_nil];exact h1,Fr.rfl'⟩;have e:(!decide (bV ts none=V.int (-1)))=false:=rfl;unfold OC
   with_reducible repeat' first|exists[ag,aa,bO,ao,ah,ai,aL,jd,cJ,av,c9,bG],[aO,aS,gb,gY,bF,ku],ae,aD e,aN rfl,aD rfl,uA|apply bD (by decide)
  | some t=>
   refine lI (hc t rfl) fun ht hr hb rL=>?_;have np:t∉pre:=fun q=>Nat.lt_irrefl _ (rL t q);have g:=vx (v:=.int 1) ht hp np;have k1:bp (pre.map (kv ts))=true:=bA (by rw[UQ];lia);have k2:bp (pre.map fun u=>(kv ts u,V.int 1))=true:=bA (by rw[UQ];lia);have L1:=bU h1;have L2:=bU h2
   let hA:=hh.set (o+1) (.dict 0 ((pre++[t]).map fun u=>(kv ts u,V.int 1)))
   let hB:=hA.set o (.list ((pre++[t]).map (kv ts)))
   have fA:Fr [o,o+1] hh hA:=Fr.set (.tail _ (.head _));have fB:Fr [o,o+1] hh hB:=fA.trans (Fr.set (.head _));have q8:∀ i,i<87->i∉[o,o+1]:=fun i hi x=>by
    rcases UO x with e|x
    ·lia
    ·rw[UL x] at hi;lia
   have SB:Rs W hB:=S.fr fB fun i x=>.inr (.inr (.inr (Nat.le_of_not_lt fun z=>q8 i z x)));have RB:Rp hB ts:=R.fr fB fun i hi=>q8 i (by lia);have Rm:hA[o]?=some (.list (pre.map (kv ts))):=bD (by lia) h1;have Tr:hB[o]?=some (.list ((pre++[t]).map (kv ts))):=d9 (by rw[List.length_set];exact L1);have Ts:hB[o+1]?=some (.dict 0 ((pre++[t]).map fun u=>(kv ts u,V.int 1))):=bD (by lia) (d9 L2);have MX:∀ u,dW t=some u->u∈ts/\rk u<c/\(∀ a,u=.one 99 a->isVal a=true)/\∀ v∈pre++[t],rk u<rk v:=fun u e=>by
    refine lI (xg (R.tb.ok t ht) e) fun r1 r2 r3 r4=>?_;refine ⟨iN R.tb r2,by lia,fun a q=>absurd (by rw[q];rfl) r4,fun v hv=>?_⟩;rcases UR hv with q|q
    ·exact Nat.lt_trans r1 (rL v q)
    ·rw[UL q];exact r1
   refine fG (ih (dW t) (pre++[t]) hB SB RB MX (fun u hu=>by
    rcases UR hu with q|q
    ·exact hp u q
    ·rw[UL q];exact ht) (by rw[UN,List.length_singleton];lia) Tr Ts k) fun v vy e1 e2 e3=>?_
   refine ⟨v,vy,w_next (wt (x:=.bool true) (h1:=hh) ?_ rfl) (h2:=hB) (e1:=[some (.obj 8),some (bV ts (dW t)),some (.obj o),some (.obj (o+1))]) ?_ e1,?_,fB.trans e3⟩
   ·have z1:(!decide (kv ts t=V.int (-1)))=true:=by
     have:=vo (ts:=ts) (t:=t);rw[US fun x=>by have:=V.int.inj x;lia];rfl
    have z3:bg aA .eH (kv ts t) (.obj (o+1)) hh=some true:=by rw[ku h2 rfl,g];rfl
    unfold OC;show ba _ _ [some (.obj 8),some (kv ts t),_,_] _=_
    with_reducible repeat' first|exists[ag,aa,bO,ao,ah,ai,aL,jd,cJ,av,c9,bG],[aO,aS,gb,gY,bF,ku],ae,aN z1,z3,aN rfl,aD rfl,uA|apply bD (by decide)
   ·have s1:dn (.obj (o+1)) (kv ts t) (.int 1) hh=some hA:=by
     rw[bF h2 rfl k2,pM g];show _=some (hh.set (o+1) (.dict 0 ((pre++[t]).map fun u=>(kv ts u,V.int 1))));rw[List.map_append,List.map_singleton]
    have s2:uD (.obj o) (kv ts t) hA=some (.none,hB):=by
     rw[gY Rm k1];show _=some (_,hA.set o (.list ((pre++[t]).map (kv ts))));rw[List.map_append,List.map_singleton]
    have s3:=Lj (n:=n) SB RB ht hb;have s4:=JI (n:=n+7) SB (m:=40) rfl rfl;unfold Rl;show aR _ _ [some (.obj 8),some (kv ts t),_,_] _=_
    with_reducible repeat' first|exists[ag,aa,bO,ao,ah,ai,aL,jd,cJ,av,c9,bG],[aO,aS,gb,gY,bF,ku],ae,s1,s2,s3,s4,Rm,aN rfl,aD rfl,uA|apply bD (by decide)
   ·rw[e2,List.append_assoc];rfl
theorem pS(S:Rs W h)(R:Rp h ts)(ht:t∈ts)(hb:∀ a,t=.one 99 a->isVal a=true):∃ o h',run aY (n+8) 29 [.obj 8,kv ts t] h=some (.obj o,h')/\h'[o]?=some (.list ((zF t).map (kv ts)))/\Fr [] h h'/\h.length<=o:=by
 have L:=bU S.Dl
 let hA:Hp:=h++[.list []]
 let hB:Hp:=hA++[.dict 0 []]
 have l1:hA.length=h.length+1:=by rw[UN];rfl
 have fB:Fr [] h hB:=Fr.app.trans Fr.app;have b1:hB[h.length]?=some (.list (([]:List T).map (kv ts))):=bj bT;have b2:hB[h.length+1]?=some (.dict 0 (([]:List T).map fun u=>(kv ts u,V.int 1))):=by rw[<-l1];exact bT
 refine fG (Im (W:=W) (ts:=ts) (n:=n) (o:=h.length) (by lia) 7 (some t) [] hB (S.fr fB fun i x=>by cases x) (R.fr fB fun i _ x=>by cases x)
  (fun u e=>by cases e;exact ⟨ht,Nat.lt_succ_of_le (pR t),hb,fun u x=>by cases x⟩) (fun u x=>by cases x) (by decide) b1 b2 999992) fun v h' e1 e2 e3=>?_
 refine ⟨h.length,h',?_,e2,(fB.nil.trans e3).drop fun i x=>.inr ?_,Nat.le_refl _⟩
 ·have n1:jw [] h=some (.obj h.length,hA):=rfl;have n2:eI hA.length [] (hA++[.dict 0 []])=some (.obj (h.length+1),hB):=by rw[<-l1];rfl
  rw[wM];exact aw (av (c7 ag n1) cR (av (eR ag n2) fy (AF e1 (au (aC rfl))))) rfl
 ·rcases UO x with e|x
  ·lia
  ·rw[UL x];lia
end
end
section
section
variable(W:Wd)
noncomputable def cls(t:T):List T:=t::gH W t
noncomputable def Io:List T->Nat
 | []=>0
 | t::l=>(1+(gH W t).length)+Io l
end
noncomputable def PW:List S:=[.asg (.one 5) (.pop (.loc 4)),.ite (.cmp .isin (.loc 5) (.loc 3)) [.cont] [],.bZ (.loc 3) (.loc 5) (.lit (.int (1))),.expr (.app (.loc 2) (.loc 5)),.gN (.one 6) (.rev (.toList (.own (.loc 0) 41 [.loc 5]))) [.expr (.app (.loc 4) (.loc 6))]]
structure Face(W:Wd)(ts:List T)(t:T):Prop where
 mem:t∈ts
 box:∀ a,t≠.one 99 a
 one:(gH W t).length<=1
 NQ:∀ u∈gH W t,u∈ts/\(∀ a,u≠.one 99 a)/\gH W u=[]
theorem Face.Lk{W:Wd}{ts:List T}{t:T}(h:t∈ts)(b:∀ a,t≠.one 99 a)(e:gH W t=[]):Face W ts t:=
 ⟨h,b,by rw[e];exact Nat.zero_le _,by rw[e];intro u q;cases q⟩
theorem gM{h:Hp}{n:Nat}{l:List V}(p:h[n]?=some (.list l)):cV (.obj n) l h=true:=KZ p
theorem Ip{h:Hp}{q:Nat}{l:List V}{x:V}(p:h[q]?=some (.list (l++[x])))(k:bp (l++[x])=true):B3 (.obj q) h=some (x,h.set q (.list l)):=NL p k
section
variable{W:Wd}{h h':Hp}{ts pend:List T}{t:T}{n:Nat}{a:Int}
theorem Iq{f g q:Nat}(hf:87<=f)(hg:87<=g)(hq:87<=q)(fg:f≠g)(fq:f≠q)(gq:g≠q){kx:Option V}:∀ (c:Nat) (st F:List T) (hh:Hp) (x5 x6:Option V),St W hh ts [] a->(∀ t∈st,Face W ts t)->(∀ u∈F,u∈ts)->(∀ u∈F,∀ v∈gH W u,v∈F∨v∈st)->Io W st<=c->F.length+st.length+c<=200->
  hh[f]?=some (.list (F.map (kv ts)))->hh[g]?=some (.dict 0 (F.map fun u=>(kv ts u,.int 1)))->hh[q]?=some (.list (st.reverse.map (kv ts)))->∀ k:Nat,
  ∃ (F':List T) (y5 y6:Option V) (vy:Hp),hJ (oD (pg (n+5)) (.loc 4)) (aR (pg (n+5)) PW) (k+c+1) [some (.obj 8),kx,some (.obj f),some (.obj g),some (.obj q),x5,x6] hh=some ((.next,[some (.obj 8),kx,some (.obj f),some (.obj g),some (.obj q),y5,y6]),vy)/\
   vy[f]?=some (.list (F'.map (kv ts)))/\vy[g]?=some (.dict 0 (F'.map fun u=>(kv ts u,.int 1)))/\Fr [f,g,q] hh vy/\(∀ u∈F',u∈ts)/\(∀ u∈F',∀ v∈gH W u,v∈F')/\(∀ u∈F,u∈F')/\(∀ t∈st,t∈F')/\(∀ u∈F',u∈F∨∃ t∈st,u∈cls W t)/\F'.length<=F.length+c:=by
 intro c
 induction c with
 | zero=>
  intro st F hh x5 x6 S hs hF hc hw hl h1 h2 h3 k;cases st with
  | cons t l=>simp only[Io] at hw;lia
  | nil=>
   refine ⟨F,x5,x6,hh,w_end (wt (aC rfl) (NK h3 rfl)),h1,h2,Fr.rfl',hF,fun u hu v hv=>(hc u hu v hv).elim id fun x=>(by cases x),fun u hu=>hu,(fun t x=>by cases x),fun u hu=>.inl hu,Nat.le_refl _⟩
 | succ c ih=>
  intro st F hh x5 x6 S hs hF hc hw hl h1 h2 h3 k;cases st with
  | nil=>
   refine ⟨F,x5,x6,hh,w_end (wt (aC rfl) (NK h3 rfl)),h1,h2,Fr.rfl',hF,fun u hu v hv=>(hc u hu v hv).elim id fun x=>(by cases x),fun u hu=>hu,(fun t x=>by cases x),fun u hu=>.inl hu,Nat.le_add_right _ _⟩
  | cons t l=>
   simp only[Io] at hw;have ll:(t::l).length=l.length+1:=rfl;have Ft:=hs t (.head _);have qd:∀ t∈l,Face W ts t:=fun u hu=>hs u (.tail _ hu);rw[List.reverse_cons,List.map_append,List.map_singleton] at h3;have kq:bp (l.reverse.map (kv ts)++[kv ts t])=true:=bA (by rw[UN,UQ,List.length_reverse,List.length_singleton];lia)
   let hA:=hh.set q (.list (l.reverse.map (kv ts)))
   have fA:Fr [f,g,q] hh hA:=Fr.set (.tail _ (.tail _ (.head _)));have pp:B3 (.obj q) hh=some (kv ts t,hA):=Ip h3 kq;have big:∀ i∈[f,g,q],87<=i:=fun i x=>by
    rcases UO x with e|x
    ·lia
    rcases UO x with e|x
    ·lia
    ·rw[UL x];exact hq
   have tt:truth (.obj q) hh=some true:=by
    rw[NK h3 kq];exact congrArg some (UT (by simp))
   have a1:hA[f]?=some (.list (F.map (kv ts))):=bD (Ne.symm fq) h1;have a2:hA[g]?=some (.dict 0 (F.map fun u=>(kv ts u,.int 1))):=bD (Ne.symm gq) h2;have a3:hA[q]?=some (.list (l.reverse.map (kv ts))):=d9 (bU h3)
   by_cases m:t∈F
   ·obtain ⟨F',y5,y6,vy,e1,e2,e3,e4,e5,e6,e7,e8,e9,Mf⟩:=ih l F hA (some (kv ts t)) x6 (S.fr fA big) qd hF (fun u hu v hv=>(hc u hu v hv).elim .inl fun x=>(UO x).elim (fun e=>.inl (e▸m)) .inr) (by lia) (by lia) a1 a2 a3 k;refine ⟨F',y5,y6,vy,K9 (wt (aC rfl) tt) (e1:=[some (.obj 8),kx,some (.obj f),some (.obj g),some (.obj q),some (kv ts t),x6]) (h2:=hA) ?_ e1,e2,e3,fA.trans e4,e5,e6,e7,fun u x=>(UO x).elim (fun e=>e▸e7 t m) (e8 u),fun u hu=>(e9 u hu).elim .inl fun ⟨t',p,r⟩=>.inr ⟨t',.tail _ p,r⟩,by lia⟩;have z:bg aA .isin (kv ts t) (.obj g) hA=some true:=by rw[cT a2 rfl,C3 m];rfl
    unfold PW
    with_reducible repeat' first|(apply aC;with_unfolding_all exact rfl)|exists[ag,aa,bO,ao,jd,t7,FH,JE,cJ,aj,ab,av,aq,c9,bG,FO],[aG,aF,gb,gY,pK,Bx,bF,cT,NK],ae,pp,z,aN rfl,aD rfl,dO,iB|apply bD (by decide)|apply bj
   ·have gn:=vx (v:=.int 1) Ft.mem hF m;have k1:bp (F.map (kv ts))=true:=bA (by rw[UQ];lia);have k2:bp (F.map fun u=>(kv ts u,V.int 1))=true:=bA (by rw[UQ];lia)
    let hB:=hA.set g (.dict 0 ((F++[t]).map fun u=>(kv ts u,V.int 1)))
    let hC:=hB.set f (.list ((F++[t]).map (kv ts)))
    have fB:Fr [f,g,q] hA hB:=Fr.set (.tail _ (.head _));have fC:Fr [f,g,q] hh hC:=fA.trans (fB.trans (Fr.set (.head _)));have SC:St W hC ts [] a:=S.fr fC big;have b1:hB[f]?=some (.list (F.map (kv ts))):=bD (Ne.symm fg) a1;have c1:hC[f]?=some (.list ((F++[t]).map (kv ts))):=d9 (bU b1);have c2:hC[g]?=some (.dict 0 ((F++[t]).map fun u=>(kv ts u,V.int 1))):=bD fg (d9 (bU a2));have c3:hC[q]?=some (.list (l.reverse.map (kv ts))):=bD fq (bD gq a3);have z:bg aA .isin (kv ts t) (.obj g) hA=some false:=by rw[cT a2 rfl,gn];rfl
    have s1:dn (.obj g) (kv ts t) (.int 1) hA=some hB:=by
     rw[bF a2 rfl k2,pM gn];show _=some (hA.set g (.dict 0 ((F++[t]).map fun u=>(kv ts u,V.int 1))));rw[List.map_append,List.map_singleton]
    have s2:uD (.obj f) (kv ts t) hB=some (.none,hC):=by
     rw[gY b1 k1];show _=some (_,hB.set f (.list ((F++[t]).map (kv ts))));rw[List.map_append,List.map_singleton]
    have s3:=zb (n:=n) SC Ft.mem fun a e=>absurd e (Ft.box a);have s4:=JI (n:=n+5) SC.rs (m:=41) rfl rfl
    let hD:Hp:=hC++[.list ((gH W t).map (kv ts))]
    let hE:Hp:=hD++[.list ((gH W t).map (kv ts)).reverse]
    have s5:mF (.tup ((gH W t).map (kv ts))) hC=some (.obj hC.length,hD):=pK (bA (by rw[UQ];have:=Ft.one;lia));have s6:B4 (.obj hC.length) hD=some (.obj hD.length,hE):=Bx bT (bA (by rw[List.length_reverse,UQ];have:=Ft.one;lia));have fE:Fr [f,g,q] hC hE:=Fr.app.trans Fr.app;have cE:hE[hD.length]?=some (.list ((gH W t).map (kv ts)).reverse):=bT;have Lq:=bU c3;have LD:hD.length=hC.length+1:=by rw[UN];rfl
    have d3:hE[q]?=some (.list (l.reverse.map (kv ts))):=bj (bj c3);have push:∃ y6 hF,eQ (cV (.obj hD.length) ((gH W t).map (kv ts)).reverse) (dq (pg (n+5)) (.one 6) [.expr (.app (.loc 4) (.loc 6))]) ((gH W t).map (kv ts)).reverse [some (.obj 8),kx,some (.obj f),some (.obj g),some (.obj q),some (kv ts t),x6] hE=some ((.next,[some (.obj 8),kx,some (.obj f),some (.obj g),some (.obj q),some (kv ts t),y6]),hF)/\Fr [q] hE hF/\hF[q]?=some (.list ((gH W t++l).reverse.map (kv ts))):=by
     match hi:gH W t,Ft.one with
     | [],_=>exact ⟨x6,hE,rfl,Fr.rfl',d3⟩
     | [u],_=>
      refine ⟨some (kv ts u),hE.set q (.list (l.reverse.map (kv ts)++[kv ts u])),d7 (dJ iB (c9 (jd (aC rfl) (gb d3) (aC rfl) (gY d3 (bA (by rw[UQ,List.length_reverse];lia)))) cJ)) ?_ yZ,Fr.set (.head _),?_⟩
      ·rw[hi] at cE;have:(hE.set q (.list (l.reverse.map (kv ts)++[kv ts u])))[hD.length]?=some (.list [kv ts u]):=bD (by lia) cE;exact gM this
      ·rw[d9 (bU d3)];simp
    refine fG push fun y6 KE p1 p2 p3=>?_;have fF:Fr [f,g,q] hC KE:=fE.trans (p2.mono fun i x=>by rw[UL x];exact .tail _ (.tail _ (.head _)));have g1:KE[f]?=some (.list ((F++[t]).map (kv ts))):=p2 f _ (fun x=>fq (UL x)) (bj (bj c1));have g2:KE[g]?=some (.dict 0 ((F++[t]).map fun u=>(kv ts u,V.int 1))):=p2 g _ (fun x=>gq (UL x)) (bj (bj c2));have wl:∀ {m:List T},(∀ u∈m,gH W u=[])->Io W (m++l)=m.length+Io W l:=by
     intro m
     induction m with
     | nil=>intro _;simp
     | cons u m ih=>intro hm;simp only[List.cons_append,Io,ih fun x h=>hm x (.tail _ h),hm u (.head _),List.length_cons,List.length_nil];lia
    have wl':=wl fun u hu=>(Ft.NQ u hu).2.2;have o1:=Ft.one;obtain ⟨F',y5,Tt,vy,e1,e2,e3,e4,e5,e6,e7,e8,e9,Mf⟩:=ih (gH W t++l) (F++[t]) KE (some (kv ts t)) y6 (SC.fr fF big) (fun u hu=>(UR hu).elim (fun x=>Face.Lk (Ft.NQ u x).1 (Ft.NQ u x).2.1 (Ft.NQ u x).2.2) (qd u))
     (fun u hu=>(UR hu).elim (hF u) fun x=>by rw[UL x];exact Ft.mem)
     (fun u hu v hv=>by
      rcases UR hu with x|x
      ·rcases hc u x v hv with y|y
       ·exact .inl (UP _ y)
       ·rcases UO y with e|y
        ·exact .inl (e▸List.mem_append_right _ (.head _))
        ·exact .inr (List.mem_append_right _ y)
      ·rw[UL x] at hv;exact .inr (UP _ hv))
     (by lia) (by rw[UN,UN,List.length_singleton];lia) g1 g2 p3 k
    refine ⟨F',y5,Tt,vy,w_next (wt (aC rfl) tt) (e1:=[some (.obj 8),kx,some (.obj f),some (.obj g),some (.obj q),some (kv ts t),y6]) (h2:=KE) ?_ e1,e2,e3,fC.trans (fF.trans e4),e5,e6,fun u hu=>e7 u (UP _ hu),fun u x=>(UO x).elim (fun e=>e▸e7 t (List.mem_append_right _ (.head _))) fun x=>e8 u (List.mem_append_right _ x),?_,?_⟩
    ·unfold PW
     with_reducible repeat' first|(apply aC;with_unfolding_all exact rfl)|refine' eT ?_ ?_ p1 ?_|exists[ag,aa,bO,ao,jd,t7,FH,JE,cJ,aj,ab,av,aq,c9,bG,FO],[aG,aF,gb,gY,pK,Bx,bF,cT,NK],ae,pp,z,s1,s2,s3,s4,s5,s6,b1,iu cE,aN rfl,aD rfl,dO,iB|apply bD (by decide)|apply bj
    ·intro u hu;rcases e9 u hu with x|⟨t',x,y⟩
     ·rcases UR x with x|x
      ·exact .inl x
      ·exact .inr ⟨t,.head _,by rw[UL x];exact .head _⟩
     ·rcases UR x with x|x
      ·refine .inr ⟨t,.head _,?_⟩;rw[cls,(Ft.NQ t' x).2.2,List.mem_singleton] at y;rw[y];exact .tail _ x
      ·exact .inr ⟨t',.tail _ x,y⟩
    ·rw[UN,List.length_singleton] at Mf;lia
end
end
section
theorem BI{W:Wd}{k:Nat}(h:xM.contains k=false):gH W (.nm k)=[]:=by
 show eh W k=[];rw[eh,h];rfl
theorem dY{W:Wd}{t u:T}(h:u∈ez W t):u=.nm 2∨(∃ a,u=.one 11 a)∨∃ a b,u=.two 12 a b:=by
 have fl:∀ {i:Nat},u∈bX i->u=.nm 2∨(∃ a,u=.one 11 a)∨∃ a b,u=.two 12 a b:=fun {i} h=>by
  match i with
  | 0=>exact .inl (UL h)
  | 1=>cases h
  | 2=>exact .inr (.inl ⟨_,UL h⟩)
  | 3=>exact .inr (.inl ⟨_,UL h⟩)
  | 4=>exact .inr (.inr ⟨_,_,UL h⟩)
  | 5=>exact .inr (.inl ⟨_,UL h⟩)
  | 6=>exact .inr (.inr ⟨_,_,UL h⟩)
  | n+7=>exact (UO h).elim (fun e=>.inr (.inl ⟨_,e⟩)) fun h=>.inl (UL h)
 cases t with
 | nm n=>
  simp only[ez,eh] at h
  split at h
  ·exact fl h
  ·cases h
 | one n a=>
  simp only[ez] at h
  split at h
  ·exact .inr (.inl ⟨_,UL h⟩)
  ·cases h
 | two n a b=>
  simp only[ez] at h
  split at h
  ·exact .inr (.inl ⟨_,UL h⟩)
  ·cases h
theorem mO(i:Nat):(bX i).length<=2:=by
 match i with
 | 0|1|2|3|4|5|6|n+7=>exact Nat.le_of_ble_eq_true rfl
theorem BJ{W:Wd}(t:T):(ez W t).length<=2:=by
 cases t with
 | nm n=>
  simp only[ez,eh]
  split
  ·exact mO _
  ·exact Nat.zero_le _
 | one n a=>simp only[ez];split<;>exact Nat.le_of_ble_eq_true rfl
 | two n a b=>simp only[ez];split<;>exact Nat.le_of_ble_eq_true rfl
theorem ly{W:Wd}(t:T):∃ u,gH W t=ez W u/\(u=t∨∃ a,t=.one 99 a/\u=a):=by
 cases t with
 | one n a=>
  by_cases e:n=99
  ·subst e;exact ⟨a,rfl,.inr ⟨a,rfl,rfl⟩⟩
  ·exact ⟨_,if_neg e,.inl rfl⟩
 | nm n=>exact ⟨_,rfl,.inl rfl⟩
 | two n a b=>exact ⟨_,rfl,.inl rfl⟩
theorem qA{W:Wd}{u:T}(h:u=.nm 2∨(∃ a,u=.one 11 a)∨∃ a b,u=.two 12 a b):(∀ a,u≠.one 99 a)/\(gH W u).length<=1/\∀ v∈gH W u,(∀ a,v≠.one 99 a)/\gH W v=[]:=by
 rcases h with rfl|⟨a,rfl⟩|⟨a,b,rfl⟩
 ·have:gH W (.nm 2)=[]:=BI rfl;exact ⟨(fun a e=>by cases e),by rw[this];exact Nat.zero_le _,by rw[this];intro v h;cases h⟩
 ·have:gH W (.one 11 a)=[]:=rfl;exact ⟨(fun c e=>by cases e),by rw[this];exact Nat.zero_le _,by rw[this];intro v h;cases h⟩
 ·have:gH W (.two 12 a b)=if 12=12/\W.eE=true then [.one 11 a] else []:=rfl;refine ⟨(fun c e=>by cases e),?_,?_⟩
  ·rw[this];split<;>exact Nat.le_of_ble_eq_true rfl
  ·rw[this]
   split
   ·intro v h;rw[UL h];exact ⟨(fun c e=>by cases e),rfl⟩
   ·intro v h;cases h
section
variable{W:Wd}{h h':Hp}{ts pend:List T}{t:T}{n:Nat}{a:Int}
theorem St.gH(S:St W h ts [] a)(ht:t∈ts):∀ u∈gH W t,u∈ts:=by
 refine aM (ly (W:=W) t) fun v e q=>?_;rw[e];rcases q with rfl|⟨b,rfl,rfl⟩
 ·exact S.oh _ ht List.not_mem_nil
 ·exact S.oh _ (S.rp.tb.args _ ht _ (.head _)) List.not_mem_nil
theorem Ir(S:St W h ts [] a)(ht:t∈ts){u:T}(hu:u∈gH W t):Face W ts u:=by
 have m:=S.gH ht u hu;refine aM (ly (W:=W) t) fun v e q=>?_;rw[e] at hu;refine fU (qA (W:=W) (dY hu)) fun p1 p2 p3=>?_;exact ⟨m,p1,p2,fun x hx=>⟨S.gH m x hx,p3 x hx⟩⟩
theorem F2(S:St W h ts [] a):∀ l:List T,(∀ u∈l,Face W ts u)->Io W l<=2 * l.length
 | [],_=>Nat.le_refl _
 | u::l,p=>by
  have:=F2 S l fun x h=>p x (.tail _ h);have:=(p u (.head _)).one;simp only[Io,List.length_cons];lia
theorem xh{f g:Nat}{F st:List T}(S:St W h ts [] a)(hf:87<=f)(hg:87<=g)(fg:f≠g)(hs:∀ u∈st,Face W ts u)(hl:st.length<=2)(hF:∀ u∈F,u∈ts)(hc:∀ u∈F,∀ v∈gH W u,v∈F)(hn:F.length<=100)
  (h1:h[f]?=some (.list (F.map (kv ts)))) (h2:h[g]?=some (.dict 0 (F.map fun u=>(kv ts u,.int 1)))) :
  ∃ (F':List T) (h':Hp),run aY (n+6) 31 [.obj 8,.tup (st.map (kv ts)),.obj f,.obj g] h=some (.none,h')/\h'[f]?=some (.list (F'.map (kv ts)))/\h'[g]?=some (.dict 0 (F'.map fun u=>(kv ts u,.int 1)))/\Fr [f,g] h h'/\(∀ u∈F',u∈ts)/\(∀ u∈F',∀ v∈gH W u,v∈F')/\(∀ u,u∈F'↔u∈F∨∃ t∈st,u∈cls W t)/\F'.length<=F.length+4:=by
 let hD:Hp:=h++[.list (st.map (kv ts))]
 let hE:Hp:=hD++[.list (st.map (kv ts)).reverse]
 have s5:mF (.tup (st.map (kv ts))) h=some (.obj h.length,hD):=pK (bA (by rw[UQ];lia));have s6:B4 (.obj h.length) hD=some (.obj hD.length,hE):=Bx bT (bA (by rw[List.length_reverse,UQ];lia));have fE:Fr [] h hE:=Fr.app.trans Fr.app;have LD:hD.length=h.length+1:=by rw[UN];rfl
 have L1:=bU h1;have L2:=bU h2;have b:=S.big;have w:=F2 S st hs;obtain ⟨F',y5,y6,h',e1,e2,e3,e4,e5,e6,e7,e8,e9,Mf⟩:=Iq (W:=W) (ts:=ts) (n:=n) (a:=a) (q:=hD.length) hf hg (by lia) fg (by lia) (by lia) (kx:=some (.tup (st.map (kv ts)))) 4 st F hE none none (S.pure fE) hs hF (fun u hu v hv=>.inl (hc u hu v hv)) (by lia) (by lia) (fE.at h1) (fE.at h2) (by rw[List.map_reverse];exact bT) 999995;refine ⟨F',h',?_,e2,e3,(fE.nil.trans e4).drop fun i x=>?_,e5,e6,fun u=>⟨e9 u,fun x=>x.elim (e7 u) fun ⟨t,p,q⟩=>?_⟩,Mf⟩
 ·rw[wO];refine mq (av (FH (t7 (aC rfl) s5) s6) cH (AF e1 cJ)) rfl
 ·rcases UO x with e|x
  ·exact .inl (e▸.head _)
  rcases UO x with e|x
  ·exact .inl (e▸.tail _ (.head _))
  ·exact .inr (by rw[UL x];lia)
 ·rcases UO q with e|q
  ·exact e▸e8 t p
  ·exact e6 t (e8 t p) u q
theorem xi(b:Tb ts):∀ (c:Nat) (o:Option T),(∀ t,o=some t->t∈ts/\∀ a,t=.one 99 a->isVal a=true)->∀ u∈vw c o,u∈ts/\∀ a,u=.one 99 a->isVal a=true
 | 0,_,_,_,h=>by cases h
 | _+1,none,_,_,h=>by cases h
 | c+1,some t,p,u,h=>by
  refine bY (p t rfl) fun ht hb=>?_;rcases UO h with e|h
  ·rw[e];exact ⟨ht,hb⟩
  ·refine xi b c (dW t) (fun v e=>?_) u h;refine lI (xg (b.ok t ht) e) fun _ r2 _ r4=>?_;exact ⟨iN b r2,fun a q=>absurd (by rw[q];rfl) r4⟩
theorem F3:∀ (c:Nat) (o:Option T),(vw c o).length<=c
 | 0,_=>Nat.le_refl _
 | _+1,none=>Nat.zero_le _
 | c+1,some t=>Nat.succ_le_succ (F3 c _)
noncomputable def Rn:List S:=[.expr (.call 31 [.loc 0,.own (.loc 0) 41 [.loc 4],.loc 2,.loc 3])]
theorem It{f g o:Nat}(hf:87<=f)(hg:87<=g)(fg:f≠g)(of:o≠f)(og:o≠g){L:List V}{kx:Option V}:∀ (l F:List T) (hh:Hp) (x:Option V),St W hh ts [] a->(∀ u∈l,u∈ts/\∀ a,u=.one 99 a->isVal a=true)->(∀ u∈F,u∈ts)->(∀ u∈F,∀ v∈gH W u,v∈F)->F.length+4 * l.length<=100->
  hh[o]?=some (.list L)->hh[f]?=some (.list (F.map (kv ts)))->hh[g]?=some (.dict 0 (F.map fun u=>(kv ts u,.int 1)))->
  ∃ (F':List T) (y:Option V) (vy:Hp),eQ (cV (.obj o) L) (dq (pg (n+6)) (.one 4) Rn) (l.map (kv ts)) [some (.obj 8),kx,some (.obj f),some (.obj g),x] hh=some ((.next,[some (.obj 8),kx,some (.obj f),some (.obj g),y]),vy)/\vy[f]?=some (.list (F'.map (kv ts)))/\Fr [f,g] hh vy/\(∀ u∈F',u∈ts)/\(∀ u,u∈F'↔u∈F∨∃ at'∈l,∃ t∈gH W at',u∈cls W t)/\F'.length<=100:=by
 intro l
 induction l with
 | nil=>
  intro F hh x S hl hF hc hn h0 h1 h2;exact ⟨F,x,hh,rfl,h1,Fr.rfl',hF,fun u=>⟨.inl,fun q=>q.elim id fun ⟨_,p,_⟩=>by cases p⟩,by simp only[List.length_nil] at hn;lia⟩
 | cons t l ih=>
  intro F hh x S hl hF hc hn h0 h1 h2;refine bY (hl t (.head _)) fun ht hb=>?_;simp only[List.length_cons] at hn;refine aM (ly (W:=W) t) fun u eu _=>?_;have len:(gH W t).length<=2:=by rw[eu];exact BJ u
  refine Ms (xh (n:=n) (st:=gH W t) S hf hg fg (fun u hu=>Ir S ht hu) len hF hc (by lia) h1 h2) fun F1 hA a1 a2 a3 a4 a5 a6 a7 a8=>?_;have big:∀ i∈[f,g],87<=i:=fun i x=>by
   rcases UO x with e|x
   ·lia
   ·rw[UL x];exact hg
  have oX:o∉[f,g]:=fun x=>by
   rcases UO x with e|x
   ·exact of e
   ·exact og (UL x)
  have NR:=a4 o _ oX h0;refine lC (ih F1 hA (some (kv ts t)) (S.fr a4 big) (fun u hu=>hl u (.tail _ hu)) a5 a6 (by lia) NR a2 a3) fun F' y vy e1 e2 e3 e4 e5 e6=>?_;have s3:=zb (n:=n+1) S ht hb;have s4:=JI (n:=n+6) S.rs (m:=41) rfl rfl;refine ⟨F',y,vy,d7 (dJ cH ?_) (gM NR) e1,e2,a4.trans e3,e4,fun u=>?_,e6⟩
  ·unfold Rn
   with_reducible repeat' exists[ag,aa,af,bO,cJ,c9],[],s4,s3,a1,cH
  ·rw[e5,a7]
   constructor
   ·rintro ((x|⟨k,p,q⟩)|⟨w,p,q⟩)
    ·exact .inl x
    ·exact .inr ⟨t,.head _,k,p,q⟩
    ·exact .inr ⟨w,.tail _ p,q⟩
   ·rintro (x|⟨w,p,k,q,r⟩)
    ·exact .inl (.inl x)
    ·rcases UO p with e|p
     ·exact .inl (.inr ⟨k,e▸q,r⟩)
     ·exact .inr ⟨w,p,k,q,r⟩
theorem xj(S:St W h ts [] a)(ht:t∈ts)(hb:∀ a,t=.one 99 a->isVal a=true):∃ (F:List T) (o:Nat) (h':Hp),run aY (n+9) 30 [.obj 8,kv ts t] h=some (.obj o,h')/\h'[o]?=some (.list (F.map (kv ts)))/\Fr [] h h'/\(∀ u∈F,u∈ts)/\(∀ u,u∈F↔∃ at'∈zF t,∃ k∈gH W at',u∈cls W k)/\h.length<=o:=by
 have L:=S.big
 let hA:Hp:=h++[.list []]
 let hB:Hp:=hA++[.dict 0 []]
 have l1:hA.length=h.length+1:=by rw[UN];rfl
 have lB:hB.length=h.length+2:=by rw[UN,l1];rfl
 have fB:Fr [] h hB:=Fr.app.trans Fr.app;have b1:hB[h.length]?=some (.list (([]:List T).map (kv ts))):=bj bT;have b2:hB[h.length+1]?=some (.dict 0 (([]:List T).map fun u=>(kv ts u,V.int 1))):=by rw[<-l1];exact bT
 have SB:=S.pure fB;refine fH (pS (n:=n) SB.rs SB.rp ht hb) fun o hC c1 c2 c3 c4=>?_;refine lC (It (W:=W) (ts:=ts) (n:=n+2) (a:=a) (f:=h.length) (g:=h.length+1) (o:=o) (by lia) (by lia) (by lia) (by lia) (by lia) (L:=(zF t).map (kv ts)) (kx:=some (kv ts t)) (zF t) [] hC none (SB.pure c3)
  (xi SB.rp.tb 7 (some t) fun u e=>by cases e;exact ⟨ht,hb⟩) (fun u x=>by cases x) (fun u x=>by cases x) (by have:=F3 7 (some t);show 0+4 * (vw 7 (some t)).length<=100;lia) c2 (c3.at b1) (c3.at b2)) fun F y h' e1 e2 e3 e4 e5 e6=>?_
 refine ⟨F,h.length,h',?_,e2,((fB.trans c3).nil.trans e3).drop fun i x=>.inr ?_,e4,fun u=>?_,Nat.le_refl _⟩
 ·have n1:jw [] h=some (.obj h.length,hA):=rfl;have n2:eI hA.length [] (hA++[.dict 0 []])=some (.obj (h.length+1),hB):=by rw[<-l1];rfl
  have it:dR (.obj o) hC=some ((zF t).map (kv ts)):=iu c2;rw[wN];exact aw (av (c7 ag n1) cR (av (eR ag n2) fy (eT (af (aa (aC rfl) (aa (aC rfl) ag)) c1) it e1 (au (aC rfl))))) rfl
 ·rcases UO x with e|x
  ·lia
  ·rw[UL x];lia
 ·rw[e5];exact ⟨fun x=>x.elim (fun y=>by cases y) id,.inr⟩
end
end
section
noncomputable def aH:T->Nat
 | .nm n=>n
 | .one n _=>n
 | .two n _ _=>n
noncomputable def ud:List Nat:=[0,1,2,3,4,5,6,7,8,9,10,11,12,13,14,15]
noncomputable def dZ(t:T):Bool:=ud.contains (aH t)
noncomputable def gy(W:Wd):T->List T
 | .one n a=>if n=99 then cW W a else cW W (.one n a)
 | t=>cW W t
noncomputable def dF(W:Wd)(n i:Nat):Int:=((pO W n)[i]?).getD 0
mutual
inductive Is(W:Wd):T->T->Prop
 | refl (x:T):Is W x x
 | arr {a b:T}:dZ a=true->dZ b=true->Is W a b->Is W (.one 15 a) (.one 15 b)
 | one {n:Nat} {a b:T}:n≠15->Ar W (dF W n 0) a b->Is W (.one n a) (.one n b)
 | two {n:Nat} {a b c d:T}:Ar W (dF W n 0) a c->Ar W (dF W n 1) b d->Is W (.two n a b) (.two n c d)
 | over {x y z:T}:z∈gy W x->Is W z y->Is W x y
inductive Ar(W:Wd):Int->T->T->Prop
 | eq (w:Int) (a:T):Ar W w a a
 | out {a b:T}:dZ a=true->dZ b=true->Is W a b->Ar W 1 a b
 | OD {a b:T}:dZ a=true->dZ b=true->Is W b a->Ar W 2 a b
end
inductive Up(W:Wd):T->T->Prop
 | refl (x:T):Up W x x
 | step {x y z:T}:z∈gy W x->Up W z y->Up W x y
theorem Up.is{W:Wd}{x z y:T}(u:Up W x z)(i:Is W z y):Is W x y:=by
 induction u with
 | refl=>exact i
 | step h _ ih=>exact .over h (ih i)
theorem Up.snoc{W:Wd}{x z y:T}(u:Up W x z)(h:y∈gy W z):Up W x y:=by
 induction u with
 | refl=>exact .step h (.refl _)
 | step h' _ ih=>exact .step h' (ih h)
inductive Tn(W:Wd):T->T->Prop
 | one {n:Nat} {a b:T}:n≠15->Ar W (dF W n 0) a b->Tn W (.one n a) (.one n b)
 | two {n:Nat} {a b c d:T}:Ar W (dF W n 0) a c->Ar W (dF W n 1) b d->Tn W (.two n a b) (.two n c d)
theorem Tn.is{W:Wd}{x y:T}(t:Tn W x y):Is W x y:=by
 cases t with
 | one h a=>exact .one h a
 | two a b=>exact .two a b
noncomputable def rP:List T:=dD.filter dZ
section
variable{W:Wd}{t u x y z:T}
theorem BK(h:u=.nm 2∨(∃ a,u=.one 11 a)∨∃ a b,u=.two 12 a b):rk u<=2/\(∀ a,u≠.one 15 a):=by
 rcases h with rfl|⟨a,rfl⟩|⟨a,b,rfl⟩
 ·exact ⟨by decide,fun a e=>by cases e⟩
 ·exact ⟨(by decide:1<=2),fun a e=>by cases e⟩
 ·exact ⟨(by decide:2<=2),fun a e=>by cases e⟩
theorem C4(o:okN t=true)(hb:∀ a,t=.one 99 a->isVal a=true)(h:u∈gy W t):(u∈rP/\rk u<rk t)∨(u∈gH W t/\rk u<rk t):=by
 have OE:∀ {n:Nat},T.nm n∈dD->u∈cW W (.nm n)->(u∈rP/\rk u<rk (.nm n))∨(u∈gH W (.nm n)/\rk u<rk (.nm n)):=fun {n} hn h=>by
  rcases UR h with q|q
  ·have key:∀ t∈dD,∀ u∈gg (aH t),u∈rP/\rk u<rk t:=by decide +kernel
   exact .inl (key _ hn u q)
  ·refine .inr ⟨q,Nat.lt_of_le_of_lt (BK (dY (W:=W) (t:=.nm n) q)).1 ?_⟩;have key:∀ n∈xM,2<rk (.nm n):=by decide
   simp only[eh] at q
   split at q
   ·rename_i c;exact key n (by simpa using c)
   ·cases q
 cases t with
 | nm n=>exact OE (dE o) h
 | one n a=>
  simp only[okN,Bool.or_eq_true,beq_iff_eq] at o;rcases o with (((rfl|rfl)|rfl)|rfl)|rfl
  ·have h':u∈[T.nm 8]:=h;rw[UL h'];exact .inl (by decide:T.nm 8∈rP/\1<2)
  ·
   have h':u∈cW W a:=h;have b6:rk (.one 99 a)=6:=rfl;rw[b6];cases a with
   | nm k=>
    rcases UR h' with q|q
    ·have key:∀ x:T,x∈mA->x∈rP/\rk x<6:=by decide
     refine .inl (key u ?_);have sub:∀ k:Nat,∀ x∈gg k,x∈mA:=by
      intro k x hx;unfold gg at hx
      repeat' (split at hx)
      all_goals first|(rw[UL hx];decide)|cases hx
     exact sub k u q
    ·exact .inr ⟨q,Nat.lt_of_le_of_lt (BK (dY (W:=W) (t:=.nm k) q)).1 (by decide)⟩
   | one k c=>
    have va:decide (bk (.one k c)=3)=true:=hb _ rfl;have e:k=61:=Classical.byContradiction fun ne=>by
     have:=UU va;simp only[bk] at this
     split at this
     ·exact absurd this (by decide)
     ·split at this
      ·exact absurd this (by decide)
      ·exact absurd this (by decide)
    subst e;have h2:u∈[T.nm 7]:=h';rw[UL h2];exact .inl (by decide)
   | two k c d=>exact absurd (hb _ rfl) (by show ¬ (false=true);decide)
  ·have h':u∈[T.nm 7]:=h;rw[UL h'];exact .inl (by decide:T.nm 7∈rP/\1<2)
  ·have h':u∈[ob]:=h;rw[UL h'];exact .inl (by decide:ob∈rP/\0<1)
  ·have h':u∈[ob,.one 11 a]:=h;rcases UO h' with e|h'
   ·rw[e];exact .inl (by decide:ob∈rP/\0<2)
   ·rw[UL h'];exact .inr ⟨.head _,(by decide:1<2)⟩
 | two n a b=>
  simp only[okN,Bool.or_eq_true,beq_iff_eq] at o;rcases o with rfl|rfl
  ·have h':u∈(if W.eE then [ob,.one 11 a] else [ob]):=h
   split at h'
   ·rename_i e
    rcases UO h' with e'|h'
    ·rw[e'];exact .inl (by decide:ob∈rP/\0<2)
    ·rw[UL h'];refine .inr ⟨?_,(by decide:1<2)⟩;show _∈ez W (.two 12 a b);rw[ez,if_pos ⟨rfl,e⟩];exact .head _
   ·rw[UL h'];exact .inl (by decide:ob∈rP/\0<2)
  ·have h':u∈[T.nm 9]:=h;rw[UL h'];exact .inl (by decide:T.nm 9∈rP/\1<2)
end
end
section
theorem vz{W:Wd}{t u:T}(h:u∈gH W t):u∈gy W t:=by
 have fl:∀ {t u:T},u∈ez W t->u∈cW W t:=fun {t u} h=>by
  cases t with
  | nm n=>exact List.mem_append_right _ h
  | one n a=>
   simp only[ez] at h
   split at h
   ·rename_i e;subst e;rw[UL h];exact .tail _ (.head _)
   ·cases h
  | two n a b=>
   simp only[ez] at h
   split at h
   ·rename_i e
    obtain ⟨rfl,e⟩:=e;show u∈(if W.eE then [ob,.one 11 a] else [ob]);rw[e,UL h];exact .tail _ (.head _)
   ·cases h
 cases t with
 | one n a=>
  by_cases e:n=99
  ·subst e;exact fl h
  ·have h':u∈ez W (.one n a):=by have:gH W (.one n a)=ez W (.one n a):=if_neg e;rwa [this] at h
   have:gy W (.one n a)=cW W (.one n a):=if_neg e;rw[this];exact fl h'
 | nm n=>exact fl (t:=.nm n) h
 | two n a b=>exact fl (t:=.two n a b) h
theorem AM(n:Nat){u:T}(h:u∈gg n):∃ k,u=.nm k:=by
 unfold gg at h
 repeat' (split at h)
 all_goals first|exact ⟨_,UL h⟩|cases h
theorem F4{W:Wd}{t u:T}(h:u∈gy W t):(∃ k,u=.nm k)∨u=.nm 2∨(∃ a,u=.one 11 a)∨∃ a b,u=.two 12 a b:=by
 have fl:∀ {t u:T},u∈cW W t->(∃ k,u=.nm k)∨u=.nm 2∨(∃ a,u=.one 11 a)∨∃ a b,u=.two 12 a b:=fun {t u} h=>by
  cases t with
  | nm n=>
   rcases UR h with q|q
   ·exact .inl (AM n q)
   ·exact .inr (dY (W:=W) (t:=.nm n) q)
  | one n a=>
   have h:u∈(if n=15 then [T.nm 8] else if n=14 then [ob,.one 11 a] else if n=11 then [ob] else [.nm 7]):=h
   split at h
   ·exact .inl ⟨_,UL h⟩
   ·split at h
    ·exact (UO h).elim (fun e=>.inl ⟨_,e⟩) fun h=>.inr (.inr (.inl ⟨_,UL h⟩))
    ·split at h
     ·exact .inl ⟨_,UL h⟩
     ·exact .inl ⟨_,UL h⟩
  | two n a b=>
   have h:u∈(if n=13 then [T.nm 9] else if W.eE then [ob,.one 11 a] else [ob]):=h
   split at h
   ·exact .inl ⟨_,UL h⟩
   ·split at h
    ·exact (UO h).elim (fun e=>.inl ⟨_,e⟩) fun h=>.inr (.inr (.inl ⟨_,UL h⟩))
    ·exact .inl ⟨_,UL h⟩
 cases t with
 | one n a=>
  by_cases e:n=99
  ·subst e;exact fl (t:=a) h
  ·have:gy W (.one n a)=cW W (.one n a):=if_neg e;rw[this] at h;exact fl h
 | nm n=>exact fl (t:=.nm n) h
 | two n a b=>exact fl (t:=.two n a b) h
theorem zd{W:Wd}{t a:T}(h:T.one 15 a∈gy W t):False:=by
 rcases F4 h with ⟨k,e⟩|e|⟨b,e⟩|⟨b,c,e⟩
 ·cases e
 ·cases e
 ·exact absurd (congrArg aH e) (by decide:¬ 15=11)
 ·cases e
theorem JJ{W:Wd}{x y:T}(h:Is W x y):(∃ a b,x=.one 15 a/\y=.one 15 b/\dZ a=true/\dZ b=true/\Is W a b)∨∃ z,Up W x z/\(z=y∨Tn W z y):=
 Is.rec (motive_1:=fun x y _=>(∃ a b,x=.one 15 a/\y=.one 15 b/\dZ a=true/\dZ b=true/\Is W a b)∨∃ z,Up W x z/\(z=y∨Tn W z y)) (motive_2:=fun _ _ _ _=>True)
  (fun x=>.inr ⟨x,.refl x,.inl rfl⟩) (fun p q i _=>.inl ⟨_,_,rfl,rfl,p,q,i⟩) (fun n a _=>.inr ⟨_,.refl _,.inr (.one n a)⟩) (fun a b _ _=>.inr ⟨_,.refl _,.inr (.two a b)⟩)
  (fun {x y z} m _ ih=>ih.elim (fun ⟨a,b,e,_⟩=>(zd (W:=W) (t:=x) (a:=a) (e▸m)).elim) fun ⟨w,u,p⟩=>.inr ⟨w,.step m u,p⟩)
  (fun _ _=>trivial) (fun _ _ _ _=>trivial) (fun _ _ _ _=>trivial) h
noncomputable def eP(W:Wd)(s:T):List T:=zF s++(zF s).flatMap fun at'=>(gH W at').flatMap (cls W)
noncomputable def gS(t:T):Bool:=!([T.nm 59,.nm 60,.nm 27].contains t)
structure Sr(t:T):Prop where
 ok:okN t=true
 box:∀ a,t=.one 99 a->okN a=true/\isVal a=true
 gs:gS t=true
theorem ue{a:T}(o:okN a=true)(v:isVal a=true):(∃ k,a=.nm k/\a∈dD)∨∃ c,a=.one 61 c:=by
 cases a with
 | nm k=>exact .inl ⟨k,rfl,dE o⟩
 | one k c=>
  have va:bk (.one k c)=3:=UU v;refine .inr ⟨c,?_⟩;have e:k=61:=Classical.byContradiction fun ne=>by
   simp only[bk] at va
   split at va
   ·exact absurd va (by decide)
   ·split at va
    ·exact absurd va (by decide)
    ·exact absurd va (by decide)
  rw[e]
 | two k c d=>exact absurd v (by show ¬ (false=true);decide)
theorem mP{W:Wd}{t u:T}(s:Sr t):(dW t=some u->u∈gy W t)/\(u∈gy W t->dW t=some u∨u=ob∨u∈gH W t):=by
 have k1:∀ t∈dD,∀ u∈di t,u∈gg (aH t):=by decide +kernel
 have k2:∀ t∈dD,gS t=true->∀ u∈gg (aH t),di t=some u∨u=ob:=by decide +kernel
 have k4:∀ t∈dD,isVal t=true->gS t=true:=by decide +kernel
 have OE:∀ {k:Nat},T.nm k∈dD->gS (.nm k)=true->(di (.nm k)=some u->u∈cW W (.nm k))/\(u∈cW W (.nm k)->di (.nm k)=some u∨u=ob∨u∈ez W (.nm k)):=fun {k} hk g=>
  ⟨fun e=>UP _ (k1 _ hk u e),fun h=>(UR h).elim (fun q=>(k2 _ hk g u q).elim .inl fun e=>.inr (.inl e)) fun q=>.inr (.inr q)⟩
 have opt:∀ {c:T},(di (.one 61 c)=some u->u∈cW W (.one 61 c))/\(u∈cW W (.one 61 c)->di (.one 61 c)=some u∨u=ob∨u∈ez W (.one 61 c)):=fun {c}=>
  ⟨fun h=>by
   have e':some (.nm 7)=some u:=h;cases e';exact .head _,fun h=>.inl (by
   have h':u∈[T.nm 7]:=h;rw[UL h'];rfl)⟩
 have o:=s.ok;cases t with
 | nm k=>exact OE (dE o) s.gs
 | one k a=>
  simp only[okN,Bool.or_eq_true,beq_iff_eq] at o;rcases o with (((rfl|rfl)|rfl)|rfl)|rfl
  ·refine ⟨fun h=>by cases h;exact .head _,fun h=>.inl ?_⟩;have h':u∈[T.nm 8]:=h;rw[UL h'];rfl
  ·refine bY (s.box a rfl) fun oa va=>?_;rcases ue oa va with ⟨k,rfl,hk⟩|⟨c,rfl⟩
   ·exact OE hk (k4 _ hk va)
   ·exact opt
  ·exact opt
  ·refine ⟨fun h=>(by cases h),fun h=>.inr (.inl ?_)⟩;have h':u∈[ob]:=h;exact UL h'
  ·refine ⟨fun h=>by cases h;exact .head _,fun h=>.inr ?_⟩;have h':u∈[ob,.one 11 a]:=h;exact (UO h').imp id fun x=>x
 | two k a b=>
  simp only[okN,Bool.or_eq_true,beq_iff_eq] at o;rcases o with rfl|rfl
  ·refine ⟨fun h=>(by cases h),fun h=>.inr ?_⟩;have h':u∈(if W.eE then [ob,.one 11 a] else [ob]):=h
   split at h'
   ·rename_i e
    refine (UO h').imp id fun x=>?_;show u∈ez W (.two 12 a b);rw[ez,if_pos ⟨rfl,e⟩];exact x
   ·exact .inl (UL h')
  ·refine ⟨fun h=>by cases h;exact .head _,fun h=>.inl ?_⟩;have h':u∈[T.nm 9]:=h;rw[UL h'];rfl
theorem Sr.base{t u:T}(s:Sr t)(e:dW t=some u):Sr u/\rk u<rk t:=by
 refine lI (xg s.ok e) fun r1 r2 r3 r4=>?_;have key:∀ u∈dD,isRef u=true->bk u≠8->u≠.nm 60->okN u=true/\gS u=true:=by decide +kernel
 have nn:u≠.nm 60:=by
  have b:∀ {t:T},di t=some u->u≠.nm 60:=fun e=>by
   have:=jX e;intro q;rw[q] at this;exact absurd this (by decide)
  cases t with
  | one k a=>
   by_cases c:k=99
   ·subst c;exact b (t:=a) e
   ·have:dW (.one k a)=di (.one k a):=if_neg c;exact b (this▸e)
  | nm k=>exact b (t:=.nm k) e
  | two k a c=>exact b (t:=.two k a c) e
 refine bY (key u r2 r3 r4 nn) fun p q=>?_;exact ⟨⟨p,fun a e=>absurd (by rw[e];rfl) r4,q⟩,r1⟩
theorem F5:∀ (c:Nat) (o:Option T),(∀ t,o=some t->Sr t)->∀ u∈vw c o,Sr u
 | 0,_,_,_,h=>by cases h
 | _+1,none,_,_,h=>by cases h
 | c+1,some t,p,u,h=>by
  rcases UO h with e|h
  ·rw[e];exact p t rfl
  ·exact F5 c (dW t) (fun v e=>((p t rfl).base e).1) u h
theorem BL:∀ (c:Nat) (t:T),Sr t->rk t<c->∀ u∈vw c (some t),∀ v,dW u=some v->v∈vw c (some t)
 | 0,_,_,h,_,_,_,_=>absurd h (Nat.not_lt_zero _)
 | c+1,t,s,hr,u,h,v,e=>by
  have sub:∀ w,dW t=some w->∀ x∈vw c (some w),x∈vw (c+1) (some t):=fun w ew x hx=>.tail _ (by rw[ew];exact hx);rcases UO h with e'|h
  ·subst e';refine bY (s.base e) fun s' r=>?_;refine sub v e v ?_
   match c,(by lia:rk v<c) with
   | c+1,_=>exact .head _
  ·cases b:dW t with
   | none=>
    rw[b] at h;cases c with
    | zero=>cases h
    | succ c=>cases h
   | some w=>
    rw[b] at h;refine bY (s.base b) fun s' r=>?_;exact sub w b v (BL c w s' (by lia) u h v e)
theorem F6{W:Wd}:∀ (c:Nat) (t:T),Sr t->∀ u∈vw c (some t),Up W t u
 | 0,_,_,_,h=>by cases h
 | c+1,t,s,u,h=>by
  rcases UO h with e|h
  ·rw[e];exact .refl t
  ·cases b:dW t with
   | none=>
    rw[b] at h;cases c with
    | zero=>cases h
    | succ c=>cases h
   | some w=>
    rw[b] at h;exact .step ((mP s).1 b) (F6 c w (s.base b).1 u h)
theorem Iu{W:Wd}{s z:T}(hs:Sr s)(h:z∈eP W s):Up W s z:=by
 rcases UR h with q|q
 ·exact F6 7 s hs z q
 ·refine aM (List.mem_flatMap.mp q) fun u hu q=>?_;refine aM (List.mem_flatMap.mp q) fun k hk q=>?_;have u1:=(F6 (W:=W) 7 s hs u hu).snoc (vz hk);rcases UO q with e|q
  ·rw[e];exact u1
  ·exact u1.snoc (vz q)
theorem Iv{W:Wd}{s z:T}(hs:Sr s)(h:Up W s z):z=ob∨z∈eP W s:=by
 have step:∀ w v,(w=ob∨w∈eP W s)->v∈gy W w->v=ob∨v∈eP W s:=fun w v hw hv=>by
  rcases hw with rfl|hw
  ·cases hv
  ·rcases UR hw with q|q
   ·rcases (mP (F5 7 (some s) (fun t e=>by cases e;exact hs) w q)).2 hv with e|e|e
    ·exact .inr (UP _ (BL 7 s hs (Nat.lt_succ_of_le (pR s)) w q v e))
    ·exact .inl e
    ·exact .inr (List.mem_append_right _ (List.mem_flatMap.mpr ⟨w,q,List.mem_flatMap.mpr ⟨v,e,.head _⟩⟩))
   ·refine aM (List.mem_flatMap.mp q) fun u hu q'=>?_;refine aM (List.mem_flatMap.mp q') fun k hk q'=>?_;refine aM (ly (W:=W) u) fun p _ ep=>?_;have fk:=dY (W:=W) (t:=p) (by rw[<-‹gH W u=ez W p›];exact hk);have fw:w=.nm 2∨(∃ a,w=.one 11 a)∨∃ a b,w=.two 12 a b:=by
     rcases UO q' with e|e
     ·rw[e];exact fk
     ·refine aM (ly (W:=W) k) fun p' e' _=>?_;rw[e'] at e;exact dY e
    have sw:Sr w:=by
     rcases fw with rfl|⟨a,rfl⟩|⟨a,b,rfl⟩
     ·exact ⟨rfl,fun a e=>(by cases e),rfl⟩
     ·exact ⟨rfl,fun a e=>absurd (congrArg aH e) (by decide:¬ 11=99),rfl⟩
     ·exact ⟨rfl,fun a e=>(by cases e),rfl⟩
    have bw:∀ v,dW w=some v->v=ob:=fun v e=>by
     rcases fw with rfl|⟨a,rfl⟩|⟨a,b,rfl⟩
     ·cases e
     ·cases e
     ·cases e
    rcases (mP sw).2 hv with e|e|e
    ·exact .inl (bw v e)
    ·exact .inl e
    ·rcases UO q' with x|x
     ·rw[x] at e;exact .inr (List.mem_append_right _ (List.mem_flatMap.mpr ⟨u,hu,List.mem_flatMap.mpr ⟨k,hk,.tail _ e⟩⟩))
     ·rw[((qA (W:=W) fk).2.2 w x).2] at e;cases e
 have start:s∈eP W s:=UP _ (.head _);have gen:∀ {x y:T},Up W x y->(x=ob∨x∈eP W s)->(y=ob∨y∈eP W s):=fun u=>by
  induction u with
  | refl=>exact id
  | step h _ ih=>exact fun q=>ih (step _ _ q h)
 exact gen h (.inr start)
theorem Iw{W:Wd}{s t:T}(hs:Sr s)(nt:t≠ob)(h:Is W s t):(∃ a b,s=.one 15 a/\t=.one 15 b/\dZ a=true/\dZ b=true/\Is W a b)∨∃ z∈eP W s,z=t∨Tn W z t:=by
 rcases JJ h with q|⟨z,u,q⟩
 ·exact .inl q
 ·refine .inr ⟨z,(Iv hs u).resolve_left fun e=>?_,q⟩;subst e;rcases q with e|q
  ·exact nt e.symm
  ·cases q
theorem Iy{W:Wd}{s t z:T}(hs:Sr s)(hz:z∈eP W s)(h:z=t∨Tn W z t):Is W s t:=
 (Iu hs hz).is (h.elim (fun e=>e▸.refl z) Tn.is)
theorem F7{W:Wd}:∀ (c:Nat) (s:T),rk s<c->Sr s->Is W s ob
 | 0,_,h,_=>absurd h (Nat.not_lt_zero _)
 | c+1,s,h,hs=>by
  by_cases e:s=ob
  ·rw[e];exact .refl _
  have key:∀ t∈dD,t≠ob->gS t=true->(di t).isSome=true∨ob∈gg (aH t):=by decide +kernel
  have Ll:∀ t∈dD,isVal t=true->(di t).isSome=true:=by decide +kernel
  have C5:(∃ u,dW s=some u)->Is W s ob:=fun ⟨u,hu⟩=>.over ((mP hs).1 hu) (F7 c u (by have:=(hs.base hu).2;lia) (hs.base hu).1);have o:=hs.ok;cases s with
  | nm k=>
   rcases key _ (dE o) e hs.gs with q|q
   ·exact C5 (Option.isSome_iff_exists.mp q)
   ·exact .over (z:=ob) (UP _ q) (.refl _)
  | one k a=>
   simp only[okN,Bool.or_eq_true,beq_iff_eq] at o;rcases o with (((rfl|rfl)|rfl)|rfl)|rfl
   ·exact C5 ⟨_,rfl⟩
   ·refine bY (hs.box a rfl) fun oa va=>?_;rcases ue oa va with ⟨k,rfl,hk⟩|⟨c,rfl⟩
    ·exact C5 (Option.isSome_iff_exists.mp (Ll _ hk va))
    ·exact C5 ⟨.nm 7,rfl⟩
   ·exact C5 ⟨.nm 7,rfl⟩
   ·exact .over (z:=ob) (.head _) (.refl _)
   ·exact .over (z:=ob) (.head _) (.refl _)
  | two k a b=>
   simp only[okN,Bool.or_eq_true,beq_iff_eq] at o;rcases o with rfl|rfl
   ·refine .over (z:=ob) ?_ (.refl _);show ob∈(if W.eE then [ob,.one 11 a] else [ob])
    split<;>exact .head _
   ·exact C5 ⟨_,rfl⟩
end
section
noncomputable abbrev fS:=T×T
noncomputable def pV(ts:List T)(p:fS):V:=.tup [kv ts p.1,kv ts p.2]
noncomputable def F9(b:Nat):List (Nat×V):=[(50,.int 1),(51,.obj (b+1)),(52,.obj (b+2)),(53,.obj (b+3))]
noncomputable def kD(ts:List T)(l:List fS):List (V×V):=l.map fun p=>(pV ts p,.int 1)
noncomputable def gp(p:fS):Prop:=isRef p.1=true/\isRef p.2=true/\p.2≠ob/\p.1≠.nm 60/\p.2≠.nm 60/\bk p.2≠8
structure Bk(h:Hp)(b:Nat)(ts:List T)(C P Q:List fS):Prop where
 hb:h[b]?=some (.ins 2 (F9 b))
 h1:h[b+1]?=some (.list (P.map (pV ts)))
 h2:h[b+2]?=some (.dict 2 (kD ts P))
 h3:h[b+3]?=some (.dict 2 (kD ts Q))
 mem:∀ p∈C,p.1∈ts/\p.2∈ts
 sub:∀ p∈P,p∈C
 qs:∀ p∈Q,p∈P
 nd:P.Nodup
 len:C.length<=500
 gd:∀ p∈P,gp p
theorem iC{α:Type}[BEq α][LawfulBEq α]:∀ {l m:List α},l.Nodup->(∀ x∈l,x∈m)->l.length<=m.length
 | [],_,_,_=>Nat.zero_le _
 | x::l,m,nd,s=>by
  have hx:=s x (.head _);have h1:=iC (m:=m.erase x) (List.nodup_cons.mp nd).2 fun y hy=>(List.mem_erase_of_ne fun (e:y=x)=>(List.nodup_cons.mp nd).1 (e▸hy)).mpr (s y (.tail _ hy));rw[List.length_erase_of_mem hx] at h1;have:=List.length_pos_of_mem hx;rw[List.length_cons];lia
noncomputable def mQ(P P':List fS):Prop:=∃ r,P'=P++r
theorem mQ.rfl'{P:List fS}:mQ P P:=⟨[],(List.append_nil P).symm⟩
theorem mQ.trans{P P' Ro:List fS}(p:mQ P P')(q:mQ P' Ro):mQ P Ro:=by
 (refine cX p fun r y0_1=>?_;obtain rfl:=y0_1)
 (refine cX q fun r' y1_1=>?_;obtain rfl:=y1_1)
 exact ⟨r++r',List.append_assoc ..⟩
theorem mQ.mem{P P':List fS}(p:mQ P P'):∀ q∈P,q∈P':=by
 (refine cX p fun r y2_1=>?_;obtain rfl:=y2_1)
 exact fun q h=>UP _ h
theorem Lm{ts:List T}{p q:fS}(hp:p.1∈ts/\p.2∈ts)(hq:q.1∈ts/\q.2∈ts)(e:pV ts p=pV ts q):p=q:=by
 simp only[pV,V.tup.injEq,List.cons.injEq,V.int.injEq,and_true] at e;exact Prod.ext ((eW hp.1 hq.1).mp e.1) ((eW hp.2 hq.2).mp e.2)
theorem jq{ts:List T}{l:List fS}{q:fS}(hl:∀ p∈l,p.1∈ts/\p.2∈ts)(hq:q.1∈ts/\q.2∈ts):(q∈l->aW (kD ts l) (pV ts q)=some (.int 1))/\(q∉l->aW (kD ts l) (pV ts q)=none):=by
 induction l with
 | nil=>exact ⟨fun h=>(by cases h),fun _=>rfl⟩
 | cons p l ih=>
  refine bY (ih fun p h=>hl p (.tail _ h)) fun i1 i2=>?_;show (q∈p::l->(if pV ts p=pV ts q then some (V.int 1) else aW (kD ts l) (pV ts q))=some (.int 1))/\(q∉p::l->(if pV ts p=pV ts q then some (V.int 1) else aW (kD ts l) (pV ts q))=none)
  by_cases e:p=q
  ·subst e;rw[if_pos (Eq.refl (pV ts p))];exact ⟨fun _=>rfl,fun h=>absurd (.head _) h⟩
  ·rw[if_neg fun x=>e (Lm (hl p (.head _)) hq x)];exact ⟨fun h=>i1 ((UO h).resolve_left fun x=>e x.symm),fun h=>i2 fun x=>h (.tail _ x)⟩
theorem mB{ts:List T}{p:fS}:keyOk 2 (pV ts p)=true:=rfl
section
variable{W:Wd}{h h':Hp}{ts:List T}{s t:T}{n b:Nat}{a:Int}{C P Q:List fS}
theorem Bk.Iz(B:Bk h b ts C P Q):P.length<=500:=Nat.le_trans (iC B.nd B.sub) B.len
theorem Bk.fr{X:List Nat}(B:Bk h b ts C P Q)(f:Fr X h h')(q:∀ i∈X,i<b∨b+3<i):Bk h' b ts C P Q:=
 ⟨f _ _ (fun x=>by have:=q _ x;lia) B.hb,f _ _ (fun x=>by have:=q _ x;lia) B.h1,f _ _ (fun x=>by have:=q _ x;lia) B.h2,f _ _ (fun x=>by have:=q _ x;lia) B.h3,B.mem,B.sub,B.qs,B.nd,B.len,B.gd⟩
theorem Bk.pure(B:Bk h b ts C P Q)(f:Fr [] h h'):Bk h' b ts C P Q:=B.fr f fun _ x=>by cases x
theorem Bk.add(B:Bk h b ts C P Q){p:fS}(hp:p∈C)(np:p∉P)(g:gp p):Bk ((h.set (b+2) (.dict 2 (kD ts (P++[p])))).set (b+1) (.list ((P++[p]).map (pV ts)))) b ts C (P++[p]) Q where
 hb:=bD (by lia) (bD (by lia) B.hb)
 h1:=d9 (by rw[List.length_set];exact bU B.h1)
 h2:=bD (by lia) (d9 (bU B.h2))
 h3:=bD (by lia) (bD (by lia) B.h3)
 mem:=B.mem
 sub:=fun q hq=>(UR hq).elim (B.sub q) fun x=>by rw[UL x];exact hp
 qs:=fun q hq=>UP _ (B.qs q hq)
 nd:=List.nodup_append.mpr ⟨B.nd,List.nodup_cons.mpr ⟨List.not_mem_nil,List.nodup_nil⟩,fun q hq c hc e=>by rw[UL hc] at e;exact np (e▸hq)⟩
 len:=B.len
 gd:=fun q hq=>(UR hq).elim (B.gd q) fun x=>by rw[UL x];exact g
theorem mC{i:Int}{u:T}(R:Rp h ts)(ht:t∈ts)(hu:u∈dD)(hi:i=(dD.idxOf u:Nat))(ne:t≠u):decide (kv ts t=V.int i)=false:=
 US fun x=>ne ((jU R.tb ht hu hi).mp (V.int.inj x))
theorem ze(S:St W h ts [] a)(B:Bk h b ts C P Q)(hb:87<=b)(hp:(s,t)∈C)(sn:s≠.nm 60)(tn:t≠.nm 60)(tb:bk t≠8) :
  ∃ (r:Bool) (P':List fS) (h':Hp),run aY (n+3) 52 [.obj 8,kv ts s,kv ts t,.obj b] h=some (.bool r,h')/\Bk h' b ts C P' Q/\Fr [b+1,b+2] h h'/\mQ P P'/\
   (r=true->s=t∨(isRef s=true/\isRef t=true/\(t=ob∨(s,t)∈Q)))/\(r=false->s≠t/\(isRef s=false∨isRef t=false∨(t≠ob/\(s,t)∈P'/\(s,t)∉Q))):=by
 have R:=S.rp;have hs:s∈ts:=(B.mem _ hp).1;have ht:t∈ts:=(B.mem _ hp).2;have kt:cC (.obj 8) 38 h=some (.obj 2):=k8 S.rs rfl;rw[rO]
 by_cases q1:s=t
 ·subst q1;refine ⟨true,P,h,?_,B,Fr.rfl',mQ.rfl',fun _=>.inl rfl,fun x=>by cases x⟩;have e:decide (kv ts s=kv ts s)=true:=UT rfl
  with_reducible repeat' first|exists[ag,aa,af,aK,ao,ah,ai,aL,aI,aZ,br,jd,aj,ab,av,aq,au,c9,bG,aw],[aG,aF,aO,aT,aS,bL,gb,fR,gY,bF,cT,ku],ae,aN e,aN rfl,aD rfl,cH|apply bD (by decide)
 have e1:decide (kv ts s=kv ts t)=false:=US fun x=>q1 ((eW hs ht).mp (V.int.inj x));have rs:=fj (n:=n) R hs;have rt:=fj (n:=n) R ht
 by_cases q2:isRef s=true/\isRef t=true
 rotate_left
 ·refine ⟨false,P,h,?_,B,Fr.rfl',mQ.rfl',(fun x=>by cases x),fun _=>⟨q1,?_⟩⟩
  ·have e2:((!isRef s)||!isRef t)=true:=by
    cases x:isRef s<;>cases y:isRef t<;>first|rfl|exact absurd ⟨x,y⟩ q2
   with_reducible repeat' first|exists[ag,aa,af,aK,ao,ah,ai,aI,aZ,br,jd,aj,ab,av,aq,au,c9,bG,aw,bz],[aG,aF,aO,aT,aS,bL,gb,fR,gY,bF,cT,ku],ae,aD e1,kt,rs,rt,aN e2,aN rfl,aD rfl,cH|apply bD (by decide)
  ·cases x:isRef s with
   | false=>exact .inl rfl
   | true=>cases y:isRef t with
    | false=>exact .inr (.inl rfl)
    | true=>exact absurd ⟨x,y⟩ q2
 rw[q2.1] at rs;rw[q2.2] at rt;have e2:((!true)||!true)=false:=rfl;have e3:=mC R hs (u:=.nm 60) (by decide) (i:=14) rfl sn;have e4:=mC R ht (u:=.nm 60) (by decide) (i:=14) rfl tn;have ks:=bH (n:=n) R ht;have e8:decide (V.int (bk t)=V.int 8)=false:=US fun x=>tb (V.int.inj x);have e5:(decide (kv ts t=V.int 14)||decide (V.int (bk t)=V.int 8))=false:=by rw[e4,US fun x=>tb (V.int.inj x)];rfl
 by_cases q3:t=ob
 ·subst q3;refine ⟨true,P,h,?_,B,Fr.rfl',mQ.rfl',fun _=>.inr ⟨q2.1,q2.2,.inl rfl⟩,fun x=>by cases x⟩;have e6:decide (kv ts ob=V.int 12)=true:=UT (by rw[kv,mM R.tb (u:=ob) (by decide)];rfl)
  with_reducible repeat' first|exists[ag,aa,af,aK,ao,ah,ai,aI,aZ,br,jd,aj,ab,av,aq,au,c9,bG,aw,bz],[aG,aF,aO,aT,aS,bL,gb,fR,gY,bF,cT,ku],ae,aD e1,kt,rs,rt,aD e2,aD e3,ks,aD e5,aN e6,aN rfl,aD rfl,cH|apply bD (by decide)
 have e6:=mC R ht (u:=ob) (by decide) (i:=12) rfl q3;have IA:∀ p∈P,p.1∈ts/\p.2∈ts:=fun p h=>B.mem p (B.sub p h);have xk:∀ p∈Q,p.1∈ts/\p.2∈ts:=fun p h=>IA p (B.qs p h);have kb:cC (.obj b) 52 h=some (.obj (b+2)):=bL B.hb rfl;have kp:cC (.obj b) 51 h=some (.obj (b+1)):=bL B.hb rfl;have Rq:∀ {hh:Hp},hh[b+3]?=some (.dict 2 (kD ts Q))->bg aA .isin (.tup [kv ts s,kv ts t]) (.obj (b+3)) hh=some (decide ((s,t)∈Q)):=fun {hh} b3=>by
  show bg aA .isin (pV ts (s,t)) (.obj (b+3)) hh=_;rw[cT b3 mB]
  by_cases m:(s,t)∈Q
  ·rw[(jq xk ⟨hs,ht⟩).1 m,UT m];rfl
  ·rw[(jq xk ⟨hs,ht⟩).2 m,US m];rfl
 by_cases q4:(s,t)∈P
 ·refine ⟨decide ((s,t)∈Q),P,h,?_,B,Fr.rfl',mQ.rfl',fun x=>.inr ⟨q2.1,q2.2,.inr (UU x)⟩,fun x=>⟨q1,.inr (.inr ⟨q3,q4,of_decide_eq_false x⟩)⟩⟩;have c:bg aA .eH (.tup [kv ts s,kv ts t]) (.obj (b+2)) h=some false:=by show bg aA .eH (pV ts (s,t)) (.obj (b+2)) h=_;rw[ku B.h2 mB,(jq IA ⟨hs,ht⟩).1 q4];rfl
  have c2:=Rq B.h3;have kq:cC (.obj b) 53 h=some (.obj (b+3)):=bL B.hb rfl;have PX:(!true)=false:=rfl
  with_reducible repeat' first|exists[ag,aa,af,aK,ao,ah,ai,aL,aI,aZ,br,jd,aj,ab,av,aq,au,c9,bG,aw],[aG,aF,aO,aT,aS,bL,gb,fR,gY,bF,cT,ku],ae,aD e1,kt,rs,rt,aD PX,aD e3,aD e4,ks,aD e8,aD e6,kb,c,kq,c2,aN rfl,aD rfl,cH|apply bD (by decide)
 ·have B2:=B.add hp q4 ⟨q2.1,q2.2,q3,sn,tn,tb⟩
  let hA:=h.set (b+2) (.dict 2 (kD ts (P++[(s,t)])))
  let hB:=hA.set (b+1) (.list ((P++[(s,t)]).map (pV ts)))
  have f1:Fr [b+1,b+2] h hA:=Fr.set (.tail _ (.head _));have f2:Fr [b+1,b+2] h hB:=f1.trans (Fr.set (.head _));refine ⟨decide ((s,t)∈Q),P++[(s,t)],hB,?_,B2,f2,⟨_,rfl⟩,fun x=>.inr ⟨q2.1,q2.2,.inr (UU x)⟩,fun x=>⟨q1,.inr (.inr ⟨q3,List.mem_append_right _ (.head _),of_decide_eq_false x⟩)⟩⟩;have c:bg aA .eH (.tup [kv ts s,kv ts t]) (.obj (b+2)) h=some true:=by show bg aA .eH (pV ts (s,t)) (.obj (b+2)) h=_;rw[ku B.h2 mB,(jq IA ⟨hs,ht⟩).2 q4];rfl
  have pl:=B.Iz;have k1:bp (P.map (pV ts))=true:=bA (by rw[UQ];lia);have k2:bp (kD ts P)=true:=bA (by unfold kD;rw[UQ];lia);have ln:iT (.obj (b+1)) h=some (.int P.length):=by rw[fR B.h1 k1,UQ]
  have lt:decide ((P.length:Int)<512)=true:=UT (by lia);have s1:dn (.obj (b+2)) (.tup [kv ts s,kv ts t]) (.int 1) h=some hA:=by
   show dn (.obj (b+2)) (pV ts (s,t)) (.int 1) h=some hA;rw[bF B.h2 mB k2,pM ((jq IA ⟨hs,ht⟩).2 q4)];show _=some (h.set (b+2) (.dict 2 (kD ts (P++[(s,t)]))));unfold kD;rw[List.map_append,List.map_singleton]
  have a1:hA[b+1]?=some (.list (P.map (pV ts))):=bD (by lia) B.h1;have s2:uD (.obj (b+1)) (.tup [kv ts s,kv ts t]) hA=some (.none,hB):=by
   show uD (.obj (b+1)) (pV ts (s,t)) hA=some (.none,hB);rw[gY a1 k1];show _=some (_,hA.set (b+1) (.list ((P++[(s,t)]).map (pV ts))));rw[List.map_append,List.map_singleton]
  have Tu:cC (.obj b) 51 hA=some (.obj (b+1)):=bL (bD (by lia) B.hb) rfl;have kq:cC (.obj b) 53 hB=some (.obj (b+3)):=bL B2.hb rfl;have c2:=Rq B2.h3;have PX:(!true)=false:=rfl
  with_reducible repeat' first|exists[ag,aa,af,aK,ao,ah,ai,aL,aI,aZ,br,jd,aj,ab,av,aq,au,c9,bG,aw],[aG,aF,aO,aT,aS,bL,gb,fR,gY,bF,cT,ku],ae,aD e1,kt,rs,rt,aD PX,aD e3,aD e4,ks,aD e8,aD e6,kb,kp,c,ln,aN lt,s1,s2,a1,Tu,kq,c2,aN rfl,aD rfl,cH|apply bD (by decide)
end
end
section
noncomputable def arg(t:T):Prop:=t≠.nm 60/\bk t≠8
theorem AN{t:T}(h:gf t=true):arg t:=by
 simp only[gf,Bool.and_eq_true,decide_eq_true_eq] at h;exact ⟨fun e=>by subst e;exact absurd h.1.2 (by decide),h.2⟩
noncomputable def Mg(Q:List fS)(a b:T):Prop:=isRef a=true/\isRef b=true/\(a=b∨b=ob∨(a,b)∈Q)
noncomputable def IB(P Q:List fS)(a b:T):Prop:=isRef a=false∨isRef b=false∨(a≠b/\b≠ob/\(a,b)∈P/\(a,b)∉Q)
theorem IB.mono{P P' Q:List fS}{a b:T}(h:IB P Q a b)(s:∀ p∈P,p∈P'):IB P' Q a b:=
 h.imp id fun h=>h.imp id fun ⟨x,y,z,w⟩=>⟨x,y,s _ z,w⟩
noncomputable def NS(Q:List fS)(w:Int)(a c:T):Prop:=a=c∨(w=1/\Mg Q a c)∨(w=2/\Mg Q c a)
noncomputable def JK(P Q:List fS)(w:Int)(a c:T):Prop:=a≠c/\(w=0∨(w=1/\IB P Q a c)∨(w=2/\IB P Q c a))
theorem JK.mono{P P' Q:List fS}{w:Int}{a b:T}(h:JK P Q w a b)(s:∀ p∈P,p∈P'):JK P' Q w a b:=
 ⟨h.1,h.2.imp id fun h=>h.imp (fun ⟨x,y⟩=>⟨x,y.mono s⟩) fun ⟨x,y⟩=>⟨x,y.mono s⟩⟩
noncomputable def gZ(w:Int)(a c:T):List fS:=if w=1 then [(a,c)] else if w=2 then [(c,a)] else []
noncomputable def rQ:List S:=[.ite (.cmp .ne (.sub (.loc 6) (.loc 8)) (.sub (.loc 7) (.loc 8))) [.asg (.one 9) (.ite (.cmp .lt (.loc 8) (.len (.loc 5))) (.sub (.loc 5) (.loc 8)) (.lit (V.int (0)))),.asg (.one 10) (.ite (.cmp .eq (.loc 9) (.lit (V.int (2)))) (.tup [.sub (.loc 7) (.loc 8),.sub (.loc 6) (.loc 8)]) (.tup [.sub (.loc 6) (.loc 8),.sub (.loc 7) (.loc 8)])),.ite (.aV false [.cmp .eq (.loc 9) (.lit (V.int (0))),.not_ (.call 56 [.loc 0,.sub (.loc 10) (.lit (.int (0))),.sub (.loc 10) (.lit (.int (1))),.loc 3])]) [.ret (.lit (.bool false))] []] []]
section
variable{W:Wd}{h h':Hp}{ts:List T}{s t:T}{n b:Nat}{a:Int}{C P Q:List fS}
theorem xl(S:St W h ts [] a)(B:Bk h b ts C P Q)(hb:87<=b)(hp:(s,t)∈C)(hs:arg s)(ht:arg t) :
  ∃ (r:Bool) (P':List fS) (h':Hp),run aY (n+4) 56 [.obj 8,kv ts s,kv ts t,.obj b] h=some (.bool r,h')/\Bk h' b ts C P' Q/\Fr [b+1,b+2] h h'/\mQ P P'/\(r=true->Mg Q s t)/\(r=false->IB P' Q s t):=by
 have R:=S.rp;have ms:s∈ts:=(B.mem _ hp).1;have mt:t∈ts:=(B.mem _ hp).2;have kt:cC (.obj 8) 38 h=some (.obj 2):=k8 S.rs rfl;have rs:=fj (n:=n) R ms;have vs:=dK (n:=n) R ms;have st:run aY (n+3) 32 [.obj 8,kv ts s] h=some (.bool (isRef s),h):=by
  rw[jR];cases q:isRef s with
  | true=>rw[q] at rs;with_reducible repeat' exists[ag,aa,af,aK,ah,ai,aL,aZ,aP,aj,ab,av,aq,au,aw],[aG,aF,aO,aT,bC,aS],ae,kt,rs,aN rfl,aD rfl,cH
  | false=>rw[q] at rs;with_reducible repeat' exists[ag,aa,af,aK,ah,ai,aL,aZ,aP,aj,ab,av,aq,au,aw],[aG,aF,aO,aT,bC,aS],ae,kt,rs,vs,aN rfl,aD rfl,cH
 have rt:=fj (n:=n+1) R mt;have vt:=dK (n:=n+1) R mt;have vs:=dK (n:=n+1) R ms;rw[t5];cases q:isRef s with
 | false=>
  rw[q] at st;have e:(!false)=true:=rfl;refine ⟨false,P,h,?_,B,Fr.rfl',mQ.rfl',(fun x=>by cases x),fun _=>.inl q⟩
  with_reducible repeat' exists[ag,aa,af,aK,ah,ai,aL,aZ,aP,aj,ab,av,aq,au,aw],[aG,aF,aO,aT,bC,aS],ae,kt,st,aN e,aN rfl,aD rfl,cH
 | true=>
  rw[q] at st;have e:(!true)=false:=rfl;cases q2:isRef t with
  | false=>
   rw[q2] at rt;refine ⟨false,P,h,?_,B,Fr.rfl',mQ.rfl',(fun x=>by cases x),fun _=>.inr (.inl q2)⟩
   with_reducible repeat' exists[ag,aa,af,aK,ah,ai,aL,aZ,aP,aj,ab,av,aq,au,aw],[aG,aF,aO,aT,bC,aS],ae,kt,st,aD e,vt,rt,aN rfl,aD rfl,cH
  | true=>
   rw[q2] at rt;refine lC (ze (n:=n) S B hb hp hs.1 ht.1 ht.2) fun r P' h' e1 e2 e3 e4 e5 e6=>?_;refine ⟨r,P',h',?_,e2,e3,e4,fun x=>⟨q,q2,?_⟩,fun x=>?_⟩
   ·with_reducible repeat' exists[ag,aa,af,aK,ah,ai,aL,aZ,aP,aj,ab,av,aq,au,aw],[aG,aF,aO,aT,bC,aS],ae,kt,st,aD e,vt,vs,rt,e1,aN rfl,aD rfl,cH
   ·exact (e5 x).imp id fun y=>y.2.2
   ·refine bY (e6 x) fun ne y=>?_;exact y.imp id fun y=>y.imp id fun y=>⟨ne,y⟩
theorem Ga(S:St W h ts [] a)(B:Bk h b ts C P Q)(hb:87<=b){i:Nat}(hi:i<100){have' want:List T}{ws:List Int}{u v:T}{w:Int}(hu:have'[i]?=some u)(hv:want[i]?=some v)(hw:(ws[i]?).getD 0=w)(hl:ws.length<=2)
  (PY:w=0∨w=1∨w=2) (hc:∀ p∈gZ w u v,p∈C) (mu:u∈ts) (mv:v∈ts) (gu:arg u) (gv:arg v) {x1 x2 x4 x8 x9 x10:Option V} :
  ∃ (r:Bool) (P':List fS) (h':Hp) (y9 JL:Option V),dq (pg (n+4)) (.one 8) rQ (.int i) [some (.obj 8),x1,x2,some (.obj b),x4,some (.tup (ws.map V.int)),some (.tup (have'.map (kv ts))),some (.tup (want.map (kv ts))),x8,x9,x10] h =
   some ((if r then .next else .ret (.bool false),[some (.obj 8),x1,x2,some (.obj b),x4,some (.tup (ws.map V.int)),some (.tup (have'.map (kv ts))),some (.tup (want.map (kv ts))),some (.int i),y9,JL]),h')/\
   Bk h' b ts C P' Q/\Fr [b+1,b+2] h h'/\mQ P P'/\(r=true->NS Q w u v)/\(r=false->JK P' Q w u v):=by
 have io:gO (i:Int)=true:=je (Int.natCast_nonneg i) (by lia);have su:bI aA (.tup (have'.map (kv ts))) (.int i) h=some (kv ts u):=bB rfl io (by rw[List.getElem?_map,hu];rfl);have sv:bI aA (.tup (want.map (kv ts))) (.int i) h=some (kv ts v):=bB rfl io (by rw[List.getElem?_map,hv];rfl)
 by_cases q:u=v
 ·refine ⟨true,P,h,x9,x10,dJ uM ?_,B,Fr.rfl',mQ.rfl',fun _=>.inl q,fun x=>by cases x⟩;have e:(!decide (kv ts u=kv ts v))=false:=by rw[q,UT rfl];rfl
  unfold rQ
  with_reducible repeat' exists[ag,aa,af,aB,ao,ah,ai,aL,aI,aZ,aP,br,aj,ab,av,aq],[aG,aF,aT,bC,bB,cA],ae,su,sv,aD e,aN rfl,aD rfl,uM,Ia,yY
 have e1:(!decide (kv ts u=kv ts v))=true:=by rw[US fun x=>q ((eW mu mv).mp (V.int.inj x))];rfl
 have ln:iT (.tup (ws.map V.int)) h=some (.int ws.length):=by rw[cA (bA (by rw[UQ];lia)),UQ]
 have way:ba (pg (n+4)) (.ite (.cmp .lt (.loc 8) (.len (.loc 5))) (.sub (.loc 5) (.loc 8)) (.lit (V.int (0)))) [some (.obj 8),x1,x2,some (.obj b),x4,some (.tup (ws.map V.int)),some (.tup (have'.map (kv ts))),some (.tup (want.map (kv ts))),some (.int i),x9,x10] h=some (.int w,h):=by
  by_cases z:i<ws.length
  ·have z1:decide ((i:Int)<ws.length)=true:=UT (Int.ofNat_lt.mpr z);have z2:bI aA (.tup (ws.map V.int)) (.int i) h=some (.int w):=bB rfl io (by
    rw[List.getElem?_map,List.getElem?_eq_getElem z];rw[List.getElem?_eq_getElem z] at hw;exact congrArg (fun x=>some (V.int x)) hw)
   with_reducible repeat' exists[ag,aa,af,aB,ao,ah,ai,aL,aI,aZ,aP,br,aj,ab,av,aq],[aG,aF,aT,bC,bB,cA],ae,ln,aN z1,z2,aN rfl,aD rfl,uM,Ia,yY
  ·have z1:decide ((i:Int)<ws.length)=false:=US fun x=>z (Int.ofNat_lt.mp x);have z2:w=0:=by rw[<-hw,List.getElem?_eq_none (Nat.le_of_not_lt z)];rfl
   rw[z2]
   with_reducible repeat' exists[ag,aa,af,aB,ao,ah,ai,aL,aI,aZ,aP,br,aj,ab,av,aq],[aG,aF,aT,bC,bB,cA],ae,ln,aD z1,aN rfl,aD rfl,uM,Ia,yY
 rcases PY with rfl|rfl|rfl
 ·refine ⟨false,P,h,some (.int 0),some (.tup [kv ts u,kv ts v]),dJ uM ?_,B,Fr.rfl',mQ.rfl',(fun x=>by cases x),fun _=>⟨q,.inl rfl⟩⟩;unfold rQ
  with_reducible repeat' first|exact way|exists[ag,aa,af,aB,ao,ah,ai,aL,aI,aZ,aP,br,aj,ab,av,aq],[aG,aF,aT,bC,bB,cA],ae,su,sv,aN e1,aN rfl,aD rfl,uM,Ia,yY
 ·have hp:=hc (u,v) (.head _);refine lC (xl (n:=n) S B hb hp gu gv) fun r P' h' e2 e3 e4 e5 e6 e7=>?_;refine ⟨r,P',h',some (.int 1),some (.tup [kv ts u,kv ts v]),dJ uM ?_,e3,e4,e5,fun x=>.inr (.inl ⟨rfl,e6 x⟩),fun x=>⟨q,.inr (.inl ⟨rfl,e7 x⟩)⟩⟩;unfold rQ;cases r with
  | true=>
   have e:(!true)=false:=rfl
   with_reducible repeat' first|exact way|exists[ag,aa,af,aB,ao,ah,ai,aL,aI,aZ,aP,br,aj,ab,av,aq],[aG,aF,aT,bC,bB,cA],ae,su,sv,aN e1,t0,t1,e2,aD e,aN rfl,aD rfl,uM,Ia,yY
  | false=>
   have e:(!false)=true:=rfl
   with_reducible repeat' first|exact way|exists[ag,aa,af,aB,ao,ah,ai,aL,aI,aZ,aP,br,aj,ab,av,aq],[aG,aF,aT,bC,bB,cA],ae,su,sv,aN e1,t0,t1,e2,aN e,aN rfl,aD rfl,uM,Ia,yY
 ·have hp:=hc (v,u) (.head _);refine lC (xl (n:=n) S B hb hp gv gu) fun r P' h' e2 e3 e4 e5 e6 e7=>?_;refine ⟨r,P',h',some (.int 2),some (.tup [kv ts v,kv ts u]),dJ uM ?_,e3,e4,e5,fun x=>.inr (.inr ⟨rfl,e6 x⟩),fun x=>⟨q,.inr (.inr ⟨rfl,e7 x⟩)⟩⟩;unfold rQ;cases r with
  | true=>
   have e:(!true)=false:=rfl
   with_reducible repeat' first|exact way|exists[ag,aa,af,aB,ao,ah,ai,aL,aI,aZ,aP,br,aj,ab,av,aq],[aG,aF,aT,bC,bB,cA],ae,su,sv,aN e1,t0,t1,e2,aD e,aN rfl,aD rfl,uM,Ia,yY
  | false=>
   have e:(!false)=true:=rfl
   with_reducible repeat' first|exact way|exists[ag,aa,af,aB,ao,ah,ai,aL,aI,aZ,aP,br,aj,ab,av,aq],[aG,aF,aT,bC,bB,cA],ae,su,sv,aN e1,t0,t1,e2,aN e,aN rfl,aD rfl,uM,Ia,yY
end
end
section
noncomputable def uN(W:Wd):T->T->List fS
 | .one n a,.one m c=>if n=m then gZ (dF W n 0) a c else []
 | .two n a b,.two m c d=>if n=m then gZ (dF W n 0) a c++gZ (dF W n 1) b d else []
 | _,_=>[]
noncomputable def PZ(W:Wd)(Q:List fS)(z t:T):Prop:=(∃ n a c,z=.one n a/\t=.one n c/\n≠15/\NS Q (dF W n 0) a c)∨(∃ n a b c d,z=.two n a b/\t=.two n c d/\NS Q (dF W n 0) a c/\NS Q (dF W n 1) b d)
noncomputable def Mh(W:Wd)(P Q:List fS)(z t:T):Prop:=(∀ n a c,z=.one n a->t=.one n c->n≠15->JK P Q (dF W n 0) a c)/\(∀ n a b c d,z=.two n a b->t=.two n c d->JK P Q (dF W n 0) a c∨JK P Q (dF W n 1) b d)
theorem Mh.mono{W:Wd}{P P' Q:List fS}{z t:T}(h:Mh W P Q z t)(s:∀ p∈P,p∈P'):Mh W P' Q z t:=
 ⟨fun n a c e f g=>(h.1 n a c e f g).mono s,fun n a b c d e f=>(h.2 n a b c d e f).imp (·.mono s) (·.mono s)⟩
theorem ID{n:Nat}{c:T}(o:okN (.one n c)=true)(r:isRef (.one n c)=true)(b:bk (.one n c)≠8)(na:n≠15):n=11∨n=14:=by
 simp only[okN,Bool.or_eq_true,beq_iff_eq] at o;rcases o with (((rfl|rfl)|rfl)|rfl)|rfl
 ·exact absurd rfl na
 ·exact absurd rfl b
 ·exact absurd r (by show ¬ (false=true);decide)
 ·exact .inl rfl
 ·exact .inr rfl
theorem AO{z t:T}(oz:okN z=true)(ot:okN t=true)(sz:bk z=2)(st:bk t=2)(e:eV z=eV t)(ne:z≠t):(∃ n a c,z=.one n a/\t=.one n c/\(n=11∨n=14))∨∃ n a b c d,z=.two n a b/\t=.two n c d/\(n=12∨n=13):=by
 have mz:=(vp oz (.inl sz)).1;have mt:=(vp ot (.inl st)).1;rw[e] at mz;have k0:∀ u∈dD,bk u=2->eV u≠72/\eV u≠75/\eV u≠73/\eV u≠74:=by decide +kernel
 have k1:∀ {n:Nat} {c:T},okN (.one n c)=true->bk (.one n c)=2->(n=11/\eV (.one n c)=72)∨(n=14/\eV (.one n c)=75):=fun {n c} o s=>by
  simp only[okN,Bool.or_eq_true,beq_iff_eq] at o;rcases o with (((rfl|rfl)|rfl)|rfl)|rfl
  ·exact absurd s (by decide:¬ (4:Int)=2)
  ·exact absurd s (by decide:¬ (8:Int)=2)
  ·exact absurd s (by decide:¬ (3:Int)=2)
  ·exact .inl ⟨rfl,rfl⟩
  ·exact .inr ⟨rfl,rfl⟩
 have k2:∀ {n:Nat} {c d:T},okN (.two n c d)=true->(n=12/\eV (.two n c d)=73)∨(n=13/\eV (.two n c d)=74):=fun {n c d} o=>by
  simp only[okN,Bool.or_eq_true,beq_iff_eq] at o;rcases o with rfl|rfl
  ·exact .inl ⟨rfl,rfl⟩
  ·exact .inr ⟨rfl,rfl⟩
 cases z with
 | nm k=>
  cases t with
  | nm j=>exact absurd (mz.symm.trans mt) ne
  | one j c=>have:=k0 _ (dE oz) sz;rcases k1 ot st with ⟨_,x⟩|⟨_,x⟩<;>lia
  | two j c d=>have:=k0 _ (dE oz) sz;rcases k2 ot with ⟨_,x⟩|⟨_,x⟩<;>lia
 | one k a=>
  cases t with
  | nm j=>have:=k0 _ (dE ot) st;rcases k1 oz sz with ⟨_,x⟩|⟨_,x⟩<;>lia
  | one j c=>
   rcases k1 oz sz with ⟨rfl,x⟩|⟨rfl,x⟩<;>rcases k1 ot st with ⟨rfl,y⟩|⟨rfl,y⟩
   ·exact .inl ⟨_,_,_,rfl,rfl,.inl rfl⟩
   ·lia
   ·lia
   ·exact .inl ⟨_,_,_,rfl,rfl,.inr rfl⟩
  | two j c d=>rcases k1 oz sz with ⟨_,x⟩|⟨_,x⟩<;>rcases k2 ot with ⟨_,y⟩|⟨_,y⟩<;>lia
 | two k a b=>
  cases t with
  | nm j=>have:=k0 _ (dE ot) st;rcases k2 oz with ⟨_,x⟩|⟨_,x⟩<;>lia
  | one j c=>rcases k2 oz with ⟨_,x⟩|⟨_,x⟩<;>rcases k1 ot st with ⟨_,y⟩|⟨_,y⟩<;>lia
  | two j c d=>
   rcases k2 oz with ⟨rfl,x⟩|⟨rfl,x⟩<;>rcases k2 ot with ⟨rfl,y⟩|⟨rfl,y⟩
   ·exact .inr ⟨_,_,_,_,_,rfl,rfl,.inl rfl⟩
   ·lia
   ·lia
   ·exact .inr ⟨_,_,_,_,_,rfl,rfl,.inr rfl⟩
theorem sq{W:Wd}{h:Hp}(S:Rs W h)(n i:Nat):dF W n i=0∨dF W n i=1∨dF W n i=2:=by
 have k:∀ l:List Int,(∀ x∈l,x=0∨x=1∨x=2)->∀ i:Nat,(l[i]?).getD 0=0∨(l[i]?).getD 0=1∨(l[i]?).getD 0=2:=fun l p i=>by
  cases e:l[i]? with
  | none=>exact .inl rfl
  | some x=>exact p x (List.mem_of_getElem? e)
 refine k _ (fun x hx=>S.vN x ?_) i;have sub:∀ {m:List Int},(∀ y∈m,y∈[W.wg,W.AH,W.CY,W.CZ,W.C0])->x∈m->x∈[W.wg,W.AH,W.CY,W.CZ,W.C0]:=fun p q=>p x q;unfold pO at hx
 split at hx
 ·exact sub (by simp) hx
 ·split at hx
  ·exact sub (by simp) hx
  ·split at hx
   ·exact sub (by simp) hx
   ·cases hx
section
variable{W:Wd}{h h':Hp}{ts:List T}{z t:T}{n b:Nat}{a:Int}{C P Q:List fS}
theorem cO(S:St W h ts [] a)(ht:t∈ts)(s:bk t≠8):∀ c∈aQ t,c∈ts/\arg c:=fun c hc=>
 ⟨S.rp.tb.args t ht c hc,AN ((S.gd t ht).1 s c hc)⟩
noncomputable def viB:List S:=[.ret (.lit (.bool true))]
theorem pT(S:St W h ts [] a)(mz:z∈ts)(mt:t∈ts)(q1:z≠t)(sz:bk z=2)(st:bk t=2)(te:cF z=cF t){ws:List Int}(hw:(if cF z=72 then [W.wg] else if cF z=73 then [W.AH,W.CY] else if cF z=74 then [W.CZ,W.C0] else [])=ws){k:Nat}(lz:(jg z).length=k)(lt:(jg t).length=k)(small:k<jk){r:Bool}{e':aU}{y:V}
  (lp:eQ (fun _=>true) (dq (pg (n+4)) (.one 8) rQ) (vN k) [some (.obj 8),some (kv ts z),some (kv ts t),some y,some (.obj 2),some (.tup (ws.map V.int)),some (.tup ((jg z).map (kv ts))),some (.tup ((jg t).map (kv ts))),none,none,none] h=some ((cond r .next (.ret (.bool false)),e'),h')) :
  run aY (n+5) 55 [.obj 8,kv ts z,kv ts t,y] h=some (.bool r,h'):=by
 have R:=S.rp;have kt:cC (.obj 8) 38 h=some (.obj 2):=k8 S.rs rfl;have e1:decide (kv ts z=kv ts t)=false:=US fun x=>q1 ((eW mz mt).mp (V.int.inj x));have OF:=bH (n:=n+2) R mz;have GS:=bH (n:=n+2) R mt;have tz:=iP (n:=n+2) R mz;have tt:=iP (n:=n+2) R mt;have e2:((!decide (V.int (bk z)=V.int 2))||((!decide (V.int (bk t)=V.int 2))||!decide (V.int (cF z)=V.int (cF t))))=false:=by rw[sz,st,te];simp
 have az:=qx (n:=n+2) R mz;have at':=qx (n:=n+2) R mt;have so:=JI (n:=n+4) S.rs (m:=54) rfl rfl;have vr:=AJ (n:=n+3) S.rs (i:=cF z);rw[hw] at vr;have l1:iT (.tup ((jg z).map (kv ts))) h=some (.int (k:Int)):=by rw[<-lz,<-UQ (kv ts)];exact cA (UT (by rw[UQ,lz];exact small))
 have l2:iT (.tup ((jg t).map (kv ts))) h=some (.int (k:Int)):=by rw[<-lt,<-UQ (kv ts)];exact cA (UT (by rw[UQ,lt];exact small))
 have e3:(!decide (V.int (k:Int)=V.int (k:Int)))=false:=by rw[UT rfl];rfl
 rw[ki];unfold rQ at lp;cases r with
 | true=>with_reducible repeat' first|refine' FP (k:=k) ?_ small lp ?_|exists[ag,aa,af,bO,aK,ao,ah,ai,br,aj,av,aq,au,aw,bz],[aF,cA],ae,aD e1,kt,OF,GS,tz,tt,aD e2,so,vr,az,at',l1,l2,aD e3,aD rfl,cH,dO,iB,By
 | false=>with_reducible repeat' first|refine' Bz (k:=k) ?_ small lp|exists[ag,aa,af,bO,aK,ao,ah,ai,br,aj,av,aq,au,aw,bz],[aF,cA],ae,aD e1,kt,OF,GS,tz,tt,aD e2,so,vr,az,at',l1,l2,aD e3,aD rfl,cH,dO,iB,By
theorem xm(S:St W h ts [] a)(B:Bk h b ts C P Q)(hb:87<=b)(mz:z∈ts)(mt:t∈ts)(rt:isRef t=true)(bt:bk t≠8)(hc:∀ p∈uN W z t,p∈C) :
  ∃ (r:Bool) (P':List fS) (h':Hp),run aY (n+5) 55 [.obj 8,kv ts z,kv ts t,.obj b] h=some (.bool r,h')/\Bk h' b ts C P' Q/\Fr [b+1,b+2] h h'/\mQ P P'/\(r=true->z=t∨PZ W Q z t)/\(r=false->z≠t/\Mh W P' Q z t):=by
 have R:=S.rp;have kt:cC (.obj 8) 38 h=some (.obj 2):=k8 S.rs rfl
 by_cases q1:z=t
 ·subst q1;refine ⟨true,P,h,?_,B,Fr.rfl',mQ.rfl',fun _=>.inl rfl,fun x=>by cases x⟩;have e:decide (kv ts z=kv ts z)=true:=UT rfl;rw[ki]
  with_reducible repeat' exists[ag,aa,af,aK,ao,ah,ai,aj,ab,av,aq,au,aw],[aG,aF],ae,aN e,aN rfl,aD rfl,cH
 have e1:decide (kv ts z=kv ts t)=false:=US fun x=>q1 ((eW mz mt).mp (V.int.inj x));have oz:=R.tb.ok z mz;have ot:=R.tb.ok t mt;have OF:=bH (n:=n+2) R mz;have GS:=bH (n:=n+2) R mt;have tz:=iP (n:=n+2) R mz;have tt:=iP (n:=n+2) R mt
 by_cases q2:bk z=2/\bk t=2/\cF z=cF t
 rotate_left
 ·refine ⟨false,P,h,?_,B,Fr.rfl',mQ.rfl',(fun x=>by cases x),fun _=>⟨q1,fun m a' c e f g=>?_,fun m a' b' c d e f=>?_⟩⟩
  ·have e2:((!decide (V.int (bk z)=V.int 2))||((!decide (V.int (bk t)=V.int 2))||!decide (V.int (cF z)=V.int (cF t))))=true:=by
    simp only[not_and] at q2
    by_cases x:bk z=2
    ·by_cases y:bk t=2
     ·simp[x,y,q2 x y]
     ·simp[y]
    ·simp[x]
   rw[ki]
   with_reducible repeat' exists[ag,aa,af,aK,ao,ah,ai,aj,ab,av,aq,au,aw,bz],[aG,aF],ae,aD e1,kt,OF,GS,tz,tt,aN e2,aN rfl,aD rfl,cH
  ·subst e;subst f;rcases ID ot rt bt g with rfl|rfl<;>exact absurd ⟨rfl,rfl,rfl⟩ q2
  ·subst e;subst f;exact absurd ⟨rfl,rfl,rfl⟩ q2
 refine fU q2 fun sz st te=>?_;have tr:eV z=eV t:=by simpa [cF,sz,st] using te
 rcases AO oz ot sz st tr q1 with ⟨m,u,v,rfl,rfl,hm⟩|⟨m,u,u2,v,v2,rfl,rfl,hm⟩
 ·have hw:(if cF (.one m u)=72 then [W.wg] else if cF (.one m u)=73 then [W.AH,W.CY] else if cF (.one m u)=74 then [W.CZ,W.C0] else [])=pO W m:=by rcases hm with rfl|rfl<;>rfl
  have n1:jg (.one m u)=[u]:=if_pos (.inl sz);have n2:jg (.one m v)=[v]:=if_pos (.inl st);have na:m≠15:=by rcases hm with rfl|rfl<;>decide
  have gu:=cO S mz (by rw[sz];decide) u (.head _);have gv:=cO S mt (by rw[st];decide) v (.head _);have hl:(pO W m).length<=2:=by rcases hm with rfl|rfl<;>exact Nat.le_of_ble_eq_true rfl
  have MX:∀ p∈gZ (dF W m 0) u v,p∈C:=fun p x=>hc p (by show p∈(if m=m then _ else _);rw[if_pos rfl];exact x);refine xR (Ga (n:=n) S B hb (i:=0) (by decide) (have':=[u]) (want:=[v]) (ws:=pO W m) rfl rfl rfl hl (sq S.rs m 0) MX gu.1 gv.1 gu.2 gv.2 (x1:=some (kv ts (.one m u))) (x2:=some (kv ts (.one m v))) (x4:=some (.obj 2)) (x8:=none) (x9:=none) (x10:=none)) fun r P' h' y9 JL p1 p2 p3 p4 p5 p6=>?_;have small:1<jk:=by decide
  cases r with
  | true=>
   refine ⟨true,P',h',?_,p2,p3,p4,fun _=>.inr (.inl ⟨m,u,v,rfl,rfl,na,p5 rfl⟩),fun x=>by cases x⟩;have lp:eQ (fun _=>true) (dq (pg (n+4)) (.one 8) rQ) (vN 1) _ h=_:=d7 p1 rfl yZ;exact pT S mz mt q1 sz st te hw (by rw[n1];rfl) (by rw[n2];rfl) small (by rw[n1,n2];exact lp)
  | false=>
   refine ⟨false,P',h',?_,p2,p3,p4,(fun x=>by cases x),fun _=>⟨q1,fun m' a' c' e f g=>?_,fun m' a' b' c' d' e f=>by cases e⟩⟩
   ·have lp:eQ (fun _=>true) (dq (pg (n+4)) (.one 8) rQ) (vN 1) _ h=_:=t9 p1;exact pT S mz mt q1 sz st te hw (by rw[n1];rfl) (by rw[n2];rfl) small (by rw[n1,n2];exact lp)
   ·cases e;cases f;exact p6 rfl
 ·have hw:(if cF (.two m u u2)=72 then [W.wg] else if cF (.two m u u2)=73 then [W.AH,W.CY] else if cF (.two m u u2)=74 then [W.CZ,W.C0] else [])=pO W m:=by rcases hm with rfl|rfl<;>rfl
  have n1:jg (.two m u u2)=[u,u2]:=if_pos (.inl sz);have n2:jg (.two m v v2)=[v,v2]:=if_pos (.inl st);have gu:=cO S mz (by rw[sz];decide) u (.head _);have gv:=cO S mt (by rw[st];decide) v (.head _);have JM:=cO S mz (by rw[sz];decide) u2 (.tail _ (.head _));have JN:=cO S mt (by rw[st];decide) v2 (.tail _ (.head _));have hl:(pO W m).length<=2:=by rcases hm with rfl|rfl<;>exact Nat.le_of_ble_eq_true rfl
  have Rr:∀ p∈gZ (dF W m 0) u v++gZ (dF W m 1) u2 v2,p∈C:=fun p x=>hc p (by show p∈(if m=m then _ else _);rw[if_pos rfl];exact x);have small:2<jk:=by decide
  refine xR (Ga (n:=n) S B hb (i:=0) (by decide) (have':=[u,u2]) (want:=[v,v2]) (ws:=pO W m) rfl rfl rfl hl (sq S.rs m 0) (fun p x=>Rr p (UP _ x)) gu.1 gv.1 gu.2 gv.2 (x1:=some (kv ts (.two m u u2))) (x2:=some (kv ts (.two m v v2))) (x4:=some (.obj 2)) (x8:=none) (x9:=none) (x10:=none)) fun r P' h' y9 JL p1 p2 p3 p4 p5 p6=>?_;cases r with
  | false=>
   refine ⟨false,P',h',?_,p2,p3,p4,(fun x=>by cases x),fun _=>⟨q1,fun m' a' c' e f g=>(by cases e),fun m' a' b' c' d' e f=>?_⟩⟩
   ·have lp:eQ (fun _=>true) (dq (pg (n+4)) (.one 8) rQ) (vN 2) _ h=_:=t9 p1;exact pT S mz mt q1 sz st te hw (by rw[n1];rfl) (by rw[n2];rfl) small (by rw[n1,n2];exact lp)
   ·cases e;cases f;exact .inl (p6 rfl)
  | true=>
   have big:∀ i∈[b+1,b+2],87<=i:=fun i x=>by
    rcases UO x with e|x
    ·lia
    ·rw[UL x];lia
   refine xR (Ga (n:=n) (S.fr p3 big) p2 hb (i:=1) (by decide) (have':=[u,u2]) (want:=[v,v2]) (ws:=pO W m) rfl rfl rfl hl (sq S.rs m 1) (fun p x=>Rr p (List.mem_append_right _ x)) JM.1 JN.1 JM.2 JN.2 (x1:=some (kv ts (.two m u u2))) (x2:=some (kv ts (.two m v v2))) (x4:=some (.obj 2)) (x8:=some (.int (0:Nat))) (x9:=y9) (x10:=JL)) fun r2 P2 h2 y9' Tv Rt Ru Rv Rw Tw Tx=>?_;cases r2 with
   | true=>
    refine ⟨true,P2,h2,?_,Ru,p3.trans Rv,p4.trans Rw,fun _=>.inr (.inr ⟨m,u,u2,v,v2,rfl,rfl,p5 rfl,Tw rfl⟩),fun x=>by cases x⟩;have lp:eQ (fun _=>true) (dq (pg (n+4)) (.one 8) rQ) (vN 2) _ h=_:=d7 p1 rfl (d7 Rt rfl yZ);exact pT S mz mt q1 sz st te hw (by rw[n1];rfl) (by rw[n2];rfl) small (by rw[n1,n2];exact lp)
   | false=>
    refine ⟨false,P2,h2,?_,Ru,p3.trans Rv,p4.trans Rw,(fun x=>by cases x),fun _=>⟨q1,fun m' a' c' e f g=>(by cases e),fun m' a' b' c' d' e f=>?_⟩⟩
    ·have lp:eQ (fun _=>true) (dq (pg (n+4)) (.one 8) rQ) (vN 2) _ h=_:=d7 p1 rfl (t9 Rt);exact pT S mz mt q1 sz st te hw (by rw[n1];rfl) (by rw[n2];rfl) small (by rw[n1,n2];exact lp)
    ·cases e;cases f;exact .inr (Tx rfl)
end
end
section
noncomputable def IE:T->T->List fS
 | .one n a,.one m c=>if n=15/\m=15 then [(a,c)] else []
 | _,_=>[]
noncomputable def pU(W:Wd)(p:fS):List fS:=IE p.1 p.2++(eP W p.1).flatMap fun z=>uN W z p.2
noncomputable def GU(W:Wd):Nat->fS->List fS
 | 0,p=>[p]
 | n+1,p=>p::(pU W p).flatMap (GU W n)
noncomputable def hr:T->Nat
 | .nm _=>1
 | .one n a=>if n=61 then 1 else hr a+1
 | .two _ a b=>max (hr a) (hr b)+1
noncomputable def zG(p:fS):Nat:=max (hr p.1) (hr p.2)
theorem AP(t:T):1<=hr t:=by
 cases t with
 | nm n=>exact Nat.le_refl 1
 | one n a=>simp only[hr];split<;>lia
 | two n a b=>exact Nat.le_add_left 1 _
noncomputable def small(s z:T):Prop:=∀ c∈aQ z,(∃ k,c=.nm k)∨hr c<hr s
theorem zf{i:Nat}{z s:T}(h:z∈bX i):small s z:=by
 have one:∀ {n k:Nat},z=.one n (.nm k)->small s z:=fun e c hc=>by
  subst e;exact .inl ⟨_,UL hc⟩
 have two:∀ {n k j:Nat},z=.two n (.nm k) (.nm j)->small s z:=fun e c hc=>by
  subst e;exact .inl ((UO hc).elim (fun e=>⟨_,e⟩) fun e=>⟨_,UL e⟩)
 have nm:∀ {k:Nat},z=.nm k->small s z:=fun e c hc=>by subst e;cases hc
 match i with
 | 0=>exact nm (UL h)
 | 1=>cases h
 | 2=>exact one (UL h)
 | 3=>exact one (UL h)
 | 4=>exact two (UL h)
 | 5=>exact one (UL h)
 | 6=>exact two (UL h)
 | n+7=>exact (UO h).elim (fun e=>one e) fun h=>nm (UL h)
theorem qB{W:Wd}{u z s:T}(h:z∈ez W u)(hs:∀ c∈aQ u,(∃ k,c=.nm k)∨hr c<hr s):small s z:=by
 cases u with
 | nm n=>
  simp only[ez,eh] at h
  split at h
  ·exact zf h
  ·cases h
 | one n a=>
  simp only[ez] at h
  split at h
  ·rw[UL h];exact fun c hc=>hs c hc
  ·cases h
 | two n a b=>
  simp only[ez] at h
  split at h
  ·rw[UL h];exact fun c hc=>hs c (by rw[UL hc];exact .head _)
  ·cases h
theorem uf(s:T)(no:∀ a,s≠.one 61 a):small s s:=fun c hc=>.inr (by
 cases s with
 | nm n=>cases hc
 | one n a=>
  rw[UL hc];have:n≠61:=fun e=>no a (by rw[e]);simp only[hr,this,if_false];lia
 | two n a b=>
  simp only[hr];rcases UO hc with e|e
  ·rw[e];lia
  ·rw[UL e];lia)
theorem sy:∀ (c:Nat) (o:Option T),∀ u∈vw c o,some u=o∨u∈mA
 | 0,_,_,h=>by cases h
 | _+1,none,_,h=>by cases h
 | c+1,some t,u,h=>by
  rcases UO h with e|h
  ·exact .inl (by rw[e])
  ·refine .inr ((sy c (dW t) u h).elim (fun e=>?_) id);have b:∀ {t:T},some u=di t->u∈mA:=fun e=>jX e.symm;cases t with
   | one k a=>
    by_cases q:k=99
    ·subst q;exact b (t:=a) e
    ·have:dW (.one k a)=di (.one k a):=if_neg q;exact b (this▸e)
   | nm k=>exact b (t:=.nm k) e
   | two k a c=>exact b (t:=.two k a c) e
theorem xn{u:T}(h:u∈mA):∃ k,u=.nm k:=by
 have key:∀ u∈mA,u=.nm (aH u):=by decide
 exact ⟨_,key u h⟩
theorem AQ{W:Wd}{s z:T}(no:∀ a,s≠.one 61 a)(hb:∀ a,s=.one 99 a->isVal a=true)(h:z∈eP W s):small s z:=by
 have base:∀ u∈zF s,∀ z∈gH W u,small s z:=fun u hu z hz=>by
  refine aM (ly (W:=W) u) fun v e q=>?_;rw[e] at hz;rcases sy 7 _ u hu with x|x
  ·cases x;refine qB hz ?_;rcases q with rfl|⟨a,rfl,rfl⟩
   ·exact uf _ no
   ·intro c hc;have:=hb _ rfl;cases v with
    | nm k=>cases hc
    | one k a=>
     rw[UL hc];simp only[ez] at hz
     split at hz
     ·rename_i e;subst e;exact absurd this (by show ¬ (false=true);decide)
     ·cases hz
    | two k a b=>exact absurd this (by show ¬ (false=true);decide)
  ·(refine cX (xn x) fun k y1_1=>?_;obtain rfl:=y1_1)
   have:v=.nm k:=q.elim id fun ⟨a,e,_⟩=>by cases e
   subst this;exact qB hz fun c hc=>by cases hc
 rcases UR h with q|q
 ·rcases sy 7 _ z q with x|x
  ·cases x;exact uf s no
  ·(refine cX (xn x) fun k y2_1=>?_;obtain rfl:=y2_1)
   intro c hc;cases hc
 ·refine aM (List.mem_flatMap.mp q) fun u hu q=>?_;refine aM (List.mem_flatMap.mp q) fun k hk q=>?_;have s1:=base u hu k hk;rcases UO q with e|q2
  ·rw[e];exact s1
  ·refine aM (ly (W:=W) k) fun v e q'=>?_;rw[e] at q2;refine aM (ly (W:=W) u) fun p _ ep=>?_;refine aM (ly (W:=W) u) fun w ew _=>?_;rw[ew] at hk;have nb:=(qA (W:=W) (dY hk)).1;have:v=k:=q'.elim id fun ⟨a,e,_⟩=>absurd e (nb a);subst this;exact qB q2 s1
theorem zg{w:Int}{a c:T}{p:fS}(h:p∈gZ w a c):p=(a,c)∨p=(c,a):=by
 unfold gZ at h
 split at h
 ·exact .inl (UL h)
 ·split at h
  ·exact .inr (UL h)
  ·cases h
theorem BM(W:Wd)(i:Nat):dF W 61 i=0:=rfl
theorem sub_lt{W:Wd}{p q:fS}(no:∀ a,p.1≠.one 61 a)(hb:∀ a,p.1=.one 99 a->isVal a=true)(h:q∈pU W p):zG q<zG p:=by
 obtain ⟨s,t⟩:=p;have fin:∀ {z a c:T} {w:Int},small s z->a∈aQ z->hr c<hr t->q∈gZ w a c->zG q<max (hr s) (hr t):=fun {z a c w} sm ha hc hq=>by
  have h1:=AP c;have h2:hr a<hr s∨hr a<hr t:=(sm a ha).elim (fun ⟨k,e⟩=>.inr (by rw[e];show 1<hr t;lia)) .inl;rcases zg hq with e|e<;>rw[e]<;>simp only[zG]<;>lia
 rcases UR h with h|h
 ·show zG q<max (hr s) (hr t);cases s with
  | one n a=>
   cases t with
   | one m c=>
    have h:q∈(if n=15/\m=15 then [(a,c)] else []):=h
    split at h
    ·rename_i e
     (refine bY e fun Ln y8_1=>?_;obtain rfl:=Ln;obtain rfl:=y8_1)
     rw[UL h];have e1:hr (.one 15 a)=hr a+1:=rfl;have e2:hr (.one 15 c)=hr c+1:=rfl;show max (hr a) (hr c)<max (hr (.one 15 a)) (hr (.one 15 c));rw[e1,e2];lia
    ·cases h
   | nm m=>cases h
   | two m c d=>cases h
  | nm n=>cases h
  | two n a b=>cases h
 ·refine aM (List.mem_flatMap.mp h) fun z hz h=>?_;have sm:=AQ no hb hz;show zG q<max (hr s) (hr t);cases z with
  | one n a=>
   cases t with
   | one m c=>
    have h2:q∈(if n=m then gZ (dF W n 0) a c else []):=h
    by_cases e:n=m
    ·rw[if_pos e] at h2
     by_cases o:n=61
     ·rw[o,BM] at h2;cases h2
     ·exact fin sm (.head _) (by rw[e] at o;simp only[hr,o,if_false];lia) h2
    ·rw[if_neg e] at h2;cases h2
   | nm m=>cases h
   | two m c d=>cases h
  | two n a b=>
   cases t with
   | two m c d=>
    have h2:q∈(if n=m then gZ (dF W n 0) a c++gZ (dF W n 1) b d else []):=h
    by_cases e:n=m
    ·rw[if_pos e] at h2;rcases UR h2 with h3|h3
     ·exact fin sm (.head _) (by simp only[hr];lia) h3
     ·exact fin sm (.tail _ (.head _)) (by simp only[hr];lia) h3
    ·rw[if_neg e] at h2;cases h2
   | nm m=>cases h
   | one m c=>cases h
  | nm n=>cases t<;>cases h
theorem ug(w:Int)(a c:T):(gZ w a c).length<=1:=by
 unfold gZ;split
 ·exact Nat.le_refl _
 ·split
  ·exact Nat.le_refl _
  ·exact Nat.zero_le _
noncomputable def qn:T->Nat
 | .nm _=>0
 | .one _ _=>1
 | .two _ _ _=>2
noncomputable def gk(k:Nat)(z:T):Nat:=if qn z=k then k else 0
noncomputable def sm(k:Nat)(l:List T):Nat:=(l.map (gk k)).sum
theorem Gb(k:Nat)(l m:List T):sm k (l++m)=sm k l+sm k m:=by unfold sm;rw[List.map_append,List.sum_append]
theorem Gd(W:Wd)(z t:T):(uN W z t).length<=gk (qn t) z:=by
 cases z with
 | nm n=>cases t<;>exact Nat.zero_le _
 | one n a=>
  cases t with
  | one m c=>
   show (if n=m then gZ (dF W n 0) a c else []).length<=1
   split
   ·exact ug _ _ _
   ·exact Nat.zero_le _
  | nm m=>exact Nat.zero_le _
  | two m c d=>exact Nat.zero_le _
 | two n a b=>
  cases t with
  | two m c d=>
   show (if n=m then gZ (dF W n 0) a c++gZ (dF W n 1) b d else []).length<=2
   split
   ·rw[UN];exact Nat.add_le_add (ug _ _ _) (ug _ _ _)
   ·exact Nat.zero_le _
  | nm m=>exact Nat.zero_le _
  | one m c=>exact Nat.zero_le _
theorem zh(W:Wd)(t:T):∀ l:List T,(l.flatMap fun z=>uN W z t).length<=sm (qn t) l
 | []=>Nat.zero_le _
 | z::l=>by
  rw[List.flatMap_cons,UN];show _<=(gk (qn t) z::l.map (gk (qn t))).sum;rw[List.sum_cons];exact Nat.add_le_add (Gd W z t) (zh W t l)
theorem NT(t:T):qn t=0∨qn t=1∨qn t=2:=by
 cases t
 ·exact .inl rfl
 ·exact .inr (.inl rfl)
 ·exact .inr (.inr rfl)
theorem xo{W:Wd}(u:T){k:Nat}(hk:k=0∨k=1∨k=2):sm k ((ez W u).flatMap (cls W))<=2:=by
 have ci:cls W (.nm 2)=[.nm 2]:=by rw[cls,BI rfl]
 have cg:∀ a,cls W (.one 11 a)=[.one 11 a]:=fun a=>rfl;have ch:∀ a b,cls W (.two 12 a b)=[.two 12 a b,.one 11 a]∨cls W (.two 12 a b)=[.two 12 a b]:=fun a b=>by
  have:gH W (.two 12 a b)=if 12=12/\W.eE=true then [.one 11 a] else []:=rfl;rw[cls,this];split
  ·exact .inl rfl
  ·exact .inr rfl
 have h1:∀ a,sm k (([T.one 11 a]).flatMap (cls W))<=2:=fun a=>by
  rw[List.flatMap_cons,cg];rcases hk with rfl|rfl|rfl<;>exact Nat.le_of_ble_eq_true rfl
 have h2:∀ a b,sm k (([T.two 12 a b]).flatMap (cls W))<=2:=fun a b=>by
  rw[List.flatMap_cons];rcases ch a b with e|e<;>rw[e]<;>rcases hk with rfl|rfl|rfl<;>exact Nat.le_of_ble_eq_true rfl
 have fl:∀ i,sm k ((bX i).flatMap (cls W))<=2:=fun i=>by
  match i with
  | 0=>
   show sm k (([T.nm 2]).flatMap (cls W))<=2;rw[List.flatMap_cons,ci];rcases hk with rfl|rfl|rfl<;>exact Nat.le_of_ble_eq_true rfl
  | 1=>exact Nat.zero_le _
  | 2=>exact h1 _
  | 3=>exact h1 _
  | 4=>exact h2 _ _
  | 5=>exact h1 _
  | 6=>exact h2 _ _
  | n+7=>
   show sm k (([T.one 11 (.nm 28),.nm 2]).flatMap (cls W))<=2;rw[List.flatMap_cons,List.flatMap_cons,ci,cg];rcases hk with rfl|rfl|rfl<;>exact Nat.le_of_ble_eq_true rfl
 cases u with
 | nm n=>
  simp only[ez,eh];split
  ·exact fl _
  ·exact Nat.zero_le _
 | one n a=>
  simp only[ez];split
  ·exact h1 a
  ·exact Nat.zero_le _
 | two n a b=>
  simp only[ez];split
  ·exact h1 a
  ·exact Nat.zero_le _
noncomputable def fc(t:T):Nat:=match t with
 | .nm n=>if xM.contains n then 2 else 0
 | _=>2
theorem NU{W:Wd}(u:T){k:Nat}(hk:k=0∨k=1∨k=2):sm k ((gH W u).flatMap (cls W))<=fc u:=by
 refine aM (ly (W:=W) u) fun v e q=>?_;rw[e];cases u with
 | nm n=>
  have:v=.nm n:=q.elim id fun ⟨a,e,_⟩=>by cases e
  subst this;show _<=(if xM.contains n=true then 2 else 0)
  split
  ·exact xo _ hk
  ·rename_i h
   have:ez W (.nm n)=[]:=if_neg h;rw[this];exact Nat.zero_le _
 | one n a=>exact xo _ hk
 | two n a b=>exact xo _ hk
theorem zj{W:Wd}{k:Nat}(hk:k=0∨k=1∨k=2):∀ l:List T,sm k (l.flatMap fun u=>(gH W u).flatMap (cls W))<=(l.map fc).sum
 | []=>Nat.zero_le _
 | u::l=>by
  rw[List.flatMap_cons,Gb,List.map_cons,List.sum_cons];exact Nat.add_le_add (NU u hk) (zj hk l)
theorem JO(k:Nat):∀ l:List T,(∀ u∈l,∃ j,u=.nm j)->sm k l=0
 | [],_=>rfl
 | u::l,h=>by
  refine cX (h u (.head _)) fun j e=>?_;subst e;show ((gk k (.nm j))::l.map (gk k)).sum=0;have:=JO k l fun v hv=>h v (.tail _ hv);unfold sm at this;rw[List.sum_cons,this];show (if 0=k then k else 0)+0=0
  split<;>lia
theorem IF{W:Wd}{s:T}(o:okN s=true)(hs:∀ a,s=.one 99 a->okN a=true/\isVal a=true){k:Nat}(hk:k=0∨k=1∨k=2):sm k (eP W s)<=6:=by
 have Tz:∀ z:T,gk k z<=2:=fun z=>by unfold gk;split<;>lia
 have TA:sm k (eP W s)<=gk k s+((zF s).map fc).sum:=by
  rw[eP,Gb];refine Nat.add_le_add ?_ (zj hk _);show (gk k s::(vw 6 (dW s)).map (gk k)).sum<=gk k s;have:=JO k (vw 6 (dW s)) fun u hu=>by
   rcases sy 6 _ u hu with e|e
   ·have b:∀ {t:T},di t=some u->∃ j,u=.nm j:=fun e=>xn (jX e);cases s with
    | nm j=>exact b (t:=.nm j) e.symm
    | one j a=>
     by_cases q:j=99
     ·subst q;exact b (t:=a) e.symm
     ·have:dW (.one j a)=di (.one j a):=if_neg q;exact b (this▸e.symm)
    | two j a c=>exact b (t:=.two j a c) e.symm
   ·exact xn e
  unfold sm at this;rw[List.sum_cons,this];exact Nat.le_refl _
 have fin:∀ {x:Nat},((zF s).map fc).sum=x->gk k s+x<=6->sm k (eP W s)<=6:=fun e h=>by rw[e] at TA;lia
 have g2:=Tz s;cases s with
 | nm j=>
  have key:∀ t∈dD,((zF t).map fc).sum<=6:=by decide +kernel
  have:=key _ (dE o);have g0:gk k (.nm j)=0:=by show (if 0=k then k else 0)=0;split<;>lia
  lia
 | one j a=>
  simp only[okN,Bool.or_eq_true,beq_iff_eq] at o;rcases o with (((rfl|rfl)|rfl)|rfl)|rfl
  ·exact fin (x:=2) rfl (by lia)
  ·refine bY (hs a rfl) fun oa va=>?_;rcases ue oa va with ⟨j,rfl,hj⟩|⟨c,rfl⟩
   ·have key:∀ t∈dD,isVal t=true->2+((vw 6 (di t)).map fc).sum<=4:=by decide +kernel
    have:=key _ hj va;have e:((zF (.one 99 (.nm j))).map fc).sum=2+((vw 6 (di (.nm j))).map fc).sum:=by
     show ((2:Nat)::(vw 6 (di (.nm j))).map fc).sum=_;rw[List.sum_cons]
    lia
   ·exact fin (x:=2) rfl (by lia)
  ·exact fin (x:=2) rfl (by lia)
  ·exact fin (x:=2) rfl (by lia)
  ·exact fin (x:=2) rfl (by lia)
 | two j a b=>
  simp only[okN,Bool.or_eq_true,beq_iff_eq] at o;rcases o with rfl|rfl
  ·exact fin (x:=2) rfl (by lia)
  ·exact fin (x:=2) rfl (by lia)
theorem Ge{W:Wd}{p:fS}(o:okN p.1=true)(hs:∀ a,p.1=.one 99 a->okN a=true/\isVal a=true):(pU W p).length<=7:=by
 have a1:(IE p.1 p.2).length<=1:=by
  cases p.1 with
  | one n a=>
   cases p.2 with
   | one m c=>
    show (if n=15/\m=15 then [(a,c)] else []).length<=1
    split
    ·exact Nat.le_refl _
    ·exact Nat.zero_le _
   | nm m=>exact Nat.zero_le _
   | two m c d=>exact Nat.zero_le _
  | nm n=>exact Nat.zero_le _
  | two n a b=>exact Nat.zero_le _
 have a2:=zh W p.2 (eP W p.1);have a3:=IF (W:=W) o hs (NT p.2);rw[pU,UN];lia
end
section
noncomputable def cB:Nat->Nat
 | 0=>1
 | n+1=>1+cB n * 7
theorem IG{W:Wd}{a t:T}:pU W (.one 61 a,t)=[]:=by
 have c:eP W (.one 61 a)=[.one 61 a,.nm 7,ob]:=rfl;have e:IE (.one 61 a) t=[]:=by cases t<;>rfl
 have z:uN W (.one 61 a) t=[]:=by
  cases t with
  | one m d=>
   show (if 61=m then gZ (dF W 61 0) a d else [])=[];rw[BM];split<;>rfl
  | nm m=>rfl
  | two m d f=>rfl
 have y:∀ k,uN W (.nm k) t=[]:=fun k=>by cases t<;>rfl
 show IE (.one 61 a) t++(eP W (.one 61 a)).flatMap (fun z=>uN W z t)=[];rw[c,e,List.flatMap_cons,List.flatMap_cons,List.flatMap_cons,z,y,y];rfl
section
variable{W:Wd}{h h':Hp}{ts:List T}{a:Int}
theorem St.box(S:St W h ts [] a){t:T}(ht:t∈ts):∀ a,t=.one 99 a->okN a=true/\isVal a=true:=fun b e=>by
 subst e;exact ⟨S.rp.tb.ok _ (S.rp.tb.args _ ht _ (.head _)),(S.gd _ ht).2 b rfl⟩
theorem xq(S:St W h ts [] a){s z:T}(hs:s∈ts)(h:z∈eP W s):z∈ts:=by
 have cm:=xi S.rp.tb 7 (some s) fun t e=>by cases e;exact ⟨hs,(S.gd _ hs).2⟩
 rcases UR h with q|q
 ·exact (cm z q).1
 ·refine aM (List.mem_flatMap.mp q) fun u hu q=>?_;refine aM (List.mem_flatMap.mp q) fun k hk q=>?_;have mk:=S.gH (cm u hu).1 k hk;rcases UO q with e|q
  ·rw[e];exact mk
  ·exact S.gH mk z q
theorem uh(S:St W h ts [] a){p q:fS}(h1:p.1∈ts)(h2:p.2∈ts)(h:q∈pU W p):(q.1∈ts/\arg q.1)/\q.2∈ts/\arg q.2:=by
 obtain ⟨s,t⟩:=p;have fin:∀ {z c d:T} {w:Int},z∈ts->bk z≠8->bk t≠8->c∈aQ z->d∈aQ t->q∈gZ w c d->(q.1∈ts/\arg q.1)/\q.2∈ts/\arg q.2:=fun {z c d w} hz sz st hc hd hq=>by
  have gc:=cO S hz sz c hc;have gd:=cO S h2 st d hd;rcases zg hq with e|e<;>rw[e]
  ·exact ⟨gc,gd⟩
  ·exact ⟨gd,gc⟩
 have nb:∀ {n:Nat} {c:T},n≠99->bk (.one n c)≠8:=fun ne=>by
  simp only[bk,ne,if_false];split
  ·decide
  ·split<;>decide
 rcases UR h with h|h
 ·cases s with
  | one n c=>
   cases t with
   | one m d=>
    have h:q∈(if n=15/\m=15 then [(c,d)] else []):=h
    split at h
    ·rename_i e
     (refine bY e fun P0 y2_1=>?_;obtain rfl:=P0;obtain rfl:=y2_1)
     exact fin (w:=1) h1 (nb (n:=15) (by decide)) (nb (n:=15) (by decide)) (.head _) (.head _) h
    ·cases h
   | nm m=>cases h
   | two m c d=>cases h
  | nm n=>cases h
  | two n a b=>cases h
 ·refine aM (List.mem_flatMap.mp h) fun z hz h=>?_;have mz:=xq S h1 hz;cases z with
  | one n c=>
   cases t with
   | one m d=>
    have h2:q∈(if n=m then gZ (dF W n 0) c d else []):=h
    by_cases e:n=m
    ·rw[if_pos e] at h2
     by_cases o:n=99
     ·rw[o] at h2;cases h2
     ·exact fin mz (nb o) (nb (e▸o)) (.head _) (.head _) h2
    ·rw[if_neg e] at h2;cases h2
   | nm m=>cases h
   | two m c d=>cases h
  | two n c c2=>
   cases t with
   | two m d d2=>
    have h2:q∈(if n=m then gZ (dF W n 0) c d++gZ (dF W n 1) c2 d2 else []):=h
    by_cases e:n=m
    ·rw[if_pos e] at h2;rcases UR h2 with h3|h3
     ·exact fin mz (by show ¬ (2:Int)=8;decide) (by show ¬ (2:Int)=8;decide) (.head _) (.head _) h3
     ·exact fin mz (by show ¬ (2:Int)=8;decide) (by show ¬ (2:Int)=8;decide) (.tail _ (.head _)) (.tail _ (.head _)) h3
    ·rw[if_neg e] at h2;cases h2
   | nm m=>cases h
   | one m c=>cases h
  | nm n=>cases t<;>cases h
theorem Gf(S:St W h ts [] a):∀ (n:Nat) (p:fS),p.1∈ts->p.2∈ts->∀ q∈GU W n p,q.1∈ts/\q.2∈ts
 | 0,p,h1,h2,q,h=>by rw[UL h];exact ⟨h1,h2⟩
 | n+1,p,h1,h2,q,h=>by
  rcases UO h with e|h
  ·rw[e];exact ⟨h1,h2⟩
  ·refine aM (List.mem_flatMap.mp h) fun r hr h=>?_
   (refine fU (uh S h1 h2 hr) fun P5 a2 _=>?_;obtain ⟨a1,_⟩:=P5)
   exact Gf S n r a1 a2 q h
theorem BN(S:St W h ts [] a):∀ (n:Nat) (p:fS),p.1∈ts->p.2∈ts->(GU W n p).length<=cB n
 | 0,p,h1,h2=>Nat.le_refl 1
 | n+1,p,h1,h2=>by
  have hl:=Ge (W:=W) (p:=p) (S.rp.tb.ok _ h1) (S.box h1);have:∀ l:List fS,(∀ q∈l,(GU W n q).length<=cB n)->(l.flatMap (GU W n)).length<=cB n * l.length:=by
   intro l
   induction l with
   | nil=>intro _;exact Nat.zero_le _
   | cons x l ih=>
    intro hx;rw[List.flatMap_cons,UN,List.length_cons,Nat.mul_succ];have:=ih fun y hy=>hx y (.tail _ hy);have:=hx x (.head _);lia
  have h3:=this (pU W p) fun q hq=>by
   (refine fU (uh S h1 h2 hq) fun P6 a2 _=>?_;obtain ⟨a1,_⟩:=P6)
   exact BN S n q a1 a2
  have h4:=Nat.mul_le_mul_left (cB n) hl;show ((pU W p).flatMap (GU W n)).length+1<=1+cB n * 7;lia
theorem zk(n:Nat)(p:fS):p∈GU W n p:=by cases n<;>exact .head _
theorem BO(p:fS):1<=zG p:=by have:=AP p.1;unfold zG;lia
theorem ui(S:St W h ts [] a):∀ (n:Nat) (p0:fS),p0.1∈ts->p0.2∈ts->zG p0<=n->∀ p∈GU W n p0,∀ q∈pU W p,q∈GU W n p0
 | 0,p0,h1,h2,hn,p,hp,q,hq=>by have:=BO p0;lia
 | n+1,p0,h1,h2,hn,p,hp,q,hq=>by
  rcases UO hp with e|hp
  ·rw[e] at hq;exact .tail _ (List.mem_flatMap.mpr ⟨q,hq,zk n q⟩)
  ·refine aM (List.mem_flatMap.mp hp) fun r hr hp=>?_
   (refine fU (uh S h1 h2 hr) fun Ln a2 _=>?_;obtain ⟨a1,_⟩:=Ln)
   have lt:zG r<zG p0:=by
    by_cases o:∃ a,p0.1=.one 61 a
    ·refine cX o fun c e=>?_;obtain ⟨s,t⟩:=p0;have e:s=.one 61 c:=e;subst e;rw[IG] at hr;cases hr
    ·exact sub_lt (fun a e=>o ⟨a,e⟩) (S.gd _ h1).2 hr
   exact .tail _ (List.mem_flatMap.mpr ⟨r,hr,ui S n r a1 a2 (by lia) p hp q hq⟩)
end
end
section
noncomputable def Lo:List S:=[.ite (.aV false [.cmp .eq (.loc 5) (.loc 2),.call 55 [.loc 0,.loc 5,.loc 2,.loc 3]]) [.ret (.lit (.bool true))] []]
noncomputable def Rx(W:Wd)(Q:List fS)(s t:T):Prop:=(∃ a c,s=.one 15 a/\t=.one 15 c/\(a=c∨Mg Q a c))∨∃ z∈eP W s,z=t∨PZ W Q z t
noncomputable def Gg(W:Wd)(P Q:List fS)(s t:T):Prop:=(∀ a c,s=.one 15 a->t=.one 15 c->a≠c/\IB P Q a c)/\((∀ a c,¬ (s=.one 15 a/\t=.one 15 c))->∀ z∈eP W s,z≠t/\Mh W P Q z t)
theorem Gg.mono{W:Wd}{P P' Q:List fS}{s t:T}(h:Gg W P Q s t)(m:∀ p∈P,p∈P'):Gg W P' Q s t:=
 ⟨fun a c e f=>⟨(h.1 a c e f).1,(h.1 a c e f).2.mono m⟩,fun n z hz=>⟨(h.2 n z hz).1,(h.2 n z hz).2.mono m⟩⟩
section
variable{W:Wd}{h h':Hp}{ts:List T}{s t:T}{n b:Nat}{a:Int}{C P Q:List fS}
theorem II(hb:87<=b):∀ i∈[b+1,b+2],87<=i:=fun i x=>by
 rcases UO x with e|x
 ·lia
 ·rw[UL x];lia
theorem IJ(S:St W h ts [] a)(B:Bk h b ts C P Q)(hb:87<=b){u v:T}(hp:(u,v)∈C)(hu:arg u)(hv:arg v) :
  ∃ (r:Bool) (P':List fS) (h':Hp),run aY (n+5) 57 [.obj 8,kv ts u,kv ts v,.obj b] h=some (.bool r,h')/\Bk h' b ts C P' Q/\Fr [b+1,b+2] h h'/\mQ P P'/\(r=true->u=v∨Mg Q u v)/\(r=false->u≠v/\IB P' Q u v):=by
 have R:=S.rp;have mu:u∈ts:=(B.mem _ hp).1;have mv:v∈ts:=(B.mem _ hp).2;have kt:cC (.obj 8) 38 h=some (.obj 2):=k8 S.rs rfl;rw[t6]
 by_cases q1:u=v
 ·subst q1;refine ⟨true,P,h,?_,B,Fr.rfl',mQ.rfl',fun _=>.inl rfl,fun x=>by cases x⟩;have e:decide (kv ts u=kv ts u)=true:=UT rfl
  with_reducible repeat' first|(apply aC;with_unfolding_all exact rfl)|exists[ag,aa,af,aK,ao,ah,ai,aL,aj,ab,aq,au,aw],[aG,aF,aT,bC,aS,bL],ae,aN e,aN rfl,aD rfl
 have e1:decide (kv ts u=kv ts v)=false:=US fun x=>q1 ((eW mu mv).mp (V.int.inj x));have rs:=fj (n:=n+1) R mu;have vs:=dK (n:=n+1) R mu;have st:run aY (n+4) 32 [.obj 8,kv ts u] h=some (.bool (isRef u),h):=by
  rw[jR];cases q:isRef u with
  | true=>rw[q] at rs;with_reducible repeat' first|(apply aC;with_unfolding_all exact rfl)|exists[ag,aa,af,aK,ao,ah,ai,aL,aj,ab,aq,au,aw],[aG,aF,aT,bC,aS,bL],ae,kt,rs,aN rfl,aD rfl
  | false=>rw[q] at rs;with_reducible repeat' first|(apply aC;with_unfolding_all exact rfl)|exists[ag,aa,af,aK,ao,ah,ai,aL,aj,ab,aq,au,aw],[aG,aF,aT,bC,aS,bL],ae,kt,rs,vs,aN rfl,aD rfl
 cases q:isRef u with
 | true=>
  rw[q] at st;refine lC (xl (n:=n) S B hb hp hu hv) fun r P' h' e2 e3 e4 e5 e6 e7=>?_;refine ⟨r,P',h',?_,e3,e4,e5,fun x=>.inr (e6 x),fun x=>⟨q1,e7 x⟩⟩
  with_reducible repeat' first|(apply aC;with_unfolding_all exact rfl)|exists[ag,aa,af,aK,ao,ah,ai,aL,aj,ab,aq,au,aw],[aG,aF,aT,bC,aS,bL],ae,aD e1,st,e2,aN rfl,aD rfl
 | false=>
  rw[q] at st;refine ⟨false,P,h,?_,B,Fr.rfl',mQ.rfl',(fun x=>by cases x),fun _=>⟨q1,.inl q⟩⟩;have ss:cC (.obj b) 50 h=some (.int 1):=bL B.hb rfl;have e:ba (pg (n+4)) (.not_ (.attr (.loc 3) 50)) [some (.obj 8),some (kv ts u),some (kv ts v),some (.obj b)] h=some (.bool false,h):=JD (aK (aC rfl) ss) (PT (by decide))
  with_reducible repeat' first|exact e|(apply aC;with_unfolding_all exact rfl)|exists[ag,aa,af,aK,ao,ah,ai,aL,aj,ab,aq,au,aw],[aG,aF,aT,bC,aS,bL],ae,aD e1,st,aN rfl,aD rfl
theorem vA(hb:87<=b)(mt:t∈ts)(rt:isRef t=true)(bt:bk t≠8){o:Nat}(ho:b+3<o){L:List V}:∀ (l:List T) (P:List fS) (hh:Hp) (x:Option V) {x1 x4:Option V},St W hh ts [] a->Bk hh b ts C P Q->hh[o]?=some (.list L)->(∀ z∈l,z∈ts/\∀ p∈uN W z t,p∈C)->
  ∃ (r:Bool) (P':List fS) (h':Hp) (y:Option V),eQ (cV (.obj o) L) (dq (pg (n+5)) (.one 5) Lo) (l.map (kv ts)) [some (.obj 8),x1,some (kv ts t),some (.obj b),x4,x] hh=some ((if r then .ret (.bool true) else .next,[some (.obj 8),x1,some (kv ts t),some (.obj b),x4,y]),h')/\
   Bk h' b ts C P' Q/\Fr [b+1,b+2] hh h'/\mQ P P'/\(r=true->∃ z∈l,z=t∨PZ W Q z t)/\(r=false->∀ z∈l,z≠t/\Mh W P' Q z t):=by
 intro l
 induction l with
 | nil=>intro P hh x x1 x4 S B rI hl;exact ⟨false,P,hh,x,rfl,B,Fr.rfl',mQ.rfl',(fun x=>by cases x),fun _ z hz=>by cases hz⟩
 | cons z l ih=>
  intro P hh x x1 x4 S B rI hl;refine bY (hl z (.head _)) fun mz cz=>?_
  by_cases q:z=t
  ·subst q;refine ⟨true,P,hh,some (kv ts z),t9 (dJ dO ?_),B,Fr.rfl',mQ.rfl',fun _=>⟨z,.head _,.inl rfl⟩,fun x=>by cases x⟩;have e:decide (kv ts z=kv ts z)=true:=UT rfl;unfold Lo
   with_reducible repeat' exists[ag,aa,af,ao,ah,ai,aL,cJ,aj,ab,aq,au],[aG,aF,aT,bC],ae,aN e,aN rfl,aD rfl,dO
  have e1:decide (kv ts z=kv ts t)=false:=US fun x=>q ((eW mz mt).mp (V.int.inj x));refine lC (xm (n:=n) S B hb mz mt rt bt cz) fun r P1 h1 p1 p2 p3 p4 p5 p6=>?_;cases r with
  | true=>
   refine ⟨true,P1,h1,some (kv ts z),t9 (dJ dO ?_),p2,p3,p4,fun _=>⟨z,.head _,p5 rfl⟩,fun x=>by cases x⟩;unfold Lo
   with_reducible repeat' exists[ag,aa,af,ao,ah,ai,aL,cJ,aj,ab,aq,au],[aG,aF,aT,bC],ae,aD e1,p1,aN rfl,aD rfl,dO
  | false=>
   have Ma:=p3 o _ (fun x=>by
    rcases UO x with e|x
    ·lia
    ·rw[UL x] at ho;lia) rI
   refine BZ (ih P1 h1 (some (kv ts z)) (x1:=x1) (x4:=x4) (S.fr p3 (II hb)) p2 Ma fun z hz=>hl z (.tail _ hz)) fun r P' h' y a1 a2 a3 a4 a5 a6=>?_;refine ⟨r,P',h',y,d7 (dJ dO ?_) (gM Ma) a1,a2,p3.trans a3,p4.trans a4,fun x=>?_,fun x w hw=>?_⟩
   ·unfold Lo
    with_reducible repeat' exists[ag,aa,af,ao,ah,ai,aL,cJ,aj,ab,aq,au],[aG,aF,aT,bC],ae,aD e1,p1,aN rfl,aD rfl,dO
   ·refine aM (a5 x) fun w hw e=>?_;exact ⟨w,.tail _ hw,e⟩
   ·rcases UO hw with e|hw
    ·rw[e];exact ⟨(p6 rfl).1,(p6 rfl).2.mono a4.mem⟩
    ·exact a6 x w hw
theorem xr{z:T}(h:z=.nm 2∨(∃ a,z=.one 11 a)∨∃ a b,z=.two 12 a b):isIf z=true:=by
 rcases h with rfl|⟨a,rfl⟩|⟨a,b,rfl⟩
 ·decide
 ·rfl
 ·rfl
theorem Lp(S:St W h ts [] a)(B:Bk h b ts C P Q)(hb:87<=b)(ms:s∈ts)(mt:t∈ts)(rt:isRef t=true)(bt:bk t≠8)(hc:∀ q∈pU W (s,t),q∈C) :
  ∃ (r:Bool) (P':List fS) (h':Hp),run aY (n+10) 53 [.obj 8,kv ts s,kv ts t,.obj b] h=some (.bool r,h')/\Bk h' b ts C P' Q/\Fr [b+1,b+2] h h'/\mQ P P'/\(r=true->Rx W Q s t)/\(r=false->Gg W P' Q s t):=by
 have R:=S.rp;have kt:cC (.obj 8) 38 h=some (.obj 2):=k8 S.rs rfl;have ks:=bH (n:=n+7) R ms;have GS:=bH (n:=n+7) R mt;rw[uL]
 by_cases q1:bk s=4/\bk t=4
 ·have f4:∀ {u:T},bk u=4->∃ c,u=.one 15 c:=fun {u} e=>by
   rcases dw [] u with ⟨p,_⟩|⟨p,_⟩|⟨p,k,c,rfl,_⟩
   ·lia
   ·lia
   ·by_cases z:k=15
    ·exact ⟨c,by rw[z]⟩
    ·simp only[bk,z,if_false] at e
     split at e
     ·exact absurd e (by decide)
     ·split at e<;>exact absurd e (by decide)
  (refine cX (f4 q1.1) fun u y5_1=>?_;obtain rfl:=y5_1)
  (refine cX (f4 q1.2) fun v y6_1=>?_;obtain rfl:=y6_1)
  have es:run aY (n+9) 17 [.obj 2,kv ts (.one 15 u)] h=some (kv ts u,h):=jV R ms (.inl rfl);have et:run aY (n+9) 17 [.obj 2,kv ts (.one 15 v)] h=some (kv ts v,h):=jV R mt (.inl rfl);have hq:(u,v)∈pU W (.one 15 u,.one 15 v):=UP _ (by show _∈(if 15=15/\15=15 then [(u,v)] else []);rw[if_pos ⟨rfl,rfl⟩];exact .head _);have gu:=cO S ms (by decide:¬ (4:Int)=8) u (.head _);have gv:=cO S mt (by decide:¬ (4:Int)=8) v (.head _);refine lC (IJ (n:=n+4) S B hb (hc _ hq) gu.2 gv.2) fun r P' h' e1 e2 e3 e4 e5 e6=>?_;refine ⟨r,P',h',?_,e2,e3,e4,fun x=>.inl ⟨u,v,rfl,rfl,e5 x⟩,fun x=>⟨fun a c e f=>?_,fun z=>absurd ⟨rfl,rfl⟩ (z u v)⟩⟩
  ·with_reducible repeat' first|(apply aC;with_unfolding_all exact rfl)|exists[ag,aa,af,aK,ao,ah,ai,aL,aj,ab,av,aq,au,aw],[aG,aF,aO,aS],ae,kt,ks,GS,es,et,e1,aN rfl,aD rfl,cH|apply cD
  ·cases e;cases f;exact e6 x
 have e1:(decide (V.int (bk s)=V.int 4)&&decide (V.int (bk t)=V.int 4))=false:=by
  rw[Bool.eq_false_iff];intro x;rw[Bool.and_eq_true] at x;exact q1 ⟨V.int.inj (UU x.1),V.int.inj (UU x.2)⟩
 have na:∀ a c,¬ (s=.one 15 a/\t=.one 15 c):=fun a c ⟨e,f⟩=>q1 (by rw[e,f];exact ⟨rfl,rfl⟩);have bx:=(S.gd s ms).2;have q2:ba (pg (n+9)) (.aV true [.cmp .eq (.call 16 [.loc 4,.loc 1]) (.lit (V.int (8))),.call 22 [.loc 4,.call 17 [.loc 4,.loc 1]]]) [some (.obj 8),some (kv ts s),some (kv ts t),some (.obj b),some (.obj 2),none] h=some (.bool false,h):=by
  by_cases z:bk s=8
  ·have es:=jV (n:=n+7) R ms (.inr z);have me:el s∈ts:=by
    rcases dw [] s with ⟨p,_⟩|⟨p,_⟩|⟨p,k,c,rfl,_⟩
    ·lia
    ·lia
    ·exact R.tb.args _ ms _ (.head _)
   have vs:=dK (n:=n+7) R me;have e8:decide (V.int (bk s)=V.int 8)=true:=by rw[z];rfl
   with_reducible repeat' first|(apply aC;with_unfolding_all exact rfl)|exists[ag,aa,af,aK,ao,ah,ai,aL,aj,ab,av,aq,au,aw],[aG,aF,aO,aS],ae,ks,es,vs,aN e8,aN rfl,aD rfl,cH|apply cD
  ·have e8:decide (V.int (bk s)=V.int 8)=false:=US fun x=>z (V.int.inj x)
   with_reducible repeat' first|(apply aC;with_unfolding_all exact rfl)|exists[ag,aa,af,aK,ao,ah,ai,aL,aj,ab,av,aq,au,aw],[aG,aF,aO,aS],ae,ks,aD e8,congrArg V.bool e8,aN rfl,aD rfl,cH|apply cD
 have S0:=S.rs;refine fH (pS (n:=n+1) S.rs R ms bx) fun o h1 c1 c2 c3 c4=>?_;have S1:=S.pure c3;have B1:=B.pure c3;have ho:b+3<o:=Nat.lt_of_lt_of_le (bU B.h3) c4;have cm:=xi R.tb 7 (some s) fun t e=>by cases e;exact ⟨ms,bx⟩
 have JP:∀ z∈eP W s,∀ p∈uN W z t,p∈C:=fun z hz p hp=>hc p (List.mem_append_right _ (List.mem_flatMap.mpr ⟨z,hz,hp⟩));refine BZ (vA (W:=W) (ts:=ts) (n:=n+4) (a:=a) (Q:=Q) (C:=C) hb mt rt bt ho (L:=(zF s).map (kv ts)) (zF s) P h1 none (x1:=some (kv ts s)) (x4:=some (.obj 2)) S1 B1 c2 fun z hz=>⟨(cm z hz).1,JP z (UP _ hz)⟩) fun r P2 h2 y d1 d2 d3 d4 d5 d6=>?_;have OG:dR (.obj o) h1=some ((zF s).map (kv ts)):=iu c2;cases r with
 | true=>
  refine ⟨true,P2,h2,?_,d2,c3.nil.trans d3,d4,fun _=>.inr ?_,fun x=>by cases x⟩
  ·unfold Lo at d1;rw[if_pos (Eq.refl true)] at d1
   with_reducible repeat' first|exact q2|(apply aC;with_unfolding_all exact rfl)|refine' AE (af (aa (aC ?_) (aa (aC ?_) ag)) c1) OG d1|exists[ag,aa,af,aK,ao,ah,ai,aj,ab,av,aq,au,aw,b9],[aG,aF,aO,aS],ae,kt,ks,GS,aD e1,aN rfl,aD rfl,cH|apply cD
  ·refine aM (d5 rfl) fun z hz e=>?_;exact ⟨z,UP _ hz,e⟩
 | false=>
  have S2:=S1.fr d3 (II hb);rw[if_neg Bool.false_ne_true] at d1;unfold Lo at d1;have fi:=AK (n:=n+4) S2.rs S2.rp mt;cases q3:isIf t with
  | false=>
   rw[q3] at fi;refine ⟨false,P2,h2,?_,d2,c3.nil.trans d3,d4,(fun x=>by cases x),fun _=>⟨fun a c e f=>absurd ⟨e,f⟩ (na a c),fun _ z hz=>?_⟩⟩
   ·with_reducible repeat' first|exact q2|(apply aC;with_unfolding_all exact rfl)|refine' eT (af (aa (aC ?_) (aa (aC ?_) ag)) c1) OG d1 ?_|exists[ag,aa,af,aK,ao,ah,ai,aj,ab,av,aq,au,aw,b9],[aG,aF,aO,aS],ae,kt,ks,GS,aD e1,fi,aN rfl,aD rfl,cH|apply cD
   ·rcases UR hz with w|w
    ·exact d6 rfl z w
    ·refine aM (List.mem_flatMap.mp w) fun u hu w=>?_;refine aM (List.mem_flatMap.mp w) fun k hk w=>?_;refine aM (ly (W:=W) u) fun v TB _=>?_;rw[TB] at hk;have fz:z=.nm 2∨(∃ a,z=.one 11 a)∨∃ a b,z=.two 12 a b:=by
      rcases UO w with e|w
      ·rw[e];exact dY hk
      ·refine aM (ly (W:=W) k) fun v2 e2 _=>?_;rw[e2] at w;exact dY w
     refine ⟨fun e=>?_,fun m u' c e f g=>?_,fun m u1 u2 c d e f=>?_⟩
     ·rw[e] at fz;rw[xr fz] at q3;cases q3
     ·subst e;rcases fz with x|⟨x,e⟩|⟨x,y,e⟩
      ·cases x
      ·cases e;rw[f,xr (.inr (.inl ⟨c,rfl⟩))] at q3;cases q3
      ·cases e
     ·subst e;rcases fz with x|⟨x,e⟩|⟨x,y,e⟩
      ·cases x
      ·cases e
      ·cases e;rw[f,xr (.inr (.inr ⟨c,d,rfl⟩))] at q3;cases q3
  | true=>
   rw[q3] at fi;refine lC (xj (n:=n) S2 ms bx) fun F o2 h3 f1 f2 f3 f4 f5 f6=>?_;have Ma:b+3<o2:=Nat.lt_of_lt_of_le (bU d2.h3) f6;have S3:=S2.pure f3;have Ry:dR (.obj o2) h3=some (F.map (kv ts)):=iu f2;have P7:∀ z,z∈F↔z∈(zF s).flatMap fun at'=>(gH W at').flatMap (cls W):=fun z=>by
    rw[f5,List.mem_flatMap];exact ⟨fun ⟨u,hu,k,hk,w⟩=>⟨u,hu,List.mem_flatMap.mpr ⟨k,hk,w⟩⟩,fun ⟨u,hu,w⟩=>(List.mem_flatMap.mp w).elim fun k ⟨hk,w⟩=>⟨u,hu,k,hk,w⟩⟩
   refine BZ (vA (W:=W) (ts:=ts) (n:=n+4) (a:=a) (Q:=Q) (C:=C) hb mt rt bt Ma (L:=F.map (kv ts)) F P2 h3 y (x1:=some (kv ts s)) (x4:=some (.obj 2)) S3 (d2.pure f3) f2 fun z hz=>⟨f4 z hz,JP z (List.mem_append_right _ ((P7 z).mp hz))⟩) fun r P4 h4 y2 g1 g2 g3 g4 g5 g6=>?_;unfold Lo at g1;refine ⟨r,P4,h4,?_,g2,(c3.nil.trans d3).trans (f3.nil.trans g3),d4.trans g4,fun x=>.inr ?_,fun x=>⟨fun a c e f=>absurd ⟨e,f⟩ (na a c),fun _ z hz=>?_⟩⟩
   ·cases r with
    | true=>
     rw[if_pos (Eq.refl true)] at g1
     with_reducible repeat' first|exact q2|(apply aC;with_unfolding_all exact rfl)|refine' eT (af (aa (aC ?_) (aa (aC ?_) ag)) c1) OG d1 ?_|refine' AE (af (aa (aC ?_) (aa (aC ?_) ag)) f1) Ry g1|exists[ag,aa,af,aK,ao,ah,ai,aj,ab,av,aq,au,aw,b9],[aG,aF,aO,aS],ae,kt,ks,GS,aD e1,fi,aN rfl,aD rfl,cH|apply cD
    | false=>
     rw[if_neg Bool.false_ne_true] at g1
     with_reducible repeat' first|exact q2|(apply aC;with_unfolding_all exact rfl)|refine' eT (af (aa (aC ?_) (aa (aC ?_) ag)) c1) OG d1 ?_|refine' eT (af (aa (aC ?_) (aa (aC ?_) ag)) f1) Ry g1 ?_|exists[ag,aa,af,aK,ao,ah,ai,aj,ab,av,aq,au,aw,b9],[aG,aF,aO,aS],ae,kt,ks,GS,aD e1,fi,aN rfl,aD rfl,cH|apply cD
   ·refine aM (g5 x) fun z hz e=>?_;exact ⟨z,List.mem_append_right _ ((P7 z).mp hz),e⟩
   ·rcases UR hz with w|w
    ·exact ⟨(d6 rfl z w).1,(d6 rfl z w).2.mono g4.mem⟩
    ·exact g6 x z ((P7 z).mpr w)
end
end
section
theorem BP{t:T}(o:okN t=true)(g:arg t):isRef t=dZ t:=by
 cases t with
 | nm k=>
  have key:∀ u∈dD,u≠.nm 60->isRef u=dZ u:=by decide +kernel
  exact key _ (dE o) g.1
 | one k a=>
  simp only[okN,Bool.or_eq_true,beq_iff_eq] at o;rcases o with (((rfl|rfl)|rfl)|rfl)|rfl
  ·rfl
  ·exact absurd rfl g.2
  ·rfl
  ·rfl
  ·rfl
 | two k a b=>
  simp only[okN,Bool.or_eq_true,beq_iff_eq] at o;rcases o with rfl|rfl<;>rfl
theorem Lr{t:T}(r:isRef t=true)(n:t≠.nm 60):gS t=true:=by
 have h1:t≠.nm 59:=fun e=>by subst e;exact absurd r (by decide)
 have h2:t≠.nm 27:=fun e=>by subst e;exact absurd r (by decide)
 simp[gS,n,h1,h2]
section
variable{W:Wd}{h h':Hp}{ts:List T}{s t:T}{n b:Nat}{a:Int}{C P Q:List fS}
theorem St.sr(S:St W h ts [] a)(ms:s∈ts)(r:isRef s=true)(nn:s≠.nm 60):Sr s:=⟨S.rp.tb.ok s ms,S.box ms,Lr r nn⟩
theorem AR(S:St W h ts [] a)(hQ:∀ p∈Q,Is W p.1 p.2){u v:T}(mu:u∈ts)(mv:v∈ts)(gu:arg u)(gv:arg v)(y:Mg Q u v):dZ u=true/\dZ v=true/\Is W u v:=by
 refine fU y fun r1 r2 e=>?_;refine ⟨by rw[<-BP (S.rp.tb.ok u mu) gu];exact r1,by rw[<-BP (S.rp.tb.ok v mv) gv];exact r2,?_⟩;rcases e with e|e|e
 ·rw[e];exact .refl v
 ·rw[e];exact F7 7 u (Nat.lt_succ_of_le (pR u)) (S.sr mu r1 gu.1)
 ·exact hQ _ e
theorem Gh(S:St W h ts [] a)(hQ:∀ p∈Q,Is W p.1 p.2){u v:T}{w:Int}(mu:u∈ts)(mv:v∈ts)(gu:arg u)(gv:arg v)(y:NS Q w u v):Ar W w u v:=by
 rcases y with e|⟨rfl,y⟩|⟨rfl,y⟩
 ·rw[e];exact .eq w v
 ·refine fU (AR S hQ mu mv gu gv y) fun r1 r2 i=>?_;exact .out r1 r2 i
 ·refine fU (AR S hQ mv mu gv gu y) fun r1 r2 i=>?_;exact .OD r2 r1 i
theorem mR{k:Nat}{c:T}(nb:k≠99):bk (.one k c)≠8:=by
 simp only[bk,nb,if_false];split
 ·decide
 ·split<;>decide
theorem IK(S:St W h ts [] a)(hQ:∀ p∈Q,Is W p.1 p.2)(ms:s∈ts)(mt:t∈ts)(hs:Sr s)(bt:bk t≠8)(l:Rx W Q s t):Is W s t:=by
 rcases l with ⟨u,v,rfl,rfl,e⟩|⟨z,hz,e⟩
 ·rcases e with e|y
  ·rw[e];exact .refl _
  ·have gu:=cO S ms (mR (by decide)) u (.head _);have gv:=cO S mt (mR (by decide)) v (.head _);refine fU (AR S hQ gu.1 gv.1 gu.2 gv.2 y) fun r1 r2 i=>?_;exact .arr r1 r2 i
 ·refine Iy hs hz (e.imp id fun y=>?_);have mz:=xq S ms hz;rcases y with ⟨k,u,v,rfl,rfl,na,o⟩|⟨k,u,u2,v,v2,rfl,rfl,o,o2⟩
  ·by_cases nb:k=99
   ·exact absurd (by rw[nb];rfl) bt
   ·have gu:=cO S mz (mR nb) u (.head _);have gv:=cO S mt bt v (.head _);exact .one na (Gh S hQ gu.1 gv.1 gu.2 gv.2 o)
  ·have s2:∀ {c d:T},bk (.two k c d)≠8:=fun {c d}=>by show ¬ (2:Int)=8;decide
   have gu:=cO S mz s2 u (.head _);have gv:=cO S mt s2 v (.head _);have JM:=cO S mz s2 u2 (.tail _ (.head _));have JN:=cO S mt s2 v2 (.tail _ (.head _));exact .two (Gh S hQ gu.1 gv.1 gu.2 gv.2 o) (Gh S hQ JM.1 JN.1 JM.2 JN.2 o2)
theorem xt(S:St W h ts [] a){u v:T}(mu:u∈ts)(mv:v∈ts)(gu:arg u)(gv:arg v)(r1:dZ u=true)(r2:dZ v=true)(y:IB P Q u v):(u,v)∈P/\(u,v)∉Q:=by
 rw[<-BP (S.rp.tb.ok u mu) gu] at r1;rw[<-BP (S.rp.tb.ok v mv) gv] at r2;rcases y with e|e|⟨_,_,e⟩
 ·rw[r1] at e;cases e
 ·rw[r2] at e;cases e
 ·exact e
theorem Gi(S:St W h ts [] a){u v:T}{w:Int}(mu:u∈ts)(mv:v∈ts)(gu:arg u)(gv:arg v)(ih:∀ p∈gZ w u v,p∈P->Is W p.1 p.2->p∈Q)(y:JK P Q w u v):¬ Ar W w u v:=fun x=>by
 refine bY y fun ne y=>?_;cases x with
 | eq=>exact ne rfl
 | out r1 r2 i=>
  rcases y with e|⟨_,y⟩|⟨e,_⟩
  ·cases e
  ·refine bY (xt S mu mv gu gv r1 r2 y) fun p q=>?_;exact q (ih _ (.head _) p i)
  ·cases e
 | OD r1 r2 i=>
  rcases y with e|⟨e,_⟩|⟨_,y⟩
  ·cases e
  ·cases e
  ·refine bY (xt S mv mu gv gu r2 r1 y) fun p q=>?_;exact q (ih _ (.head _) p i)
theorem Gj(S:St W h ts [] a)(ms:s∈ts)(mt:t∈ts)(hs:Sr s)(nt:t≠ob)(bt:bk t≠8)(ih:∀ p∈pU W (s,t),p∈P->Is W p.1 p.2->p∈Q)(l:Gg W P Q s t):¬ Is W s t:=fun i=>by
 rcases Iw hs nt i with ⟨u,v,rfl,rfl,r1,r2,i⟩|⟨z,hz,e⟩
 ·refine bY (l.1 u v rfl rfl) fun ne y=>?_;have gu:=cO S ms (mR (by decide)) u (.head _);have gv:=cO S mt (mR (by decide)) v (.head _);refine bY (xt S gu.1 gv.1 gu.2 gv.2 r1 r2 y) fun p q=>?_;refine q (ih _ (UP _ ?_) p i);show _∈(if 15=15/\15=15 then [(u,v)] else []);rw[if_pos ⟨rfl,rfl⟩];exact .head _
 ·by_cases both:∃ u v,s=.one 15 u/\t=.one 15 v
  ·(refine xQ both fun u v y9_2 y9_3=>?_;obtain rfl:=y9_2;obtain rfl:=y9_3)
   have ne:=(l.1 u v rfl rfl).1;have zQ:z∈[T.one 15 u,.nm 8,ob]:=hz;rcases e with rfl|tn
   ·rcases UO zQ with e|e
    ·cases e;exact ne rfl
    ·rcases UO e with e|e
     ·cases e
     ·cases UL e
   ·cases tn with
    | one na _=>exact na rfl
  ·refine bY (l.2 (fun u v h=>both ⟨u,v,h⟩) z hz) fun ne nq=>?_;rcases e with e|tn
   ·exact ne e
   ·have mz:=xq S ms hz;have Rz:∀ p∈uN W z t,p∈P->Is W p.1 p.2->p∈Q:=fun p hp=>ih p (List.mem_append_right _ (List.mem_flatMap.mpr ⟨z,hz,hp⟩));cases tn with
    | one na x=>
     rename_i k u v
     by_cases nb:k=99
     ·exact bt (by rw[nb];rfl)
     ·have gu:=cO S mz (mR nb) u (.head _);have gv:=cO S mt bt v (.head _);exact Gi S gu.1 gv.1 gu.2 gv.2 (fun p hp=>Rz p (by show p∈(if k=k then _ else _);rw[if_pos rfl];exact hp)) (nq.1 k u v rfl rfl na) x
    | two x y=>
     rename_i k u u2 v v2
     have s2:∀ {c d:T},bk (.two k c d)≠8:=fun {c d}=>by show ¬ (2:Int)=8;decide
     have gu:=cO S mz s2 u (.head _);have gv:=cO S mt s2 v (.head _);have JM:=cO S mz s2 u2 (.tail _ (.head _));have JN:=cO S mt s2 v2 (.tail _ (.head _));have NV:∀ p∈gZ (dF W k 0) u v++gZ (dF W k 1) u2 v2,p∈P->Is W p.1 p.2->p∈Q:=fun p hp=>Rz p (by show p∈(if k=k then _ else _);rw[if_pos rfl];exact hp);rcases nq.2 k u u2 v v2 rfl rfl with q|q
     ·exact Gi S gu.1 gv.1 gu.2 gv.2 (fun p hp=>NV p (UP _ hp)) q x
     ·exact Gi S JM.1 JN.1 JM.2 JN.2 (fun p hp=>NV p (List.mem_append_right _ hp)) q y
theorem uj(S:St W h ts [] a)(B:Bk h b ts C P Q)(cl:∀ p∈P,p∈Q∨Gg W P Q p.1 p.2):∀ (k:Nat) (p:fS),zG p<=k->p∈P->Is W p.1 p.2->p∈Q
 | 0,p,hk,_,_=>by have:=BO p;lia
 | k+1,p,hk,hp,i=>by
  rcases cl p hp with q|l
  ·exact q
  ·refine bY (B.mem p (B.sub p hp)) fun m1 m2=>?_;refine Dm (B.gd p hp) fun g1 g2 g3 g4 g5 g6=>?_;have no:∀ a,p.1≠.one 61 a:=fun c e=>by rw[e] at g1;exact absurd g1 (by show ¬ (false=true);decide)
   refine absurd i (Gj S m1 m2 (S.sr m1 g1 g4) g3 g6 (fun q hq TC iq=>uj S B cl k q ?_ TC iq) l);have:=sub_lt no (S.gd _ m1).2 hq;lia
end
end
section
noncomputable def NW:List S:=[.asg (.one 3) (.sub (.attr (.loc 1) 51) (.loc 2)),.aug 2 .add (.lit (.int (1))),.ite (.aV true [.cmp .eH (.loc 3) (.attr (.loc 1) 53),.call 51 [.loc 0,.loc 3,.loc 1]]) [.bZ (.attr (.loc 1) 53) (.loc 3) (.lit (.int (1))),.asg (.one 2) (.lit (.int (0)))] []]
noncomputable def NX:E:=.cmp .lt (.loc 2) (.len (.attr (.loc 1) 51))
section
variable{W:Wd}{h h':Hp}{ts:List T}{s t:T}{n b:Nat}{a:Int}{C P Q:List fS}
theorem zl{u v x:V}{hh:Hp}(e:run aY n 53 [.obj 8,u,v,.obj b] h=some (x,hh)):run aY (n+1) 51 [.obj 8,.tup [u,v],.obj b] h=some (x,hh):=by
 rw[yR]
 with_reducible repeat' exists[ag,aa,af,aB,ab,au,K8,aw],[],ae,t0,t1,e
theorem IL(hb:87<=b)(cc:∀ p∈C,∀ q∈pU W p,q∈C):∀ (f i:Nat) (P Q:List fS) (hh:Hp) (x:Option V),St W hh ts [] a->Bk hh b ts C P Q->Q.Nodup->(∀ p∈Q,Is W p.1 p.2)->i<=P.length->(∀ j<i,∀ p,P[j]?=some p->p∈Q∨Gg W P Q p.1 p.2)->(500 - Q.length) * 502+(501 - i)<=f->∀ k:Nat,
  ∃ (P' Q':List fS) (h':Hp) (v:V) (y:Option V),hJ (oD (pg (n+11)) NX) (aR (pg (n+11)) NW) (k+f+1) [some (.obj 8),some (.obj b),some (.int (i:Nat)),x] hh=some ((.next,[some (.obj 8),some (.obj b),some v,y]),h')/\Bk h' b ts C P' Q'/\Fr [b+1,b+2,b+3] hh h'/\mQ P P'/\(∀ p∈Q',Is W p.1 p.2)/\∀ p∈P',p∈Q'∨Gg W P' Q' p.1 p.2:=by
 intro f
 induction f with
 | zero=>
  intro i P Q hh x S B nd sd hi inv hf k;have:=B.Iz;have:=hi;lia
 | succ f ih=>
  intro i P Q hh x S B nd sd hi inv hf k;have pl:=B.Iz;have ql:Q.length<=P.length:=iC nd B.qs;have k1:bp (P.map (pV ts))=true:=bA (by rw[UQ];lia);have ln:iT (.obj (b+1)) hh=some (.int P.length):=by rw[fR B.h1 k1,UQ]
  have kp:cC (.obj b) 51 hh=some (.obj (b+1)):=bL B.hb rfl;have kq:cC (.obj b) 53 hh=some (.obj (b+3)):=bL B.hb rfl
  by_cases q1:i<P.length
  rotate_left
  ·refine ⟨P,Q,hh,.int (i:Nat),x,w_end (wt (x:=.bool false) ?_ rfl),B,Fr.rfl',mQ.rfl',sd,fun p hp=>?_⟩
   ·have e:decide ((i:Int)<P.length)=false:=US fun z=>q1 (Int.ofNat_lt.mp z);have c:bg aA .lt (.int (i:Nat)) (.int P.length) hh=some false:=congrArg some e;unfold NX
    with_reducible repeat' first|exists[ag,aa,af,aK,aB,ao,ah,ai,aL,br,cJ,aj,ab,av,aq,bG,t8],[aG,aF,aO,aS,bL,hU,fR,bF,ku],ae,kp,ln,c,aN rfl,aD rfl,cR,fy|apply bD (by decide)
   ·obtain ⟨j,hj,e⟩:=List.mem_iff_getElem.mp hp;exact inv j (by lia) p (by rw[List.getElem?_eq_getElem hj,e])
  have e1:decide ((i:Int)<P.length)=true:=UT (Int.ofNat_lt.mpr q1);have GV:oD (pg (n+11)) NX [some (.obj 8),some (.obj b),some (.int (i:Nat)),x] hh=some (true,hh):=by
   refine wt (x:=.bool true) ?_ rfl;have c:bg aA .lt (.int (i:Nat)) (.int P.length) hh=some true:=congrArg some e1;unfold NX
   with_reducible repeat' first|exists[ag,aa,af,aK,aB,ao,ah,ai,aL,br,cJ,aj,ab,av,aq,bG,t8],[aG,aF,aO,aS,bL,hU,fR,bF,ku],ae,kp,ln,c,aN rfl,aD rfl,cR,fy|apply bD (by decide)
  obtain ⟨p,hp⟩:∃ p,P[i]?=some p:=⟨_,List.getElem?_eq_getElem q1⟩;have mp:p∈P:=List.mem_of_getElem? hp;have mt:=B.mem p (B.sub p mp);refine Dm (B.gd p mp) fun g1 g2 g3 g4 g5 g6=>?_;have xk:∀ p∈Q,p.1∈ts/\p.2∈ts:=fun p h=>B.mem p (B.sub p (B.qs p h));have P8:bI aA (.obj (b+1)) (.int (i:Nat)) hh=some (.tup [kv ts p.1,kv ts p.2]):=hU B.h1 rfl (je (Int.natCast_nonneg i) (by lia)) (by rw[List.getElem?_map,hp];rfl);have NY:((i:Nat):Int)+1=((i+1:Nat):Int):=rfl;have NZ:∀ {P':List fS},mQ P P'->(p∈Q∨Gg W P' Q p.1 p.2)->∀ j<i+1,∀ q,P'[j]?=some q->q∈Q∨Gg W P' Q q.1 q.2:=fun {P'} pre lp j hj q hq=>by
   have sub:=pre.mem;refine cX pre fun r er=>?_;rw[er,List.getElem?_append_left (by lia)] at hq;rcases Nat.lt_or_ge j i with w|w
   ·exact (inv j w q hq).imp id fun l=>l.mono sub
   ·have:j=i:=by lia
    subst this;rw[hp] at hq;cases hq;exact lp
  by_cases q2:p∈Q
  ·refine xR (ih (i+1) P Q hh (some (.tup [kv ts p.1,kv ts p.2])) S B nd sd q1 (NZ mQ.rfl' (.inl q2)) (by lia) k) fun P' Q' h' v y r1 r2 r3 r4 r5 r6=>?_;refine ⟨P',Q',h',v,y,w_next GV ?_ r1,r2,r3,r4,r5,r6⟩;have c:bg aA .eH (.tup [kv ts p.1,kv ts p.2]) (.obj (b+3)) hh=some false:=by
    show bg aA .eH (pV ts p) (.obj (b+3)) hh=_;rw[ku B.h3 mB,(jq xk mt).1 q2];rfl
   unfold NW;rw[<-NY]
   with_reducible repeat' first|exists[ag,aa,af,aK,aB,ao,ah,ai,aL,br,cJ,aj,ab,av,aq,bG,t8],[aG,aF,aO,aS,bL,hU,fR,bF,ku],ae,kp,P8,kq,c,aN rfl,aD rfl,cR,fy|apply bD (by decide)
  have c:bg aA .eH (.tup [kv ts p.1,kv ts p.2]) (.obj (b+3)) hh=some true:=by
   show bg aA .eH (pV ts p) (.obj (b+3)) hh=_;rw[ku B.h3 mB,(jq xk mt).2 q2];rfl
  refine lC (Lp (n:=n) S B hb mt.1 mt.2 g2 g6 (cc p (B.sub p mp))) fun r P1 h1 e2 e3 e4 e5 e6 e7=>?_;have pf:=zl e2;have S1:=S.fr e4 (II hb);have f3:Fr [b+1,b+2,b+3] hh h1:=e4.mono fun i x=>by
   rcases UO x with e|x
   ·rw[e];exact .head _
   ·rw[UL x];exact .tail _ (.head _)
  cases r with
  | false=>
   refine xR (ih (i+1) P1 Q h1 (some (.tup [kv ts p.1,kv ts p.2])) S1 e3 nd sd (Nat.le_trans q1 (iC B.nd e5.mem)) (NZ e5 (.inr (e7 rfl))) (by lia) k) fun P' Q' h' v y r1 r2 r3 r4 r5 r6=>?_;refine ⟨P',Q',h',v,y,w_next GV ?_ r1,r2,f3.trans r3,e5.trans r4,r5,r6⟩;unfold NW;rw[<-NY]
   with_reducible repeat' first|exists[ag,aa,af,aK,aB,ao,ah,ai,aL,br,cJ,aj,ab,av,aq,bG,t8],[aG,aF,aO,aS,bL,hU,fR,bF,ku],ae,kp,P8,kq,c,pf,aN rfl,aD rfl,cR,fy|apply bD (by decide)
  | true=>
   have ip:Is W p.1 p.2:=IK S sd mt.1 mt.2 (S.sr mt.1 g1 g4) g6 (e6 rfl);have pl1:=e3.Iz;have RA:(Q++[p]).Nodup:=List.nodup_append.mpr ⟨nd,List.nodup_cons.mpr ⟨List.not_mem_nil,List.nodup_nil⟩,fun q hq c hc e=>by rw[UL hc] at e;exact q2 (e▸hq)⟩;have RC:∀ q∈Q++[p],q∈P1:=fun q hq=>(UR hq).elim (e3.qs q) fun x=>by rw[UL x];exact e5.mem p mp
   have TF:(Q++[p]).length<=P1.length:=iC RA RC;rw[UN,List.length_singleton] at TF
   let h2:=h1.set (b+3) (.dict 2 (kD ts (Q++[p])))
   have f2:Fr [b+1,b+2,b+3] h1 h2:=Fr.set (.tail _ (.tail _ (.head _)));have B2:Bk h2 b ts C P1 (Q++[p]):=⟨bD (by lia) e3.hb,bD (by lia) e3.h1,bD (by lia) e3.h2,d9 (bU e3.h3),e3.mem,e3.sub,RC,e3.nd,e3.len,e3.gd⟩;have S2:St W h2 ts [] a:=S1.fr f2 fun i x=>by
    rcases UO x with e|x
    ·lia
    rcases UO x with e|x
    ·lia
    ·rw[UL x];lia
   refine xR (ih 0 P1 (Q++[p]) h2 (some (.tup [kv ts p.1,kv ts p.2])) S2 B2 RA (fun q hq=>(UR hq).elim (sd q) fun x=>by rw[UL x];exact ip) (Nat.zero_le _) (fun j hj=>absurd hj (Nat.not_lt_zero _)) (by rw[UN,List.length_singleton];lia) k) fun P' Q' h' v y r1 r2 r3 r4 r5 r6=>?_;refine ⟨P',Q',h',v,y,w_next GV ?_ r1,r2,f3.trans (f2.trans r3),e5.trans r4,r5,r6⟩;have k2:bp (kD ts Q)=true:=bA (by unfold kD;rw[UQ];lia);have ss:dn (.obj (b+3)) (.tup [kv ts p.1,kv ts p.2]) (.int 1) h1=some h2:=by
    show dn (.obj (b+3)) (pV ts p) (.int 1) h1=_;rw[bF e3.h3 mB k2,pM ((jq xk mt).2 q2)];show _=some (h1.set (b+3) (.dict 2 (kD ts (Q++[p]))));unfold kD;rw[List.map_append,List.map_singleton]
   have TG:cC (.obj b) 53 h1=some (.obj (b+3)):=bL e3.hb rfl;unfold NW
   with_reducible repeat' first|exists[ag,aa,af,aK,aB,ao,ah,ai,aL,br,cJ,aj,ab,av,aq,bG,t8],[aG,aF,aO,aS,bL,hU,fR,bF,ku],ae,kp,P8,kq,c,pf,ss,TG,aN rfl,aD rfl,cR,fy|apply bD (by decide)
theorem Gk(S:St W h ts [] a)(B:Bk h b ts C P [])(hb:87<=b)(cc:∀ p∈C,∀ q∈pU W p,q∈C) :
  ∃ (P' Q':List fS) (h':Hp),run aY (n+12) 50 [.obj 8,.obj b] h=some (.none,h')/\Bk h' b ts C P' Q'/\Fr [b+1,b+2,b+3] h h'/\mQ P P'/\(∀ p∈Q',Is W p.1 p.2)/\∀ p∈P',p∈Q'∨Gg W P' Q' p.1 p.2:=by
 refine xR (IL (W:=W) (ts:=ts) (n:=n) (a:=a) hb cc 251501 0 P [] h none S B List.nodup_nil (fun p hp=>by cases hp) (Nat.zero_le _) (fun j hj=>absurd hj (Nat.not_lt_zero _)) (by decide) 748498) fun P' Q' h' v y r1 r2 r3 r4 r5 r6=>?_;unfold NX NW at r1;refine ⟨P',Q',h',?_,r2,r3,r4,r5,r6⟩;rw[uK];exact mq (av ae cR (AF r1 cJ)) rfl
noncomputable def uk(W:Wd)(s t:T):Bool:=@decide (Is W s t) (Classical.propDecidable _)
theorem zm{W:Wd}{s t:T}(i:Is W s t):uk W s t=true:=@decide_eq_true _ (Classical.propDecidable _) i
theorem N0{W:Wd}{s t:T}(i:¬ Is W s t):uk W s t=false:=@decide_eq_false _ (Classical.propDecidable _) i
theorem zo(S:St W h ts [] a)(ms:s∈ts)(mt:t∈ts)(rs:isRef s=true)(ns:s≠.nm 60)(rt:isRef t=true)(nt:t≠.nm 60)(bt:bk t≠8)(hh:zG (s,t)<=3) :
  ∃ h',run aY (n+14) 48 [.obj 8,kv ts s,kv ts t] h=some (.bool (uk W s t),h')/\Fr [] h h':=by
 let b:=h.length
 have hb:87<=b:=S.big
 let h1:Hp:=h++[.ins 2 []]
 let h2:Hp:=h1.set b (.ins 2 [(50,.int 1)])
 let h3:Hp:=h2++[.list []]
 let h4:Hp:=h3.set b (.ins 2 [(50,.int 1),(51,.obj (b+1))])
 let h5:Hp:=h4++[.dict 2 []]
 let h6:Hp:=h5.set b (.ins 2 [(50,.int 1),(51,.obj (b+1)),(52,.obj (b+2))])
 let h7:Hp:=h6++[.dict 2 []]
 let h8:Hp:=h7.set b (.ins 2 (F9 b))
 have l1:h1.length=b+1:=by rw[UN];rfl
 have l2:h2.length=b+1:=by rw[List.length_set,l1]
 have l3:h3.length=b+2:=by rw[UN,l2];rfl
 have l4:h4.length=b+2:=by rw[List.length_set,l3]
 have l5:h5.length=b+3:=by rw[UN,l4];rfl
 have l6:h6.length=b+3:=by rw[List.length_set,l5]
 have l7:h7.length=b+4:=by rw[UN,l6];rfl
 have a1:h1[b]?=some (.ins 2 []):=bT;have a2:h2[b]?=some (.ins 2 [(50,.int 1)]):=d9 (by lia);have a3:h3[b]?=some (.ins 2 [(50,.int 1)]):=bj a2;have a4:h4[b]?=some (.ins 2 [(50,.int 1),(51,.obj (b+1))]):=d9 (by lia);have a5:h5[b]?=some (.ins 2 [(50,.int 1),(51,.obj (b+1))]):=bj a4;have a6:h6[b]?=some (.ins 2 [(50,.int 1),(51,.obj (b+1)),(52,.obj (b+2))]):=d9 (by lia);have a7:h7[b]?=some (.ins 2 [(50,.int 1),(51,.obj (b+1)),(52,.obj (b+2))]):=bj a6;have a8:h8[b]?=some (.ins 2 (F9 b)):=d9 (by lia);have fb:Fr [b] h h8:=((((((((Fr.app (X:=[b]) (h:=h)).trans (Fr.set (.head _))).trans Fr.app).trans (Fr.set (.head _))).trans Fr.app).trans (Fr.set (.head _))).trans Fr.app).trans (Fr.set (.head _)));have f8:Fr [] h h8:=fb.drop fun i x=>.inr (by rw[UL x];exact Nat.le_refl _);have p8:h8[b+1]?=some (.list []):=bD (by lia) (bj (bD (by lia) (bj (bD (by lia) (by rw[<-l2];exact bT)))));have q8:h8[b+2]?=some (.dict 2 []):=bD (by lia) (bj (bD (by lia) (by rw[<-l4];exact bT)));have r8:h8[b+3]?=some (.dict 2 []):=bD (by lia) (by rw[<-l6];exact bT);have TH:run aY (n+12) 46 [.obj b,.int 1] h1=some (.none,h8):=by
  have s1:fX (.obj b) 50 (.int 1) h1=some h2:=gG a1 rfl;have s2:jw [] h2=some (.obj (b+1),h3):=by rw[<-l2];rfl
  have s3:fX (.obj b) 51 (.obj (b+1)) h3=some h4:=gG a3 rfl;have s4:eI h4.length [] (h4++[.dict 2 []])=some (.obj (b+2),h5):=by rw[<-l4];rfl
  have s5:fX (.obj b) 52 (.obj (b+2)) h5=some h6:=gG a5 rfl;have s6:eI h6.length [] (h6++[.dict 2 []])=some (.obj (b+3),h7):=by rw[<-l6];rfl
  have s7:fX (.obj b) 53 (.obj (b+3)) h7=some h8:=gG a7 rfl;rw[yQ];exact mq (fT (aC rfl) (aC rfl) s1 (fT (c7 ag s2) (aC rfl) s3 (fT (eR ag s4) (aC rfl) s5 (fT (eR ag s6) (aC rfl) s7 cJ)))) rfl
 have S8:=S.pure f8;have B8:Bk h8 b ts (GU W 3 (s,t)) [] []:=⟨a8,p8,q8,r8,Gf S 3 (s,t) ms mt,(fun p hp=>by cases hp),(fun p hp=>by cases hp),List.nodup_nil,Nat.le_trans (BN S 3 (s,t) ms mt) (by decide),fun p hp=>by cases hp⟩;refine lC (ze (n:=n+9) S8 B8 hb (zk 3 (s,t)) ns nt bt) fun r P1 h9 w1 w2 w3 w4 w5 w6=>?_;have nw:ba (pg (n+12)) (.new 2 [.loc 3]) [some (.obj 8),some (kv ts s),some (kv ts t),some (.int 1),none] h=some (.obj b,h8):=vk (aa (aC rfl) ag) rfl TH;have f9:Fr [] h h9:=(f8.nil.trans w3).drop fun i x=>.inr (by
  rcases UO x with e|x
  ·show h.length<=i;lia
  ·rw[UL x];show h.length<=h.length+2;lia)
 have src:∀ {v:V} {hh:Hp},run aY (n+13) 49 [.obj 8,kv ts s,kv ts t,.int 1] h=some (v,hh)->run aY (n+14) 48 [.obj 8,kv ts s,kv ts t] h=some (v,hh):=fun {v hh} e=>by
  rw[mX]
  with_reducible repeat' first|(apply aC;with_unfolding_all exact rfl)|exists[ag,aa,af,aK,ao,aI,c7,vk,eR,cJ,aj,ab,av,aq,au,c9,fT,aw],[aG,aF,bL,gG,cT],ae,e,aN rfl,aD rfl,cH|apply bD (by decide)|apply bj
 cases r with
 | true=>
  have i:Is W s t:=by
   rcases w5 rfl with e|⟨_,_,e|e⟩
   ·rw[e];exact .refl t
   ·rw[e];exact F7 7 s (Nat.lt_succ_of_le (pR s)) (S.sr ms rs ns)
   ·cases e
  rw[zm i];refine ⟨h9,src ?_,f9⟩;rw[jT]
  with_reducible repeat' first|exact nw|(apply aC;with_unfolding_all exact rfl)|exists[ag,aa,af,aK,ao,aI,c7,vk,eR,cJ,aj,ab,av,aq,au,c9,fT,aw],[aG,aF,bL,gG,cT],ae,w1,aN rfl,aD rfl,cH|apply bD (by decide)|apply bj
 | false=>
  refine bY (w6 rfl) fun ne w6=>?_;obtain ⟨no,mp,_⟩:t≠ob/\(s,t)∈P1/\(s,t)∉([]:List fS):=by
   rcases w6 with e|e|e
   ·rw[rs] at e;cases e
   ·rw[rt] at e;cases e
   ·exact e
  have S9:=S8.fr w3 (II hb);refine lC (Gk (n:=n) S9 w2 hb (ui S 3 (s,t) ms mt hh)) fun P2 Q2 hA z1 z2 z3 z4 z5 z6=>?_;have TI:=z4.mem _ mp;have SA:=S9.fr z3 fun i x=>by
   rcases UO x with e|x
   ·lia
   rcases UO x with e|x
   ·lia
   ·rw[UL x];lia
  have dec:uk W s t=decide ((s,t)∈Q2):=by
   by_cases m:(s,t)∈Q2
   ·rw[zm (z5 _ m),UT m]
   ·rw[N0 fun i=>m (uj SA z2 z6 (zG (s,t)) (s,t) (Nat.le_refl _) TI i),US m]
  rw[dec];have f3:Fr [] h hA:=(f9.nil.trans z3).drop fun i x=>.inr (by
   rcases UO x with e|x
   ·show h.length<=i;lia
   rcases UO x with e|x
   ·show h.length<=i;lia
   ·rw[UL x];show h.length<=h.length+3;lia)
  refine ⟨hA,src ?_,f3⟩;have kq:cC (.obj b) 53 hA=some (.obj (b+3)):=bL z2.hb rfl;have xk:∀ p∈Q2,p.1∈ts/\p.2∈ts:=fun p h=>z2.mem p (z2.sub p (z2.qs p h));have c:bg aA .isin (.tup [kv ts s,kv ts t]) (.obj (b+3)) hA=some (decide ((s,t)∈Q2)):=by
   show bg aA .isin (pV ts (s,t)) (.obj (b+3)) hA=_;rw[cT z2.h3 mB]
   by_cases m:(s,t)∈Q2
   ·rw[(jq xk ⟨ms,mt⟩).1 m,UT m];rfl
   ·rw[(jq xk ⟨ms,mt⟩).2 m,US m];rfl
  rw[jT]
  with_reducible repeat' first|exact nw|(apply aC;with_unfolding_all exact rfl)|exists[ag,aa,af,aK,ao,aI,c7,vk,eR,cJ,aj,ab,av,aq,au,c9,fT,aw],[aG,aF,bL,gG,cT],ae,w1,z1,kq,c,aN rfl,aD rfl,cH|apply bD (by decide)|apply bj
end
end
section
theorem um(t:T):enc t=.tup [.str (aH t),.tup ((aQ t).map enc)]:=by cases t<;>rfl
theorem jY:∀ (t:T) (n:Nat),2 * ht t<=n->plain n (enc t)=true
 | .nm k,n,h=>by
  match n,h with
  | n+2,_=>simp[enc,plain,cL]
 | .one k a,n,h=>by
  match n,h with
  | n+2,h=>have:=jY a n (by simp only[ht] at h;lia);simp[enc,plain,cL,this]
  | 0,h=>simp[ht] at h
  | 1,h=>simp only[ht] at h;lia
 | .two k a b,n,h=>by
  match n,h with
  | n+2,h=>
   have:=jY a n (by simp only[ht] at h;lia);have:=jY b n (by simp only[ht] at h;lia);simp[enc,plain,cL, *]
  | 0,h=>simp[ht] at h
  | 1,h=>simp only[ht] at h;lia
theorem IM(t:T):∃ l,enc t=.tup l:=⟨_,um t⟩
theorem mS{t u:T}(h1:ht t<=20)(h2:ht u<=20):sI (enc t) (enc u)=true:=by
 have e1:=jY t 40 (by lia);have e2:=jY u 40 (by lia);refine cX (IM t) fun l e=>?_;rw[e] at e1⊢;simp only[sI,e1,e2];rfl
noncomputable def wf:T->Bool
 | .nm n=>okN (.nm n)
 | .one n a=>okN (.one n a)&&decide (n≠99)&&wf a
 | .two n a b=>okN (.two n a b)&&wf a&&wf b
theorem fu{t:T}(h:wf t=true):okN t=true:=by
 cases t with
 | nm n=>exact h
 | one n a=>simp only[wf,Bool.and_eq_true] at h;exact h.1.1
 | two n a b=>simp only[wf,Bool.and_eq_true] at h;exact h.1.1
theorem uo{t:T}(h:wf t=true):∀ a,t≠.one 99 a:=fun a e=>by
 subst e;simp[wf] at h
theorem jt{t:T}(h:wf t=true):∀ a∈aQ t,wf a=true:=fun c hc=>by
 cases t with
 | nm n=>cases hc
 | one n a=>simp only[wf,Bool.and_eq_true] at h;rw[UL hc];exact h.2
 | two n a b=>
  simp only[wf,Bool.and_eq_true] at h;rcases UO hc with e|e
  ·rw[e];exact h.1.2
  ·rw[UL e];exact h.2
structure Lw(W:Wd)(h:Hp)(a:Int):Prop where
 rs:Rs W h
 sk:h[82]?=some (.dict 1 [(.str 56,.obj 19),(.str 58,.obj 17),(.str 62,.obj 81),(.str 55,.int a),(.str 57,.bool W.eE)])
section
variable{W:Wd}{h h':Hp}{x y t:T}{n:Nat}{a:Int}
theorem Lw.fr{X:List Nat}(L:Lw W h a)(f:Fr X h h')(q:∀ i∈X,i<8∨i=10∨87<=i):Lw W h' a:=
 ⟨L.rs.fr f fun i x=>(q i x).imp id fun y=>y.imp id .inr,f 82 _ (fun x=>absurd (q 82 x) (by decide)) L.sk⟩
theorem Lw.pure(L:Lw W h a)(f:Fr [] h h'):Lw W h' a:=L.fr f fun _ x=>by cases x
theorem Gl(L:Lw W h a):bI aA (.obj 82) (.str 56) h=some (.obj 19):=bh L.sk rfl rfl
theorem Ls(L:Lw W h a):bI aA (.obj 82) (.str 58) h=some (.obj 17):=bh L.sk rfl rfl
theorem IP(L:Lw W h a):bI aA (.obj 82) (.str 57) h=some (.bool W.eE):=bh L.sk rfl rfl
theorem e0:bI aA (enc t) (.int 0) h=some (.str (aH t)):=by rw[um];exact t0
theorem IQ:bI aA (enc t) (.int 1) h=some (.tup ((aQ t).map enc)):=by rw[um];exact t1
theorem uq(L:Lw W h a)(o:okN x=true)(nb:∀ a,x≠.one 99 a):∃ (p:Nat) (h':Hp),run aY (n+1) 70 [.obj 82,enc x] h=some (.obj p,h')/\h'[p]?=some (.list ((cW W x).map enc))/\Fr [] h h':=by
 have wo:=Gl L;have fresh:∀ {l:List V},l.length<=10000->jw l h=some (.obj h.length,h++[.list l]):=fun hl=>gF (bA hl);have fA:∀ {l:List V},Fr [] h (h++[.list l]):=Fr.app;rw[Ay];have no:∀ {k:Nat},(aW lx (.str k)).isSome=false->bg aA .isin (.str k) (.obj 19) h=some false:=fun e=>by rw[cT L.rs.BG rfl,e]
 have two:∀ {u v:V},jw [u,v] h=some (.obj h.length,h++[.list [u,v]]):=fresh (by show 2<=10000;decide);have C6:∀ {u:V},jw [u] h=some (.obj h.length,h++[.list [u]]):=fresh (by show 1<=10000;decide);cases x with
 | nm k=>
  have bd:cP (.many [2,3]) (enc (.nm k)) [some (.obj 82),some (enc (.nm k)),none,none]=some [some (.obj 82),some (enc (.nm k)),some (.str k),some (.tup [])]:=rfl;have hk:=dE o
  by_cases q:k∈dG
  ·have key:∀ k∈dG,aW lx (.str k)=some (.obj (mZ k)):=by decide
   have g:=key k q;have c:bg aA .isin (.str k) (.obj 19) h=some true:=by rw[cT L.rs.BG rfl,g];rfl
   refine ⟨mZ k,h,?_,L.rs.ov k q,Fr.rfl'⟩
   with_reducible repeat' exists[ag,aa,aB,ao,ah,ai,aL,aI,aP,nV,c7,aj,ab,av,aq,au,aw],[aG,aF,aO,aT,bC,aS,bh,gF,cT],ae,bd,wo,c,bh L.rs.BG rfl g,aN rfl,aD rfl
  ·have key:∀ t∈dD,aH t∉dG->(aW lx (.str (aH t))).isSome=false/\gg (aH t)=[.nm 7]/\xM.contains (aH t)=false/\aH t≠13/\aH t≠15/\aH t≠14/\aH t≠12/\aH t≠11:=by decide +kernel
   refine Mq (key _ hk q) fun k1 k2 k3 k4 k5 k6 k7 k8=>?_;have ov:(cW W (.nm k)).map enc=[enc (.nm 7)]:=by
    show (gg k++eh W k).map enc=_;rw[show gg k=_ from k2,eh,show xM.contains k=false from k3];rfl
   refine ⟨h.length,_,?_,by rw[ov];exact bT,fA⟩;have c:=no (k:=k) k1;have d1:decide (V.str k=V.str 13)=false:=US fun e=>k4 (V.str.inj e);have d2:decide (V.str k=V.str 15)=false:=US fun e=>k5 (V.str.inj e);have d3:decide (V.str k=V.str 14)=false:=US fun e=>k6 (V.str.inj e);have d4:decide (V.str k=V.str 12)=false:=US fun e=>k7 (V.str.inj e);have d5:decide (V.str k=V.str 11)=false:=US fun e=>k8 (V.str.inj e)
   with_reducible repeat' exists[ag,aa,aB,ao,ah,ai,aL,aI,aP,nV,c7,aj,ab,av,aq,au,aw],[aG,aF,aO,aT,bC,aS,bh,gF,cT],ae,bd,wo,c,aD d1,aD d2,aD d3,aD d4,aD d5,C6,aN rfl,aD rfl
 | one k b=>
  have bd:cP (.many [2,3]) (enc (.one k b)) [some (.obj 82),some (enc (.one k b)),none,none]=some [some (.obj 82),some (enc (.one k b)),some (.str k),some (.tup [enc b])]:=rfl;simp only[okN,Bool.or_eq_true,beq_iff_eq] at o;rcases o with (((rfl|rfl)|rfl)|rfl)|rfl
  ·refine ⟨h.length,h++[.list [enc (.nm 8)]],?_,bT,fA⟩;have c:=no (k:=15) rfl
   with_reducible repeat' first|(apply aN;(with_unfolding_all simp[V.str.injEq];done))|(apply aD;(with_unfolding_all simp[V.str.injEq];done))|exists[ag,aa,aB,ao,ah,ai,aL,aI,aP,nV,c7,aj,ab,av,aq,au,aw],[aG,aF,aO,aT,bC,aS,bh,gF,cT],ae,bd,wo,c,C6,aN rfl,aD rfl
  ·exact absurd rfl (nb b)
  ·refine ⟨h.length,h++[.list [enc (.nm 7)]],?_,bT,fA⟩;have c:=no (k:=61) rfl
   with_reducible repeat' first|(apply aN;(with_unfolding_all simp[V.str.injEq];done))|(apply aD;(with_unfolding_all simp[V.str.injEq];done))|exists[ag,aa,aB,ao,ah,ai,aL,aI,aP,nV,c7,aj,ab,av,aq,au,aw],[aG,aF,aO,aT,bC,aS,bh,gF,cT],ae,bd,wo,c,C6,aN rfl,aD rfl
  ·refine ⟨h.length,h++[.list [enc ob]],?_,bT,fA⟩;have c:=no (k:=11) rfl
   with_reducible repeat' first|(apply aN;(with_unfolding_all simp[V.str.injEq];done))|(apply aD;(with_unfolding_all simp[V.str.injEq];done))|exists[ag,aa,aB,ao,ah,ai,aL,aI,aP,nV,c7,aj,ab,av,aq,au,aw],[aG,aF,aO,aT,bC,aS,bh,gF,cT],ae,bd,wo,c,C6,aN rfl,aD rfl
  ·refine ⟨h.length,h++[.list [enc ob,enc (.one 11 b)]],?_,bT,fA⟩;have c:=no (k:=14) rfl;have pr:B5 (.tup [enc b]) 1 h=some (.tup [enc b],h):=rfl
   with_reducible repeat' first|(apply aN;(with_unfolding_all simp[V.str.injEq];done))|(apply aD;(with_unfolding_all simp[V.str.injEq];done))|exists[ag,aa,aB,ao,ah,ai,aL,aI,aP,nV,c7,aj,ab,av,aq,au,aw],[aG,aF,aO,aT,bC,aS,bh,gF,cT],ae,bd,wo,c,pr,two,aN rfl,aD rfl
 | two k b d=>
  have bd:cP (.many [2,3]) (enc (.two k b d)) [some (.obj 82),some (enc (.two k b d)),none,none]=some [some (.obj 82),some (enc (.two k b d)),some (.str k),some (.tup [enc b,enc d])]:=rfl;have pr:B5 (.tup [enc b,enc d]) 1 h=some (.tup [enc b],h):=rfl;simp only[okN,Bool.or_eq_true,beq_iff_eq] at o;rcases o with rfl|rfl
  ·have c:=no (k:=12) rfl;have wl:=IP L;have ov:cW W (.two 12 b d)=if W.eE then [ob,.one 11 b] else [ob]:=rfl;cases q:W.eE with
   | true=>
    rw[q] at wl;refine ⟨h.length,h++[.list [enc ob,enc (.one 11 b)]],?_,by rw[ov,q];exact bT,fA⟩
    with_reducible repeat' first|(apply aN;(with_unfolding_all simp[V.str.injEq];done))|(apply aD;(with_unfolding_all simp[V.str.injEq];done))|exists[ag,aa,aB,ao,ah,ai,aL,aI,aP,nV,c7,aj,ab,av,aq,au,aw],[aG,aF,aO,aT,bC,aS,bh,gF,cT],ae,bd,wo,c,wl,pr,two,aN rfl,aD rfl
   | false=>
    rw[q] at wl;refine ⟨h.length,h++[.list [enc ob]],?_,by rw[ov,q];exact bT,fA⟩
    with_reducible repeat' first|(apply aN;(with_unfolding_all simp[V.str.injEq];done))|(apply aD;(with_unfolding_all simp[V.str.injEq];done))|exists[ag,aa,aB,ao,ah,ai,aL,aI,aP,nV,c7,aj,ab,av,aq,au,aw],[aG,aF,aO,aT,bC,aS,bh,gF,cT],ae,bd,wo,c,wl,C6,aN rfl,aD rfl
  ·refine ⟨h.length,h++[.list [enc (.nm 9)]],?_,bT,fA⟩;have c:=no (k:=13) rfl
   with_reducible repeat' first|(apply aN;(with_unfolding_all simp[V.str.injEq];done))|(apply aD;(with_unfolding_all simp[V.str.injEq];done))|exists[ag,aa,aB,ao,ah,ai,aL,aI,aP,nV,c7,aj,ab,av,aq,au,aw],[aG,aF,aO,aT,bC,aS,bh,gF,cT],ae,bd,wo,c,C6,aN rfl,aD rfl
end
end
section
noncomputable def C7(W:Wd)(u v:T):Bool:=decide (u=v)||(dZ u&&(dZ v&&uk W u v))
noncomputable def BQ(W:Wd)(m:Nat)(x y:T):Prop:=∀ (h:Hp) (a:Int),Lw W h a->∃ h',run aY m 73 [.obj 82,enc x,enc y] h=some (.bool (uk W x y),h')/\Fr [] h h'
noncomputable def AS(W:Wd)(m:Nat)(x y:T):Prop:=∀ (h:Hp) (a:Int),Lw W h a->∃ h',run aY m 71 [.obj 82,enc x,enc y] h=some (.bool (C7 W x y),h')/\Fr [] h h'
theorem kE{W:Wd}{x y:T}:uk W x y=true↔Is W x y:=⟨fun e=>@of_decide_eq_true _ (Classical.propDecidable _) e,zm⟩
theorem mT{h:Hp}{t:T}:bg aA .isin (.str (aH t)) (V.tup [.str 0,.str 1,.str 2,.str 3,.str 4,.str 5,.str 6,.str 7,.str 8,.str 9,.str 10,.str 11,.str 12,.str 13,.str 14,.str 15]) h=some (dZ t):=by
 have c:bg aA .isin (.str (aH t)) (.tup (ud.map V.str)) h=some (decide (V.str (aH t)∈ud.map V.str)):=rfl;have e:decide (V.str (aH t)∈ud.map V.str)=dZ t:=by
  rw[Bool.eq_iff_iff,decide_eq_true_iff,dZ,List.contains_iff_mem,List.mem_map];exact ⟨fun ⟨k,hk,e⟩=>V.str.inj e▸hk,fun hk=>⟨_,hk,rfl⟩⟩
 rw[e] at c;exact c
theorem sA{W:Wd}{u v:T}:C7 W u v=true↔u=v∨(dZ u=true/\dZ v=true/\Is W u v):=by
 unfold C7;rw[Bool.or_eq_true,Bool.and_eq_true,Bool.and_eq_true,decide_eq_true_iff,kE]
theorem pW(t:T):(aQ t).length<=2:=by cases t<;>simp[aQ]
section
variable{W:Wd}{h h':Hp}{x y t u v:T}{n m:Nat}{a:Int}
theorem oi(hu:ht u<=20)(hv:ht v<=20)(H:u≠v->dZ u=true->dZ v=true->BQ W m u v):AS W (m+1) u v:=by
 intro h a L;have c:=yV (tb:=aA) (h:=h) (mS hu hv);have z0:=e0 (t:=u) (h:=h);have z1:=e0 (t:=v) (h:=h);have r0:=mT (t:=u) (h:=h);have r1:=mT (t:=v) (h:=h)
 by_cases q:u=v
 ·have e:C7 W u v=true:=sA.mpr (.inl q);have d:decide (enc u=enc v)=true:=UT (by rw[q]);refine ⟨h,?_,Fr.rfl'⟩;rw[kj,e]
  with_reducible repeat' first|exists[ag,aa,af,aB,ao,ah,ai,aL,au,aw],[aO,aT,bC,aS],ae,c,aN d,congrArg V.bool d,aN rfl,aD rfl|apply cD
 have d:decide (enc u=enc v)=false:=US fun e=>q (gJ e);cases q1:dZ u with
 | false=>
  have e:C7 W u v=false:=by unfold C7;rw[US q,q1];rfl
  rw[q1] at r0;refine ⟨h,?_,Fr.rfl'⟩;rw[kj,e]
  with_reducible repeat' first|exists[ag,aa,af,aB,ao,ah,ai,aL,au,aw],[aO,aT,bC,aS],ae,c,aD d,z0,z1,r0,aN rfl,aD rfl|apply cD
 | true=>
  rw[q1] at r0;cases q2:dZ v with
  | false=>
   have e:C7 W u v=false:=by unfold C7;rw[US q,q1,q2];rfl
   rw[q2] at r1;refine ⟨h,?_,Fr.rfl'⟩;rw[kj,e]
   with_reducible repeat' first|exists[ag,aa,af,aB,ao,ah,ai,aL,au,aw],[aO,aT,bC,aS],ae,c,aD d,z0,z1,r0,r1,aN rfl,aD rfl|apply cD
  | true=>
   rw[q2] at r1;refine aM (H q q1 q2 h a L) fun h' p f=>?_;have e:C7 W u v=uk W u v:=by unfold C7;rw[US q,q1,q2];rfl
   refine ⟨h',?_,f⟩;rw[kj,e]
   with_reducible repeat' first|exists[ag,aa,af,aB,ao,ah,ai,aL,au,aw],[aO,aT,bC,aS],ae,c,aD d,z0,z1,r0,r1,p,aN rfl,aD rfl|apply cD
theorem AU{w:Int}:Ar W w u v↔u=v∨(w=1/\dZ u=true/\dZ v=true/\Is W u v)∨(w=2/\dZ u=true/\dZ v=true/\Is W v u):=by
 constructor
 ·intro h;cases h with
  | eq=>exact .inl rfl
  | out p q i=>exact .inr (.inl ⟨rfl,p,q,i⟩)
  | OD p q i=>exact .inr (.inr ⟨rfl,p,q,i⟩)
 ·rintro (e|⟨rfl,p,q,i⟩|⟨rfl,p,q,i⟩)
  ·rw[e];exact .eq w v
  ·exact .out p q i
  ·exact .OD p q i
noncomputable def Mi:List S:=[.asg (.one 5) (.sub (.sub (.loc 1) (.lit (.int (1)))) (.loc 4)),.asg (.one 6) (.sub (.sub (.loc 2) (.lit (.int (1)))) (.loc 4)),.ite (.aV true [.cmp .ne (.loc 5) (.loc 6),.cmp .eq (.sub (.loc 3) (.loc 4)) (.lit (V.int (0)))]) [.ret (.lit (.bool false))] [],.ite (.not_ (.ite (.cmp .eq (.sub (.loc 3) (.loc 4)) (.lit (V.int (2)))) (.call 71 [.loc 0,.loc 6,.loc 5]) (.call 71 [.loc 0,.loc 5,.loc 6]))) [.ret (.lit (.bool false))] []]
theorem Lu(L:Lw W h a){i:Nat}(hi:i<100){ws:List Int}{w:Int}(hu:(aQ x)[i]?=some u)(hv:(aQ y)[i]?=some v)(hw:ws[i]?=some w)(PY:w=0∨w=1∨w=2)(tu:ht u<=20)(tv:ht v<=20)(L1:AS W m u v)(L2:AS W m v u){x4 x5 x6:Option V} :
  ∃ (r:Bool) (h':Hp) (y5 y6:Option V),dq (pg m) (.one 4) Mi (.int i) [some (.obj 82),some (enc x),some (enc y),some (.tup (ws.map V.int)),x4,x5,x6] h=some ((if r then .next else .ret (.bool false),[some (.obj 82),some (enc x),some (enc y),some (.tup (ws.map V.int)),some (.int i),y5,y6]),h')/\Fr [] h h'/\(r=true↔Ar W w u v):=by
 have io:gO (i:Int)=true:=je (Int.natCast_nonneg i) (by lia);have ax:=IQ (t:=x) (h:=h);have ay:=IQ (t:=y) (h:=h);have su:bI aA (.tup ((aQ x).map enc)) (.int i) h=some (enc u):=bB rfl io (by rw[List.getElem?_map,hu];rfl);have sv:bI aA (.tup ((aQ y).map enc)) (.int i) h=some (enc v):=bB rfl io (by rw[List.getElem?_map,hv];rfl);have sw:bI aA (.tup (ws.map V.int)) (.int i) h=some (.int w):=bB rfl io (by rw[List.getElem?_map,hw];rfl);have c:=AD (tb:=aA) (h:=h) (mS tu tv)
 by_cases q:u=v∨w≠0
 rotate_left
 ·simp only[not_or,Classical.not_not] at q;obtain ⟨q,rfl⟩:=q;have d:(!decide (enc u=enc v))=true:=by rw[US fun e=>q (gJ e)];rfl
  refine ⟨false,h,some (enc u),some (enc v),dJ cH ?_,Fr.rfl',⟨fun e=>(by cases e),fun e=>absurd (AU.mp e) ?_⟩⟩
  ·unfold Mi
   with_reducible repeat' exists[ag,aa,af,aB,ao,ah,ai,aL,aZ,aP,aj,ab,av,aq],[aG,aF,aO,bB],ae,ax,ay,su,sv,sw,c,aN d,aN rfl,aD rfl,cH,dO,iB
  ·rintro (e|⟨e,_⟩|⟨e,_⟩)
   ·exact q e
   ·cases e
   ·cases e
 have T1:ba (pg m) (.aV true [.cmp .ne (.loc 5) (.loc 6),.cmp .eq (.sub (.loc 3) (.loc 4)) (.lit (V.int (0)))]) [some (.obj 82),some (enc x),some (enc y),some (.tup (ws.map V.int)),some (.int i),some (enc u),some (enc v)] h=some (.bool false,h):=by
  have e:((!decide (enc u=enc v))&&decide (V.int w=V.int 0))=false:=by
   rcases q with q|q
   ·rw[UT (by rw[q]:enc u=enc v)];rfl
   ·rw[US fun e=>q (V.int.inj e),Bool.and_false]
  refine Eq.trans (b:=some (.bool ((!decide (enc u=enc v))&&decide (V.int w=V.int 0)),h)) ?_ (by rw[e])
  with_reducible repeat' exists[ag,aa,af,aB,ao,ah,ai,aZ,aP,aj,ab,av,aq,b9],[aG,aF,aO,bB],ae,sw,c,aN rfl,aD rfl,cH,dO,iB
 have fin:∀ {r:Bool} {h':Hp},ba (pg m) (.ite (.cmp .eq (.sub (.loc 3) (.loc 4)) (.lit (V.int (2)))) (.call 71 [.loc 0,.loc 6,.loc 5]) (.call 71 [.loc 0,.loc 5,.loc 6])) [some (.obj 82),some (enc x),some (enc y),some (.tup (ws.map V.int)),some (.int i),some (enc u),some (enc v)] h=some (.bool r,h')->
   dq (pg m) (.one 4) Mi (.int i) [some (.obj 82),some (enc x),some (enc y),some (.tup (ws.map V.int)),x4,x5,x6] h=some ((if r then .next else .ret (.bool false),[some (.obj 82),some (enc x),some (enc y),some (.tup (ws.map V.int)),some (.int i),some (enc u),some (enc v)]),h'):=fun {r h'} T2=>by
  refine dJ cH ?_;unfold Mi;cases r with
  | true=>
   have e:(!true)=false:=rfl
   with_reducible repeat' first|exact T1|exact T2|exists[ag,aa,af,aB,ao,ah,ai,aL,aZ,aP,aj,ab,av,aq],[aG,aF,aO,bB],ae,ax,ay,su,sv,aD e,aN rfl,aD rfl,cH,dO,iB
  | false=>
   have e:(!false)=true:=rfl
   with_reducible repeat' first|exact T1|exact T2|exists[ag,aa,af,aB,ao,ah,ai,aL,aZ,aP,aj,ab,av,aq],[aG,aF,aO,bB],ae,ax,ay,su,sv,aN e,aN rfl,aD rfl,cH,dO,iB
 by_cases q2:w=2
 ·subst q2;refine aM (L2 h a L) fun h' p f=>?_;refine ⟨C7 W v u,h',some (enc u),some (enc v),fin ?_,f,?_⟩
  ·with_reducible repeat' exists[ag,aa,af,aB,ao,ah,ai,aL,aZ,aP,aj,ab,av,aq],[aG,aF,aO,bB],ae,sw,p,aN rfl,aD rfl,cH,dO,iB
  ·rw[sA,AU];exact ⟨fun e=>e.imp Eq.symm fun ⟨p,q,r⟩=>.inr ⟨rfl,q,p,r⟩,fun e=>e.imp Eq.symm fun e=>e.elim (fun e=>by cases e.1) fun ⟨_,p,q,r⟩=>⟨q,p,r⟩⟩
 ·refine aM (L1 h a L) fun h' p f=>?_;refine ⟨C7 W u v,h',some (enc u),some (enc v),fin ?_,f,?_⟩
  ·have d:decide (V.int w=V.int 2)=false:=US fun e=>q2 (V.int.inj e)
   with_reducible repeat' exists[ag,aa,af,aB,ao,ah,ai,aL,aZ,aP,aj,ab,av,aq],[aG,aF,aO,bB],ae,sw,aD d,p,aN rfl,aD rfl,cH,dO,iB
  ·rw[sA,AU];refine ⟨fun e=>e.elim .inl fun y=>?_,fun e=>e.imp id fun e=>e.elim (fun ⟨_,y⟩=>y) fun ⟨e,_⟩=>absurd e q2⟩;rcases PY with rfl|rfl|rfl
   ·exact q.elim .inl fun z=>absurd rfl z
   ·exact .inr (.inl ⟨rfl,y⟩)
   ·exact absurd rfl q2
theorem zp(L:Lw W h a){ws:List Int}(hx:aQ x≠[])(hn:aH x=aH y)(hl:(aQ x).length=(aQ y).length)(hb:∀ i:Nat,i<(aQ x).length->ws[i]?=some (dF W (aH x) i))(way:∀ {h:Hp} {a:Int},Lw W h a->fW aA (.obj 17) (.str (aH x)) (.tup [.int 0,.int 0]) h=some (.tup (ws.map V.int)))
  (hh:∀ u∈aQ x,∀ v∈aQ y,ht u<=20/\ht v<=20/\AS W m u v/\AS W m v u) :
  ∃ (r:Bool) (h':Hp),run aY (m+1) 72 [.obj 82,enc x,enc y] h=some (.bool r,h')/\Fr [] h h'/\(r=true↔(∀ i u v,(aQ x)[i]?=some u->(aQ y)[i]?=some v->Ar W (dF W (aH x) i) u v)):=by
 have x0:=e0 (t:=x) (h:=h);have x1:=IQ (t:=x) (h:=h);have ww:=Ls L;have wd:=way L;have al:=pW x;have ln:iT (.tup ((aQ x).map enc)) h=some (.int ((aQ x).length:Nat)):=by rw[cA (bA (by rw[UQ];lia)),UQ]
 have sm:(aQ x).length<jk:=Nat.lt_of_le_of_lt al (by decide);have wr:∀ i,dF W (aH x) i=0∨dF W (aH x) i=1∨dF W (aH x) i=2:=sq L.rs _;have step:∀ (k i:Nat) (h:Hp) (x4 x5 x6:Option V),Lw W h a->i+k=(aQ x).length->∃ (r:Bool) (h':Hp) (y4 y5 y6:Option V),eQ (fun _=>true) (dq (pg m) (.one 4) Mi) ((List.range' i k).map fun (j:Nat)=>V.int (j:Int)) [some (.obj 82),some (enc x),some (enc y),some (.tup (ws.map V.int)),x4,x5,x6] h=some ((if r then .next else .ret (.bool false),[some (.obj 82),some (enc x),some (enc y),some (.tup (ws.map V.int)),y4,y5,y6]),h')/\Fr [] h h'/\(r=true↔(∀ j u v,i<=j->(aQ x)[j]?=some u->(aQ y)[j]?=some v->Ar W (dF W (aH x) j) u v)):=by
  intro k
  induction k with
  | zero=>
   intro i h x4 x5 x6 L hk;refine ⟨true,h,x4,x5,x6,rfl,Fr.rfl',⟨fun _ j u v hj hu _=>?_,fun _=>rfl⟩⟩;have:=(UW hu).1;lia
  | succ k ih=>
   intro i h x4 x5 x6 L hk;have hi:i<(aQ x).length:=by lia
   obtain ⟨u,hu⟩:∃ u,(aQ x)[i]?=some u:=⟨_,List.getElem?_eq_getElem hi⟩;obtain ⟨v,hv⟩:∃ v,(aQ y)[i]?=some v:=⟨_,List.getElem?_eq_getElem (by lia)⟩;refine lI (hh u (List.mem_of_getElem? hu) v (List.mem_of_getElem? hv)) fun b1 b2 b3 b4=>?_;refine Mw (Lu (x:=x) (y:=y) L (i:=i) (by lia) hu hv (hb i hi) (wr i) b1 b2 b3 b4 (x4:=x4) (x5:=x5) (x6:=x6)) fun r h1 y5 y6 p f e=>?_;cases r with
   | false=>
    refine ⟨false,h1,some (.int i),y5,y6,t9 p,f,⟨fun x=>(by cases x),fun x=>?_⟩⟩;exact e.mpr (x i u v (Nat.le_refl _) hu hv)
   | true=>
    refine G0 (ih (i+1) h1 (some (.int i)) y5 y6 (L.pure f) (by lia)) fun r h2 z4 z5 z6 p2 f2 e2=>?_;refine ⟨r,h2,z4,z5,z6,d7 p rfl p2,f.trans f2,e2.trans ⟨fun z j u' v' hj oC Ks=>?_,fun z j u' v' hj=>z j u' v' (by lia)⟩⟩;rcases Nat.lt_or_ge i j with q|q
    ·exact z j u' v' q oC Ks
    ·have:j=i:=by lia
     subst this;rw[hu] at oC;rw[hv] at Ks;cases oC;cases Ks;exact e.mp rfl
 refine G0 (step (aQ x).length 0 h none none none L (Nat.zero_add _)) fun r h' y4 y5 y6 p f e=>?_;rw[<-List.range_eq_range',show (List.range (aQ x).length).map (fun (j:Nat)=>V.int (j:Int))=vN (aQ x).length from rfl] at p;unfold Mi at p;refine ⟨r,h',?_,f,e.trans ⟨fun z i u v=>z i u v (Nat.zero_le _),fun z i u v _=>z i u v⟩⟩;have dc:=dS L.rs.GR;rw[yS];cases r with
 | true=>
  rw[if_pos (Eq.refl true)] at p
  with_reducible repeat' first|refine' FP ?_ sm p ?_|exists[ag,aa,aB,aI,br,bS,av,au,aw],[dS,cA],ae,x0,x1,ww,dc,wd,ln,fy
 | false=>
  rw[if_neg Bool.false_ne_true] at p
  with_reducible repeat' first|refine' Bz ?_ sm p|exists[ag,aa,aB,aI,br,bS,av,au,aw],[dS,cA],ae,x0,x1,ww,dc,wd,ln,fy
end
end
section
noncomputable def dm(x y:T):Nat:=9 * (max (ht x) 2+ht y)+rk x
theorem ur(t:T):1<=ht t:=by cases t<;>simp[ht]
theorem Gm(i:Nat):∀ z∈bX i,wf z=true/\ht z<=2:=by
 match i with
 | 0|1|2|3|4|5|6=>decide
 | n+7=>exact (by decide:∀ z∈bX 7,wf z=true/\ht z<=2)
theorem IS{W:Wd}{x z:T}(w:wf x=true)(h:z∈cW W x):wf z=true/\ht z<=max (ht x) 2/\rk z<rk x:=by
 have nb:=uo w;have hX:z∈gy W x:=by
  cases x with
  | one n a=>have:gy W (.one n a)=cW W (.one n a):=if_neg fun e=>nb a (by rw[e]);rw[this];exact h
  | nm n=>exact h
  | two n a b=>exact h
 rcases C4 (fu w) (fun a e=>absurd e (nb a)) hX with ⟨p,q⟩|⟨p,q⟩
 ·have key:∀ z∈rP,wf z=true/\ht z<=1:=by decide
  refine bY (key z p) fun k1 k2=>?_;exact ⟨k1,by lia,q⟩
 ·refine ⟨?_,?_,q⟩<;>cases x with
  | nm n=>
   have p:z∈eh W n:=p;simp only[eh] at p
   split at p
   ·have:=Gm _ z p
    first|exact this.1|(have:=this.2;lia)
   ·cases p
  | one n a=>
   have p:z∈ez W (.one n a):=by have e:gH W (.one n a)=ez W (.one n a):=if_neg fun e=>nb a (by rw[e]);rwa [e] at p
   simp only[ez] at p
   split at p
   ·rw[UL p];have wa:=jt w a (.head _)
    first|(simp[wf,okN,wa];done)|(simp only[ht];lia)
   ·cases p
  | two n a b=>
   have p:z∈ez W (.two n a b):=p;simp only[ez] at p
   split at p
   ·rw[UL p];have wa:=jt w a (.head _)
    first|(simp[wf,okN,wa];done)|(simp only[ht];lia)
   ·cases p
theorem oj{x y:T}(ox:okN x=true)(oy:okN y=true)(h:aH x=aH y):(∃ k,x=.nm k/\y=.nm k)∨(∃ k a b,x=.one k a/\y=.one k b)∨∃ k a b c d,x=.two k a b/\y=.two k c d:=by
 have k0:∀ t∈dD,aH t∉[15,99,61,11,14,12,13]:=by decide
 have k1:∀ {n:Nat} {a:T},okN (.one n a)=true->n∈[15,99,61,11,14]:=fun {n a} o=>by
  simp only[okN,Bool.or_eq_true,beq_iff_eq] at o;rcases o with (((rfl|rfl)|rfl)|rfl)|rfl<;>decide
 have k2:∀ {n:Nat} {a b:T},okN (.two n a b)=true->n∈[12,13]:=fun {n a b} o=>by
  simp only[okN,Bool.or_eq_true,beq_iff_eq] at o;rcases o with rfl|rfl<;>decide
 have k3:∀ n∈[15,99,61,11,14],n∈[15,99,61,11,14,12,13]:=by decide
 have k4:∀ n∈[12,13],n∈[15,99,61,11,14,12,13]:=by decide
 have k5:∀ n∈[15,99,61,11,14],n∉[12,13]:=by decide
 cases x with
 | nm n=>
  cases y with
  | nm m=>exact .inl ⟨n,rfl,by rw[show n=m from h]⟩
  | one m b=>change n=m at h;subst h;exact absurd (k3 _ (k1 oy)) (k0 _ (dE ox))
  | two m b c=>change n=m at h;subst h;exact absurd (k4 _ (k2 oy)) (k0 _ (dE ox))
 | one n a=>
  cases y with
  | nm m=>change n=m at h;subst h;exact absurd (k3 _ (k1 ox)) (k0 _ (dE oy))
  | one m b=>exact .inr (.inl ⟨n,a,b,rfl,by rw[show n=m from h]⟩)
  | two m b c=>change n=m at h;subst h;exact absurd (k2 oy) (k5 _ (k1 ox))
 | two n a b=>
  cases y with
  | nm m=>change n=m at h;subst h;exact absurd (k4 _ (k2 ox)) (k0 _ (dE oy))
  | one m c=>change n=m at h;subst h;exact absurd (k2 ox) (k5 _ (k1 oy))
  | two m c d=>exact .inr (.inr ⟨n,a,b,c,d,rfl,by rw[show n=m from h]⟩)
noncomputable def TT(W:Wd)(x y:T):Prop:=aH x=aH y/\aQ x≠[]/\∀ i u v,(aQ x)[i]?=some u->(aQ y)[i]?=some v->Ar W (dF W (aH x) i) u v
theorem Lv{W:Wd}{x y v:T}(u:Up W x y)(e:y=.one 15 v):x=.one 15 v:=by
 induction u with
 | refl=>exact e
 | step h _ ih=>exact (zd (ih e▸h)).elim
theorem IT{W:Wd}{u v:T}:Is W (.one 15 u) (.one 15 v)↔u=v∨(dZ u=true/\dZ v=true/\Is W u v):=by
 constructor
 ·intro h;rcases JJ h with ⟨a,b,e,f,p,q,i⟩|⟨z,p,q⟩
  ·cases e;cases f;exact .inr ⟨p,q,i⟩
  ·rcases q with e|t
   ·have:=Lv p e;cases this;exact .inl rfl
   ·cases t with
    | one n _=>exact absurd rfl n
 ·rintro (e|⟨p,q,i⟩)
  ·rw[e];exact .refl _
  ·exact .arr p q i
theorem N1{W:Wd}{x y:T}(wx:wf x=true)(wy:wf y=true)(ne:x≠y)(na:∀ u v,¬ (x=.one 15 u/\y=.one 15 v)):Is W x y↔TT W x y∨∃ z∈cW W x,Is W z y:=by
 have oX:∀ {z},z∈gy W x↔z∈cW W x:=fun {z}=>by
  cases x with
  | one n a=>have:gy W (.one n a)=cW W (.one n a):=if_neg fun e=>uo wx a (by rw[e]);rw[this]
  | nm n=>exact Iff.rfl
  | two n a b=>exact Iff.rfl
 constructor
 ·intro h;cases h with
  | refl=>exact absurd rfl ne
  | arr=>exact absurd ⟨rfl,rfl⟩ (na _ _)
  | one n a=>
   refine .inl ⟨rfl,(fun e=>by cases e),fun i u v hu hv=>?_⟩
   match i with
   | 0=>cases hu;cases hv;exact a
   | i+1=>cases hu
  | two a b=>
   refine .inl ⟨rfl,(fun e=>by cases e),fun i u v hu hv=>?_⟩
   match i with
   | 0=>cases hu;cases hv;exact a
   | 1=>cases hu;cases hv;exact b
   | i+2=>cases hu
  | over hz i=>exact .inr ⟨_,oX.mp hz,i⟩
 ·rintro (⟨e,nn,t⟩|⟨z,hz,i⟩)
  ·rcases oj (fu wx) (fu wy) e with ⟨k,rfl,rfl⟩|⟨k,u,v,rfl,rfl⟩|⟨k,u,u2,v,v2,rfl,rfl⟩
   ·exact absurd rfl nn
   ·exact .one (fun e=>na u v (by rw[e];exact ⟨rfl,rfl⟩)) (t 0 u v rfl rfl)
   ·exact .two (t 0 u v rfl rfl) (t 1 u2 v2 rfl rfl)
  ·exact .over (oX.mpr hz) i
noncomputable def IU:List S:=[.ite (.call 73 [.loc 0,.loc 3,.loc 2]) [.ret (.lit (.bool true))] []]
section
variable{W:Wd}{h h':Hp}{x y t u v:T}{n m:Nat}{a:Int}
theorem IV{p:Nat}{L0:List V}:∀ (l:List T) (h:Hp) (x1 x3:Option V),Lw W h a->h[p]?=some (.list L0)->(∀ z∈l,BQ W m z y)->∃ (r:Bool) (h':Hp) (y3:Option V),eQ (cV (.obj p) L0) (dq (pg m) (.one 3) IU) (l.map enc) [some (.obj 82),x1,some (enc y),x3] h=some ((if r then .ret (.bool true) else .next,[some (.obj 82),x1,some (enc y),y3]),h')/\Fr [] h h'/\(r=true↔∃ z∈l,Is W z y):=by
 intro l
 induction l with
 | nil=>intro h x1 x3 L hp hl;exact ⟨false,h,x3,rfl,Fr.rfl',⟨fun e=>(by cases e),fun ⟨_,q,_⟩=>by cases q⟩⟩
 | cons z l ih=>
  intro h x1 x3 L hp hl;refine aM (hl z (.head _) h a L) fun h1 q f=>?_;cases r:uk W z y with
  | true=>
   rw[r] at q;refine ⟨true,h1,some (enc z),t9 (dJ fy ?_),f,⟨fun _=>⟨z,.head _,kE.mp r⟩,fun _=>rfl⟩⟩;unfold IU
   with_reducible repeat' exists[ag,aa,af,cJ,aj,ab,aq,au],[aG,aF],ae,q,aN rfl,aD rfl,fy
  | false=>
   rw[r] at q;refine zH (ih h1 x1 (some (enc z)) (L.pure f) (f.at hp) fun w hw=>hl w (.tail _ hw)) fun r2 h2 y3 e1 e2 e3=>?_;refine ⟨r2,h2,y3,d7 (dJ fy ?_) (gM (f.at hp)) e1,f.trans e2,e3.trans ⟨fun ⟨w,hw,i⟩=>⟨w,.tail _ hw,i⟩,fun ⟨w,hw,i⟩=>?_⟩⟩
   ·unfold IU
    with_reducible repeat' exists[ag,aa,af,cJ,aj,ab,aq,au],[aG,aF],ae,q,aN rfl,aD rfl,fy
   ·rcases UO hw with e|hw
    ·rw[e,<-kE,r] at i;cases i
    ·exact ⟨w,hw,i⟩
theorem Lx(L:Lw W h a)(o:okN x=true)(hx:aQ x≠[]):∃ ws:List Int,(∀ i:Nat,i<(aQ x).length->ws[i]?=some (dF W (aH x) i))/\∀ {h:Hp} {a:Int},Lw W h a->fW aA (.obj 17) (.str (aH x)) (.tup [.int 0,.int 0]) h=some (.tup (ws.map V.int)):=by
 cases x with
 | nm k=>exact absurd rfl hx
 | one k b=>
  have one:∀ i:Nat,i<(aQ (.one k b)).length->i=0:=fun i hi=>by have:i<1:=hi;lia
  simp only[okN,Bool.or_eq_true,beq_iff_eq] at o;rcases o with (((rfl|rfl)|rfl)|rfl)|rfl
  ·exact ⟨[0,0],fun i hi=>by rw[one i hi];rfl,fun L=>by rw[cw L.rs.GR rfl];rfl⟩
  ·exact ⟨[0,0],fun i hi=>by rw[one i hi];rfl,fun L=>by rw[cw L.rs.GR rfl];rfl⟩
  ·exact ⟨[0,0],fun i hi=>by rw[one i hi];rfl,fun L=>by rw[cw L.rs.GR rfl];rfl⟩
  ·exact ⟨[W.wg],fun i hi=>by rw[one i hi];rfl,fun L=>by rw[cw L.rs.GR rfl];rfl⟩
  ·exact ⟨[0,0],fun i hi=>by rw[one i hi];rfl,fun L=>by rw[cw L.rs.GR rfl];rfl⟩
 | two k b c=>
  have two:∀ i:Nat,i<(aQ (.two k b c)).length->i=0∨i=1:=fun i hi=>by have:i<2:=hi;lia
  simp only[okN,Bool.or_eq_true,beq_iff_eq] at o;rcases o with rfl|rfl
  ·exact ⟨[W.AH,W.CY],fun i hi=>by rcases two i hi with e|e<;>rw[e]<;>rfl,fun L=>by rw[cw L.rs.GR rfl];rfl⟩
  ·exact ⟨[W.CZ,W.C0],fun i hi=>by rcases two i hi with e|e<;>rw[e]<;>rfl,fun L=>by rw[cw L.rs.GR rfl];rfl⟩
theorem AV(hu:u∈aQ x):ht u+1<=ht x:=by
 cases x with
 | nm k=>cases hu
 | one k b=>rw[UL hu];exact Nat.le_refl _
 | two k b c=>
  simp only[ht];rcases UO hu with e|e
  ·rw[e];lia
  ·rw[UL e];lia
theorem Gn:∀ (d:Nat) (x y:T),wf x=true->wf y=true->ht x<=9->ht y<=9->dm x y<=d->BQ W (d+2) x y:=by
 intro d
 induction d using Nat.strongRecOn with
 | ind d ih=>
  intro x y wx wy hx hy hd h a L;have ry:=pR x;have ex:1<=ht x:=by cases x<;>simp[ht]
  have ey:1<=ht y:=by cases y<;>simp[ht]
  have dd:27<=d:=by unfold dm at hd;lia
  have N2:∀ u∈aQ x,∀ v∈aQ y,ht u<=20/\ht v<=20/\AS W d u v/\AS W d v u:=fun u hu v hv=>by
   have a1:=AV hu;have a2:=AV hv;have r1:=pR u;have r2:=pR v;have p1:=ur u;have p2:=ur v;obtain ⟨k,rfl⟩:∃ k,d=k+3:=⟨d - 3,by lia⟩;exact ⟨by lia,by lia,oi (by lia) (by lia) fun _ _ _=>ih k (by lia) u v (jt wx u hu) (jt wy v hv) (by lia) (by lia) (by unfold dm at hd⊢;lia),
    oi (by lia) (by lia) fun _ _ _=>ih k (by lia) v u (jt wy v hv) (jt wx u hu) (by lia) (by lia) (by unfold dm at hd⊢;lia)⟩
  have c:=yV (tb:=aA) (h:=h) (mS (t:=x) (u:=y) (by lia) (by lia));have x0:=e0 (t:=x) (h:=h);have y0:=e0 (t:=y) (h:=h);have x1:=IQ (t:=x) (h:=h);have y1:=IQ (t:=y) (h:=h);rw[FG]
  by_cases q1:x=y
  ·have e:uk W x y=true:=zm (q1▸.refl x);have dt:decide (enc x=enc y)=true:=UT (by rw[q1]);refine ⟨h,?_,Fr.rfl'⟩;rw[e]
   with_reducible repeat' first|(apply aC;with_unfolding_all exact rfl)|exists[ag,aa,af,aB,ao,ah,ai,aL,br,aj,ab,aq,au,aw],[aG,aF,aO,aS,cA],ae,c,aN dt,aN rfl,aD rfl|apply cD
  have df:decide (enc x=enc y)=false:=US fun e=>q1 (gJ e)
  by_cases q2:aH x=15/\aH y=15
  ·rcases oj (fu wx) (fu wy) (q2.1.trans q2.2.symm) with ⟨k,e,_⟩|⟨k,u,v,e,f⟩|⟨k,u,u2,v,v2,e,_⟩
   ·have:k=15:=by have:=q2.1;rw[e] at this;exact this
    subst this;rw[e] at wx;exact absurd wx (by decide)
   ·have:k=15:=by have:=q2.1;rw[e] at this;exact this
    subst this;subst e;subst f;refine lI (N2 u (.head _) v (.head _)) fun _ _ l1 _=>?_;obtain ⟨k,rfl⟩:∃ k,d=k+1:=⟨d - 1,by lia⟩;have r1:=pR u;have p1:=ur u;have p2:=ur v;refine aM (oi (W:=W) (m:=k+1) (u:=u) (v:=v) (by simp only[ht] at hx;lia) (by simp only[ht] at hy;lia) (fun _ _ _=>by
     have e:k+1=(k - 1)+2:=by lia
     rw[e];exact ih (k - 1) (by lia) u v (jt wx u (.head _)) (jt wy v (.head _)) (by simp only[ht] at hx;lia) (by simp only[ht] at hy;lia) (by unfold dm at hd⊢;simp only[ht] at hd;lia)) h a L) fun h' p f=>?_
    have e:C7 W u v=uk W (.one 15 u) (.one 15 v):=by rw[Bool.eq_iff_iff,sA,kE,IT]
    rw[e] at p;refine ⟨h',?_,f⟩;have x1:bI aA (enc (.one 15 u)) (.int 1) h=some (.tup [enc u]):=x1;have y1:bI aA (enc (.one 15 v)) (.int 1) h=some (.tup [enc v]):=y1;have x0:bI aA (enc (.one 15 u)) (.int 0) h=some (.str 15):=x0;have y0:bI aA (enc (.one 15 v)) (.int 0) h=some (.str 15):=y0
    with_reducible repeat' first|(apply aC;with_unfolding_all exact rfl)|(apply aN;(with_unfolding_all simp[V.str.injEq];done))|(apply aD;(with_unfolding_all simp[V.str.injEq];done))|exists[ag,aa,af,aB,ao,ah,ai,aL,br,aj,ab,aq,au,aw],[aG,aF,aO,aS,cA],ae,c,aD df,x0,y0,x1,y1,t0,p,aN rfl,aD rfl|apply cD
   ·have:k=15:=by have:=q2.1;rw[e] at this;exact this
    subst this;rw[e] at wx;exact absurd (fu wx) (by show ¬ (false=true);decide)
  have na:∀ u v,¬ (x=.one 15 u/\y=.one 15 v):=fun u v ⟨e,f⟩=>q2 (by rw[e,f];exact ⟨rfl,rfl⟩);have T2:(decide (V.str (aH x)=V.str 15)&&decide (V.str (aH y)=V.str 15))=false:=by
   rw[Bool.eq_false_iff];intro z;rw[Bool.and_eq_true,decide_eq_true_iff,decide_eq_true_iff] at z;exact q2 ⟨V.str.inj z.1,V.str.inj z.2⟩
  have al:=pW x;have ln:iT (.tup ((aQ x).map enc)) h=some (.int ((aQ x).length:Nat)):=by rw[cA (bA (by rw[UQ];lia)),UQ]
  obtain ⟨r,h1,t3,f1,i1⟩:∃ (r:Bool) (h1:Hp),ba (pg (d+1)) (.aV true [.cmp .eq (.sub (.loc 1) (.lit (.int (0)))) (.sub (.loc 2) (.lit (.int (0)))),.cmp .gt (.len (.sub (.loc 1) (.lit (.int (1))))) (.lit (.int (0))),.call 72 [.loc 0,.loc 1,.loc 2]]) [some (.obj 82),some (enc x),some (enc y),none] h=some (.bool r,h1)/\Fr [] h h1/\(r=true↔TT W x y):=by
   by_cases z:aH x=aH y/\aQ x≠[]
   ·refine bY z fun z1 z2=>?_;refine aM (Lx L (fu wx) z2) fun ws w1 w2=>?_;have hl:(aQ x).length=(aQ y).length:=by
     rcases oj (fu wx) (fu wy) z1 with ⟨k,rfl,rfl⟩|⟨k,u,v,rfl,rfl⟩|⟨k,u,u2,v,v2,rfl,rfl⟩<;>rfl
    refine fG (zp L z2 z1 hl w1 w2 N2) fun r h1 p f i=>?_;refine ⟨r,h1,?_,f,i.trans ⟨fun t=>⟨z1,z2,t⟩,fun t=>t.2.2⟩⟩;have d1:decide (V.str (aH x)=V.str (aH y))=true:=UT (by rw[z1]);have d2:decide (((aQ x).length:Int)>0)=true:=UT (Int.ofNat_lt.mpr (List.length_pos_iff.mpr z2))
    with_reducible repeat' first|(apply aC;with_unfolding_all exact rfl)|exists[ag,aa,af,aB,ao,ah,ai,aL,br,aj,ab,aq,au,aw],[aG,aF,aO,aS,cA],ae,x0,y0,x1,ln,aN d1,aN d2,p,aN rfl,aD rfl|apply cD
   ·refine ⟨false,h,?_,Fr.rfl',⟨fun e=>(by cases e),fun t=>absurd ⟨t.1,t.2.1⟩ z⟩⟩
    by_cases z1:aH x=aH y
    ·have z2:aQ x=[]:=Classical.byContradiction fun y=>z ⟨z1,y⟩;have d1:decide (V.str (aH x)=V.str (aH y))=true:=UT (by rw[z1]);have d2:decide (((aQ x).length:Int)>0)=false:=by rw[z2];rfl
     with_reducible repeat' first|(apply aC;with_unfolding_all exact rfl)|exists[ag,aa,af,aB,ao,ah,ai,aL,br,aj,ab,aq,au,aw],[aG,aF,aO,aS,cA],ae,x0,y0,x1,ln,aN d1,aD d2,congrArg V.bool d2,aN rfl,aD rfl|apply cD
    ·have d1:decide (V.str (aH x)=V.str (aH y))=false:=US fun e=>z1 (V.str.inj e)
     with_reducible repeat' first|(apply aC;with_unfolding_all exact rfl)|exists[ag,aa,af,aB,ao,ah,ai,aL,br,aj,ab,aq,au,aw],[aG,aF,aO,aS,cA],ae,x0,y0,aD d1,congrArg V.bool d1,aN rfl,aD rfl|apply cD
  have ie:=N1 (W:=W) wx wy q1 na;cases r with
  | true=>
   rw[zm (ie.mpr (.inl (i1.mp rfl)))];refine ⟨h1,?_,f1⟩
   with_reducible repeat' first|exact t3|(apply aC;with_unfolding_all exact rfl)|exists[ag,aa,af,aB,ao,ah,ai,br,aj,ab,aq,au,aw,b9],[aG,aF,aO,aS,cA],ae,c,aD df,x0,y0,aD T2,aN rfl,aD rfl|apply cD
  | false=>
   have L1:=L.pure f1;refine fG (uq (n:=d) L1 (fu wx) (uo wx)) fun p h2 o1 o2 o3=>?_;obtain ⟨k,rfl⟩:∃ k,d=k+1:=⟨d - 1,by lia⟩;refine zH (IV (W:=W) (m:=k+2) (y:=y) (L0:=(cW W x).map enc) (cW W x) h2 (some (enc x)) none (L1.pure o3) o2 fun z hz=>by
    obtain ⟨w1,w2,w3⟩:=IS wx hz;exact ih k (by lia) z y w1 wy (by lia) hy (by unfold dm at hd⊢;lia)) fun r h3 y3 l1 l2 l3=>?_
   have e:uk W x y=r:=by
    have nt:¬ TT W x y:=fun t=>by have:=i1.mpr t;cases this
    rw[Bool.eq_iff_iff,kE,ie,l3];exact ⟨fun e=>e.resolve_left nt,.inr⟩
   rw[e];have it:dR (.obj p) h2=some ((cW W x).map enc):=iu o2;unfold IU at l1;refine ⟨h3,?_,(f1.trans o3).trans l2⟩;cases r with
   | true=>
    rw[if_pos (Eq.refl true)] at l1
    with_reducible repeat' first|exact t3|(apply aC;with_unfolding_all exact rfl)|refine' AE (af (aa (aC ?_) (aa (aC ?_) ag)) o1) it l1|exists[ag,aa,af,aB,ao,ah,ai,br,aj,ab,aq,au,aw,b9],[aG,aF,aO,aS,cA],ae,c,aD df,x0,y0,aD T2,aN rfl,aD rfl|apply cD
   | false=>
    rw[if_neg Bool.false_ne_true] at l1
    with_reducible repeat' first|exact t3|(apply aC;with_unfolding_all exact rfl)|refine' eT (af (aa (aC ?_) (aa (aC ?_) ag)) o1) it l1 ?_|exists[ag,aa,af,aB,ao,ah,ai,br,aj,ab,aq,au,aw,b9],[aG,aF,aO,aS,cA],ae,c,aD df,x0,y0,aD T2,aN rfl,aD rfl|apply cD
end
end
section
noncomputable def OH(c:V):Prop:=c=.none∨∃ i,c=.int i
noncomputable def kF:List (V×V):=[(.str 24,.tup [.int 0,.int 65535]),(.str 23,.tup [.int (-128),.int 127]),(.str 22,.tup [.int 0,.int 255]),(.str 20,.tup [.int (-32768),.int 32767]),(.str 21,.tup [.int 0,.int 65535]),(.str 16,.tup [.int (-2147483648),.int 2147483647]),(.str 17,.tup [.int 0,.int 4294967295]),(.str 18,.tup [.int (-9223372036854775808),.int 9223372036854775807]),(.str 19,.tup [.int 0,.int 18446744073709551615])]
noncomputable def Go:List V:=[.str 24,.tup [.int 0,.int 65535],.str 23,.tup [.int (-128),.int 127],.str 22,.tup [.int 0,.int 255],.str 20,.tup [.int (-32768),.int 32767],.str 21,.tup [.int 0,.int 65535],.str 16,.tup [.int (-2147483648),.int 2147483647],.str 17,.tup [.int 0,.int 4294967295],.str 18,.tup [.int (-9223372036854775808),.int 9223372036854775807],.str 19,.tup [.int 0,.int 18446744073709551615]]
noncomputable def zq(k:Nat):Option (Int×Int):=match aW kF (.str k) with
 | some (.tup [.int a,.int b])=>some (a,b)
 | _=>none
noncomputable def xN(o:Option (Int×Int)):V:=match o with
 | some (a,b)=>.tup [.int a,.int b]
 | none=>.tup []
theorem Ly(k:Nat):(aW kF (.str k)).getD (.tup [])=xN (zq k):=by
 by_cases q:k∈[24,23,22,20,21,16,17,18,19]
 ·have key:∀ k∈[24,23,22,20,21,16,17,18,19],(aW kF (.str k)).getD (.tup [])=xN (zq k):=by decide
  exact key k q
 ·have e:aW kF (.str k)=none:=by
   simp only[List.mem_cons,List.not_mem_nil,or_false,not_or] at q;obtain ⟨q1,q2,q3,q4,q5,q6,q7,q8,q9⟩:=q;have n:∀ {a b:Nat},a≠b->V.str b≠V.str a:=fun h e=>h (V.str.inj e).symm;rw[kF,aW,if_neg (n q1),aW,if_neg (n q2),aW,if_neg (n q3),aW,if_neg (n q4),aW,if_neg (n q5),aW,if_neg (n q6),aW,if_neg (n q7),aW,if_neg (n q8),aW,if_neg (n q9)];rfl
  rw[zq,e];rfl
section
variable{W:Wd}{h h':Hp}{ts pend:List T}{t s:T}{n:Nat}{a:Int}
theorem kG(k:Nat):∃ h',run aY (n+1) 74 [.str k] h=some (xN (zq k),h')/\Fr [] h h':=by
 refine ⟨h++[.dict 1 kF],?_,Fr.app⟩;rw[Az];have vs:∀ {P:xK} {hh:Hp},eY P [.lit (.str 24),.tup [.lit (.int (0)),.lit (.int (65535))],.lit (.str 23),.tup [.lit (.int (-128)),.lit (.int (127))],.lit (.str 22),.tup [.lit (.int (0)),.lit (.int (255))],.lit (.str 20),.tup [.lit (.int (-32768)),.lit (.int (32767))],.lit (.str 21),.tup [.lit (.int (0)),.lit (.int (65535))],.lit (.str 16),.tup [.lit (.int (-2147483648)),.lit (.int (2147483647))],.lit (.str 17),.tup [.lit (.int (0)),.lit (.int (4294967295))],.lit (.str 18),.tup [.lit (.int (-9223372036854775808)),.lit (.int (9223372036854775807))],.lit (.str 19),.tup [.lit (.int (0)),.lit (.int (18446744073709551615))]] [some (.str k),none] hh=some (Go,hh):=fun {P hh}=>rfl;have ds:eI h.length Go (h++[.dict 1 []])=some (.obj h.length,h++[.dict 1 kF]):=mL (by decide);have dc:xU (.obj h.length) (h++[.dict 1 kF])=true:=dS bT;have dg:fW aA (.obj h.length) (.str k) (.tup []) (h++[.dict 1 kF])=some (xN (zq k)):=by rw[cw bT rfl,Ly]
 exact aw (av (eR vs ds) uA (au (bS (aC rfl) dc (aC rfl) (aI ag rfl) dg))) rfl
noncomputable def N3(lo hi:Int):V->Bool
 | .int v=>decide (lo<=v)&&decide (v<=hi)
 | _=>false
noncomputable def AW(s t:Nat)(c:V):Bool:=match zq s with
 | none=>false
 | some (x,y)=>if t=29 then decide (s≠24)&&decide (c=.int 0) else match zq t with
  | none=>false
  | some (lo,hi)=>if t=24 then false else if lo<=x/\y<=hi then true else if c=.none∨(s≠16/\(s≠18∨t≠19)) then false else N3 lo hi c
theorem N4{k j:Nat}:decide (V.str k=V.str j)=decide (k=j):=by rw[Bool.eq_iff_iff,decide_eq_true_iff,decide_eq_true_iff,V.str.injEq]
theorem dX{k j:Nat}:bg aA .eq (.str k) (.str j) h=some (decide (k=j)):=by rw[<-N4];rfl
theorem uu{k j:Nat}:bg aA .ne (.str k) (.str j) h=some (!decide (k=j)):=by rw[<-N4];rfl
theorem xu{c:V}(hc:OH c)(s t:Nat):∃ h',run aY (n+2) 75 [.str s,c,.str t] h=some (.bool (AW s t c),h')/\Fr [] h h':=by
 refine aM (kG (n:=n) (h:=h) s) fun h1 e1 f1=>?_;refine aM (kG (n:=n) (h:=h1) t) fun h2 e2 f2=>?_;refine ⟨h2,?_,f1.trans f2⟩;rw[wX];cases hs:zq s with
 | none=>
  rw[hs] at e1;have e:AW s t c=false:=by unfold AW;rw[hs]
  rw[e];have z:(decide (V.int (0:Nat)=V.int 0))=true:=rfl;have ln:iT (xN none) h2=some (.int (0:Nat)):=rfl
  with_reducible repeat' exists[ag,aa,af,aB,ao,ah,ai,br,aj,ab,av,aq,au,aw],[aG,aF],ae,e1,e2,ln,aN z,aN rfl,aD rfl,fy,cH
 | some p=>
  obtain ⟨x,y⟩:=p;rw[hs] at e1;have ln:iT (xN (some (x,y))) h2=some (.int (2:Nat)):=rfl;have z:(decide (V.int (2:Nat)=V.int 0))=false:=rfl;have b0:bI aA (xN (some (x,y))) (.int 0) h2=some (.int x):=t0;have b1:bI aA (xN (some (x,y))) (.int 1) h2=some (.int y):=t1;have P9:∀ {hh:Hp},bg aA .eq c (.int 0) hh=some (decide (c=.int 0)):=fun {hh}=>yV (by rcases hc with rfl|⟨i,rfl⟩<;>rfl)
  by_cases q1:t=29
  ·have e:AW s t c=((!decide (s=24))&&decide (c=.int 0)):=by unfold AW;rw[hs];simp only[q1,if_true];simp
   have d1:decide (t=29)=true:=UT q1;rw[e]
   with_reducible repeat' exists[ag,aa,af,aB,ao,ah,ai,br,aj,ab,av,aq,au,aw,bz,b9],[aG,aF],ae,e1,e2,ln,aD z,dX,uu,aN d1,P9,aN rfl,aD rfl,fy,cH
  have d1:decide (t=29)=false:=US q1;cases ht:zq t with
  | none=>
   rw[ht] at e2;have ln2:iT (xN none) h2=some (.int (0:Nat)):=rfl;have e:AW s t c=false:=by unfold AW;rw[hs,ht];simp only[q1,if_false]
   have d2:(decide (V.int (0:Nat)=V.int 0)||decide (t=24))=true:=rfl;rw[e]
   with_reducible repeat' exists[ag,aa,af,aB,ao,ah,ai,br,aj,ab,av,aq,au,aw,bz,b9],[aG,aF],ae,e1,e2,ln,aD z,dX,aD d1,ln2,aN d2,aN rfl,aD rfl,fy,cH
  | some p=>
   obtain ⟨lo,hi⟩:=p;rw[ht] at e2;have ln2:iT (xN (some (lo,hi))) h2=some (.int (2:Nat)):=rfl;have w0:bI aA (xN (some (lo,hi))) (.int 0) h2=some (.int lo):=t0;have w1:bI aA (xN (some (lo,hi))) (.int 1) h2=some (.int hi):=t1;have e:AW s t c=if t=24 then false else if lo<=x/\y<=hi then true else if c=.none∨(s≠16/\(s≠18∨t≠19)) then false else N3 lo hi c:=by unfold AW;rw[hs,ht];simp only[q1,if_false]
   rw[e]
   by_cases q2:t=24
   ·rw[if_pos q2];have d2:(decide (V.int (2:Nat)=V.int 0)||decide (t=24))=true:=by rw[UT q2,Bool.or_true]
    with_reducible repeat' exists[ag,aa,af,aB,ao,ah,ai,br,aj,ab,av,aq,au,aw,bz,b9],[aG,aF],ae,e1,e2,ln,aD z,dX,aD d1,ln2,aN d2,aN rfl,aD rfl,fy,cH
   rw[if_neg q2];have d2:(decide (V.int (2:Nat)=V.int 0)||decide (t=24))=false:=by rw[US q2];rfl
   by_cases q3:lo<=x/\y<=hi
   ·rw[if_pos q3];have d3:(decide (lo<=x)&&decide (y<=hi))=true:=by rw[UT q3.1,UT q3.2];rfl
    with_reducible repeat' exists[ag,aa,af,aB,ao,ah,ai,br,aj,ab,av,aq,au,aw,bz,b9],[aG,aF],ae,e1,e2,ln,aD z,dX,aD d1,ln2,aD d2,b0,b1,w0,w1,aN d3,aN rfl,aD rfl,fy,cH
   rw[if_neg q3];have d3:(decide (lo<=x)&&decide (y<=hi))=false:=by
    rw[Bool.eq_false_iff];intro z;rw[Bool.and_eq_true,decide_eq_true_iff,decide_eq_true_iff] at z;exact q3 z
   rcases hc with rfl|⟨v,rfl⟩
   ·rw[if_pos (.inl rfl)];have cn:bg aA .zI .none .none h2=some true:=rfl;have d4:(true||((!decide (s=16))&&((!decide (s=18))||!decide (t=19))))=true:=rfl
    with_reducible repeat' exists[ag,aa,af,aB,ao,ah,ai,br,aj,ab,av,aq,au,aw,bz,b9],[aG,aF],ae,e1,e2,ln,aD z,dX,uu,aD d1,ln2,aD d2,b0,b1,w0,w1,aD d3,cn,aN d4,aN rfl,aD rfl,fy,cH
   ·have cn:bg aA .zI (.int v) .none h2=some false:=rfl
    by_cases q4:s≠16/\(s≠18∨t≠19)
    ·rw[if_pos (.inr q4)];have d4:(false||((!decide (s=16))&&((!decide (s=18))||!decide (t=19))))=true:=by
      refine bY q4 fun a1 a2=>?_;rw[US a1];rcases a2 with a2|a2<;>rw[US a2]
      ·rfl
      ·rw[Bool.not_false,Bool.or_true];rfl
     with_reducible repeat' exists[ag,aa,af,aB,ao,ah,ai,br,aj,ab,av,aq,au,aw,bz,b9],[aG,aF],ae,e1,e2,ln,aD z,dX,uu,aD d1,ln2,aD d2,b0,b1,w0,w1,aD d3,cn,aN d4,aN rfl,aD rfl,fy,cH
    ·rw[if_neg fun z=>z.elim (fun z=>by cases z) q4];have d4:(false||((!decide (s=16))&&((!decide (s=18))||!decide (t=19))))=false:=by
      rw[Bool.eq_false_iff];intro z;simp only[Bool.false_or,Bool.and_eq_true,Bool.or_eq_true,Bool.not_eq_true',decide_eq_false_iff_not] at z;exact q4 z
     with_reducible repeat' exists[ag,aa,af,aB,ao,ah,ai,br,aj,ab,av,aq,au,aw,bz,b9],[aG,aF],ae,e1,e2,ln,aD z,dX,uu,aD d1,ln2,aD d2,b0,b1,w0,w1,aD d3,cn,aD d4,aN rfl,aD rfl,fy,cH
end
end
section
noncomputable def jh:List Int:=[3,4,5,6,8,10]
noncomputable def pX(j:Int):Int×Int:=match aW (aA 2) (.int j) with
 | some (.tup [.int a,.int b])=>(a,b)
 | _=>(0,0)
noncomputable def nX(i j:Int):V->Bool
 | .int v=>if i=7/\jh.contains j=true then decide ((pX j).1<=v)&&decide (v<=(pX j).2) else decide (i=9)&&(decide (j=10)&&decide (v>=0))
 | _=>false
noncomputable def uO(i:Int):List Int:=if i=3 then [5,7,9] else if i=4 then [5,6,7,8,9,10] else if i=5 then [7,9] else if i=6 then [7,8,9,10] else if i=7 then [9] else if i=8 then [9,10] else if i=2 then [6,7,8,9,10] else []
noncomputable def JQ(i j:Int)(c:V)(e:Bool):Bool:=((uO i).contains j||nX i j c)||(decide (i≠2)&&(decide (c≠.none)&&(decide (c=.int 0)&&e)))
noncomputable def mD(s t:T)(c:V):Bool:=(decide (2<=dz s)&&decide (dz s<=10))&&JQ (dz s) (dz t) c (decide (t=.nm 29))
noncomputable def consts:List V:=[.none,.int 0,.int 7,.int (-1),.int 300,.int 70000]
theorem xw{c:V}(h:c∈consts):OH c:=by
 have key:∀ c∈consts,c=.none∨∃ i,c=.int i:=by
  intro c h;simp only[consts,List.mem_cons,List.not_mem_nil,or_false] at h;rcases h with h|h|h|h|h|h
  ·exact .inl h
  all_goals exact .inr ⟨_,h⟩
 exact key c h
theorem uv:∀ (l:List Int) (n:Nat),cL n (l.map V.int)=true
 | [],n=>by simp[cL]
 | i::l,n=>by
  rw[List.map_cons,cL,uv l n];cases n<;>simp[plain]
theorem xy(l:List Int)(j:Int){h:Hp}:bg aA .isin (.int j) (.tup (l.map V.int)) h=some (l.contains j):=by
 have e:decide (V.int j∈l.map V.int)=l.contains j:=by
  rw[Bool.eq_iff_iff,decide_eq_true_iff,List.contains_iff_mem,List.mem_map];exact ⟨fun ⟨k,hk,e⟩=>V.int.inj e▸hk,fun hk=>⟨_,hk,rfl⟩⟩
 rw[<-e];exact if_pos (uv l _)
section
variable{W:Wd}{h h':Hp}{ts pend:List T}{t s:T}{n:Nat}{a:Int}
theorem xA(b:Tb ts)(ht:t∈ts)(l:List Int)(hl:∀ x∈l,x<16):l.contains (kn ts t)=l.contains (dz t):=by
 rcases hV b ht with ⟨_,_,e,_⟩|⟨e1,e2,_⟩
 ·rw[e]
 ·rw[e1,Bool.eq_iff_iff,List.contains_iff_mem,List.contains_iff_mem];exact ⟨fun x=>by have:=hl _ x;lia,fun x=>by have:=hl _ x;lia⟩
theorem Lz(b:Tb ts)(ht:t∈ts){i:Int}(hi:i<16):decide (kn ts t=i)=decide (dz t=i):=by
 rw[Bool.eq_iff_iff,decide_eq_true_iff,decide_eq_true_iff];rcases hV b ht with ⟨_,_,e,_⟩|⟨e1,e2,_⟩<;>lia
theorem v_eq{i j:Int}:decide (V.int i=V.int j)=decide (i=j):=by rw[Bool.eq_iff_iff,decide_eq_true_iff,decide_eq_true_iff,V.int.injEq]
theorem gz{i j:Int}:bg aA .eq (.int i) (.int j) h=some (decide (i=j)):=by rw[<-v_eq];rfl
theorem zr{i:Int}:run aY (n+1) 24 [.int i] h=some (.bool (decide (2<=i)&&decide (i<=10)),h):=by
 rw[yP]
 with_reducible repeat' exists[ao,ah,ai,au,aw,b9],[],ae
theorem xB{i j:Int}{c:V}(hc:OH c):run aY (n+2) 61 [.int i,c,.int j] h=some (.bool (nX i j c),h):=by
 rw[wW];rcases hc with rfl|⟨v,rfl⟩
 ·have cn:bg aA .zI .none .none h=some true:=rfl;have e:nX i j .none=false:=rfl;rw[e]
  with_reducible repeat' exists[ag,aa,af,aB,ao,ah,ai,aj,ab,av,aq,au,aw],[aG,aF],ae,cn,aN rfl,aD rfl
 ·have cn:bg aA .zI (.int v) .none h=some false:=rfl;have nr:bg aA .isin (.int j) (V.tup [.int (3),.int (4),.int (5),.int (6),.int (8),.int (10)]) h=some (jh.contains j):=xy jh j;have e:nX i j (.int v)=if i=7/\jh.contains j=true then decide ((pX j).1<=v)&&decide (v<=(pX j).2) else decide (i=9)&&(decide (j=10)&&decide (v>=0)):=rfl;rw[e]
  by_cases q:i=7/\jh.contains j=true
  ·rw[if_pos q];have d:(decide (i=7)&&jh.contains j)=true:=by rw[UT q.1,q.2];rfl
   have key:∀ j∈jh,aW (aA 2) (.int j)=some (.tup [.int (pX j).1,.int (pX j).2]):=by decide
   have g:=key j (List.contains_iff_mem.mp q.2);have sb:bI aA (.tab 2) (.int j) h=some (.tup [.int (pX j).1,.int (pX j).2]):=by rw[<-g];rfl
   have nn:bg aA .eH (.int j) (.tab 2) h=some false:=by
    have:bg aA .eH (.int j) (.tab 2) h=some (!(aW (aA 2) (.int j)).isSome):=rfl;rw[this,g];rfl
   have ir:run aY (n+1) 23 [.int j] h=some (.tup [.int (pX j).1,.int (pX j).2],h):=by
    rw[yO]
    with_reducible repeat' exists[ag,aa,af,aB,ao,ah,ai,aj,ab,av,aq,au,aw],[aG,aF],ae,nn,sb,aN rfl,aD rfl
   have bd:cP (.many [3,4]) (.tup [.int (pX j).1,.int (pX j).2]) [some (.int i),some (.int v),some (.int j),none,none]=some [some (.int i),some (.int v),some (.int j),some (.int (pX j).1),some (.int (pX j).2)]:=rfl
   with_reducible repeat' exists[ag,aa,af,aB,ao,ah,ai,aj,ab,av,aq,au,aw,b9],[aG,aF],ae,cn,gz,nr,aN d,ir,bd,aN rfl,aD rfl
  ·rw[if_neg q];have d:(decide (i=7)&&jh.contains j)=false:=by
    rw[Bool.eq_false_iff];intro z;rw[Bool.and_eq_true,decide_eq_true_iff] at z;exact q z
   with_reducible repeat' exists[ag,aa,af,aB,ao,ah,ai,aj,ab,av,aq,au,aw,b9],[aG,aF],ae,cn,gz,nr,aD d,aN rfl,aD rfl
theorem C8(S:Rs W h)(R:Rp h ts)(ht:t∈ts):run aY (n+3) 60 [.obj 8,kv ts t] h=some (.bool (decide (t=.nm 29)),h):=by
 have kt:cC (.obj 8) 38 h=some (.obj 2):=k8 S rfl;have un:cC (.obj 8) 47 h=some (.obj 86):=k8 S rfl;have ks:=bH (n:=n) R ht;have so:=JI (n:=n+2) S (m:=42) rfl rfl;have ek:kn ts t=26↔t=.nm 29:=jU R.tb ht (by decide) rfl;rw[CS]
 by_cases q:t=.nm 29
 ·have OI:=ek.mpr q;have d:decide (t=.nm 29)=true:=UT q;have us:run aY (n+2) 40 [.obj 8,kv ts t] h=some (.int W.zE,h):=by
   rw[jS];have g:fW aA (.obj 86) (kv ts t) (kv ts t) h=some (.int W.zE):=by rw[cw S.Dl rfl,kv,OI];rfl
   with_reducible repeat' first|exists[ag,aa,af,bO,aK,ao,ah,ai,aL,bS,au,aw],[aO,dS,cw],ae,un,S.Dl,g,aN rfl|apply cD
  have s3:bk t=3:=by rw[q];rfl
  have e1:decide (V.int (bk t)=V.int 3)=true:=by rw[s3];rfl
  have e2:(!decide (V.int W.zE=kv ts t))=true:=by
   rw[US];rfl;intro e;have:=V.int.inj e;rcases S.zE with u|u|u<;>rw[u,OI] at this<;>exact absurd this (by decide)
  rw[d]
  with_reducible repeat' first|exists[ag,aa,af,bO,aK,ao,ah,ai,aL,bS,au,aw],[aO,dS,cw],ae,kt,ks,aN e1,so,us,congrArg V.bool e2,aN rfl|apply cD
 ·have OI:kn ts t≠26:=fun e=>q (ek.mp e);have d:decide (t=.nm 29)=false:=US q;have us:run aY (n+2) 40 [.obj 8,kv ts t] h=some (kv ts t,h):=by
   rw[jS];have g:fW aA (.obj 86) (kv ts t) (kv ts t) h=some (kv ts t):=by
    rw[cw S.Dl rfl,kv,aW,if_neg fun e=>OI (V.int.inj e).symm];rfl
   with_reducible repeat' first|exists[ag,aa,af,bO,aK,ao,ah,ai,aL,bS,au,aw],[aO,dS,cw],ae,un,S.Dl,g,aN rfl|apply cD
  have e2:(decide (V.int (bk t)=V.int 3)&&!decide (kv ts t=kv ts t))=false:=by rw[UT (rfl:kv ts t=kv ts t),Bool.not_true,Bool.and_false]
  rw[d]
  with_reducible repeat' first|exists[ag,aa,af,bO,aK,ao,ah,ai,bS,au,aw,b9],[aO,dS,cw],ae,kt,ks,so,us,congrArg V.bool e2,aN rfl|apply cD
theorem pY(S:Rs W h)(R:Rp h ts)(hs:s∈ts)(ht:t∈ts){c:V}(hc:OH c)(ns:2<=dz s/\dz s<=10):run aY (n+4) 65 [.obj 8,kv ts s,c,kv ts t] h=some (.bool (JQ (dz s) (dz t) c (decide (t=.nm 29))),h):=by
 have ks:kn ts s=dz s:=by rcases hV R.tb hs with ⟨_,_,e,_⟩|⟨e,_,_⟩<;>lia
 have Pn:kv ts s=.int (dz s):=by rw[kv,ks]
 rw[Pn,pJ];have key:∀ k:Nat,k<9->fW aA (.tab 4) (.int ((k:Int)+2)) (.tup []) []=some (.tup ((uO ((k:Int)+2)).map V.int)):=by decide
 have wd:fW aA (.tab 4) (.int (dz s)) (.tup []) h=some (.tup ((uO (dz s)).map V.int)):=by
  refine cX (Int.eq_ofNat_of_zero_le (show 0<=dz s - 2 by lia)) fun k hk=>?_;have:=key k (by lia);rw[show (k:Int)+2=dz s by lia] at this;exact this
 have wi:bg aA .isin (kv ts t) (.tup ((uO (dz s)).map V.int)) h=some ((uO (dz s)).contains (dz t)):=by
  rw[<-xA R.tb ht (uO (dz s)) (by
   unfold uO
   repeat' split
   all_goals decide)]
  exact xy _ _
 have fi:run aY (n+3) 61 [.int (dz s),c,kv ts t] h=some (.bool (nX (dz s) (dz t) c),h):=by
  have e:nX (dz s) (kn ts t) c=nX (dz s) (dz t) c:=by
   rcases hV R.tb ht with ⟨_,_,e,_⟩|⟨e1,e2,_⟩
   ·rw[e]
   ·have c1:jh.contains (kn ts t)=false:=by rw[xA R.tb ht jh (by decide),e1];rfl
    have c2:jh.contains (dz t)=false:=by rw[e1];rfl
    rcases hc with rfl|⟨v,rfl⟩
    ·rfl
    ·simp only[nX,c1,c2];rw[Lz R.tb ht (by decide)];rw[if_neg fun x=>Bool.noConfusion x.2,if_neg fun x=>Bool.noConfusion x.2]
  rw[<-e];exact xB hc
 have ie:=C8 (n:=n) S R ht;have co:xU (.tab 4) h=true:=rfl;cases q:((uO (dz s)).contains (dz t)||nX (dz s) (dz t) c) with
 | true=>
  have e:JQ (dz s) (dz t) c (decide (t=.nm 29))=true:=by unfold JQ;rw[q];rfl
  rw[e]
  with_reducible repeat' exists[ag,aa,af,ao,ah,ai,aI,bS,aj,ab,aq,au,aw,bz,b9],[aG,aF],ae,co,wd,wi,fi,aN q,aN rfl,aD rfl
 | false=>
  have e:JQ (dz s) (dz t) c (decide (t=.nm 29))=((!decide (V.int (dz s)=V.int 2))&&(decide (c≠.none)&&(decide (c=.int 0)&&decide (t=.nm 29)))):=by
   unfold JQ;rw[q,v_eq,decide_not];rfl
  have cn:bg aA .sH c .none h=some (decide (c≠.none)):=by
   rcases hc with rfl|⟨v,rfl⟩
   ·rfl
   ·have ne:V.int v≠.none:=fun e=>(by cases e);rw[UT ne];rfl
  have P9:bg aA .eq c (.int 0) h=some (decide (c=.int 0)):=yV (by rcases hc with rfl|⟨i,rfl⟩<;>rfl);rw[e]
  with_reducible repeat' exists[ag,aa,af,ao,ah,ai,aI,bS,aj,ab,aq,au,aw,bz,b9],[aG,aF],ae,co,wd,wi,fi,aD q,cn,P9,ie,aN rfl,aD rfl
end
theorem LB{s t:T}(st:s≠t)(ws:wf s=true)(wt:wf t=true){c:V}(hc:c∈consts):mD s t c=AW (aH s) (aH t) c:=by
 have k0:∀ s∈dD,∀ t∈dD,s≠t->∀ c∈consts,mD s t c=AW (aH s) (aH t) c:=by decide +kernel
 have k1:∀ n∈[15,99,61,11,14,12,13],zq n=none/\n≠29:=by decide
 have cmp:∀ {t:T},wf t=true->(∀ n,t≠.nm n)->aH t∈[15,99,61,11,14,12,13]:=fun {t} w nn=>by
  have o:=fu w;cases t with
  | nm n=>exact absurd rfl (nn n)
  | one n a=>
   simp only[okN,Bool.or_eq_true,beq_iff_eq] at o;show n∈[15,99,61,11,14,12,13];rcases o with (((rfl|rfl)|rfl)|rfl)|rfl<;>decide
  | two n a b=>
   simp only[okN,Bool.or_eq_true,beq_iff_eq] at o;show n∈[15,99,61,11,14,12,13];rcases o with rfl|rfl<;>decide
 have pn:∀ {t:T},(∀ n,t≠.nm n)->dz t=100:=fun {t} nn=>by
  cases t with
  | nm n=>exact absurd rfl (nn n)
  | one n a=>rfl
  | two n a b=>rfl
 by_cases q1:∀ n,s≠.nm n
 ·have e1:AW (aH s) (aH t) c=false:=by unfold AW;rw[(k1 _ (cmp ws q1)).1]
  rw[e1,mD,pn q1];rfl
 ·by_cases q2:∀ n,t≠.nm n
  ·refine bY (k1 _ (cmp wt q2)) fun a1 a2=>?_;have e1:AW (aH s) (aH t) c=false:=by
    unfold AW;rw[a1];cases zq (aH s) with
    | none=>rfl
    | some p=>simp only[a2,if_false]
   have ne:decide (t=.nm 29)=false:=US (q2 _);have w:∀ i:Int,(uO i).contains 100=false:=fun i=>by
    unfold uO
    repeat' split
    all_goals rfl
   have f:∀ i:Int,nX i 100 c=false:=fun i=>by
    rcases xw hc with rfl|⟨v,rfl⟩
    ·rfl
    ·have:jh.contains 100=false:=rfl;have z:¬ (i=7/\jh.contains 100=true):=fun x=>by rw[this] at x;cases x.2
     show (if i=7/\jh.contains 100=true then _ else _)=false;rw[if_neg z];simp
   rw[e1,mD,pn q2,ne,JQ,w,f];simp
  ·simp only[Classical.not_forall,Classical.not_not] at q1 q2
   (refine cX q1 fun k y2_1=>?_;obtain rfl:=y2_1)
   (refine cX q2 fun j y3_1=>?_;obtain rfl:=y3_1)
   exact k0 _ (dE ws) _ (dE wt) st c hc
end
section
section
variable{W:Wd}{h h':Hp}{ts pend:List T}{t s u v:T}{n:Nat}{a:Int}
theorem St.put(S:St W h ts pend a)(N:GQ ts t)(new:t∉ts)(R':Rp h' (ts++[t]))(f:Fr lH h h')(np:∀ u∈pend,u∈ts):St W h' (ts++[t]) (t::pend) a where
 rp:=R'
 rs:=S.rs.fr f fun i x=>.inl (by
  have key:∀ i∈lH,i<8:=by decide
  exact key i x)
 sk:=f 82 _ (by decide) S.sk
 fs:=by
  refine nY S.fs fun fs zc fp fl fr=>?_;refine ⟨fs,f 10 _ (by decide) zc,fun u hu=>?_,⟨fl.1,fun k hk=>by
   refine aM (List.mem_map.mp (fl.2 k hk)) fun i hi e=>?_;exact List.mem_map.mpr ⟨i,by rw[List.mem_range] at hi⊢;rw[UN];lia,e⟩⟩,fun i hi=>fr i (by rw[UN,List.length_singleton] at hi;lia)⟩
  rcases UR hu with q|q
  ·have ne:u≠t:=fun e=>new (e▸q);have p:=fp u q;rw[kv,dT q];rw[kv] at p;rw[p]
   by_cases z:u∈pend
   ·rw[if_pos z,if_pos (.tail _ z)];rfl
   ·rw[if_neg z,if_neg fun x=>(UO x).elim ne z,xa (S.oh u q z)]
  ·rw[UL q,if_pos (.head _),kv,AG new,fr _ (Int.le_refl _)];rfl
 oh:=fun u hu nu w hw=>by
  rcases UR hu with q|q
  ·exact UP _ (S.oh u q (fun z=>nu (.tail _ z)) w hw)
  ·exact absurd (UL q▸.head _) nu
 gd:=fun u hu=>by
  rcases UR hu with q|q
  ·exact S.gd u q
  ·rw[UL q];exact ⟨N.st,fun b e=>by have:=N.bx (by rw[e];rfl);rw[e] at this;exact this⟩
theorem St.Gp(S:St W h ts (t::pend) a)(e:ez W t=[])(np:t∉pend):St W h ts pend a where
 rp:=S.rp
 rs:=S.rs
 sk:=S.sk
 fs:=by
  refine dj S.fs fun fs zc fp fl=>?_;refine ⟨fs,zc,fun u hu=>?_,fl⟩;have p:=fp u hu
  by_cases z:u∈pend
  ·rw[if_pos z];rw[if_pos (.tail _ z)] at p;exact p
  ·rw[if_neg z]
   by_cases q:u=t
   ·rw[q] at p⊢;rw[if_pos (.head _)] at p;rw[e];exact p
   ·rw[if_neg fun x=>(UO x).elim q z] at p;exact p
 oh:=fun u hu nu=>by
  by_cases q:u=t
  ·rw[q,e];intro w hw;cases hw
  ·exact S.oh u hu fun x=>(UO x).elim q nu
 gd:=S.gd
theorem N5(S:St W h ts [] a)(hv:v∈ts)(iv:isVal v=true)(hh:ht v<=6)(hl:ts.length<9000):∃ r h',run aY (n+7) 15 [.obj 2,kv ts v] h=some (kv (ts++r) (.one 99 v),h')/\St W h' (ts++r) [] a/\.one 99 v∈ts++r/\Fr lH h h'/\r.length<=1:=by
 have N:GQ ts (.one 99 v):=⟨rfl,(by decide:(8:Int)≠1),fun b hb=>by rw[UL hb];exact hv,fun z=>absurd rfl z,fun _=>iv,by simp only[ht];lia⟩;refine sF (BE (n:=n) S.rp N hl) fun r h' e R' m f o=>?_;refine ⟨r,h',xe S.rp e,?_,m,f,?_⟩
 ·rcases o with ⟨q,rfl⟩|⟨q,rfl⟩
  ·rw[List.append_nil] at R'⊢;exact ⟨R',S.rs.fr f fun i x=>.inl ((by decide:∀ i∈lH,i<8) i x),f 82 _ (by decide) S.sk,by refine aM S.fs fun fs zc p=>?_;exact ⟨fs,f 10 _ (by decide) zc,p⟩,S.oh,S.gd⟩
  ·exact (S.put N q R' f fun u hu=>by cases hu).Gp rfl List.not_mem_nil
 ·rcases o with ⟨q,rfl⟩|⟨q,rfl⟩
  ·exact Nat.zero_le _
  ·exact Nat.le_refl _
end
noncomputable def rR:List Nat:=[0,1,2,3,4,5,6,7,8,9,10]
noncomputable def valN:List Nat:=[16,17,18,19,20,21,22,23,24,25,26,28,29]
noncomputable def isNm(l:List Nat):T->Bool
 | .nm n=>l.contains n
 | _=>false
noncomputable def dr:T->Bool
 | .nm n=>rR.contains n||(valN.contains n||n==27)
 | .one n a=>if n=61 then isNm valN a else [15,11,14].contains n&&dr a
 | .two n a b=>[12,13].contains n&&(dr a&&dr b)
theorem JR{n:Nat}(h:dr (.nm n)=true):T.nm n∈dD/\n≠59/\n≠60:=by
 have key:∀ n∈rR++(valN++[27]),T.nm n∈dD/\n≠59/\n≠60:=by decide
 refine key n ?_;simp only[dr,Bool.or_eq_true,List.contains_iff_mem,beq_iff_eq] at h;simp only[List.mem_append,List.mem_singleton];exact h
theorem AX{a:T}(h:isNm valN a=true):∃ k,a=.nm k/\k∈valN:=by
 cases a with
 | nm k=>exact ⟨k,rfl,List.contains_iff_mem.mp h⟩
 | one k a=>cases h
 | two k a b=>cases h
theorem iS:∀ {t:T},dr t=true->wf t=true
 | .nm n,h=>UT (JR h).1
 | .one n a,h=>by
  by_cases q:n=61
  ·subst q;have h:isNm valN a=true:=h
   (refine aM (AX h) fun k y5_1 hk=>?_;obtain rfl:=y5_1)
   have key:∀ k∈valN,wf (.one 61 (.nm k))=true:=by decide
   exact key k hk
  ·simp only[dr,if_neg q,Bool.and_eq_true,List.contains_iff_mem] at h;have w:=iS h.2;have key:∀ n∈[15,11,14],okN (.one n ob)=true/\n≠99:=by decide
   refine bY (key n h.1) fun k1 k2=>?_;have k1:okN (.one n a)=true:=k1;simp[wf,k1,k2,w]
 | .two n a b,h=>by
  simp only[dr,Bool.and_eq_true,List.contains_iff_mem] at h;have w1:=iS h.2.1;have w2:=iS h.2.2;have key:∀ n∈[12,13],okN (.two n ob ob)=true:=by decide
  have k1:okN (.two n a b)=true:=key n h.1;simp[wf,k1,w1,w2]
theorem qC{t:T}(h:dr t=true)(o:isOpt t=true):∃ k,t=.one 61 (.nm k)/\k∈valN:=by
 refine bY (fm o) fun _ e=>?_;rw[e] at h;have h:isNm valN (el t)=true:=h;refine aM (AX h) fun k e2 hk=>?_;exact ⟨k,by rw[e,e2],hk⟩
section
variable(W:Wd)
noncomputable def dM(s t:T)(c:V):Int×Int:=if s=t∨s=.nm 27∨t=.nm 27 then (1,10) else if s=.nm 59 then (0,0) else if s=.nm 60 then (if dZ t then (2,8) else (0,0)) else if mD s t c then (2,1) else if (dZ t&&uk W (eX s) t)=true then (2,if dZ s then 2 else 4) else (0,0)
noncomputable def iy(s t:T)(c:V):Int×Int:=if isOpt t then (if s=t∨s=.nm 27 then (1,10) else if s=.nm 59 then (0,0) else if s=.nm 60 then (2,8) else if isOpt s then (if (dM W (el s) (el t) .none).1=0 then (0,0) else (2,9)) else if (dM W s (el t) c).1=0 then (0,0) else (2,6)) else dM W s t c
end
noncomputable def iD(p:Int×Int):V:=.tup [.int p.1,.int p.2]
theorem Gq(W:Wd)(s t:T)(c:V):(dM W s t c).1=0↔dM W s t c=(0,0):=by
 unfold dM
 split
 ·exact ⟨fun h=>(by cases h),fun h=>(by cases h)⟩
 ·split
  ·exact ⟨fun _=>rfl,fun _=>rfl⟩
  ·split
   ·split
    ·exact ⟨fun h=>(by cases h),fun h=>(by cases h)⟩
    ·exact ⟨fun _=>rfl,fun _=>rfl⟩
   ·split
    ·exact ⟨fun h=>(by cases h),fun h=>(by cases h)⟩
    ·split
     ·exact ⟨fun h=>(by cases h),fun h=>(by cases h)⟩
     ·exact ⟨fun _=>rfl,fun _=>rfl⟩
end
section
noncomputable def Mj(s:T):Prop:=dr s=true∨s=.nm 59∨s=.nm 60
theorem Gr{s:T}(h:Mj s):wf s=true:=by
 rcases h with h|rfl|rfl
 ·exact iS h
 ·decide
 ·decide
theorem sC{t:T}(h:dr t=true):(isRef t=true/\isVal t=false/\dZ t=true/\isOpt t=false)∨(isRef t=false/\isVal t=true/\dZ t=false)∨t=.nm 27:=by
 cases t with
 | nm n=>
  have k1:∀ n∈rR,isRef (.nm n)=true/\isVal (.nm n)=false/\dZ (.nm n)=true:=by decide +kernel
  have k2:∀ n∈valN,isRef (.nm n)=false/\isVal (.nm n)=true/\dZ (.nm n)=false:=by decide +kernel
  simp only[dr,Bool.or_eq_true,List.contains_iff_mem,beq_iff_eq] at h;rcases h with h|h|h
  ·refine fU (k1 n h) fun a b c=>?_;exact .inl ⟨a,b,c,rfl⟩
  ·exact .inr (.inl (k2 n h))
  ·exact .inr (.inr (by rw[h]))
 | one n a=>
  by_cases q:n=61
  ·subst q;exact .inr (.inl ⟨rfl,rfl,rfl⟩)
  ·simp only[dr,if_neg q,Bool.and_eq_true,List.contains_iff_mem] at h;have key:∀ n∈[15,11,14],isRef (.one n ob)=true/\isVal (.one n ob)=false/\dZ (.one n ob)=true:=by decide
   refine fU (key n h.1) fun a1 a2 a3=>?_;refine .inl ⟨a1,a2,a3,?_⟩;show (n==61)=false;rw[beq_eq_false_iff_ne];exact q
 | two n a b=>
  simp only[dr,Bool.and_eq_true,List.contains_iff_mem] at h;have key:∀ n∈[12,13],isRef (.two n ob ob)=true/\isVal (.two n ob ob)=false/\dZ (.two n ob ob)=true:=by decide
  refine fU (key n h.1) fun a1 a2 a3=>?_;exact .inl ⟨a1,a2,a3,rfl⟩
theorem zt{t:T}(h:dr t=true):t≠.nm 59/\t≠.nm 60/\bk t≠8:=by
 refine ⟨fun e=>?_,fun e=>?_,?_⟩
 ·subst e;exact absurd h (by decide)
 ·subst e;exact absurd h (by decide)
 ·exact AL (uo (iS h))
theorem LC{W:Wd}{v t:T}(hv:dZ v=false)(ht:dZ t=true)(nb:∀ a,v≠.one 99 a)(tb:∀ a,t≠.one 99 a):Is W (.one 99 v) t↔Is W v t:=by
 have oX:∀ {z},z∈gy W v↔z∈cW W v:=fun {z}=>by
  cases v with
  | one n a=>have:gy W (.one n a)=cW W (.one n a):=if_neg fun e=>nb a (by rw[e]);rw[this]
  | nm n=>exact Iff.rfl
  | two n a b=>exact Iff.rfl
 have nn:aH v≠aH t:=fun e=>by unfold dZ at hv ht;rw[e,ht] at hv;cases hv
 constructor
 ·intro h;cases h with
  | refl=>exact absurd rfl (tb v)
  | one n a=>exact absurd rfl (tb _)
  | over hz i=>exact .over (oX.mpr hz) i
 ·intro h;cases h with
  | refl=>exact absurd rfl nn
  | arr=>exact absurd rfl nn
  | one n a=>exact absurd rfl nn
  | two a b=>exact absurd rfl nn
  | over hz i=>exact .over (z:=_) (show _∈cW W v from oX.mp hz) i
section
variable{W:Wd}{h h':Hp}{ts pend:List T}{t s u v:T}{n:Nat}{a:Int}
theorem JS(R:Rp h ts)(hs:s∈ts)(ht:t∈ts):(decide (kv ts s=kv ts t)||(decide (kv ts s=V.int 15)||decide (kv ts t=V.int 15)))=decide (s=t∨s=.nm 27∨t=.nm 27):=by
 have e1:kn ts s=15↔s=.nm 27:=jU R.tb hs (by decide) rfl;have e2:kn ts t=15↔t=.nm 27:=jU R.tb ht (by decide) rfl;rw[v_eq,v_eq,v_eq,Bool.eq_iff_iff];simp only[Bool.or_eq_true,decide_eq_true_iff,eW hs ht,e1,e2]
theorem xC(S:St W h ts [] a)(hs:s∈ts)(ht:t∈ts)(ds:Mj s)(dt:dr t=true)(no:isOpt t=false){c:V}(hc:c∈consts)(h1:hr s<=3)(h2:hr t<=3)(hl:ts.length<9000) :
  ∃ r h',run aY (n+15) 62 [.obj 8,kv ts s,c,kv ts t] h=some (iD (dM W s t c),h')/\St W h' (ts++r) [] a/\Fr lH h h'/\r.length<=1:=by
 have R:=S.rp;have kt:cC (.obj 8) 38 h=some (.obj 2):=k8 S.rs rfl;refine fU (zt dt) fun nv nn nb=>?_;have hG:∀ {x:V},run aY (n+15) 62 [.obj 8,kv ts s,c,kv ts t] h=some (x,h)->∀ {p:Int×Int},x=iD p->dM W s t c=p->∃ r h',run aY (n+15) 62 [.obj 8,kv ts s,c,kv ts t] h=some (iD (dM W s t c),h')/\St W h' (ts++r) [] a/\Fr lH h h'/\r.length<=1:=fun {x} e {p} ex ew=>
  ⟨[],h,by rw[e,ex,ew],by rw[List.append_nil];exact S,Fr.rfl',Nat.zero_le _⟩
 have d1:=JS R hs ht
 by_cases q1:s=t∨s=.nm 27∨t=.nm 27
 ·rw[UT q1] at d1;refine hG (x:=iD (1,10)) ?_ rfl (if_pos q1);rw[bR]
  with_reducible repeat' exists[ag,aa,af,aK,ao,ah,ai,aI,aZ,aP,aj,ab,av,aq,au,aw,bz],[aG,aF,aO,aT,bC,aS],ae,kt,aN d1,aN rfl,aD rfl,cR,cH,dO,iB
 rw[US q1] at d1;have w1:dM W s t c=if s=.nm 59 then (0,0) else if s=.nm 60 then (if dZ t then (2,8) else (0,0)) else if mD s t c then (2,1) else if (dZ t&&uk W (eX s) t)=true then (2,if dZ s then 2 else 4) else (0,0):=if_neg q1;have f0:=mC R ht (u:=.nm 59) (by decide) (i:=0) rfl nv;have Qa:=mC R ht (u:=.nm 60) (by decide) (i:=14) rfl nn
 by_cases q2:s=.nm 59
 ·have d2:(decide (kv ts s=V.int 0)||(decide (kv ts t=V.int 0)||decide (kv ts t=V.int 14)))=true:=by
   rw[UT (show kv ts s=V.int 0 by rw[kv,(jU R.tb hs (u:=.nm 59) (i:=0) (by decide) rfl).mpr q2])];rfl
  refine hG (x:=iD (0,0)) ?_ rfl (by rw[w1,if_pos q2]);rw[bR]
  with_reducible repeat' exists[ag,aa,af,aK,ao,ah,ai,aI,aZ,aP,aj,ab,av,aq,au,aw,bz],[aG,aF,aO,aT,bC,aS],ae,kt,aD d1,aN d2,aN rfl,aD rfl,cR,cH,dO,iB
 have d2:(decide (kv ts s=V.int 0)||(decide (kv ts t=V.int 0)||decide (kv ts t=V.int 14)))=false:=by
  rw[f0,Qa,mC R hs (u:=.nm 59) (by decide) (i:=0) rfl q2];rfl
 have rt:=fj (n:=n+12) R ht
 by_cases q3:s=.nm 60
 ·have d3:decide (kv ts s=V.int 14)=true:=UT (by rw[kv,(jU R.tb hs (u:=.nm 60) (i:=14) (by decide) rfl).mpr q3]);have rt:=fj (n:=n+11) R ht;have nl:=gK (n:=n+10) R ht;have vt:=dK (n:=n+11) R ht;rw[no] at nl;have im:run aY (n+14) 63 [.obj 8,kv ts t] h=some (iD (if dZ t then (2,8) else (0,0)),h):=by
   rw[lu];cases q:isRef t with
   | true=>
    have e:dZ t=true:=by
     rcases sC dt with x|x|x
     ·exact x.2.2.1
     ·rw[x.1] at q;cases q
     ·subst x;exact absurd q (by decide)
    rw[q] at rt;rw[e,if_pos (Eq.refl true)]
    with_reducible repeat' exists[ag,aa,af,aK,ao,ah,ai,aL,aI,aZ,aP,aj,ab,av,aq,au,aw],[aG,aF,aO,aT,bC,aS],ae,kt,rt,aN rfl,aD rfl,cR,cH,dO,iB
   | false=>
    have e:dZ t=false:=by
     rcases sC dt with x|x|x
     ·rw[x.1] at q;cases q
     ·exact x.2.2
     ·subst x;decide
    rw[q] at rt;rw[e,if_neg Bool.false_ne_true]
    with_reducible repeat' exists[ag,aa,af,aK,ao,ah,ai,aL,aI,aZ,aP,aj,ab,av,aq,au,aw],[aG,aF,aO,aT,bC,aS],ae,kt,rt,nl,vt,aN rfl,aD rfl,cR,cH,dO,iB
  refine hG (x:=iD (if dZ t then (2,8) else (0,0))) ?_ rfl (by rw[w1,if_neg q2,if_pos q3]);rw[bR]
  with_reducible repeat' exists[ag,aa,af,aK,ao,ah,ai,aI,aZ,aP,aj,ab,av,aq,au,aw,bz],[aG,aF,aO,aT,bC,aS],ae,kt,aD d1,aD d2,aN d3,im,aN rfl,aD rfl,cR,cH,dO,iB
 have d3:=mC R hs (u:=.nm 60) (by decide) (i:=14) rfl q3;have GW:dr s=true:=ds.resolve_right fun x=>x.elim q2 q3;have w2:dM W s t c=if mD s t c then (2,1) else if (dZ t&&uk W (eX s) t)=true then (2,if dZ s then 2 else 4) else (0,0):=by rw[w1,if_neg q2,if_neg q3]
 have ni:=eG (n:=n+10) R ht;rw[no,if_neg Bool.false_ne_true] at ni;have N6:=zr (n:=n+13) (h:=h) (i:=kn ts s);have en:(decide (2<=kn ts s)&&decide (kn ts s<=10))=(decide (2<=dz s)&&decide (dz s<=10)):=by
  rcases hV R.tb hs with ⟨_,_,e,_⟩|⟨e1,e2,_⟩
  ·rw[e]
  ·rw[e1,Bool.eq_iff_iff];simp only[Bool.and_eq_true,decide_eq_true_iff];omega
 rw[en] at N6;have T4:ba (pg (n+14)) (.aV true [.call 24 [.loc 1],.call 65 [.loc 0,.loc 1,.loc 2,.loc 3]]) [some (.obj 8),some (kv ts s),some c,some (kv ts t),some (.obj 2),some (.int (-1)),none] h=some (.bool (mD s t c),h):=by
  cases q:(decide (2<=dz s)&&decide (dz s<=10)) with
  | true=>
   have z:=q;rw[Bool.and_eq_true,decide_eq_true_iff,decide_eq_true_iff] at z;have im:=pY (n:=n+10) S.rs R hs ht (xw hc) z;have e:mD s t c=JQ (dz s) (dz t) c (decide (t=.nm 29)):=by unfold mD;rw[q];rfl
   rw[q] at N6;rw[e]
   with_reducible repeat' exists[ag,aa,af,aK,ao,ah,ai,aL,aI,aZ,aP,aj,ab,av,aq,au,aw],[aG,aF,aO,aT,bC,aS],ae,N6,im,aN rfl,aD rfl,cR,cH,dO,iB
  | false=>
   have e:mD s t c=false:=by unfold mD;rw[q];rfl
   rw[q] at N6;rw[e]
   with_reducible repeat' exists[ag,aa,af,aK,ao,ah,ai,aL,aI,aZ,aP,aj,ab,av,aq,au,aw],[aG,aF,aO,aT,bC,aS],ae,N6,aN rfl,aD rfl,cR,cH,dO,iB
 cases q4:mD s t c with
 | true=>
  rw[q4] at T4;refine hG (x:=iD (2,1)) ?_ rfl (by rw[w2,q4];rfl);rw[bR]
  with_reducible repeat' first|exact T4|exists[ag,aa,af,aK,ao,ah,ai,aI,aZ,aP,aj,ab,av,aq,au,aw,bz],[aG,aF,aO,aT,bC,aS],ae,kt,aD d1,aD d2,aD d3,ni,aN rfl,aD rfl,cR,cH,dO,iB
 | false=>
 rw[q4] at T4;have w3:dM W s t c=if (dZ t&&uk W (eX s) t)=true then (2,if dZ s then 2 else 4) else (0,0):=by rw[w2,q4];rfl
 have vs:=dK (n:=n+12) R hs;rcases sC dt with ⟨x1,x2,x3,x4⟩|⟨x1,x2,x3⟩|x
 rotate_left
 ·
  rw[x1] at rt;have e:(!false)=true:=rfl;refine hG (x:=iD (0,0)) ?_ rfl (by rw[w3,x3];rfl);rw[bR]
  with_reducible repeat' first|exact T4|exists[ag,aa,af,aK,ao,ah,ai,aI,aZ,aP,aj,ab,av,aq,au,aw,bz],[aG,aF,aO,aT,bC,aS],ae,kt,aD d1,aD d2,aD d3,ni,vs,rt,aN e,aN rfl,aD rfl,cR,cH,dO,iB
 ·exact absurd (.inr (.inr x)) q1
 rw[x1] at rt;have e:(!true)=false:=rfl;have iv:=kB (n:=n+12) R hs;rw[x3,Bool.true_and] at w3;rcases sC GW with ⟨y1,y2,y3,y4⟩|⟨y1,y2,y3⟩|y
 ·
  rw[y2] at iv;refine aM (zo (n:=n) S hs ht y1 q3 x1 nn nb (by show max (hr s) (hr t)<=3;omega)) fun h' so f=>?_;have ec:eX s=s:=by rw[eX,y4];rfl
  rw[ec,y3] at w3;refine ⟨[],h',?_,by rw[List.append_nil];exact S.pure f,f.nil,Nat.zero_le _⟩;rw[w3,bR];cases r:uk W s t with
  | true=>
   rw[r] at so;show _=some (V.tup [.int 2,.int 2],h')
   with_reducible repeat' first|exact T4|exists[ag,aa,af,aK,ao,ah,ai,aI,aZ,aP,aj,ab,av,aq,au,aw,bz],[aG,aF,aO,aT,bC,aS],ae,kt,aD d1,aD d2,aD d3,ni,vs,rt,aD e,iv,so,aN rfl,aD rfl,cR,cH,dO,iB
  | false=>
   rw[r] at so;show _=some (V.tup [.int 0,.int 0],h')
   with_reducible repeat' first|exact T4|exists[ag,aa,af,aK,ao,ah,ai,aI,aZ,aP,aj,ab,av,aq,au,aw,bz],[aG,aF,aO,aT,bC,aS],ae,kt,aD d1,aD d2,aD d3,ni,vs,rt,aD e,iv,so,aN rfl,aD rfl,cR,cH,dO,iB
 ·
  rw[y2] at iv;rw[y3] at w3;have cp:=kC (n:=n+9) R hs;have cin:eX s∈ts:=by
   unfold eX;split
   ·rename_i o
    refine aM (qC GW o) fun k e _=>?_;rw[e] at hs⊢;exact R.tb.args _ hs _ (.head _)
   ·exact hs
  have cv:isRef (eX s)=false/\isVal (eX s)=true/\dZ (eX s)=false/\Mine.ht (eX s)<=6/\hr (eX s)<=2/\∀ a,eX s≠.one 99 a:=by
   unfold eX;split
   ·rename_i o
    refine aM (qC GW o) fun k e hk=>?_;have key:∀ k∈valN,isRef (.nm k)=false/\isVal (.nm k)=true/\dZ (.nm k)=false:=by decide +kernel
    rw[e];refine fU (key k hk) fun a1 a2 a3=>?_;exact ⟨a1,a2,a3,(by decide:1<=6),(by decide:1<=2),fun a e=>by cases e⟩
   ·rename_i o
    have nm:∃ k,s=.nm k:=by
     cases s with
     | nm k=>exact ⟨k,rfl⟩
     | one k b=>
      by_cases z:k=61
      ·subst z;exact absurd rfl o
      ·simp only[dr,if_neg z,Bool.and_eq_true,List.contains_iff_mem] at GW;have key:∀ n∈[15,11,14],isVal (.one n ob)=false:=by decide
       have:isVal (.one k b)=false:=key k GW.1;rw[this] at y2;cases y2
     | two k b d=>have:isVal (.two k b d)=false:=rfl;rw[this] at y2;cases y2
    (refine cX nm fun k y8_1=>?_;obtain rfl:=y8_1)
    exact ⟨y1,y2,y3,(by decide:1<=6),(by decide:1<=2),fun a e=>by cases e⟩
  refine Dm cv fun c1 c2 c3 c4 c5 c6=>?_;have rc:=fj (n:=n+12) R cin;rw[c1] at rc;refine sF (N5 (n:=n+7) S cin c2 c4 hl) fun r hA bx SA mb fA rl=>?_;have TJ:t∈ts++r:=UP _ ht;have hb:hr (.one 99 (eX s))<=3:=by
   have:hr (.one 99 (eX s))=hr (eX s)+1:=rfl
   omega
  refine aM (zo (n:=n) SA mb TJ rfl (fun e=>by cases e) x1 nn nb (by show max (hr (.one 99 (eX s))) (hr t)<=3;omega)) fun hB so fB=>?_;have ke:kv (ts++r) t=kv ts t:=by rw[kv,dT ht]
  rw[ke] at so;have ei:uk W (.one 99 (eX s)) t=uk W (eX s) t:=by rw[Bool.eq_iff_iff,kE,kE,LC c3 x3 c6 (uo (iS dt))]
  rw[ei] at so;refine ⟨r,hB,?_,SA.pure fB,fA.trans fB.nil,rl⟩;rw[w3,bR];cases z:uk W (eX s) t with
  | true=>
   rw[z] at so;show _=some (V.tup [.int 2,.int 4],hB)
   with_reducible repeat' first|exact T4|exists[ag,aa,af,aK,ao,ah,ai,aI,aZ,aP,aj,ab,av,aq,au,aw,bz],[aG,aF,aO,aT,bC,aS],ae,kt,aD d1,aD d2,aD d3,ni,vs,rt,aD e,iv,cp,rc,bx,so,aN rfl,aD rfl,cR,cH,dO,iB
  | false=>
   rw[z] at so;show _=some (V.tup [.int 0,.int 0],hB)
   with_reducible repeat' first|exact T4|exists[ag,aa,af,aK,ao,ah,ai,aI,aZ,aP,aj,ab,av,aq,au,aw,bz],[aG,aF,aO,aT,bC,aS],ae,kt,aD d1,aD d2,aD d3,ni,vs,rt,aD e,iv,cp,rc,bx,so,aN rfl,aD rfl,cR,cH,dO,iB
 ·exact absurd (.inr (.inl y)) q1
end
end
section
noncomputable def uw(i:Int):List Int:=if i=3 then [4,6,8,10] else if i=5 then [6,8,10] else if i=7 then [8,10] else if i=9 then [10] else []
noncomputable def AY(x y:T):Bool:=(uw (dz (eX x))).contains (dz (eX y))
noncomputable def ju(W:Wd)(x y:T):Bool:=decide ((iy W x y .none).1≠0)
noncomputable def uP(W:Wd)(s x y:T):Int:=if x=y then 0 else if s=x then -1 else if s=y then 1 else if ju W x y≠ju W y x then (if ju W x y then -1 else 1) else if AY x y then -1 else if AY y x then 1 else 0
theorem fv:V.none∈consts:=.head _
section
variable{W:Wd}{h h':Hp}{ts pend:List T}{t s u v x y:T}{n:Nat}{a:Int}
theorem IW(r:isRef s=true)(c:V):mD s t c=false:=by
 have e:(decide (2<=dz s)&&decide (dz s<=10))=false:=by
  rw[Bool.eq_false_iff];intro z;rw[Bool.and_eq_true,decide_eq_true_iff,decide_eq_true_iff] at z;cases s with
  | nm k=>
   by_cases p:kz k=true
   ·have m:=(y8 k p).1;have key:∀ u∈dD,isRef u=true->¬ (2<=dz u/\dz u<=10):=by decide +kernel
    exact key _ m r z
   ·have:dz (.nm k)=100:=if_neg p;lia
  | one k b=>have:dz (.one k b)=100:=rfl;lia
  | two k b c=>have:dz (.two k b c)=100:=rfl;lia
 unfold mD;rw[e];rfl
theorem kH(S:St W h ts [] a)(hs:s∈ts)(hT:t∈ts)(ds:Mj s)(dt:dr t=true){c:V}(hc:c∈consts)(h1:hr s<=3)(h2:hr t<=3)(hl:ts.length<9000) :
  ∃ r h',run aY (n+18) 62 [.obj 8,kv ts s,c,kv ts t] h=some (iD (iy W s t c),h')/\St W h' (ts++r) [] a/\Fr lH h h'/\r.length<=1:=by
 cases no:isOpt t with
 | false=>
  have e:iy W s t c=dM W s t c:=by unfold iy;rw[no];rfl
  rw[e];exact xC (n:=n+3) S hs hT ds dt no hc h1 h2 hl
 | true=>
  refine aM (qC dt no) fun k et hk=>?_;have R:=S.rp;have kt:cC (.obj 8) 38 h=some (.obj 2):=k8 S.rs rfl;refine fU (zt dt) fun nv nn nb=>?_;have hG:∀ {x:V},run aY (n+18) 62 [.obj 8,kv ts s,c,kv ts t] h=some (x,h)->∀ {p:Int×Int},x=iD p->iy W s t c=p->∃ r h',run aY (n+18) 62 [.obj 8,kv ts s,c,kv ts t] h=some (iD (iy W s t c),h')/\St W h' (ts++r) [] a/\Fr lH h h'/\r.length<=1:=fun {x} e {p} ex ew=>
   ⟨[],h,by rw[e,ex,ew],by rw[List.append_nil];exact S,Fr.rfl',Nat.zero_le _⟩
  have d1:=JS R hs hT;have tb:t≠.nm 27:=fun e=>by rw[e] at no;cases no
  have w0:iy W s t c=if s=t∨s=.nm 27 then (1,10) else if s=.nm 59 then (0,0) else if s=.nm 60 then (2,8) else if isOpt s then (if (dM W (el s) (el t) .none).1=0 then (0,0) else (2,9)) else if (dM W s (el t) c).1=0 then (0,0) else (2,6):=by unfold iy;rw[no];rfl
  by_cases q1:s=t∨s=.nm 27
  ·have Qb:s=t∨s=.nm 27∨t=.nm 27:=q1.imp id .inl;rw[UT Qb] at d1;refine hG (x:=iD (1,10)) ?_ rfl (by rw[w0,if_pos q1]);rw[bR]
   with_reducible repeat' exists[ag,aa,af,aK,aB,ao,ah,ai,aI,aZ,aj,ab,av,aq,au,aw,bz],[aG,aF,aO,aT,aS],ae,kt,aN d1,aN rfl,aD rfl,cR,cH,dO
  have Qb:¬ (s=t∨s=.nm 27∨t=.nm 27):=fun z=>z.elim (fun e=>q1 (.inl e)) fun z=>z.elim (fun e=>q1 (.inr e)) tb;rw[US Qb] at d1;rw[if_neg q1] at w0;have f0:=mC R hT (u:=.nm 59) (by decide) (i:=0) rfl nv;have Qa:=mC R hT (u:=.nm 60) (by decide) (i:=14) rfl nn
  by_cases q2:s=.nm 59
  ·have d2:(decide (kv ts s=V.int 0)||(decide (kv ts t=V.int 0)||decide (kv ts t=V.int 14)))=true:=by
    rw[UT (show kv ts s=V.int 0 by rw[kv,(jU R.tb hs (u:=.nm 59) (i:=0) (by decide) rfl).mpr q2])];rfl
   refine hG (x:=iD (0,0)) ?_ rfl (by rw[w0,if_pos q2]);rw[bR]
   with_reducible repeat' exists[ag,aa,af,aK,aB,ao,ah,ai,aI,aZ,aj,ab,av,aq,au,aw,bz],[aG,aF,aO,aT,aS],ae,kt,aD d1,aN d2,aN rfl,aD rfl,cR,cH,dO
  have d2:(decide (kv ts s=V.int 0)||(decide (kv ts t=V.int 0)||decide (kv ts t=V.int 14)))=false:=by
   rw[f0,Qa,mC R hs (u:=.nm 59) (by decide) (i:=0) rfl q2];rfl
  rw[if_neg q2] at w0;have TK:isRef t=false:=by rw[et];rfl
  by_cases q3:s=.nm 60
  ·have d3:decide (kv ts s=V.int 14)=true:=UT (by rw[kv,(jU R.tb hs (u:=.nm 60) (i:=14) (by decide) rfl).mpr q3]);have rt:=fj (n:=n+14) R hT;have nl:=gK (n:=n+13) R hT;rw[no] at nl;rw[TK] at rt;have im:run aY (n+17) 63 [.obj 8,kv ts t] h=some (iD (2,8),h):=by
    rw[lu]
    with_reducible repeat' exists[ag,aa,af,aK,aB,ao,ah,ai,aL,aI,aZ,aj,ab,av,aq,au,aw],[aG,aF,aO,aT,aS],ae,kt,rt,nl,aN rfl,aD rfl,cR,cH,dO
   refine hG (x:=iD (2,8)) ?_ rfl (by rw[w0,if_pos q3]);rw[bR]
   with_reducible repeat' exists[ag,aa,af,aK,aB,ao,ah,ai,aI,aZ,aj,ab,av,aq,au,aw,bz],[aG,aF,aO,aT,aS],ae,kt,aD d1,aD d2,aN d3,im,aN rfl,aD rfl,cR,cH,dO
  have d3:=mC R hs (u:=.nm 60) (by decide) (i:=14) rfl q3;rw[if_neg q3] at w0;have GW:dr s=true:=ds.resolve_right fun x=>x.elim q2 q3;have ni:=eG (n:=n+13) R hT;rw[no,if_pos (Eq.refl true)] at ni;have Gs:el t=.nm k:=by rw[et];rfl
  have RD:el t∈ts:=by rw[Gs];rw[et] at hT;exact R.tb.args _ hT _ (.head _)
  have del:dr (el t)=true:=by
   have key:∀ k∈valN,dr (.nm k)=true:=by decide
   rw[Gs];exact key k hk
  have N7:isOpt (el t)=false:=by rw[Gs];rfl
  have N8:hr (el t)<=3:=by rw[Gs];exact (by decide:1<=3)
  have pos:∀ {u:T},decide (kn ts u>=0)=true:=fun {u}=>UT vo;have pt:=pos (u:=el t);have wrap:∀ {v:V} {hh:Hp},run aY (n+17) 64 [.obj 8,kv ts s,c,kv ts (el t)] h=some (v,hh)->run aY (n+18) 62 [.obj 8,kv ts s,c,kv ts t] h=some (v,hh):=fun {v hh} e=>by
   rw[bR]
   with_reducible repeat' exists[ag,aa,af,aK,aB,ao,ah,ai,aI,aZ,aj,ab,av,aq,au,aw,bz],[aG,aF,aO,aT,aS],ae,kt,aD d1,aD d2,aD d3,ni,aN pt,e,aN rfl,aD rfl,cR,cH,dO
  have LF:=eG (n:=n+12) R hs;cases os:isOpt s with
  | true=>
   rw[os,if_pos (Eq.refl true)] at LF;rw[os,if_pos (Eq.refl true)] at w0;refine aM (qC GW os) fun j es hj=>?_;have Mk:el s=.nm j:=by rw[es];rfl
   have TL:el s∈ts:=by rw[Mk];rw[es] at hs;exact R.tb.args _ hs _ (.head _)
   have Qc:dr (el s)=true:=by
    have key:∀ k∈valN,dr (.nm k)=true:=by decide
    rw[Mk];exact key j hj
   refine fH (xC (n:=n+1) S TL RD (.inl Qc) del N7 fv (by rw[Mk];exact (by decide:1<=3)) N8 hl) fun r h' e S' f rl=>?_;refine ⟨r,h',wrap ?_,S',f,rl⟩;have ps:=pos (u:=el s);have s0:bI aA (iD (dM W (el s) (el t) .none)) (.int 0) h'=some (.int (dM W (el s) (el t) .none).1):=t0;rw[w0,hP]
   by_cases z:(dM W (el s) (el t) .none).1=0
   ·rw[if_pos z];have d5:(!decide (V.int (dM W (el s) (el t) .none).1=V.int 0))=false:=by rw[z];rfl
    show _=some (V.tup [.int 0,.int 0],h')
    with_reducible repeat' exists[ag,aa,af,aK,aB,ao,ah,ai,aI,aZ,aj,ab,av,aq,au,aw,bz],[aG,aF,aO,aT,aS],ae,kt,LF,aN ps,e,s0,aD d5,aN rfl,aD rfl,cR,cH,dO
   ·rw[if_neg z];have d5:(!decide (V.int (dM W (el s) (el t) .none).1=V.int 0))=true:=by rw[US fun x=>z (V.int.inj x)];rfl
    show _=some (V.tup [.int 2,.int 9],h')
    with_reducible repeat' exists[ag,aa,af,aK,aB,ao,ah,ai,aI,aZ,aj,ab,av,aq,au,aw,bz],[aG,aF,aO,aT,aS],ae,kt,LF,aN ps,e,s0,aN d5,aN rfl,aD rfl,cR,cH,dO
  | false=>
   rw[os,if_neg Bool.false_ne_true] at LF;rw[os,if_neg Bool.false_ne_true] at w0;have rs:=fj (n:=n+14) R hs;cases z0:isRef s with
   | true=>
    rw[z0] at rs;have w1:iy W s t c=(0,0):=by
     rw[w0];have TM:s≠el t:=fun e=>by
      have key:∀ k∈valN,isRef (.nm k)=false:=by decide +kernel
      rw[e,Gs,key k hk] at z0;cases z0
     have TN:el t≠.nm 27:=fun e=>by
      have key:∀ k∈valN,k≠27:=by decide
      rw[Gs] at e;cases e;exact key _ hk rfl
     have iR:dZ (el t)=false:=by
      have key:∀ k∈valN,dZ (.nm k)=false:=by decide
      rw[Gs];exact key k hk
     have:dM W s (el t) c=(0,0):=by
      unfold dM;rw[if_neg fun z=>z.elim TM fun z=>z.elim (fun e=>q1 (.inr e)) TN,if_neg q2,if_neg q3,IW z0,iR];rfl
     rw[this];rfl
    have e:(!true)=false:=rfl;refine hG (x:=iD (0,0)) (wrap ?_) rfl w1;rw[hP]
    with_reducible repeat' exists[ag,aa,af,aK,aB,ao,ah,ai,aL,aI,aZ,aj,ab,av,aq,au,aw],[aG,aF,aO,aT,aS],ae,kt,LF,rs,aD e,aN rfl,aD rfl,cR,cH,dO
   | false=>
    rw[z0] at rs;refine fH (xC (n:=n+1) S hs RD ds del N7 hc h1 N8 hl) fun r h' e S' f rl=>?_;refine ⟨r,h',wrap ?_,S',f,rl⟩;have s0:bI aA (iD (dM W s (el t) c)) (.int 0) h'=some (.int (dM W s (el t) c).1):=t0;have e3:(!false)=true:=rfl;rw[w0,hP]
    by_cases z:(dM W s (el t) c).1=0
    ·rw[if_pos z];have d5:(!decide (V.int (dM W s (el t) c).1=V.int 0))=false:=by rw[z];rfl
     show _=some (V.tup [.int 0,.int 0],h')
     with_reducible repeat' exists[ag,aa,af,aK,aB,ao,ah,ai,aL,aI,aZ,aj,ab,av,aq,au,aw],[aG,aF,aO,aT,aS],ae,kt,LF,rs,aN e3,e,s0,aD d5,aN rfl,aD rfl,cR,cH,dO
    ·rw[if_neg z];have d5:(!decide (V.int (dM W s (el t) c).1=V.int 0))=true:=by rw[US fun x=>z (V.int.inj x)];rfl
     show _=some (V.tup [.int 2,.int 6],h')
     with_reducible repeat' exists[ag,aa,af,aK,aB,ao,ah,ai,aL,aI,aZ,aj,ab,av,aq,au,aw],[aG,aF,aO,aT,aS],ae,kt,LF,rs,aN e3,e,s0,aN d5,aN rfl,aD rfl,cR,cH,dO
theorem Gu(S:St W h ts [] a)(hx:x∈ts)(hy:y∈ts)(dx:dr x=true)(dy:dr y=true)(h1:hr x<=3)(h2:hr y<=3)(hl:ts.length<9000) :
  ∃ r h',run aY (n+19) 67 [.obj 8,kv ts x,.none,kv ts y] h=some (.bool (ju W x y),h')/\St W h' (ts++r) [] a/\Fr lH h h'/\r.length<=1:=by
 refine fH (kH (n:=n) S hx hy (.inl dx) dy fv h1 h2 hl) fun r h' e S' f rl=>?_;refine ⟨r,h',?_,S',f,rl⟩;have s0:bI aA (iD (iy W x y .none)) (.int 0) h'=some (.int (iy W x y .none).1):=t0;have g:V.bool (!decide (V.int (iy W x y .none).1=V.int 0))=.bool (ju W x y):=by rw[v_eq,ju,decide_not]
 rw[KX]
 with_reducible repeat' first|exists[ag,aa,af,aB,ao,au,aw],[],ae,e,s0,g|apply cD
theorem xD(R:Rp h ts)(hx:x∈ts):eX x∈ts:=by
 unfold eX;split
 ·rename_i o
  rw[(fm o).2] at hx;exact R.tb.args _ hx _ (.head _)
 ·exact hx
theorem zu(S:St W h ts [] a)(hs:s∈ts)(hx:x∈ts)(hy:y∈ts)(dx:dr x=true)(dy:dr y=true){c:V}(h1:hr x<=3)(h2:hr y<=3)(hl:ts.length+2<9000) :
  ∃ r h',run aY (n+20) 68 [.obj 8,kv ts s,c,kv ts x,kv ts y] h=some (.int (uP W s x y),h')/\St W h' (ts++r) [] a/\Fr lH h h'/\r.length<=2:=by
 have R:=S.rp;have hG:∀ {i:Int},run aY (n+20) 68 [.obj 8,kv ts s,c,kv ts x,kv ts y] h=some (.int i,h)->uP W s x y=i->∃ r h',run aY (n+20) 68 [.obj 8,kv ts s,c,kv ts x,kv ts y] h=some (.int (uP W s x y),h')/\St W h' (ts++r) [] a/\Fr lH h h'/\r.length<=2:=fun {i} e ew=>
  ⟨[],h,by rw[e,ew],by rw[List.append_nil];exact S,Fr.rfl',Nat.zero_le _⟩
 have Ml:∀ {u v:T},u∈ts->v∈ts->decide (kv ts u=kv ts v)=decide (u=v):=fun hu hv=>by rw[v_eq,Bool.eq_iff_iff,decide_eq_true_iff,decide_eq_true_iff,eW hu hv]
 by_cases q1:x=y
 ·have d:decide (kv ts x=kv ts y)=true:=by rw[Ml hx hy];exact UT q1
  refine hG (i:=0) ?_ (if_pos q1);rw[cY]
  with_reducible repeat' exists[ag,aa,af,aK,ao,aI,aP,bS,aj,ab,av,aq,au,aw],[aG,aF],ae,aN d,aN rfl,aD rfl,dO,iB,By,uM
 have d1:decide (kv ts x=kv ts y)=false:=by rw[Ml hx hy];exact US q1
 have w1:uP W s x y=if s=x then -1 else if s=y then 1 else if ju W x y≠ju W y x then (if ju W x y then -1 else 1) else if AY x y then -1 else if AY y x then 1 else 0:=if_neg q1
 by_cases q2:s=x
 ·have d:decide (kv ts s=kv ts x)=true:=by rw[Ml hs hx];exact UT q2
  refine hG (i:=-1) ?_ (by rw[w1,if_pos q2]);rw[cY]
  with_reducible repeat' exists[ag,aa,af,aK,ao,aI,aP,bS,aj,ab,av,aq,au,aw],[aG,aF],ae,aD d1,aN d,aN rfl,aD rfl,dO,iB,By,uM
 have d2:decide (kv ts s=kv ts x)=false:=by rw[Ml hs hx];exact US q2
 by_cases q3:s=y
 ·have d:decide (kv ts s=kv ts y)=true:=by rw[Ml hs hy];exact UT q3
  refine hG (i:=1) ?_ (by rw[w1,if_neg q2,if_pos q3]);rw[cY]
  with_reducible repeat' exists[ag,aa,af,aK,ao,aI,aP,bS,aj,ab,av,aq,au,aw],[aG,aF],ae,aD d1,aD d2,aN d,aN rfl,aD rfl,dO,iB,By,uM
 have d3:decide (kv ts s=kv ts y)=false:=by rw[Ml hs hy];exact US q3
 rw[if_neg q2,if_neg q3] at w1;refine fH (Gu (n:=n) S hx hy dx dy h1 h2 (by lia)) fun r1 hA eA SA fA lA=>?_;have zD:x∈ts++r1:=UP _ hx;have Qd:y∈ts++r1:=UP _ hy;refine fH (Gu (n:=n) SA Qd zD dy dx h2 h1 (by rw[UN];lia)) fun r2 hB eB SB fB lB=>?_;have kx:kv (ts++r1) x=kv ts x:=by rw[kv,dT hx]
 have ky:kv (ts++r1) y=kv ts y:=by rw[kv,dT hy]
 rw[kx,ky] at eB;have pack:∀ {i:Int},run aY (n+20) 68 [.obj 8,kv ts s,c,kv ts x,kv ts y] h=some (.int i,hB)->uP W s x y=i->∃ r h',run aY (n+20) 68 [.obj 8,kv ts s,c,kv ts x,kv ts y] h=some (.int (uP W s x y),h')/\St W h' (ts++r) [] a/\Fr lH h h'/\r.length<=2:=fun {i} e ew=>
  ⟨r1++r2,hB,by rw[e,ew],by rw[<-List.append_assoc];exact SB,fA.trans fB,by rw[UN];lia⟩
 have cg:bg aA .ne (.bool (ju W x y)) (.bool (ju W y x)) hB=some (!decide (V.bool (ju W x y)=V.bool (ju W y x))):=AD rfl;have eb:decide (V.bool (ju W x y)=V.bool (ju W y x))=decide (ju W x y=ju W y x):=by rw[Bool.eq_iff_iff,decide_eq_true_iff,decide_eq_true_iff,V.bool.injEq]
 by_cases q4:ju W x y≠ju W y x
 ·have d4:(!decide (V.bool (ju W x y)=V.bool (ju W y x)))=true:=by rw[eb,US q4];rfl
  rw[if_pos q4] at w1;cases g:ju W x y with
  | true=>
   rw[g] at w1 eA d4 cg;refine pack (i:=-1) ?_ w1;rw[cY]
   with_reducible repeat' exists[ag,aa,af,aK,ao,aI,aP,bS,aj,ab,av,aq,au,aw],[aG,aF],ae,aD d1,aD d2,aD d3,eA,eB,cg,aN d4,aN rfl,aD rfl,dO,iB,By,uM
  | false=>
   rw[g] at w1 eA d4 cg;refine pack (i:=1) ?_ w1;rw[cY]
   with_reducible repeat' exists[ag,aa,af,aK,ao,aI,aP,bS,aj,ab,av,aq,au,aw],[aG,aF],ae,aD d1,aD d2,aD d3,eA,eB,cg,aN d4,aN rfl,aD rfl,dO,iB,By,uM
 have d4:(!decide (V.bool (ju W x y)=V.bool (ju W y x)))=false:=by rw[eb,UT (Classical.not_not.mp q4)];rfl
 rw[if_neg q4] at w1;have RB:=SB.rp;have Qe:x∈ts++r1++r2:=UP _ zD;have Qf:y∈ts++r1++r2:=UP _ Qd;have kt:cC (.obj 8) 38 hB=some (.obj 2):=k8 SB.rs rfl;have TO:kv (ts++r1++r2) x=kv ts x:=by rw[kv,dT zD,dT hx]
 have TQ:kv (ts++r1++r2) y=kv ts y:=by rw[kv,dT Qd,dT hy]
 have cx:=kC (n:=n+14) RB Qe;have cy:=kC (n:=n+14) RB Qf;rw[TO] at cx;rw[TQ] at cy;have sg:∀ {u v:T},u∈ts++r1++r2->v∈ts++r1++r2->∃ l:List Int,fW aA (.tab 5) (kv (ts++r1++r2) u) (.tup []) hB=some (.tup (l.map V.int))/\bg aA .isin (kv (ts++r1++r2) v) (.tup (l.map V.int)) hB=some ((uw (dz u)).contains (dz v)):=fun {u v} hu hv=>by
  have key:∀ k:Nat,k<16->fW aA (.tab 5) (.int (k:Int)) (.tup []) []=some (.tup ((uw (k:Int)).map V.int)):=by decide
  have Qg:∀ i:Int,∀ x∈uw i,x<16:=fun i=>by
   unfold uw
   repeat' split
   all_goals decide
  rcases hV RB.tb hu with ⟨b1,b2,b3,_⟩|⟨b1,b2,_⟩
  ·refine cX (Int.eq_ofNat_of_zero_le b1) fun k hk=>?_;refine ⟨uw (dz u),?_,?_⟩
   ·rw[kv,b3,hk];exact key k (by lia)
   ·rw[<-xA RB.tb hv _ (Qg _)];exact xy _ _
  ·have z:uw (dz u)=[]:=by rw[b1];rfl
   refine ⟨[],?_,?_⟩
   ·have g:aW (aA 5) (kv (ts++r1++r2) u)=none:=by
     have n:∀ {j:Int},j<16->V.int j≠kv (ts++r1++r2) u:=fun hj e=>by have:=V.int.inj e;lia
     show aW [(.int (3),.tup [.int (4),.int (6),.int (8),.int (10)]),(.int (5),.tup [.int (6),.int (8),.int (10)]),(.int (7),.tup [.int (8),.int (10)]),(.int (9),.tup [.int (10)])] _=none;rw[aW,if_neg (n (by decide)),aW,if_neg (n (by decide)),aW,if_neg (n (by decide)),aW,if_neg (n (by decide))];rfl
    show some ((aW (aA 5) (kv (ts++r1++r2) u)).getD (.tup []))=_;rw[g];rfl
   ·rw[z];exact xy [] _
 refine aM (sg (xD RB Qe) (xD RB Qf)) fun l1 g1 i1=>?_;refine aM (sg (xD RB Qf) (xD RB Qe)) fun l2 g2 i2=>?_;have dc:xU (.tab 5) hB=true:=rfl;rw[show (uw (dz (eX x))).contains (dz (eX y))=AY x y from rfl] at i1;rw[show (uw (dz (eX y))).contains (dz (eX x))=AY y x from rfl] at i2;cases q5:AY x y with
 | true=>
  rw[q5] at i1;refine pack (i:=-1) ?_ (by rw[w1,q5];rfl);rw[cY]
  with_reducible repeat' exists[ag,aa,af,aK,ao,aI,aP,bS,aj,ab,av,aq,au,aw],[aG,aF],ae,aD d1,aD d2,aD d3,eA,eB,cg,aD d4,kt,cx,cy,dc,g1,i1,aN rfl,aD rfl,dO,iB,By,uM
 | false=>
  rw[q5] at i1;cases q6:AY y x with
  | true=>
   rw[q6] at i2;refine pack (i:=1) ?_ (by rw[w1,q5,q6];rfl);rw[cY]
   with_reducible repeat' exists[ag,aa,af,aK,ao,aI,aP,bS,aj,ab,av,aq,au,aw],[aG,aF],ae,aD d1,aD d2,aD d3,eA,eB,cg,aD d4,kt,cx,cy,dc,g1,i1,g2,i2,aN rfl,aD rfl,dO,iB,By,uM
  | false=>
   rw[q6] at i2;refine pack (i:=0) ?_ (by rw[w1,q5,q6];rfl);rw[cY]
   with_reducible repeat' exists[ag,aa,af,aK,ao,aI,aP,bS,aj,ab,av,aq,au,aw],[aG,aF],ae,aD d1,aD d2,aD d3,eA,eB,cg,aD d4,kt,cx,cy,dc,g1,i1,g2,i2,aN rfl,aD rfl,dO,iB,By,uM
end
end
section
theorem rF{t:T}(o:okN t=true):(∃ k,t=.nm k)∨aH t∈[15,99,61,11,14,12,13]:=by
 cases t with
 | nm n=>exact .inl ⟨n,rfl⟩
 | one n a=>
  simp only[okN,Bool.or_eq_true,beq_iff_eq] at o;refine .inr ?_;show n∈[15,99,61,11,14,12,13];rcases o with (((rfl|rfl)|rfl)|rfl)|rfl<;>decide
 | two n a b=>
  simp only[okN,Bool.or_eq_true,beq_iff_eq] at o;refine .inr ?_;show n∈[15,99,61,11,14,12,13];rcases o with rfl|rfl<;>decide
theorem Gv{t:T}{k:Nat}(o:okN t=true)(hk:k∉[15,99,61,11,14,12,13]):decide (aH t=k)=decide (t=.nm k):=by
 rw[Bool.eq_iff_iff,decide_eq_true_iff,decide_eq_true_iff];refine ⟨fun e=>?_,fun e=>by rw[e];rfl⟩;rcases rF o with ⟨j,rfl⟩|q
 ·rw[show j=k from e]
 ·rw[e] at q;exact absurd q hk
theorem mE{t:T}(o:okN t=true):decide (aH t=61)=isOpt t:=by
 cases t with
 | nm n=>
  have key:∀ u∈dD,aH u≠61:=by decide
  exact US (key _ (dE o))
 | one n a=>show decide (n=61)=(n==61);rfl
 | two n a b=>
  simp only[okN,Bool.or_eq_true,beq_iff_eq] at o;rcases o with rfl|rfl<;>rfl
noncomputable def C9(k j:Nat):Bool:=match zq k,zq j with
 | some (x,y),some (lo,hi)=>if j=24 then false else decide (x<0)&&(decide (lo=0)&&decide (y<hi))
 | _,_=>false
theorem N9{x y:T}(wx:okN (eX x)=true)(wy:okN (eX y)=true):AY x y=C9 (aH (eX x)) (aH (eX y)):=by
 have k0:∀ s∈dD,∀ t∈dD,(uw (dz s)).contains (dz t)=C9 (aH s) (aH t):=by decide +kernel
 have k1:∀ n∈[15,99,61,11,14,12,13],zq n=none:=by decide
 have pn:∀ {t:T},(∀ n,t≠.nm n)->dz t=100:=fun {t} nn=>by
  cases t with
  | nm n=>exact absurd rfl (nn n)
  | one n a=>rfl
  | two n a b=>rfl
 unfold AY
 generalize eX x=u at wx
 generalize eX y=v at wy
 rcases rF wx with ⟨k,rfl⟩|q
 ·rcases rF wy with ⟨j,rfl⟩|q2
  ·exact k0 _ (dE wx) _ (dE wy)
  ·have e:C9 k (aH v)=false:=by
    unfold C9;rw[k1 _ q2];cases zq k<;>rfl
   have nv:∀ n,v≠.nm n:=fun n e=>by
    have key:∀ u∈dD,aH u∉[15,99,61,11,14,12,13]:=by decide
    rw[e] at q2 wy;exact key _ (dE wy) q2
   show _=C9 k (aH v);rw[e,pn nv];unfold uw
   repeat' split
   all_goals rfl
 ·have e:C9 (aH u) (aH v)=false:=by unfold C9;rw[k1 _ q]
  have nu:∀ n,u≠.nm n:=fun n e=>by
   have key:∀ u∈dD,aH u∉[15,99,61,11,14,12,13]:=by decide
   rw[e] at q wx;exact key _ (dE wx) q
  rw[e,pn nu];rfl
section
variable{W:Wd}{h h':Hp}{t s u v x y:T}{n:Nat}{a:Int}
theorem Gw(w:wf x=true):okN (eX x)=true:=by
 unfold eX;split
 ·rename_i o
  rw[(fm o).2] at w;exact fu (jt w _ (.head _))
 ·exact fu w
theorem BR(w:wf x=true){env:aU}{i:Nat}(hi:env[i]?=some (some (enc x))):ba (pg n) (.ite (.cmp .eq (.sub (.loc i) (.lit (.int (0)))) (.lit (.str 61))) (.sub (.sub (.sub (.loc i) (.lit (.int (1)))) (.lit (.int (0)))) (.lit (.int (0)))) (.sub (.loc i) (.lit (.int (0))))) env h=some (.str (aH (eX x)),h):=by
 have z0:=e0 (t:=x) (h:=h);have c:bg aA .eq (.str (aH x)) (.str 61) h=some (isOpt x):=by rw[dX,mE (fu w)]
 have L:∀ {v:V},v=enc x->ba (pg n) (.loc i) env h=some (v,h):=fun e=>by rw[e];exact aC hi
 cases q:isOpt x with
 | true=>
  rw[q] at c;have e:eX x=el x:=by unfold eX;rw[q];rfl
  have ax:aQ x=[el x]:=by rw[(fm q).2];rfl
  have z1:=IQ (t:=x) (h:=h);rw[ax] at z1;have z2:bI aA (.tup [enc (el x)]) (.int 0) h=some (enc (el x)):=t0;have z3:=e0 (t:=el x) (h:=h);rw[e];refine aP (ao (aB (L rfl) ae z0) ae c) rfl (aG ?_);exact aB (aB (aB (L rfl) ae z1) ae z2) ae z3
 | false=>
  rw[q] at c;have e:eX x=x:=by unfold eX;rw[q];rfl
  rw[e];exact aP (ao (aB (L rfl) ae z0) ae c) rfl (aF (aB (L rfl) ae z0))
theorem rG(wx:wf x=true)(wy:wf y=true):∃ h',run aY (n+2) 77 [enc x,enc y] h=some (.bool (AY x y),h')/\Fr [] h h':=by
 rw[N9 (Gw wx) (Gw wy)];refine aM (kG (n:=n) (h:=h) (aH (eX x))) fun h1 g1 f1=>?_;refine aM (kG (n:=n) (h:=h1) (aH (eX y))) fun h2 g2 f2=>?_;refine ⟨h2,?_,f1.trans f2⟩;have u1:ba (pg (n+1)) (.ite (.cmp .eq (.sub (.loc 0) (.lit (.int (0)))) (.lit (.str 61))) (.sub (.sub (.sub (.loc 0) (.lit (.int (1)))) (.lit (.int (0)))) (.lit (.int (0)))) (.sub (.loc 0) (.lit (.int (0))))) [some (enc x),some (enc y),none,none,none] h=some (.str (aH (eX x)),h):=BR wx rfl;have u2:∀ {v:V},ba (pg (n+1)) (.ite (.cmp .eq (.sub (.loc 1) (.lit (.int (0)))) (.lit (.str 61))) (.sub (.sub (.sub (.loc 1) (.lit (.int (1)))) (.lit (.int (0)))) (.lit (.int (0)))) (.sub (.loc 1) (.lit (.int (0))))) [some (enc x),some (enc y),some v,none,none] h1=some (.str (aH (eX y)),h1):=BR wy rfl
 generalize aH (eX x)=k at *
 generalize aH (eX y)=j at *
 rw[yT];have l0:∀ {hh:Hp},iT (xN none) hh=some (.int (0:Nat)):=rfl;have l2:∀ {hh:Hp} {p:Int×Int},iT (xN (some p)) hh=some (.int (2:Nat)):=rfl;have cI:∀ {hh:Hp} {i:Int},bg aA .eq (.int i) (.int 0) hh=some (decide (i=0)):=gz;cases hk:zq k with
 | none=>
  rw[hk] at g1;have e:C9 k j=false:=by unfold C9;rw[hk]
  rw[e];have d:decide (((0:Nat):Int)=0)=true:=rfl
  with_reducible repeat' first|exact u1|exact u2|exists[ag,aa,af,aB,ao,ah,ai,aL,br,aj,ab,av,aq,au,aw],[aG,aF,aT,bC],ae,g1,g2,l0,cI,aN d,aN rfl,aD rfl,cR,fy,cH
 | some p=>
  obtain ⟨x1,y1⟩:=p;rw[hk] at g1;have d0:decide (((2:Nat):Int)=0)=false:=rfl;cases hj:zq j with
  | none=>
   rw[hj] at g2;have e:C9 k j=false:=by unfold C9;rw[hk,hj]
   rw[e];have d:decide (((0:Nat):Int)=0)=true:=rfl
   with_reducible repeat' first|exact u1|exact u2|exists[ag,aa,af,aB,ao,ah,ai,aL,br,aj,ab,av,aq,au,aw],[aG,aF,aT,bC],ae,g1,g2,l0,l2,cI,aD d0,aN d,aN rfl,aD rfl,cR,fy,cH
  | some p=>
   obtain ⟨lo,hi⟩:=p;rw[hj] at g2;have e:C9 k j=if j=24 then false else decide (x1<0)&&(decide (lo=0)&&decide (y1<hi)):=by unfold C9;rw[hk,hj]
   rw[e];have cs:bg aA .eq (.str j) (.str 24) h2=some (decide (j=24)):=dX;have w0:bI aA (xN (some (x1,y1))) (.int 0) h2=some (.int x1):=t0;have w1:bI aA (xN (some (x1,y1))) (.int 1) h2=some (.int y1):=t1;have w2:bI aA (xN (some (lo,hi))) (.int 0) h2=some (.int lo):=t0;have w3:bI aA (xN (some (lo,hi))) (.int 1) h2=some (.int hi):=t1
   by_cases q:j=24
   ·rw[if_pos q];have d:(decide (((2:Nat):Int)=0)||(decide (((2:Nat):Int)=0)||decide (j=24)))=true:=by rw[UT q];rfl
    with_reducible repeat' first|exact u1|exact u2|exists[ag,aa,af,aB,ao,ah,ai,br,aj,ab,av,aq,au,aw,bz,b9],[aG,aF,aT,bC],ae,g1,g2,l2,cI,cs,aN d,aN rfl,aD rfl,cR,fy,cH
   ·rw[if_neg q];have d:(decide (((2:Nat):Int)=0)||(decide (((2:Nat):Int)=0)||decide (j=24)))=false:=by rw[US q];rfl
    with_reducible repeat' first|exact u1|exact u2|exists[ag,aa,af,aB,ao,ah,ai,br,aj,ab,av,aq,au,aw,bz,b9],[aG,aF,aT,bC],ae,g1,g2,l2,cI,cs,aD d,w0,w1,w2,w3,aN rfl,aD rfl,cR,fy,cH
theorem Dc(wx:wf x=true)(wy:wf y=true)(hx:ht x<=4)(hy:ht y<=4):BQ W (n+82) x y:=by
 have:=pR x;exact Gn (n+80) x y wx wy (by lia) (by lia) (by unfold dm;lia)
theorem om(L:Lw W h a)(ds:Mj s)(dt:dr t=true)(no:isOpt t=false){c:V}(hc:c∈consts)(h1:ht s<=4)(h2:ht t<=4):∃ h',run aY (n+83) 76 [.obj 82,enc s,c,enc t] h=some (iD (dM W s t c),h')/\Fr [] h h':=by
 have ws:=Gr ds;have wt:=iS dt;have os:=fu ws;have ot:=fu wt;have s0:=e0 (t:=s) (h:=h);have xO:=e0 (t:=t) (h:=h);have ce:bg aA .eq (enc s) (enc t) h=some (decide (s=t)):=by
  rw[yV (mS (by lia) (by lia))];congr 1;rw[Bool.eq_iff_iff,decide_eq_true_iff,decide_eq_true_iff];exact ⟨gJ,fun e=>by rw[e]⟩
 have cb:∀ {u:T} {k:Nat},okN u=true->k∉[15,99,61,11,14,12,13]->bg aA .eq (.str (aH u)) (.str k) h=some (decide (u=.nm k)):=fun o hk=>by rw[dX,Gv o hk]
 have zv:=cb (k:=27) os (by decide);have xP:=cb (k:=27) ot (by decide);have xE:=cb (k:=59) os (by decide);have zw:=cb (k:=60) os (by decide);have BS:bg aA .eq (.str (aH t)) (.str 61) h=some false:=by rw[dX,mE ot,no]
 have ir:=mT (t:=t) (h:=h);have hG:∀ {x:V} {p:Int×Int},run aY (n+83) 76 [.obj 82,enc s,c,enc t] h=some (x,h)->x=iD p->dM W s t c=p->∃ h',run aY (n+83) 76 [.obj 82,enc s,c,enc t] h=some (iD (dM W s t c),h')/\Fr [] h h':=fun e ex ew=>⟨h,by rw[e,ex,ew],Fr.rfl'⟩;have d1:(decide (s=t)||(decide (s=.nm 27)||decide (t=.nm 27)))=decide (s=t∨s=.nm 27∨t=.nm 27):=by
  rw[Bool.eq_iff_iff];simp only[Bool.or_eq_true,decide_eq_true_iff]
 by_cases q1:s=t∨s=.nm 27∨t=.nm 27
 ·rw[UT q1] at d1;refine hG (p:=(1,10)) (x:=iD (1,10)) ?_ rfl (if_pos q1);rw[dI]
  with_reducible repeat' exists[ag,aa,af,aB,ao,ah,ai,aI,aP,aj,ab,av,aq,au,aw,bz],[aG,aF,aO,aT,aS],ae,ce,s0,xO,zv,xP,aN d1,aN rfl,aD rfl,cH
 rw[US q1] at d1;have w1:dM W s t c=if s=.nm 59 then (0,0) else if s=.nm 60 then (if dZ t then (2,8) else (0,0)) else if mD s t c then (2,1) else if (dZ t&&uk W (eX s) t)=true then (2,if dZ s then 2 else 4) else (0,0):=if_neg q1
 by_cases q2:s=.nm 59
 ·rw[UT q2] at xE;refine hG (p:=(0,0)) (x:=iD (0,0)) ?_ rfl (by rw[w1,if_pos q2]);rw[dI]
  with_reducible repeat' exists[ag,aa,af,aB,ao,ah,ai,aI,aP,aj,ab,av,aq,au,aw,bz],[aG,aF,aO,aT,aS],ae,ce,s0,xO,zv,xP,aD d1,xE,aN rfl,aD rfl,cH
 rw[US q2] at xE;rw[if_neg q2] at w1
 by_cases q3:s=.nm 60
 ·rw[UT q3] at zw;refine hG (p:=if dZ t then (2,8) else (0,0)) (x:=iD (if dZ t then (2,8) else (0,0))) ?_ rfl (by rw[w1,if_pos q3]);have z:(dZ t||false)=dZ t:=Bool.or_false _;rw[dI];cases q:dZ t with
  | true=>
   rw[q] at ir z;rw[if_pos (Eq.refl true)]
   with_reducible repeat' exists[ag,aa,af,aB,ao,ah,ai,aI,aP,aj,ab,av,aq,au,aw,bz],[aG,aF,aO,aT,aS],ae,ce,s0,xO,zv,xP,aD d1,xE,zw,ir,BS,aN z,aN rfl,aD rfl,cH
  | false=>
   rw[q] at ir z;rw[if_neg Bool.false_ne_true]
   with_reducible repeat' exists[ag,aa,af,aB,ao,ah,ai,aI,aP,aj,ab,av,aq,au,aw,bz],[aG,aF,aO,aT,aS],ae,ce,s0,xO,zv,xP,aD d1,xE,zw,ir,BS,aD z,aN rfl,aD rfl,cH
 rw[US q3] at zw;rw[if_neg q3] at w1;have GW:dr s=true:=ds.resolve_right fun x=>x.elim q2 q3;refine aM (xu (n:=n+80) (h:=h) (xw hc) (aH s) (aH t)) fun hA ln fA=>?_;have st:s≠t:=fun e=>q1 (.inl e);rw[<-LB st ws wt hc] at ln;have T4:ba (pg (n+82)) (.aV true [.cmp .eq (.sub (.loc 3) (.lit (.int (0)))) (.lit (.str 61)),.cmp .eq (.sub (.loc 1) (.lit (.int (0)))) (.lit (.str 61))]) [some (.obj 82),some (enc s),some c,some (enc t),some (.tup [.int 0,.int 0])] h=some (.bool false,h):=by
  with_reducible repeat' exists[ag,aa,af,aB,ao,ah,ai,aL,aI,aP,aj,ab,av,aq,au,aw],[aG,aF,aO,aT,aS],ae,xO,BS,aN rfl,aD rfl,cH
 cases q4:mD s t c with
 | true=>
  rw[q4] at ln;refine ⟨hA,?_,fA⟩;rw[w1,q4,dI];show _=some (V.tup [.int 2,.int 1],hA)
  with_reducible repeat' first|exact T4|exists[ag,aa,af,aB,ao,ah,ai,aI,aP,aj,ab,av,aq,au,aw,bz],[aG,aF,aO,aT,aS],ae,ce,s0,xO,zv,xP,aD d1,xE,zw,BS,ln,aN rfl,aD rfl,cH
 | false=>
 rw[q4] at ln w1;have w2:dM W s t c=if (dZ t&&uk W (eX s) t)=true then (2,if dZ s then 2 else 4) else (0,0):=w1;have LA:=L.pure fA;have OJ:=e0 (t:=t) (h:=hA);have RE:=e0 (t:=s) (h:=hA);have Mm:=mT (t:=t) (h:=hA);cases q5:dZ t with
 | false=>
  rw[q5] at Mm w2;refine ⟨hA,?_,fA⟩;rw[w2,dI];show _=some (V.tup [.int 0,.int 0],hA)
  with_reducible repeat' first|exact T4|exists[ag,aa,af,aB,ao,ah,ai,aL,aI,aP,aj,ab,av,aq,au,aw],[aG,aF,aO,aT,aS],ae,ce,s0,xO,zv,xP,aD (Bool.or_eq_false_iff.mp d1).1,aD (Bool.or_eq_false_iff.mp (Bool.or_eq_false_iff.mp d1).2).1,aD (Bool.or_eq_false_iff.mp (Bool.or_eq_false_iff.mp d1).2).2,xE,zw,BS,ln,OJ,Mm,aN rfl,aD rfl,cH
 | true=>
  rw[q5] at Mm w2;rw[Bool.true_and] at w2;have TR:ht (eX s)<=4:=by
   unfold eX;split
   ·rename_i o
    have:=(fm o).2;rw[this] at h1;have e:ht (.one 61 (el s))=ht (el s)+1:=rfl;lia
   ·exact h1
  have wc:wf (eX s)=true:=by
   unfold eX;split
   ·rename_i o
    have e:=(fm o).2;rw[e] at ws;exact jt ws _ (.head _)
   ·exact ws
  refine aM (Dc (W:=W) (n:=n) wc wt TR h2 hA a LA) fun hB li fB=>?_;have zE:ba (pg (n+82)) (.ite (.cmp .eq (.sub (.loc 1) (.lit (.int (0)))) (.lit (.str 61))) (.sub (.sub (.loc 1) (.lit (.int (1)))) (.lit (.int (0)))) (.loc 1)) [some (.obj 82),some (enc s),some c,some (enc t),some (.tup [.int 0,.int 0])] hA=some (enc (eX s),hA):=by
   have co:bg aA .eq (.str (aH s)) (.str 61) hA=some (isOpt s):=by rw[dX,mE os]
   cases q:isOpt s with
   | true=>
    rw[q] at co;have e:eX s=el s:=by unfold eX;rw[q];rfl
    have ax:aQ s=[el s]:=by rw[(fm q).2];rfl
    have z1:=IQ (t:=s) (h:=hA);rw[ax] at z1;have z2:bI aA (.tup [enc (el s)]) (.int 0) hA=some (enc (el s)):=t0;have z1:bI aA (enc s) (.int 1) hA=some (.tup [enc (el s)]):=z1;rw[e]
    with_reducible repeat' exists[ag,aa,af,aB,ao,ah,ai,aL,aI,aP,aj,ab,av,aq,au,aw],[aG,aF,aO,aT,aS],ae,RE,co,z1,z2,aN rfl,aD rfl,cH
   | false=>
    rw[q] at co;have e:eX s=s:=by unfold eX;rw[q];rfl
    rw[e]
    with_reducible repeat' exists[ag,aa,af,aB,ao,ah,ai,aL,aI,aP,aj,ab,av,aq,au,aw],[aG,aF,aO,aT,aS],ae,RE,co,aN rfl,aD rfl,cH
  have is:=mT (t:=s) (h:=hB);have RF:=e0 (t:=s) (h:=hB);refine ⟨hB,?_,fA.trans fB⟩;have b1:=(Bool.or_eq_false_iff.mp d1).1;have b2:=(Bool.or_eq_false_iff.mp (Bool.or_eq_false_iff.mp d1).2).1;have b3:=(Bool.or_eq_false_iff.mp (Bool.or_eq_false_iff.mp d1).2).2;rw[w2,dI];cases q6:uk W (eX s) t with
  | true=>
   rw[q6] at li;rw[if_pos (Eq.refl true)];cases q7:dZ s with
   | true=>
    rw[q7] at is;show _=some (V.tup [.int 2,.int 2],hB)
    with_reducible repeat' first|exact T4|exact zE|exists[ag,aa,af,aB,ao,ah,ai,aL,aI,aP,aj,ab,av,aq,au,aw],[aG,aF,aO,aT,aS],ae,ce,s0,xO,zv,xP,aD b1,aD b2,aD b3,xE,zw,BS,ln,OJ,Mm,li,RF,is,aN rfl,aD rfl,cH
   | false=>
    rw[q7] at is;show _=some (V.tup [.int 2,.int 4],hB)
    with_reducible repeat' first|exact T4|exact zE|exists[ag,aa,af,aB,ao,ah,ai,aL,aI,aP,aj,ab,av,aq,au,aw],[aG,aF,aO,aT,aS],ae,ce,s0,xO,zv,xP,aD b1,aD b2,aD b3,xE,zw,BS,ln,OJ,Mm,li,RF,is,aN rfl,aD rfl,cH
  | false=>
   rw[q6] at li;rw[if_neg Bool.false_ne_true];show _=some (V.tup [.int 0,.int 0],hB)
   with_reducible repeat' first|exact T4|exact zE|exists[ag,aa,af,aB,ao,ah,ai,aL,aI,aP,aj,ab,av,aq,au,aw],[aG,aF,aO,aT,aS],ae,ce,s0,xO,zv,xP,aD b1,aD b2,aD b3,xE,zw,BS,ln,OJ,Mm,li,aN rfl,aD rfl,cH
end
end
section
section
variable{W:Wd}{h h':Hp}{t s u v x y:T}{n:Nat}{a:Int}
theorem jZ(L:Lw W h a)(ds:Mj s)(dt:dr t=true){c:V}(hc:c∈consts)(h1:ht s<=4)(h2:ht t<=4):∃ h',run aY (n+84) 76 [.obj 82,enc s,c,enc t] h=some (iD (iy W s t c),h')/\Fr [] h h':=by
 cases no:isOpt t with
 | false=>
  have e:iy W s t c=dM W s t c:=by unfold iy;rw[no];rfl
  rw[e];exact om (n:=n+1) L ds dt no hc h1 h2
 | true=>
  refine aM (qC dt no) fun k et hk=>?_;have ws:=Gr ds;have wt:=iS dt;have os:=fu ws;have ot:=fu wt;have s0:=e0 (t:=s) (h:=h);have xO:=e0 (t:=t) (h:=h);have ce:bg aA .eq (enc s) (enc t) h=some (decide (s=t)):=by
   rw[yV (mS (by lia) (by lia))];congr 1;rw[Bool.eq_iff_iff,decide_eq_true_iff,decide_eq_true_iff];exact ⟨gJ,fun e=>by rw[e]⟩
  have cb:∀ {u:T} {k:Nat},okN u=true->k∉[15,99,61,11,14,12,13]->bg aA .eq (.str (aH u)) (.str k) h=some (decide (u=.nm k)):=fun o hk=>by rw[dX,Gv o hk]
  have zv:=cb (k:=27) os (by decide);have xP:=cb (k:=27) ot (by decide);have xE:=cb (k:=59) os (by decide);have zw:=cb (k:=60) os (by decide);have BS:bg aA .eq (.str (aH t)) (.str 61) h=some true:=by rw[dX,mE ot,no]
  have Mn:bg aA .eq (.str (aH s)) (.str 61) h=some (isOpt s):=by rw[dX,mE os]
  have ir:=mT (t:=t) (h:=h);have TS:dZ t=false:=by rw[et];rfl
  rw[TS] at ir;have tb:t≠.nm 27:=fun e=>by rw[e] at no;cases no
  rw[US tb] at xP;have hG:∀ {x:V} {p:Int×Int},run aY (n+84) 76 [.obj 82,enc s,c,enc t] h=some (x,h)->x=iD p->iy W s t c=p->∃ h',run aY (n+84) 76 [.obj 82,enc s,c,enc t] h=some (iD (iy W s t c),h')/\Fr [] h h':=fun e ex ew=>⟨h,by rw[e,ex,ew],Fr.rfl'⟩;have w0:iy W s t c=if s=t∨s=.nm 27 then (1,10) else if s=.nm 59 then (0,0) else if s=.nm 60 then (2,8) else if isOpt s then (if (dM W (el s) (el t) .none).1=0 then (0,0) else (2,9)) else if (dM W s (el t) c).1=0 then (0,0) else (2,6):=by unfold iy;rw[no];rfl
  have d1:(decide (s=t)||(decide (s=.nm 27)||false))=decide (s=t∨s=.nm 27):=by
   rw[Bool.eq_iff_iff];simp only[Bool.or_eq_true,decide_eq_true_iff,Bool.or_false]
  by_cases q1:s=t∨s=.nm 27
  ·rw[UT q1] at d1;refine hG (p:=(1,10)) (x:=iD (1,10)) ?_ rfl (by rw[w0,if_pos q1]);rw[dI]
   with_reducible repeat' exists[ag,aa,af,aB,ao,ah,ai,aI,aP,aj,ab,av,aq,au,aw,bz],[aG,aF,aO,aT],ae,ce,s0,xO,zv,xP,aN d1,aN rfl,aD rfl,cH
  rw[US q1] at d1;rw[if_neg q1] at w0
  by_cases q2:s=.nm 59
  ·rw[UT q2] at xE;refine hG (p:=(0,0)) (x:=iD (0,0)) ?_ rfl (by rw[w0,if_pos q2]);rw[dI]
   with_reducible repeat' exists[ag,aa,af,aB,ao,ah,ai,aI,aP,aj,ab,av,aq,au,aw,bz],[aG,aF,aO,aT],ae,ce,s0,xO,zv,xP,aD d1,xE,aN rfl,aD rfl,cH
  rw[US q2] at xE;rw[if_neg q2] at w0
  by_cases q3:s=.nm 60
  ·rw[UT q3] at zw;have z:(false||true)=true:=rfl;refine hG (p:=(2,8)) (x:=iD (2,8)) ?_ rfl (by rw[w0,if_pos q3]);rw[dI]
   with_reducible repeat' exists[ag,aa,af,aB,ao,ah,ai,aI,aP,aj,ab,av,aq,au,aw,bz],[aG,aF,aO,aT],ae,ce,s0,xO,zv,xP,aD d1,xE,zw,ir,BS,aN z,aN rfl,aD rfl,cH
  rw[US q3] at zw;rw[if_neg q3] at w0;have GW:dr s=true:=ds.resolve_right fun x=>x.elim q2 q3;have Gs:el t=.nm k:=by rw[et];rfl
  have del:dr (el t)=true:=by
   have key:∀ k∈valN,dr (.nm k)=true:=by decide
   rw[Gs];exact key k hk
  have N7:isOpt (el t)=false:=by rw[Gs];rfl
  have h3:ht (el t)<=4:=by rw[Gs];exact (by decide:1<=4)
  have z1:=IQ (t:=t) (h:=h);have TU:aQ t=[el t]:=by rw[(fm no).2];rfl
  rw[TU] at z1;have z1:bI aA (enc t) (.int 1) h=some (.tup [enc (el t)]):=z1;have cz:∀ {p:Int×Int} {hh:Hp},bg aA .ne (iD p) (.tup [.int 0,.int 0]) hh=some (!decide (p=(0,0))):=fun {p hh}=>by
   have e:decide (iD p=.tup [.int 0,.int 0])=decide (p=(0,0)):=by
    rw[Bool.eq_iff_iff,decide_eq_true_iff,decide_eq_true_iff];simp[iD,Prod.ext_iff]
   rw[<-e];exact AD rfl
  have b1:=(Bool.or_eq_false_iff.mp d1).1;have b2:=(Bool.or_eq_false_iff.mp (Bool.or_eq_false_iff.mp d1).2).1;cases q4:isOpt s with
  | true=>
   rw[q4] at Mn;rw[q4,if_pos (Eq.refl true)] at w0;refine aM (qC GW q4) fun j es hj=>?_;have Mk:el s=.nm j:=by rw[es];rfl
   have Qc:dr (el s)=true:=by
    have key:∀ k∈valN,dr (.nm k)=true:=by decide
    rw[Mk];exact key j hj
   have TV:aQ s=[el s]:=by rw[(fm q4).2];rfl
   have y1:=IQ (t:=s) (h:=h);rw[TV] at y1;have y1:bI aA (enc s) (.int 1) h=some (.tup [enc (el s)]):=y1;refine aM (om (n:=n) L (.inl Qc) del N7 fv (by rw[Mk];exact (by decide:1<=4)) h3) fun h' p f=>?_;refine ⟨h',?_,f⟩;rw[w0,dI];have zz:=Gq W (el s) (el t) .none
   by_cases z:(dM W (el s) (el t) .none).1=0
   ·rw[if_pos z];have d5:(!decide (dM W (el s) (el t) .none=(0,0)))=false:=by rw[UT (zz.mp z)];rfl
    show _=some (V.tup [.int 0,.int 0],h')
    with_reducible repeat' exists[ag,aa,af,aB,ao,ah,ai,aL,aI,aP,aj,ab,av,aq,au,aw],[aG,aF,aO,aT],ae,ce,s0,xO,zv,xP,aD b1,aD b2,xE,zw,BS,Mn,z1,y1,t0,p,cz,aD d5,aN rfl,aD rfl,cH
   ·rw[if_neg z];have d5:(!decide (dM W (el s) (el t) .none=(0,0)))=true:=by rw[US fun e=>z (zz.mpr e)];rfl
    show _=some (V.tup [.int 2,.int 9],h')
    with_reducible repeat' exists[ag,aa,af,aB,ao,ah,ai,aL,aI,aP,aj,ab,av,aq,au,aw],[aG,aF,aO,aT],ae,ce,s0,xO,zv,xP,aD b1,aD b2,xE,zw,BS,Mn,z1,y1,t0,p,cz,aN d5,aN rfl,aD rfl,cH
  | false=>
   rw[q4] at Mn;rw[q4,if_neg Bool.false_ne_true] at w0;refine aM (om (n:=n) L ds del N7 hc h1 h3) fun h' p f=>?_;refine ⟨h',?_,f⟩;rw[w0,dI];have zz:=Gq W s (el t) c
   by_cases z:(dM W s (el t) c).1=0
   ·rw[if_pos z];have d5:(!decide (dM W s (el t) c=(0,0)))=false:=by rw[UT (zz.mp z)];rfl
    show _=some (V.tup [.int 0,.int 0],h')
    with_reducible repeat' exists[ag,aa,af,aB,ao,ah,ai,aL,aI,aP,aj,ab,av,aq,au,aw],[aG,aF,aO,aT],ae,ce,s0,xO,zv,xP,aD b1,aD b2,xE,zw,BS,Mn,z1,t0,p,cz,aD d5,aN rfl,aD rfl,cH
   ·rw[if_neg z];have d5:(!decide (dM W s (el t) c=(0,0)))=true:=by rw[US fun e=>z (zz.mpr e)];rfl
    show _=some (V.tup [.int 2,.int 6],h')
    with_reducible repeat' exists[ag,aa,af,aB,ao,ah,ai,aL,aI,aP,aj,ab,av,aq,au,aw],[aG,aF,aO,aT],ae,ce,s0,xO,zv,xP,aD b1,aD b2,xE,zw,BS,Mn,z1,t0,p,cz,aN d5,aN rfl,aD rfl,cH
theorem pZ(L:Lw W h a)(ws:ht s<=20)(dx:dr x=true)(dy:dr y=true)(h1:ht x<=4)(h2:ht y<=4):∃ h',run aY (n+85) 78 [.obj 82,enc s,enc x,enc y] h=some (.int (uP W s x y),h')/\Fr [] h h':=by
 have ce:∀ {u v:T} {hh:Hp},ht u<=20->ht v<=20->bg aA .eq (enc u) (enc v) hh=some (decide (u=v)):=fun hu hv=>by
  rw[yV (mS hu hv)];congr 1;rw[Bool.eq_iff_iff,decide_eq_true_iff,decide_eq_true_iff];exact ⟨gJ,fun e=>by rw[e]⟩
 have c1:=ce (hh:=h) (show ht x<=20 by lia) (show ht y<=20 by lia);have c2:=ce (hh:=h) ws (show ht x<=20 by lia);have c3:=ce (hh:=h) ws (show ht y<=20 by lia);have hG:∀ {i:Int},run aY (n+85) 78 [.obj 82,enc s,enc x,enc y] h=some (.int i,h)->uP W s x y=i->∃ h',run aY (n+85) 78 [.obj 82,enc s,enc x,enc y] h=some (.int (uP W s x y),h')/\Fr [] h h':=fun e ew=>⟨h,by rw[e,ew],Fr.rfl'⟩
 by_cases q1:x=y
 ·rw[UT q1] at c1;refine hG (i:=0) ?_ (if_pos q1);rw[dp]
  with_reducible repeat' exists[ag,aa,af,aB,ao,ah,ai,aP,aj,ab,av,aq,au,aw],[aG,aF],ae,c1,aN rfl,aD rfl,cH,dO
 rw[US q1] at c1;have w1:uP W s x y=if s=x then -1 else if s=y then 1 else if ju W x y≠ju W y x then (if ju W x y then -1 else 1) else if AY x y then -1 else if AY y x then 1 else 0:=if_neg q1
 by_cases q2:s=x
 ·have d:(decide (s=x)||decide (s=y))=true:=by rw[UT q2];rfl
  have d2:decide (s=x)=true:=UT q2;refine hG (i:=-1) ?_ (by rw[w1,if_pos q2]);rw[dp]
  with_reducible repeat' exists[ag,aa,af,aB,ao,ah,ai,aP,aj,ab,av,aq,au,aw,bz],[aG,aF],ae,c1,c2,c3,aN d,aN d2,aN rfl,aD rfl,cH,dO
 by_cases q3:s=y
 ·have d:(decide (s=x)||decide (s=y))=true:=by rw[UT q3,Bool.or_true]
  have d2:decide (s=x)=false:=US q2;refine hG (i:=1) ?_ (by rw[w1,if_neg q2,if_pos q3]);rw[dp]
  with_reducible repeat' exists[ag,aa,af,aB,ao,ah,ai,aP,aj,ab,av,aq,au,aw,bz],[aG,aF],ae,c1,c2,c3,aN d,aD d2,aN rfl,aD rfl,cH,dO
 have d:(decide (s=x)||decide (s=y))=false:=by rw[US q2,US q3];rfl
 rw[if_neg q2,if_neg q3] at w1;refine aM (jZ (n:=n) L (.inl dx) dy fv h1 h2) fun hA pA fA=>?_;refine aM (jZ (n:=n) (L.pure fA) (.inl dy) dx fv h2 h1) fun hB pB fB=>?_;have g:∀ {u v:T} {hh:Hp},bI aA (iD (iy W u v .none)) (.int 0) hh=some (.int (iy W u v .none).1):=t0;have cg:∀ {u v:T} {hh:Hp},bg aA .ne (.int (iy W u v .none).1) (.int 0) hh=some (ju W u v):=fun {u v hh}=>by
  have:bg aA .ne (.int (iy W u v .none).1) (.int 0) hh=some (!decide (V.int (iy W u v .none).1=V.int 0)):=AD rfl;rw[this,v_eq,ju,decide_not]
 have cc:bg aA .ne (.bool (ju W x y)) (.bool (ju W y x)) hB=some (decide (ju W x y≠ju W y x)):=by
  have:bg aA .ne (.bool (ju W x y)) (.bool (ju W y x)) hB=some (!decide (V.bool (ju W x y)=V.bool (ju W y x))):=AD rfl;rw[this,decide_not];congr 2;rw[Bool.eq_iff_iff,decide_eq_true_iff,decide_eq_true_iff,V.bool.injEq]
 have f2:=fA.trans fB
 by_cases q4:ju W x y≠ju W y x
 ·rw[UT q4] at cc;rw[if_pos q4] at w1;cases z:ju W x y with
  | true=>
   rw[z] at w1;refine ⟨hB,?_,f2⟩;rw[w1,dp];have tz:truth (.bool (ju W x y)) hB=some true:=by rw[z];rfl
   with_reducible repeat' exists[ag,aa,af,aB,ao,ah,ai,aP,aj,ab,av,aq,au,aw,bz],[aG,aF],ae,c1,c2,c3,aD d,pA,pB,g,cg,cc,tz,aN rfl,aD rfl,cH,dO
  | false=>
   rw[z] at w1;refine ⟨hB,?_,f2⟩;rw[w1,dp];have tz:truth (.bool (ju W x y)) hB=some false:=by rw[z];rfl
   with_reducible repeat' exists[ag,aa,af,aB,ao,ah,ai,aP,aj,ab,av,aq,au,aw,bz],[aG,aF],ae,c1,c2,c3,aD d,pA,pB,g,cg,cc,tz,aN rfl,aD rfl,cH,dO
 rw[US q4] at cc;rw[if_neg q4] at w1;refine aM (rG (n:=n+82) (h:=hB) (iS dx) (iS dy)) fun hC pC fC=>?_;cases q5:AY x y with
 | true=>
  rw[q5] at pC w1;refine ⟨hC,?_,f2.trans fC⟩;rw[w1,dp];show _=some (V.int (-1),hC)
  with_reducible repeat' exists[ag,aa,af,aB,ao,ah,ai,aP,aj,ab,av,aq,au,aw,bz],[aG,aF],ae,c1,c2,c3,aD d,pA,pB,g,cg,cc,pC,aN rfl,aD rfl,cH,dO
 | false=>
  rw[q5] at pC w1;refine aM (rG (n:=n+82) (h:=hC) (iS dy) (iS dx)) fun hD pD fD=>?_;cases q6:AY y x with
  | true=>
   rw[q6] at pD w1;refine ⟨hD,?_,f2.trans (fC.trans fD)⟩;rw[w1,dp];show _=some (V.int 1,hD)
   with_reducible repeat' exists[ag,aa,af,aB,ao,ah,ai,aP,aj,ab,av,aq,au,aw,bz],[aG,aF],ae,c1,c2,c3,aD d,pA,pB,g,cg,cc,pC,pD,aN rfl,aD rfl,cH,dO
  | false=>
   rw[q6] at pD w1;refine ⟨hD,?_,f2.trans (fC.trans fD)⟩;rw[w1,dp];show _=some (V.int 0,hD)
   with_reducible repeat' exists[ag,aa,af,aB,ao,ah,ai,aP,aj,ab,av,aq,au,aw,bz],[aG,aF],ae,c1,c2,c3,aD d,pA,pB,g,cg,cc,pC,pD,aN rfl,aD rfl,cH,dO
end
end
section
theorem zx{l:List (V×V)}{k v j:V}:aW (hH l k v) j=if k=j then some v else aW l j:=by
 induction l with
 | nil=>rfl
 | cons p l ih=>
  obtain ⟨a,x⟩:=p;show aW (if a=k then (a,v)::l else (a,x)::hH l k v) j=_
  by_cases q:a=k
  ·rw[if_pos q,aW,aW,q]
   split
   ·rfl
   ·rfl
  ·rw[if_neg q,aW,aW,ih]
   by_cases z:a=j
   ·rw[if_pos z,if_pos z,if_neg fun e=>q (z.trans e.symm)]
   ·rw[if_neg z,if_neg z]
theorem Gx{l:List (V×V)}{k v:V}:(hH l k v).map (·.1)=if k∈l.map (·.1) then l.map (·.1) else l.map (·.1)++[k]:=by
 induction l with
 | nil=>rfl
 | cons p l ih=>
  obtain ⟨a,x⟩:=p;show (if a=k then (a,v)::l else (a,x)::hH l k v).map (·.1)=_
  by_cases q:a=k
  ·rw[if_pos q,if_pos (by rw[<-q];exact .head _)];rfl
  ·rw[if_neg q,List.map_cons,ih]
   by_cases z:k∈l.map (·.1)
   ·rw[if_pos z,if_pos (.tail _ z)];rfl
   ·have nk:k∉((a,x)::l).map (·.1):=fun w=>(UO w).elim (fun e=>q e.symm) z;rw[if_neg z,if_neg nk];rfl
theorem mw.len{fs:List (V×V)}{n:Nat}(k:mw fs n):fs.length<=n:=by
 have:=iC k.1 k.2;rw[UQ,UQ,List.length_range] at this;exact this
theorem mw.ins{fs:List (V×V)}{n i:Nat}{v:V}(k:mw fs n)(hi:i<n):mw (hH fs (.int i) v) n:=by
 unfold mw;rw[Gx]
 split
 ·exact k
 ·rename_i z
  refine ⟨List.nodup_append.mpr ⟨k.1,List.nodup_cons.mpr ⟨List.not_mem_nil,List.nodup_nil⟩,fun a ha c hc e=>by rw[UL hc] at e;exact z (e▸ha)⟩,fun j hj=>?_⟩;rcases UR hj with q|q
  ·exact k.2 j q
  ·rw[UL q];exact List.mem_map.mpr ⟨i,List.mem_range.mpr hi,rfl⟩
noncomputable def kX:List Nat:=[3,4,5,6,7,10]
theorem xF:∀ i∈lH,i∈kX:=by decide
section
variable{W:Wd}{h h':Hp}{ts pend:List T}{t s u v x y:T}{n m:Nat}{a:Int}
theorem St.JT{gh:List T}(S:St W h ts gh a)(hx:x∈ts)(sub:∀ u∈gh,u=x∨u∈pend)(sup:∀ u∈pend,u∈gh)(xp:x∉pend)(hz:∀ z∈ez W x,z∈ts)(hl:ts.length<=9000):∃ h',dn (.obj 10) (kv ts x) (.tup ((ez W x).map (kv ts))) h=some h'/\St W h' ts pend a/\Fr kX h h':=by
 refine nY S.fs fun fs zc fp fk fr=>?_;have lk:bp fs=true:=bA (by have:=fk.len;lia);have f:Fr [10] h (h.set 10 (.dict 0 (hH fs (kv ts x) (.tup ((ez W x).map (kv ts)))))):=Fr.set (.head _);refine ⟨_,bF zc rfl lk,?_,f.mono fun i x=>by rw[UL x];decide⟩;have kk:mw (hH fs (kv ts x) (.tup ((ez W x).map (kv ts)))) ts.length:=fk.ins (vn hx);exact {
  rp:=S.rp.fr f fun i hi x=>by rw[UL x] at hi;lia
  rs:=S.rs.fr f fun i x=>.inr (.inl (UL x))
  sk:=f 82 _ (by decide) S.sk
  fs:=⟨_,d9 (bU zc),fun u hu=>by
   rw[zx]
   by_cases q:x=u
   ·subst q;rw[if_pos rfl,if_neg xp];rfl
   ·rw[if_neg fun e=>q ((eW hx hu).mp (V.int.inj e)),fp u hu]
    by_cases z:u∈pend
    ·rw[if_pos z,if_pos (sup u z)]
    ·rw[if_neg z,if_neg fun w=>(sub u w).elim (fun e=>q e.symm) z],kk,fun i hi=>by
   rw[zx,if_neg fun e=>?_,fr i hi];have e1:=V.int.inj e;have e2:kn ts x<ts.length:=Int.ofNat_lt.mpr (vn hx);lia⟩
  oh:=fun u hu nu z zQ=>by
   by_cases q:u=x
   ·rw[q] at zQ;exact hz z zQ
   ·exact S.oh u hu (fun w=>(sub u w).elim q nu) z zQ
  gd:=S.gd }
noncomputable def qb(P:xK)(elt:E)(conds:List E)(j:Nat)(e:aU)(v:V)(h:Hp):Option (Option V×Hp):=bf (zK P conds (e.set j (some v)) h) fun b h=>match b with
 | true=>bf (ba P elt (e.set j (some v)) h) fun y h=>some (some y,h)
 | false=>some (none,h)
theorem xG{P:xK}{elt it:E}{j:Nat}{conds:List E}{e:aU}{x:V}{h h1 h2:Hp}{vs:List V}(p:ba P it e h=some (x,h1))(c:dR x h1=some vs)(k:iW h1.length (cV x vs) (qb P elt conds j e) vs (h1++[.list []])=some ((),h2)):ba P (.comp elt j it conds) e h=some (.obj h1.length,h2):=by
 show bf (ba P it e h) _=_;rw[p,bE,c];have:(bf (iW h1.length (cV x vs) (qb P elt conds j e) vs (h1++[.list []])) fun _ h'=>some (V.obj h1.length,h'))=some (V.obj h1.length,h2):=by rw[k];rfl
 exact this
noncomputable def cost:T->Nat
 | .nm _=>0
 | .one n a=>if n=14 then 2+2 * cost a else 1+cost a
 | .two _ a b=>2+2 * cost a+cost b
noncomputable def ik:List T->Nat
 | []=>0
 | x::l=>cost x+ik l
noncomputable def LK(W:Wd)(m:Nat)(x:T):Prop:=∀ (h:Hp) (ts pend:List T) (a:Int),St W h ts pend a->(∀ u∈pend,u∈ts)->(∀ u∈pend,(∃ k,u=.nm k)∨(ht x<=ht u/\x≠u/\aH u≠11))->ts.length+cost x<9000->
 ∃ r h',run aY m 79 [.obj 82,.obj 8,enc x] h=some (kv (ts++r) x,h')/\St W h' (ts++r) pend a/\x∈ts++r/\Fr kX h h'/\r.length<=cost x
theorem St.kfr{X:List Nat}(S:St W h ts pend a)(f:Fr X h h')(q:∀ i∈X,87<=i):St W h' ts pend a:=S.fr f q
theorem oA{elt:E}{conds:List E}{j:Nat}{e:aU}{n0:Nat}{same:Hp->Bool}{q:T->Bool}(hn:87<=n0):∀ (l:List T) (h:Hp) (ts acc:List T),St W h ts pend a->(∀ u∈pend,u∈ts)->
  (∀ z∈l,q z=true->LK W m z/\∀ u∈pend,(∃ k,u=.nm k)∨(ht z<=ht u/\z≠u/\aH u≠11))->(∀ z∈l,∀ h,zK (pg m) conds (e.set j (some (enc z))) h=some (q z,h))->
  (∀ z∈l,∀ h v h',run aY m 79 [.obj 82,.obj 8,enc z] h=some (v,h')->ba (pg m) elt (e.set j (some (enc z))) h=some (v,h'))->
  (∀ h',Fr (n0::kX) h h'->same h'=true)->(∀ u∈acc,u∈ts)->h[n0]?=some (.list (acc.map (kv ts)))->ts.length+ik (l.filter q)<9000->acc.length+l.length<=100->
  ∃ r h',iW n0 same (qb (pg m) elt conds j e) (l.map enc) h=some ((),h')/\St W h' (ts++r) pend a/\h'[n0]?=some (.list ((acc++l.filter q).map (kv (ts++r))))/\Fr (n0::kX) h h'/\(∀ z∈l.filter q,z∈ts++r)/\r.length<=ik (l.filter q):=by
 intro l
 induction l with
 | nil=>
  intro h ts acc S hp _ _ _ hs ha h0 hl hc;exact ⟨[],h,rfl,by rw[List.append_nil];exact S,by rw[List.append_nil];simpa using h0,Fr.rfl',(fun z hz=>by cases hz),Nat.zero_le _⟩
 | cons z l ih=>
  intro h ts acc S hp hk Kq Qh hs ha h0 hl hc;have TX:n0∉kX:=fun x=>by have:=(by decide:∀ i∈kX,i<87) n0 x;lia
  cases qz:q z with
  | false=>
   have e1:(z::l).filter q=l.filter q:=by rw[List.filter_cons,qz];rfl
   rw[e1] at hl⊢;refine BY (ih h ts acc S hp (fun w hw=>hk w (.tail _ hw)) (fun w hw=>Kq w (.tail _ hw)) (fun w hw=>Qh w (.tail _ hw)) hs ha h0 hl (by rw[List.length_cons] at hc;lia)) fun r h' c1 c2 c3 c4 c5 c6=>?_;refine ⟨r,h',?_,c2,c3,c4,c5,c6⟩;have cb:qb (pg m) elt conds j e (enc z) h=some (none,h):=by
    have:=Kq z (.head _) h;rw[qz] at this;unfold qb;rw[this];rfl
   exact La cb (hs h Fr.rfl') c1
  | true=>
   have e1:(z::l).filter q=z::l.filter q:=by rw[List.filter_cons,qz];rfl
   rw[e1] at hl⊢;simp only[ik] at hl⊢;refine bY (hk z (.head _) qz) fun lk pc=>?_;refine sF (lk h ts pend a S hp pc (by lia)) fun r1 h1 a1 a2 a3 a4 a5=>?_;have NR:=a4 n0 _ TX h0;have ea:acc.map (kv (ts++r1))=acc.map (kv ts):=xa ha
   let h2:=h1.set n0 (.list ((acc++[z]).map (kv (ts++r1))))
   have f2:Fr [n0] h1 h2:=Fr.set (.head _);have F0:Fr (n0::kX) h h2:=(a4.mono fun i x=>.tail _ x).trans (f2.mono fun i x=>by rw[UL x];exact .head _);have S2:St W h2 (ts++r1) pend a:=a2.fr f2 fun i x=>by rw[UL x];exact hn
   have TY:h2[n0]?=some (.list ((acc++[z]).map (kv (ts++r1)))):=d9 (bU NR);refine BY (ih h2 (ts++r1) (acc++[z]) S2 (fun u hu=>UP _ (hp u hu)) (fun w hw=>hk w (.tail _ hw)) (fun w hw=>Kq w (.tail _ hw)) (fun w hw=>Qh w (.tail _ hw)) (fun MW f=>hs MW (F0.trans f))
    (fun u hu=>(UR hu).elim (fun x=>UP _ (ha u x)) fun x=>by rw[UL x];exact a3) TY (by rw[UN];lia) (by rw[List.length_cons] at hc;rw[UN,List.length_singleton];lia)) fun r2 h' c1 c2 c3 c4 c5 c6=>?_
   refine ⟨r1++r2,h',?_,by rw[<-List.append_assoc];exact c2,by rw[show acc++z::l.filter q=acc++[z]++l.filter q by simp,<-List.append_assoc ts];exact c3,F0.trans c4,fun w hw=>?_,by rw[UN];lia⟩
   ·have cb:qb (pg m) elt conds j e (enc z) h=some (some (kv (ts++r1) z),h1):=by
     have:=Kq z (.head _) h;rw[qz] at this;unfold qb;rw[this,bE];show bf (ba (pg m) elt _ h) _=_;rw[Qh z (.head _) h _ _ a1];rfl
    have Qi:bp (acc.map (kv ts))=true:=bA (by rw[UQ];lia);have TZ:h1.set n0 (.list (acc.map (kv ts)++[kv (ts++r1) z]))=h2:=by
     show _=h1.set n0 _;rw[List.map_append,List.map_singleton,ea]
    exact FQ cb NR Qi TZ (hs h2 F0) c1
   ·rw[<-List.append_assoc];rcases UO hw with e|hw
    ·rw[e];exact UP _ a3
    ·exact c5 w hw
end
end
section
theorem Dd{t:T}(h:dr t=true):gf t=true:=by
 refine fU (zt h) fun a b c=>?_;have o:=fu (iS h);cases t with
 | nm n=>
  have key:∀ u∈dD,u≠.nm 59->u≠.nm 60->bk u≠8->gf u=true:=by decide +kernel
  exact key _ (dE o) a b c
 | one n x=>unfold gf;rw[UT c];rfl
 | two n x y=>rfl
theorem sD{t:T}(h:dr t=true):∀ u∈aQ t,dr u=true:=fun u hu=>by
 cases t with
 | nm n=>cases hu
 | one n a=>
  rw[UL hu]
  by_cases q:n=61
  ·subst q;have h:isNm valN a=true:=h
   (refine aM (AX h) fun k y1_1 hk=>?_;obtain rfl:=y1_1)
   exact (by decide:∀ k∈valN,dr (.nm k)=true) k hk
  ·simp only[dr,if_neg q,Bool.and_eq_true] at h;exact h.2
 | two n a b=>
  simp only[dr,Bool.and_eq_true] at h;rcases UO hu with e|e
  ·rw[e];exact h.2.1
  ·rw[UL e];exact h.2.2
theorem IX{t:T}(h:dr t=true)(nn:∀ k,t≠.nm k):bk t≠1:=fun e=>by
 have:=(iO t).mp e;cases t with
 | nm k=>exact nn k rfl
 | one k a=>cases this
 | two k a b=>cases this
theorem IY{W:Wd}{x z:T}(nn:∀ k,x≠.nm k)(h:z∈ez W x):∃ b,z=.one 11 b/\b∈aQ x/\(aQ x).head?=some b/\aH x≠11/\ht z<=ht x:=by
 cases x with
 | nm k=>exact absurd rfl (nn k)
 | one k b=>
  simp only[ez] at h
  split at h
  ·rename_i e
   exact ⟨b,UL h,.head _,rfl,by rw[show aH (.one k b)=k from rfl,e];decide,by rw[UL h];exact Nat.le_refl _⟩
  ·cases h
 | two k b c=>
  simp only[ez] at h
  split at h
  ·rename_i e
   exact ⟨b,UL h,.head _,rfl,by rw[show aH (.two k b c)=k from rfl,e.1];decide,by rw[UL h];simp only[ht];lia⟩
  ·cases h
section
variable{W:Wd}{h h':Hp}{ts pend:List T}{t s u v x y:T}{n m:Nat}{a:Int}
theorem St.lw(S:St W h ts pend a):Lw W h a:=⟨S.rs,S.sk⟩
theorem Gy{k:Nat}(hk:T.nm k∈dD):LK W (n+1) (.nm k):=by
 intro h ts pend a S hp pc hl;refine ⟨[],h,?_,by rw[List.append_nil];exact S,by rw[List.append_nil];exact iN S.rp.tb hk,Fr.rfl',Nat.zero_le _⟩;have key:∀ t∈dD,aW da (.str (aH t))=some (.int (dD.idxOf t:Nat)):=by decide +kernel
 have g:=key _ hk;have e:kv (ts++[]) (.nm k)=.int (dD.idxOf (.nm k):Nat):=by rw[List.append_nil,kv,mM S.rp.tb hk]
 have wp:bI aA (.obj 82) (.str 62) h=some (.obj 81):=bh S.sk rfl rfl;have c:bg aA .isin (.str k) (.obj 81) h=some true:=by rw[cT S.rs.Me rfl];rw[show aW da (.str k)=_ from g];rfl
 have sp:bI aA (.obj 81) (.str k) h=some (.int (dD.idxOf (.nm k):Nat)):=bh S.rs.Me rfl g;have bd:cP (.many [3,4]) (enc (.nm k)) [some (.obj 82),some (.obj 8),some (enc (.nm k)),none,none,none,none,none,none]=some [some (.obj 82),some (.obj 8),some (enc (.nm k)),some (.str k),some (.tup []),none,none,none,none]:=rfl;rw[e,km]
 with_reducible repeat' exists[aB,ao,ab,av,aq,au,aw],[aG,bh,cT],ae,bd,wp,c,sp,aN rfl
theorem St.LG(S:St W h ts pend a)(hp:∀ u∈pend,u∈ts)(N:GQ ts x){r:List T}(R':Rp h' (ts++r))(f:Fr lH h h')(o:x∈ts/\r=[]∨x∉ts/\r=[x]):∃ gh,St W h' (ts++r) gh a/\(∀ u∈gh,u=x∨u∈pend)/\(∀ u∈pend,u∈gh)/\(gh=pend∨gh=x::pend):=by
 rcases o with ⟨q,rfl⟩|⟨q,rfl⟩
 ·refine ⟨pend,?_,fun u hu=>.inr hu,fun u hu=>hu,.inl rfl⟩;rw[List.append_nil] at R'⊢;exact ⟨R',S.rs.fr f fun i x=>.inl ((by decide:∀ i∈lH,i<8) i x),f 82 _ (by decide) S.sk,by refine aM S.fs fun fs zc p=>?_;exact ⟨fs,f 10 _ (by decide) zc,p⟩,S.oh,S.gd⟩
 ·exact ⟨x::pend,S.put N q R' f hp,fun u hu=>UO hu,fun u hu=>.tail _ hu,.inr rfl⟩
noncomputable def Qj(x:T)(pend:List T):Prop:=∀ u∈pend,(∃ k,u=.nm k)∨(ht x<=ht u/\x≠u/\aH u≠11)
noncomputable def Qk:E:=.call 79 [.loc 0,.loc 1,.loc 7]
theorem IZ(S:St W h ts pend a)(hp:∀ u∈pend,u∈ts)(pc:Qj x pend)(hk:∀ u∈aQ x,LK W m u)(hl:ts.length+ik (aQ x)<9000):∃ r h',ba (pg m) (.jv (.comp Qk 7 (.loc 4) [])) [some (.obj 82),some (.obj 8),some (enc x),some (.str (aH x)),some (.tup ((aQ x).map enc)),none,none,none,none] h=some (.tup ((aQ x).map (kv (ts++r))),h')/\St W h' (ts++r) pend a/\Fr kX h h'/\(∀ u∈aQ x,u∈ts++r)/\r.length<=ik (aQ x):=by
 have big:=S.lw.rs.Dl;have Mo:87<=h.length:=bU big;have ft:(aQ x).filter (fun _=>true)=aQ x:=List.filter_eq_self.mpr fun _ _=>rfl;have al:=pW x;refine BY (oA (W:=W) (m:=m) (pend:=pend) (a:=a) (elt:=Qk) (conds:=[]) (j:=7) (e:=[some (.obj 82),some (.obj 8),some (enc x),some (.str (aH x)),some (.tup ((aQ x).map enc)),none,none,none,none]) (n0:=h.length) (same:=cV (.tup ((aQ x).map enc)) ((aQ x).map enc)) (q:=fun _=>true) Mo (aQ x) (h++[.list []]) ts [] (S.pure Fr.app) hp
  (fun z hz _=>⟨hk z hz,fun u hu=>(pc u hu).imp id fun ⟨p,_,q⟩=>by have:=AV hz;exact ⟨by lia,fun e=>by subst e;lia,q⟩⟩) (fun z hz h=>rfl) (fun z hz h v h' e=>af (aa (aC rfl) (aa (aC rfl) (aa (aC rfl) ag))) e) (fun h' _=>rfl) (fun u hu=>by cases hu) bT (by rw[ft];exact hl) (by show 0+_<=100;lia)) fun r h' c1 c2 c3 c4 c5 c6=>?_
 rw[ft] at c3 c5 c6;rw[List.nil_append] at c3;refine ⟨r,h',?_,c2,((Fr.app (X:=h.length::kX) (h:=h) (l:=[.list []])).trans c4).drop fun i x=>?_,c5,c6⟩
 ·exact mJ (xG (aC rfl) rfl c1) (mK c3 (bA (by rw[UQ];lia)))
 ·rcases UO x with e|x
  ·exact .inr (by lia)
  ·exact .inl x
theorem Gz:∀ {x:T},dr x=true->(∀ k,x≠.nm k)->ik (aQ x)+1+ik (ez W x)<=cost x:=fun {x} d nn=>by
 cases x with
 | nm k=>exact absurd rfl (nn k)
 | one k b=>
  have e1:ik (aQ (.one k b))=cost b:=Nat.add_zero _;rw[e1]
  by_cases q:k=14
  ·have e2:ik (ez W (.one k b))=1+cost b:=by rw[ez,if_pos q];rfl
   have e3:cost (.one k b)=2+2 * cost b:=if_pos q;lia
  ·have e2:ik (ez W (.one k b))=0:=by rw[ez,if_neg q];rfl
   have e3:cost (.one k b)=1+cost b:=if_neg q;lia
 | two k b c=>
  have e1:ik (aQ (.two k b c))=cost b+(cost c+0):=rfl;have e3:cost (.two k b c)=2+2 * cost b+cost c:=rfl;have e2:ik (ez W (.two k b c))<=1+cost b:=by
   rw[ez];split
   ·show cost (.one 11 b)+0<=_;exact Nat.le_refl _
   ·exact Nat.zero_le _
  lia
noncomputable def Oa:List V:=[.str 11,.int 72,.str 12,.int 73,.str 13,.int 74,.str 14,.int 75]
noncomputable def Ob:List (V×V):=[(.str 11,.int 72),(.str 12,.int 73),(.str 13,.int 74),(.str 14,.int 75)]
theorem LH{x:T}(d:dr x=true)(nn:∀ k,x≠.nm k)(n1:aH x≠15)(n2:aH x≠61):(cW W x).filter (fun z=>decide (aH z=11))=ez W x/\(cW W x).length<=2/\bk x=2/\aW Ob (.str (aH x))=some (.int (eV x)):=by
 cases x with
 | nm k=>exact absurd rfl (nn k)
 | one k b=>
  have T3:k≠61:=n2;simp only[dr,if_neg T3,Bool.and_eq_true,List.contains_iff_mem,List.mem_cons,List.not_mem_nil,or_false] at d;rcases d.1 with rfl|rfl|rfl
  ·exact absurd rfl n1
  ·exact ⟨rfl,Nat.le_of_ble_eq_true rfl,rfl,rfl⟩
  ·exact ⟨rfl,Nat.le_of_ble_eq_true rfl,rfl,rfl⟩
 | two k b c=>
  simp only[dr,Bool.and_eq_true,List.contains_iff_mem,List.mem_cons,List.not_mem_nil,or_false] at d;rcases d.1 with rfl|rfl
  ·have e1:cW W (.two 12 b c)=if W.eE then [ob,.one 11 b] else [ob]:=rfl;have e2:ez W (.two 12 b c)=if 12=12/\W.eE=true then [.one 11 b] else []:=rfl;rw[e1,e2];cases W.eE<;>exact ⟨rfl,Nat.le_of_ble_eq_true rfl,rfl,rfl⟩
  ·have e2:ez W (.two 13 b c)=[]:=by rw[ez,if_neg fun z=>absurd z.1 (by decide)]
   rw[e2];exact ⟨rfl,Nat.le_of_ble_eq_true rfl,rfl,rfl⟩
theorem I0{p:Nat}{l:List V}(S:St W h ts pend a)(e:h[p]?=some (.list l))(hl:(l.length)<=2):p∉kX:=fun z=>by
 refine cX S.rp.tb.base fun r er=>?_;have b27:27<=ts.length:=by rw[er,UN];exact Nat.le_add_right 27 _
 have no:∀ {m:List V},h[p]?=some (.list m)->m.length=ts.length->False:=fun e' hm=>by
  rw[e] at e';cases e';lia
 have nd:∀ {k:Nat} {m:List (V×V)},h[p]?=some (.dict k m)->False:=fun e'=>by rw[e] at e';cases e'
 simp only[kX,List.mem_cons,List.not_mem_nil,or_false] at z;rcases z with rfl|rfl|rfl|rfl|rfl|rfl
 ·exact no S.rp.h3 (UQ ..)
 ·exact nd S.rp.h4
 ·exact no S.rp.h5 (UQ ..)
 ·exact no S.rp.h6 (UQ ..)
 ·exact no S.rp.h7 (UQ ..)
 ·refine aM S.fs fun fs zc _=>?_;exact nd zc
theorem sE(d:dr x=true)(nn:∀ k,x≠.nm k)(hh:ht x<=8)(hk:∀ u∈aQ x,LK W (m+8) u)(hz:∀ z∈ez W x,LK W (m+8) z):LK W (m+9) x:=by
 intro h ts pend a S hp pc hl;have cl:=Gz (W:=W) d nn;have wp:bI aA (.obj 82) (.str 62) h=some (.obj 81):=bh S.sk rfl rfl;have ow:=fu (iS d);have np:(aW da (.str (aH x))).isSome=false:=by
  have key:∀ k∈[15,99,61,11,14,12,13],(aW da (.str k)).isSome=false:=by decide
  exact key _ ((rF ow).resolve_left fun ⟨k,e⟩=>nn k e)
 have c0:bg aA .isin (.str (aH x)) (.obj 81) h=some false:=by rw[cT S.rs.Me rfl,np]
 refine sF (IZ (W:=W) (m:=m+8) S hp pc hk (by lia)) fun r1 h1 a1 a2 a3 a4 a5=>?_;have OK:∀ u∈pend,u∈ts++r1:=fun u hu=>UP _ (hp u hu);have N:GQ (ts++r1) x:=⟨ow,IX d nn,a4,fun _ u hu=>Dd (sD d u hu),fun e=>absurd e (zt d).2.2,hh⟩;have bd:∀ {P:xK},cP (.many [3,4]) (enc x) [some (.obj 82),some (.obj 8),some (enc x),none,none,none,none,none,none]=some [some (.obj 82),some (.obj 8),some (enc x),some (.str (aH x)),some (.tup ((aQ x).map enc)),none,none,none,none]:=fun {P}=>by rw[um];rfl
 have bd:=bd (P:=pg 0);have Ql:cC (.obj 8) 38 h1=some (.obj 2):=k8 a2.rs rfl;unfold Qk at a1;have fin:∀ {gh:List T} {r:List T} {hh:Hp},St W hh (ts++r1++r) gh a->(gh=pend∨gh=x::pend)->ez W x=[]->(x∉pend)->St W hh (ts++r1++r) pend a:=fun {gh r hh} S' o e xp=>by
  rcases o with rfl|rfl
  ·exact S'
  ·exact S'.Gp e xp
 have xp:x∉pend:=fun z=>(pc x z).elim (fun ⟨k,e⟩=>nn k e) fun w=>w.2.1 rfl
 by_cases q1:aH x=15
 ·
  obtain ⟨b,rfl⟩:∃ b,x=.one 15 b:=by
   rcases rF ow with ⟨k,e⟩|_
   ·exact absurd e (nn k)
   ·cases x with
    | nm k=>exact absurd rfl (nn k)
    | one k b=>exact ⟨b,by rw[show k=15 from q1]⟩
    | two k b c=>rw[show k=15 from q1] at ow;exact absurd ow (by show ¬ (false=true);decide)
  refine sF (BE (n:=m+1) a2.rp N (by rw[UN];lia)) fun r h2 p1 p2 p3 p4 p5=>?_;refine nY (a2.LG OK N p2 p4 p5) fun gh S' _ _ o=>?_;have ak:=xd a2.rp p1;refine ⟨r1++r,h2,?_,by rw[<-List.append_assoc];exact fin S' o rfl xp,by rw[<-List.append_assoc];exact p3,a3.trans (p4.mono xF),?_⟩
  ·have cs:bg aA .eq (.str (aH (.one 15 b))) (.str 15) h1=some true:=by rw[dX];rfl
   rw[<-List.append_assoc,km];have T5:bI aA (.tup ((aQ (.one 15 b)).map (kv (ts++r1)))) (.int 0) h1=some (kv (ts++r1) b):=t0
   with_reducible repeat' first|exact a1|(apply aC;with_unfolding_all exact rfl)|exists[ag,aa,af,aK,aB,ao,mJ,eR,aj,ab,av,aq,au,bG,aw],[aG,aF,bh,mK,cT],ae,bd,wp,c0,cs,Ql,T5,ak,aN rfl,aD rfl,dO,iB|apply bj
  ·rw[UN];rcases p5 with ⟨_,rfl⟩|⟨_,rfl⟩
   ·simp only[List.length_nil];lia
   ·simp only[List.length_singleton];lia
 have RG:bg aA .eq (.str (aH x)) (.str 15) h1=some false:=by rw[dX,US q1]
 by_cases q2:aH x=61
 ·obtain ⟨b,rfl⟩:∃ b,x=.one 61 b:=by
   rcases rF ow with ⟨k,e⟩|_
   ·exact absurd e (nn k)
   ·cases x with
    | nm k=>exact absurd rfl (nn k)
    | one k b=>exact ⟨b,by rw[show k=61 from q2]⟩
    | two k b c=>rw[show k=61 from q2] at ow;exact absurd ow (by show ¬ (false=true);decide)
  refine sF (BE (n:=m+1) a2.rp N (by rw[UN];lia)) fun r h2 p1 p2 p3 p4 p5=>?_;refine nY (a2.LG OK N p2 p4 p5) fun gh S' _ _ o=>?_;have ak:=xc (i:=8) (l:=(aQ (.one 61 b)).map (kv (ts++r1))) a2.rp (by decide) p1;refine ⟨r1++r,h2,?_,by rw[<-List.append_assoc];exact fin S' o rfl xp,by rw[<-List.append_assoc];exact p3,a3.trans (p4.mono xF),?_⟩
  ·have cs:bg aA .eq (.str (aH (.one 61 b))) (.str 61) h1=some true:=by rw[dX];rfl
   rw[<-List.append_assoc,km]
   with_reducible repeat' first|exact a1|(apply aC;with_unfolding_all exact rfl)|exists[ag,aa,af,aK,aB,ao,mJ,eR,aj,ab,av,aq,au,bG,aw],[aG,aF,bh,mK,cT],ae,bd,wp,c0,RG,cs,Ql,ak,aN rfl,aD rfl,dO,iB|apply bj
  ·rw[UN];rcases p5 with ⟨_,rfl⟩|⟨_,rfl⟩
   ·simp only[List.length_nil];lia
   ·simp only[List.length_singleton];lia
 have T6:bg aA .eq (.str (aH x)) (.str 61) h1=some false:=by rw[dX,US q2]
 refine lI (LH (W:=W) d nn q1 q2) fun og ol s2 gd=>?_
 let hD:Hp:=h1++[.dict 1 Ob]
 have fD:Fr [] h1 hD:=Fr.app;have SD:=a2.pure fD;have T7:eI h1.length Oa (h1++[.dict 1 []])=some (.obj h1.length,hD):=mL (by decide);have dv:∀ {P:xK} {e:aU} {hh:Hp},eY P [.lit (.str 11),.lit (.int (72)),.lit (.str 12),.lit (.int (73)),.lit (.str 13),.lit (.int (74)),.lit (.str 14),.lit (.int (75))] e hh=some (Oa,hh):=fun {P e hh}=>rfl;have sd:bI aA (.obj h1.length) (.str (aH x)) hD=some (.int (eV x)):=bh bT rfl gd;refine fU (vp ow (.inl s2)) fun mk1 mk2 T8=>?_;refine sF (BE (n:=m+1) SD.rp N (by rw[UN];lia)) fun r h2 p1 p2 p3 p4 p5=>?_;have rf:cG (ts++r1) x=.tup [.int 2,.int (eV x),.tup ((aQ x).map (kv (ts++r1)))]:=by
  rcases dw (ts++r1) x with ⟨p,_⟩|⟨_,q⟩|⟨p,_⟩
  ·lia
  ·rw[q,s2]
  ·lia
 rw[rf] at p1;have ck:=pN SD.rp T8 p1;refine nY (SD.LG OK N p2 p4 p5) fun gh S' sb sp o=>?_;have zG:∀ u∈gh,u∈ts++r1++r:=fun u hu=>(sb u hu).elim (fun e=>e▸p3) fun z=>UP _ (OK u z);refine fG (uq (n:=m+7) S'.lw ow (fun b e=>absurd (by rw[e];rfl) (zt d).2.2)) fun pp h3 o1 o2 o3=>?_;have S3:=S'.pure o3;have b3:87<=h3.length:=bU S3.rs.Dl;have T9:r1.length+r.length<=ik (aQ x)+1:=by
  rcases p5 with ⟨_,rfl⟩|⟨_,rfl⟩
  ·simp only[List.length_nil];lia
  ·simp only[List.length_singleton];lia
 refine BY (oA (W:=W) (m:=m+8) (pend:=gh) (a:=a) (elt:=.call 79 [.loc 0,.loc 1,.loc 8]) (conds:=[.cmp .eq (.sub (.loc 8) (.lit (.int (0)))) (.lit (.str 11))]) (j:=8) (e:=[some (.obj 82),some (.obj 8),some (enc x),some (.str (aH x)),some (.tup ((aQ x).map enc)),some (.tup ((aQ x).map (kv (ts++r1)))),some (kv (ts++r1++r) x),none,none]) (n0:=h3.length) (same:=cV (.obj pp) ((cW W x).map enc)) (q:=fun z=>decide (aH z=11)) b3 (cW W x) (h3++[.list []]) (ts++r1++r) [] (S3.pure Fr.app) zG
  (fun z zQ qz=>by
   have zi:z∈ez W x:=by rw[<-og];exact List.mem_filter.mpr ⟨zQ,qz⟩
   obtain ⟨b,e,_,_,ng,Oq⟩:=IY nn zi;refine ⟨hz z zi,fun u hu=>?_⟩;rcases sb u hu with e'|w
   ·rw[e'];exact .inr ⟨Oq,fun e2=>ng (by rw[<-e2,e];rfl),ng⟩
   ·rcases pc u w with k|⟨k1,k2,k3⟩
    ·exact .inl k
    ·exact .inr ⟨by lia,fun e2=>k3 (by rw[<-e2,e];rfl),k3⟩)
  (fun z zQ hh=>by
   have z0:=e0 (t:=z) (h:=hh);show bf (ba (pg (m+8)) _ _ hh) _=_;rw[ao (aB (aC rfl) ae z0) ae dX];cases decide (aH z=11)<;>rfl)
  (fun z zQ hh v h' e=>af (aa (aC rfl) (aa (aC rfl) (aa (aC rfl) ag))) e)
  (fun h' f=>gM (f pp _ (fun z=>by
   rcases UO z with e|z
   ·have:=bU o2;lia
   ·exact I0 S3 o2 (by rw[UQ];exact ol) z) (bj o2))) (fun u hu=>by cases hu) bT (by rw[og,UN,UN];lia) (by show 0+_<=100;lia)) fun r2 h4 c1 c2 c3 c4 c5 c6=>?_
 rw[og] at c3 c5 c6;rw[List.nil_append] at c3;have it:dR (.obj pp) h3=some ((cW W x).map enc):=iu o2;have RH:(ez W x).length<=2:=BJ x;have cv:ba (pg (m+8)) (.jv (.comp (.call 79 [.loc 0,.loc 1,.loc 8]) 8 (.call 70 [.loc 0,.loc 2]) [.cmp .eq (.sub (.loc 8) (.lit (.int (0)))) (.lit (.str 11))])) [some (.obj 82),some (.obj 8),some (enc x),some (.str (aH x)),some (.tup ((aQ x).map enc)),some (.tup ((aQ x).map (kv (ts++r1)))),some (kv (ts++r1++r) x),none,none] h2=some (.tup ((ez W x).map (kv (ts++r1++r++r2))),h4):=
  mJ (xG (af (aa (aC rfl) (aa (aC rfl) ag)) o1) it c1) (mK c3 (bA (by rw[UQ];lia)))
 have x4:x∈ts++r1++r++r2:=UP _ p3;have tl:(ts++r1++r++r2).length<=9000:=by rw[UN,UN,UN];lia
 refine dj (c2.JT (pend:=pend) x4 sb sp xp c5 tl) fun h5 si S5 f5=>?_;have kx:kv (ts++r1++r++r2) x=kv (ts++r1++r) x:=by rw[kv,dT p3]
 rw[kx] at si;have Qm:cC (.obj 8) 44 h4=some (.obj 10):=k8 c2.rs rfl;have asc:ts++(r1++(r++r2))=ts++r1++r++r2:=by simp[List.append_assoc]
 have Ua:Fr kX h3 h4:=((Fr.app (X:=h3.length::kX) (h:=h3) (l:=[.list []])).trans c4).drop fun i x=>by
  rcases UO x with e|x
  ·exact .inr (by lia)
  ·exact .inl x
 refine ⟨r1++(r++r2),h5,?_,by rw[asc];exact S5,by rw[asc];exact x4,a3.trans (fD.nil.trans ((p4.mono xF).trans (o3.nil.trans (Ua.trans f5)))),?_⟩
 ·have ek:ba (pg (m+8)) (.call 11 [.attr (.loc 1) 38,.sub (.dict 1 [.lit (.str 11),.lit (.int (72)),.lit (.str 12),.lit (.int (73)),.lit (.str 13),.lit (.int (74)),.lit (.str 14),.lit (.int (75))]) (.loc 3),.loc 5]) [some (.obj 82),some (.obj 8),some (enc x),some (.str (aH x)),some (.tup ((aQ x).map enc)),some (.tup ((aQ x).map (kv (ts++r1)))),none,none,none] h1=some (kv (ts++r1++r) x,h2):=
   af (aa (aK (aC rfl) Ql) (aa (aB (eR dv T7) (aC rfl) sd) (aa (aC rfl) ag))) ck
  rw[asc,kx,km]
  with_reducible repeat' first|exact a1|exact ek|exact cv|(apply aC;with_unfolding_all exact rfl)|exists[ag,aa,af,aK,aB,ao,mJ,eR,aj,ab,av,aq,au,bG,aw],[aG,aF,bh,mK,cT],ae,bd,wp,c0,RG,T6,Qm,si,aN rfl,aD rfl,dO,iB|apply bj
 ·rw[UN,UN];lia
theorem ux:∀ {x:T},dr x=true->ht x<=8->∀ n,LK W (n+3 * ht x+8) x
 | .nm k,d,hh,n=>Gy (JR d).1
 | .one k b,d,hh,n=>by
  have db:=sD d b (.head _);have hb:ht b<=8:=by simp only[ht] at hh;lia
  have IH:=ux db hb;have e:n+3 * ht (.one k b)+8=(n+3 * ht b+2)+9:=by simp only[ht];lia
  rw[e];refine sE d (fun k e=>by cases e) hh (fun u hu=>?_) fun z hz=>?_
  ·rw[UL hu];have:=IH (n+2);rw[show n+2+3 * ht b+8=n+3 * ht b+2+8 by lia] at this;exact this
  ·have d':dr (.one 11 b)=true:=by simp only[dr,db,Bool.and_true];rfl
   simp only[ez] at hz
   split at hz
   ·rw[UL hz];have e2:n+3 * ht b+2+8=(n+3 * ht b+1)+9:=by lia
    rw[e2];refine sE d' (fun k e=>by cases e) (by simp only[ht] at hh⊢;lia) (fun u hu=>?_) fun z hz=>by cases hz
    rw[UL hu];have:=IH (n+1);rw[show n+1+3 * ht b+8=n+3 * ht b+1+8 by lia] at this;exact this
   ·cases hz
 | .two k b c,d,hh,n=>by
  have db:=sD d b (.head _);have dc:=sD d c (.tail _ (.head _));have hb:ht b<=8:=by simp only[ht] at hh;lia
  have hc:ht c<=8:=by simp only[ht] at hh;lia
  have IH:=ux db hb;have IC:=ux dc hc;have e:n+3 * ht (.two k b c)+8=(n+3 * max (ht b) (ht c)+2)+9:=by simp only[ht];lia
  rw[e];refine sE d (fun k e=>by cases e) hh (fun u hu=>?_) fun z hz=>?_
  ·rcases UO hu with q|q
   ·rw[q];have:=IH (n+2+3 * (max (ht b) (ht c) - ht b));rw[show n+2+3 * (max (ht b) (ht c) - ht b)+3 * ht b+8=n+3 * max (ht b) (ht c)+2+8 by lia] at this;exact this
   ·rw[UL q];have:=IC (n+2+3 * (max (ht b) (ht c) - ht c));rw[show n+2+3 * (max (ht b) (ht c) - ht c)+3 * ht c+8=n+3 * max (ht b) (ht c)+2+8 by lia] at this;exact this
  ·have d':dr (.one 11 b)=true:=by simp only[dr,db,Bool.and_true];rfl
   simp only[ez] at hz
   split at hz
   ·rw[UL hz];have e2:n+3 * max (ht b) (ht c)+2+8=(n+3 * max (ht b) (ht c)+1)+9:=by lia
    rw[e2];refine sE d' (fun k e=>by cases e) (by simp only[ht] at hh⊢;lia) (fun u hu=>?_) fun z hz=>by cases hz
    rw[UL hu];have:=IH (n+1+3 * (max (ht b) (ht c) - ht b));rw[show n+1+3 * (max (ht b) (ht c) - ht b)+3 * ht b+8=n+3 * max (ht b) (ht c)+1+8 by lia] at this;exact this
   ·cases hz
end
end
section
section
variable{W:Wd}{h h':Hp}{ts pend:List T}{t s u v x y:T}{n m:Nat}{a:Int}
theorem St.Oc(S:St W h ts pend a)(f:Fr [82] h h'){a':Int}(e:h'[82]?=some (.dict 1 [(.str 56,.obj 19),(.str 58,.obj 17),(.str 62,.obj 81),(.str 55,.int a'),(.str 57,.bool W.eE)])):St W h' ts pend a' where
 rp:=S.rp.fr f fun i hi x=>by rw[UL x] at hi;lia
 rs:=S.rs.fr f fun i x=>.inr (.inr (.inl (UL x)))
 sk:=e
 fs:=by refine aM S.fs fun fs zc p=>?_;exact ⟨fs,f 10 _ (by decide) zc,p⟩
 oh:=S.oh
 gd:=S.gd
theorem gj(S:St W h ts pend a)(k:Nat)(hk:0<k)(Hs:k<1000):∃ (i:Nat) (h':Hp) (a':Int),i<k/\run aY (n+1) 69 [.obj 82,.int k] h=some (.int i,h')/\St W h' ts pend a'/\Fr [82] h h':=by
 let a':Int:=(a * 3461+50021) % 1000003
 let h1:=h.set 82 (.dict 1 [(.str 56,.obj 19),(.str 58,.obj 17),(.str 62,.obj 81),(.str 55,.int a'),(.str 57,.bool W.eE)])
 have f:Fr [82] h h1:=Fr.set (.head _);have OL:=d9 (o:=.dict 1 [(.str 56,.obj 19),(.str 58,.obj 17),(.str 62,.obj 81),(.str 55,.int a'),(.str 57,.bool W.eE)]) (bU S.sk);have k0:(0:Int)<k:=Int.ofNat_lt.mpr hk;have nn:0<=a' / 8 % k:=Int.emod_nonneg _ (by lia);have lt:a' / 8 % k<k:=Int.emod_lt_of_pos _ k0;refine cX (Int.eq_ofNat_of_zero_le nn) fun i hi=>?_;refine ⟨i,h1,a',by lia,?_,S.Oc f OL,f⟩;have wa:bI aA (.obj 82) (.str 55) h=some (.int a):=bh S.sk rfl rfl;have b1:lD .mul (.int a) (.int 3461) h=some (.int (a * 3461),h):=rfl;have b2:lD .add (.int (a * 3461)) (.int 50021) h=some (.int (a * 3461+50021),h):=rfl;have b3:lD .mod (.int (a * 3461+50021)) (.int 1000003) h=some (.int a',h):=rfl;have ss:dn (.obj 82) (.str 55) (.int a') h=some h1:=bF S.sk rfl rfl;have wb:bI aA (.obj 82) (.str 55) h1=some (.int a'):=bh OL rfl rfl;have b4:lD .fdiv (.int a') (.int 8) h1=some (.int (a' / 8),h1):=rfl;have b5:lD .mod (.int (a' / 8)) (.int k) h1=some (.int i,h1):=by
  show (if (0:Int)<k then some (a' / 8 % k) else none).bind _=_;rw[if_pos k0,hi];rfl
 rw[Ax]
 with_reducible repeat' exists[aB,b8,au,bG,aw],[bh,bF],ae,wa,b1,b2,b3,ss,wb,b4,b5
noncomputable def drawn(t:T)(k j:Nat):Prop:=dr t=true/\ht t<=k/\hr t<=j
theorem uy{k:Nat}(h:k∈rR):drawn (.nm k) 1 1:=by
 have key:∀ k∈rR,dr (.nm k)=true:=by decide
 exact ⟨key k h,Nat.le_refl 1,Nat.le_refl 1⟩
theorem AZ(S:St W h ts pend a):∃ (t:T) (h':Hp) (a':Int),run aY (n+2) 82 [.obj 82] h=some (enc t,h')/\drawn t 1 1/\St W h' ts pend a'/\Fr [82] h h':=by
 refine dP (gj (n:=n) S 11 (by decide) (by decide)) fun i h' a' hi e S' f=>?_;have key:∀ i:Nat,i<11->∃ k,k∈rR/\(ud.map V.str)[i]?=some (.str k):=by
  intro i hi;have k2:∀ i:Nat,i<11->(ud.map V.str)[i]?=some (.str (rR[i]?.getD 0))/\(rR[i]?.getD 0)∈rR:=by decide
  exact ⟨_,(k2 i hi).2,(k2 i hi).1⟩
 refine aM (key i hi) fun k hk g=>?_;have e:run aY (n+1) 69 [.obj 82,.int 11] h=some (.int i,h'):=e;have sb:bI aA (V.tup [.str 0,.str 1,.str 2,.str 3,.str 4,.str 5,.str 6,.str 7,.str 8,.str 9,.str 10,.str 11,.str 12,.str 13,.str 14,.str 15]) (.int i) h'=some (.str k):=bB (l:=ud.map V.str) rfl (je (Int.natCast_nonneg i) (by lia)) g;refine ⟨.nm k,h',a',?_,uy hk,S',f⟩;rw[AB]
 with_reducible repeat' first|exact (ae (v:=(V.tup [.str 0,.str 1,.str 2,.str 3,.str 4,.str 5,.str 6,.str 7,.str 8,.str 9,.str 10,.str 11,.str 12,.str 13,.str 14,.str 15])))|exists[ag,aa,af,aB,aI,au,aw],[bB],ae,e,sb
theorem xH(S:St W h ts pend a):∃ (t:T) (h':Hp) (a':Int),run aY (n+2) 83 [.obj 82] h=some (enc t,h')/\drawn t 2 1/\St W h' ts pend a'/\Fr [82] h h':=by
 refine dP (gj (n:=n) S 14 (by decide) (by decide)) fun i h1 a1 hi e1 S1 f1=>?_;refine dP (gj (n:=n) S1 3 (by decide) (by decide)) fun j h2 a2 hj e2 S2 f2=>?_;have e1:run aY (n+1) 69 [.obj 82,.int 14] h=some (.int i,h1):=e1;have e2:run aY (n+1) 69 [.obj 82,.int 3] h1=some (.int j,h2):=e2
 let vals:List Nat:=[16,17,18,19,20,21,22,23,24,25,26,27,28,29]
 have key:∀ i:Nat,i<14->(vals.map V.str)[i]?=some (.str (vals[i]?.getD 0))/\(vals[i]?.getD 0)∈vals:=by decide
 have dv:∀ k∈vals,dr (.nm k)=true:=by decide
 have Ub:∀ k∈vals,k≠27->dr (.one 61 (.nm k))=true:=by decide
 refine bY (key i hi) fun g hk=>?_
 generalize vals[i]?.getD 0=k at g hk
 have sb:bI aA (V.tup [.str 16,.str 17,.str 18,.str 19,.str 20,.str 21,.str 22,.str 23,.str 24,.str 25,.str 26,.str 27,.str 28,.str 29]) (.int i) h1=some (.str k):=bB (l:=vals.map V.str) rfl (je (Int.natCast_nonneg i) (by lia)) g;have c1:bg aA .eq (.int j) (.int 0) h2=some (decide ((j:Int)=0)):=gz;have c2:bg aA .ne (.str k) (.str 27) h2=some (!decide (k=27)):=uu
 by_cases q:(j:Int)=0/\k≠27
 ·have d:(decide ((j:Int)=0)&&!decide (k=27))=true:=by rw[UT q.1,US q.2];rfl
  refine ⟨.one 61 (.nm k),h2,a2,?_,⟨Ub k hk q.2,Nat.le_refl 2,Nat.le_refl 1⟩,S2,f1.trans f2⟩;rw[rC];show _=some (V.tup [.str 61,.tup [.tup [.str k,.tup []]]],h2)
  with_reducible repeat' first|exact (ae (v:=(V.tup [.str 16,.str 17,.str 18,.str 19,.str 20,.str 21,.str 22,.str 23,.str 24,.str 25,.str 26,.str 27,.str 28,.str 29])))|exists[ag,aa,af,aB,ao,ah,ai,aI,aj,ab,av,aq,au,aw,b9],[aG,aF,bB],ae,e1,sb,e2,c1,c2,aN d,aN rfl,aD rfl,uA
 ·have d:(decide ((j:Int)=0)&&!decide (k=27))=false:=by
   rw[Bool.eq_false_iff];intro z;simp only[Bool.and_eq_true,decide_eq_true_iff,Bool.not_eq_true',decide_eq_false_iff_not] at z;exact q z
  refine ⟨.nm k,h2,a2,?_,⟨dv k hk,(by decide:1<=2),Nat.le_refl 1⟩,S2,f1.trans f2⟩;rw[rC];show _=some (V.tup [.str k,.tup []],h2)
  with_reducible repeat' first|exact (ae (v:=(V.tup [.str 16,.str 17,.str 18,.str 19,.str 20,.str 21,.str 22,.str 23,.str 24,.str 25,.str 26,.str 27,.str 28,.str 29])))|exists[ag,aa,af,aB,ao,ah,ai,aI,aj,ab,av,aq,au,aw,b9],[aG,aF,bB],ae,e1,sb,e2,c1,c2,aD d,aN rfl,aD rfl,uA
theorem iE{k:Nat}{i j:Nat}(hk:k∈[15,11,14])(d:drawn t i j):drawn (.one k t) (i+1) (j+1):=by
 have ne:k≠61:=by
  have key:∀ k∈[15,11,14],k≠61:=by decide
  exact key k hk
 refine ⟨?_,Nat.succ_le_succ d.2.1,?_⟩
 ·simp only[dr,if_neg ne,d.1,Bool.and_true];exact List.contains_iff_mem.mpr hk
 ·simp only[hr,if_neg ne];exact Nat.succ_le_succ d.2.2
theorem qD{k:Nat}{i j:Nat}(hk:k∈[12,13])(d:drawn t i j)(d2:drawn u i j):drawn (.two k t u) (i+1) (j+1):=by
 refine ⟨?_,?_,?_⟩
 ·simp only[dr,d.1,d2.1,Bool.and_true];exact List.contains_iff_mem.mpr hk
 ·simp only[ht];have:=d.2.1;have:=d2.2.1;lia
 ·simp only[hr];have:=d.2.2;have:=d2.2.2;lia
theorem dU{i j i' j':Nat}(d:drawn t i j)(h1:i<=i')(h2:j<=j'):drawn t i' j':=⟨d.1,Nat.le_trans d.2.1 h1,Nat.le_trans d.2.2 h2⟩
theorem LI:∀ (deep:Nat) (h:Hp) (a:Int),deep<=100->St W h ts pend a->∃ (t:T) (h':Hp) (a':Int),run aY (n+deep+3) 84 [.obj 82,.int deep] h=some (enc t,h')/\drawn t (deep+2) (deep+1)/\St W h' ts pend a'/\Fr [82] h h':=by
 intro deep
 induction deep with
 | zero=>
  intro h a _ S;refine dP (gj (n:=n+1) S 9 (by decide) (by decide)) fun i h1 a1 hi e1 S1 f1=>?_;have e1:run aY (n+2) 69 [.obj 82,.int 9] h=some (.int i,h1):=e1;have c0:∀ {hh:Hp},bg aA .eq (.int ((0:Nat):Int)) (.int 0) hh=some true:=rfl
  by_cases q:i<7
  ·refine dP (AZ (n:=n) S1) fun t h2 a2 e2 d S2 f2=>?_;have dd:(decide ((i:Int)<3)||(true&&decide ((i:Int)<7)))=true:=by
    rw[UT (show (i:Int)<7 by lia)];exact Bool.or_true _
   refine ⟨t,h2,a2,?_,dU d (by decide) (by decide),S2,f1.trans f2⟩;rw[fQ]
   with_reducible repeat' exists[ag,aa,af,aB,ao,ah,ai,aI,b8,aj,ab,av,aq,au,aw,bz,b9],[aG,aF],ae,e1,c0,aN dd,e2,aN rfl,aD rfl,cR,fy
  ·refine dP (xH (n:=n) S1) fun t h2 a2 e2 d S2 f2=>?_;have dd:(decide ((i:Int)<3)||(true&&decide ((i:Int)<7)))=false:=by
    rw[US (show ¬ (i:Int)<7 by lia),US (show ¬ (i:Int)<3 by lia)];rfl
   have c3:bg aA .eq (.int i) (.int 3) h1=some (decide ((i:Int)=3)):=gz;have d3:(decide ((i:Int)=3)||true)=true:=Bool.or_true _;refine ⟨t,h2,a2,?_,dU d (by decide) (by decide),S2,f1.trans f2⟩;rw[fQ]
   with_reducible repeat' exists[ag,aa,af,aB,ao,ah,ai,aI,b8,aj,ab,av,aq,au,aw,bz,b9],[aG,aF],ae,e1,c0,aD dd,c3,aN d3,e2,aN rfl,aD rfl,cR,fy
 | succ deep ih=>
  intro h a hd S;refine dP (gj (n:=n+deep+2) S 9 (by decide) (by decide)) fun i h1 a1 hi e1 S1 f1=>?_;have e1:run aY (n+deep+3) 69 [.obj 82,.int 9] h=some (.int i,h1):=e1;have z0:decide (((deep+1:Nat):Int)=0)=false:=US (by lia);have c0:∀ {hh:Hp},bg aA .eq (.int ((deep+1:Nat):Int)) (.int 0) hh=some false:=fun {hh}=>by rw[gz,z0]
  have bs:∀ {hh:Hp},lD .sub (.int ((deep+1:Nat):Int)) (.int 1) hh=some (.int (deep:Nat),hh):=fun {hh}=>by
   show some (V.int (((deep+1:Nat):Int) - 1),hh)=_;congr 3;lia
  have eU:n+(deep+1)+3=(n+deep+3)+1:=by lia
  rw[eU]
  by_cases q:i<3
  ·refine dP (AZ (n:=n+deep+1) S1) fun t h2 a2 e2 d S2 f2=>?_;have dd:(decide ((i:Int)<3)||(false&&decide ((i:Int)<7)))=true:=by
    rw[UT (show (i:Int)<3 by lia)];rfl
   refine ⟨t,h2,a2,?_,dU d (by lia) (by lia),S2,f1.trans f2⟩;rw[fQ]
   with_reducible repeat' exists[ag,aa,af,aB,ao,ah,ai,aI,b8,aj,ab,av,aq,au,aw,bz,b9],[aG,aF],ae,e1,c0,aN dd,e2,aN rfl,aD rfl,cR,fy
  have dd:(decide ((i:Int)<3)||(false&&decide ((i:Int)<7)))=false:=by
   rw[US (show ¬ (i:Int)<3 by lia)];rfl
  have c3:bg aA .eq (.int i) (.int 3) h1=some (decide ((i:Int)=3)):=gz
  by_cases q3:i=3
  ·refine dP (xH (n:=n+deep+1) S1) fun t h2 a2 e2 d S2 f2=>?_;have d3:(decide ((i:Int)=3)||false)=true:=by rw[UT (show (i:Int)=3 by lia)];rfl
   refine ⟨t,h2,a2,?_,dU d (by lia) (by lia),S2,f1.trans f2⟩;rw[fQ]
   with_reducible repeat' exists[ag,aa,af,aB,ao,ah,ai,aI,b8,aj,ab,av,aq,au,aw,bz,b9],[aG,aF],ae,e1,c0,aD dd,c3,aN d3,e2,aN rfl,aD rfl,cR,fy
  have d3:(decide ((i:Int)=3)||false)=false:=by rw[US (show ¬ (i:Int)=3 by lia)];rfl
  refine dP (ih h1 a1 (by lia) S1) fun t h2 a2 e2 d S2 f2=>?_
  by_cases q4:i<6
  ·have d6:decide ((i:Int)<6)=true:=UT (by lia);have i4:i=4∨i=5:=by lia
   have bi:lD .sub (.int i) (.int 4) h1=some (.int ((i - 4:Nat):Int),h1):=by
    show some (V.int ((i:Int) - 4),h1)=_;congr 3;lia
   obtain ⟨k,hk,sb⟩:∃ k,k∈[15,11,14]/\∀ {hh:Hp},bI aA (.tup [.str 15,.str 11]) (.int ((i - 4:Nat):Int)) hh=some (.str k):=by
    rcases i4 with rfl|rfl
    ·exact ⟨15,.head _,rfl⟩
    ·exact ⟨11,.tail _ (.head _),rfl⟩
   refine ⟨.one k t,h2,a2,?_,iE hk d,S2,f1.trans f2⟩;rw[fQ];show _=some (V.tup [.str k,.tup [enc t]],h2)
   with_reducible repeat' exists[ag,aa,af,aB,ao,ah,ai,aI,b8,aj,ab,av,aq,au,aw,bz,b9],[aG,aF],ae,e1,c0,aD dd,c3,aD d3,aN d6,bi,sb,bs,e2,aN rfl,aD rfl,cR,fy
  have d6:decide ((i:Int)<6)=false:=US (by lia);have c8:bg aA .eq (.int i) (.int 8) h1=some (decide ((i:Int)=8)):=gz
  by_cases q8:i=8
  ·have d8:decide ((i:Int)=8)=true:=UT (by lia);refine ⟨.one 14 t,h2,a2,?_,iE (.tail _ (.tail _ (.head _))) d,S2,f1.trans f2⟩;rw[fQ];show _=some (V.tup [.str 14,.tup [enc t]],h2)
   with_reducible repeat' exists[ag,aa,af,aB,ao,ah,ai,aI,b8,aj,ab,av,aq,au,aw,bz,b9],[aG,aF],ae,e1,c0,aD dd,c3,aD d3,aD d6,c8,aN d8,bs,e2,aN rfl,aD rfl,cR,fy
  have d8:decide ((i:Int)=8)=false:=US (by lia);refine dP (ih h2 a2 (by lia) S2) fun u h3 a3 e3 d' S3 f3=>?_;have i6:i=6∨i=7:=by lia
  have bi:∀ {hh:Hp},lD .sub (.int i) (.int 6) hh=some (.int ((i - 6:Nat):Int),hh):=fun {hh}=>by
   show some (V.int ((i:Int) - 6),hh)=_;congr 3;lia
  obtain ⟨k,hk,sb⟩:∃ k,k∈[12,13]/\∀ {hh:Hp},bI aA (.tup [.str 12,.str 13]) (.int ((i - 6:Nat):Int)) hh=some (.str k):=by
   rcases i6 with rfl|rfl
   ·exact ⟨12,.head _,rfl⟩
   ·exact ⟨13,.tail _ (.head _),rfl⟩
  refine ⟨.two k t u,h3,a3,?_,qD hk d d',S3,(f1.trans f2).trans f3⟩;rw[fQ];show _=some (V.tup [.str k,.tup [enc t,enc u]],h3)
  with_reducible repeat' exists[ag,aa,af,aB,ao,ah,ai,aI,b8,aj,ab,av,aq,au,aw,bz,b9],[aG,aF],ae,e1,c0,aD dd,c3,aD d3,aD d6,c8,aD d8,bs,e2,bi,sb,e3,aN rfl,aD rfl,cR,fy
end
end
section
section
variable{W:Wd}{h h':Hp}{ts pend:List T}{t s u v x y:T}{n m:Nat}{a:Int}
theorem BU(S:St W h ts pend a)(d:dr x=true)(hq:aH x=61∨aQ x=[]):∃ (t:T) (h':Hp) (a':Int),run aY (n+3) 85 [.obj 82,enc x] h=some (enc t,h')/\drawn t (ht x) (hr x)/\St W h' ts pend a'/\Fr [82] h h':=by
 have ow:=fu (iS d);refine dP (gj (n:=n+1) S 4 (by decide) (by decide)) fun i h1 a1 hi e1 S1 f1=>?_;have e1:run aY (n+2) 69 [.obj 82,.int 4] h=some (.int i,h1):=e1;have al:=pW x;have bd:cP (.many [2,3]) (enc x) [some (.obj 82),some (enc x),none,none,none,none]=some [some (.obj 82),some (enc x),some (.str (aH x)),some (.tup ((aQ x).map enc)),none,none]:=by rw[um];rfl
 have cs:bg aA .eq (.str (aH x)) (.str 61) h=some (decide (aH x=61)):=dX;have ln:iT (.tup ((aQ x).map enc)) h=some (.int ((aQ x).length:Nat)):=by rw[cA (bA (by rw[UQ];lia)),UQ]
 have cl:bg aA .eq (.int ((aQ x).length:Nat)) (.int 0) h=some (decide (((aQ x).length:Int)=0)):=gz;have d0:(decide (aH x=61)||decide (((aQ x).length:Int)=0))=true:=by
  rcases hq with q|q
  ·rw[UT q];rfl
  ·rw[q];exact Bool.or_true _
 have p1:=ur x;have p2:=AP x;have c0:bg aA .eq (.int i) (.int 0) h1=some (decide ((i:Int)=0)):=gz;have c1:bg aA .eq (.int i) (.int 1) h1=some (decide ((i:Int)=1)):=gz;have c2:bg aA .eq (.int i) (.int 2) h1=some (decide ((i:Int)=2)):=gz
 by_cases q0:i=0
 ·have z:decide ((i:Int)=0)=true:=UT (by lia);refine ⟨x,h1,a1,?_,⟨d,Nat.le_refl _,Nat.le_refl _⟩,S1,f1⟩;rw[dC]
  with_reducible repeat' first|exists[ag,aa,af,aB,ao,ah,ai,aI,aP,b8,br,bS,c7,aj,ab,av,aq,au,aw,bz],[aG,aF,dS,cw,hU,cA],ae,bd,cs,ln,cl,aN d0,e1,c0,aN z,aN rfl,aD rfl,cH|apply bj
 have z0:decide ((i:Int)=0)=false:=US (by lia)
 by_cases q1:i=1
 ·have z1:decide ((i:Int)=1)=true:=UT (by lia);have wo:=Gl S1.lw
  let hA:Hp:=h1++[.list []]
  let hB:Hp:=hA++[.list [enc x]]
  have lA:hA.length=h1.length+1:=by rw[UN];rfl
  have Uc:Fr [] h1 hA:=Fr.app;have n1:jw [] h1=some (.obj h1.length,hA):=rfl;have n2:jw [enc x] hA=some (.obj hA.length,hB):=rfl;obtain ⟨p,l,u,g1,g2,g3,g4,g5⟩:∃ (p:Nat) (l:List T) (u:T),fW aA (.obj 19) (.str (aH x)) (.obj h1.length) hA=some (.obj p)/\hB[p]?=some (.list (l.map enc))/\(l++[x])[0]?=some u/\drawn u (ht x) (hr x)/\l.length<=100:=by
   have BG:=(Uc.at S1.rs.BG)
   by_cases k:aH x∈dG
   ·obtain ⟨j,rfl⟩:∃ j,x=.nm j:=(rF ow).resolve_right fun w=>by
     have key:∀ k∈[15,99,61,11,14,12,13],k∉dG:=by decide
     exact key _ w k
    have key:∀ k∈dG,aW lx (.str k)=some (.obj (mZ k)):=by decide
    have gk:=key j k;have Ll:∀ k∈dG,k=0∨∃ m,gg k=[.nm m]/\m∈rR:=by
     have k3:∀ k∈dG,k=0∨gg k=[.nm (aH ((gg k)[0]?.getD ob))]/\aH ((gg k)[0]?.getD ob)∈rR:=by decide
     exact fun k hk=>(k3 k hk).imp id fun z=>⟨_,z.1,z.2⟩
    have fl:(eh W j).length<=2:=by unfold eh;split;exact mO _;exact Nat.zero_le _
    rcases Ll j k with rfl|⟨m,e,hm⟩
    ·refine ⟨20,jW W 0,.nm 0,?_,?_,?_,⟨d,Nat.le_refl _,Nat.le_refl _⟩,?_⟩
     ·rw[cw BG rfl];rfl
     ·exact bj (bj (S1.rs.ov 0 k))
     ·rfl
     ·exact Nat.zero_le _
    ·refine ⟨mZ j,jW W j,.nm m,?_,?_,?_,?_,?_⟩
     ·rw[cw BG rfl,show aH (.nm j)=j from rfl,gk];rfl
     ·exact bj (bj (S1.rs.ov j k))
     ·rw[jW,e];rfl
     ·have:=uy hm;exact ⟨this.1,Nat.le_trans this.2.1 p1,Nat.le_trans this.2.2 p2⟩
     ·rw[jW,e,UN];show 1+_<=_;lia
   ·refine ⟨h1.length,[],x,?_,bj bT,rfl,⟨d,Nat.le_refl _,Nat.le_refl _⟩,Nat.zero_le _⟩;have gn:aW lx (.str (aH x))=none:=by
     rcases rF ow with ⟨j,rfl⟩|w
     ·have key:∀ t∈dD,aH t∉dG->aW lx (.str (aH t))=none:=by decide +kernel
      exact key _ (dE ow) k
     ·have key:∀ k∈[15,99,61,11,14,12,13],aW lx (.str k)=none:=by decide
      exact key _ w
    rw[cw BG rfl,gn];rfl
  let hC:Hp:=hB++[.list (l.map enc++[enc x])]
  have lB:bp (l.map enc++[enc x])=true:=bA (by rw[UN,UQ,List.length_singleton];lia);have ad:lD .add (.obj p) (.obj hA.length) hB=some (.obj hB.length,hC):=by
   have hq:hB[hA.length]?=some (.list [enc x]):=bT;exact FK g2 hq lB
  have sb:bI aA (.obj hB.length) (.int 0) hC=some (enc u):=hU (j:=0) bT rfl rfl (by
   have:l.map enc++[enc x]=(l++[x]).map enc:=by rw[List.map_append];rfl
   rw[this,List.getElem?_map,g3];rfl)
  have dc:xU (.obj 19) h1=true:=dS S1.rs.BG;refine ⟨u,hC,a1,?_,g4,S1.pure (Fr.app.trans (Fr.app.trans Fr.app)),f1.trans (Fr.app.trans (Fr.app.trans Fr.app))⟩;rw[dC]
  with_reducible repeat' first|exists[ag,aa,af,aB,ao,ah,ai,aI,aP,b8,br,bS,c7,aj,ab,av,aq,au,aw,bz],[aG,aF,dS,cw,hU,cA],ae,bd,cs,ln,cl,aN d0,e1,c0,aD z0,c1,aN z1,wo,dc,n1,g1,n2,ad,sb,aN rfl,aD rfl,cH|apply bj
 have z1:decide ((i:Int)=1)=false:=US (by lia)
 by_cases q2:i=2
 ·have z2:decide ((i:Int)=2)=true:=UT (by lia);refine dP (gj (n:=n+1) S1 3 (by decide) (by decide)) fun j h2 a2 hj e2 S2 f2=>?_;have e2:run aY (n+2) 69 [.obj 82,.int 3] h1=some (.int j,h2):=e2;obtain ⟨k,hk,sb⟩:∃ k,k∈rR/\bI aA (.tup [.str 3,.str 4,.str 5]) (.int j) h2=some (.str k):=by
   have j3:j=0∨j=1∨j=2:=by lia
   rcases j3 with rfl|rfl|rfl
   ·exact ⟨3,by decide,rfl⟩
   ·exact ⟨4,by decide,rfl⟩
   ·exact ⟨5,by decide,rfl⟩
  have dk:=uy hk;refine ⟨.nm k,h2,a2,?_,⟨dk.1,Nat.le_trans dk.2.1 p1,Nat.le_trans dk.2.2 p2⟩,S2,f1.trans f2⟩;rw[dC];show _=some (V.tup [.str k,.tup []],h2)
  with_reducible repeat' first|exists[ag,aa,af,aB,ao,ah,ai,aI,aP,b8,br,bS,c7,aj,ab,av,aq,au,aw,bz],[aG,aF,dS,cw,hU,cA],ae,bd,cs,ln,cl,aN d0,e1,c0,aD z0,c1,aD z1,c2,aN z2,e2,sb,aN rfl,aD rfl,cH|apply bj
 ·have z2:decide ((i:Int)=2)=false:=US (by lia);refine dP (AZ (n:=n) S1) fun t h2 a2 e2 dt S2 f2=>?_;refine ⟨t,h2,a2,?_,⟨dt.1,Nat.le_trans dt.2.1 p1,Nat.le_trans dt.2.2 p2⟩,S2,f1.trans f2⟩;rw[dC]
  with_reducible repeat' first|exists[ag,aa,af,aB,ao,ah,ai,aI,aP,b8,br,bS,c7,aj,ab,av,aq,au,aw,bz],[aG,aF,dS,cw,hU,cA],ae,bd,cs,ln,cl,aN d0,e1,c0,aD z0,c1,aD z1,c2,aD z2,e2,aN rfl,aD rfl,cH|apply bj
theorem uz:∀ (x:T) (h:Hp) (a:Int),dr x=true->St W h ts pend a->∀ n,∃ (t:T) (h':Hp) (a':Int),run aY (n+ht x+3) 85 [.obj 82,enc x] h=some (enc t,h')/\drawn t (ht x) (hr x)/\St W h' ts pend a'/\Fr [82] h h'
 | .nm k,h,a,d,S,n=>by
  have:=BU (n:=n+1) S d (.inr rfl);exact this
 | .one k b,h,a,d,S,n=>by
  by_cases q:k=61
  ·have:=BU (n:=n+ht (.one k b)) S d (.inl q);exact this
  ·have d':=d;simp only[dr,if_neg q,Bool.and_eq_true,List.contains_iff_mem] at d';refine dP (uz b h a d'.2 S n) fun t h1 a1 e1 dt S1 f1=>?_;have bd:cP (.many [2,3]) (enc (.one k b)) [some (.obj 82),some (enc (.one k b)),none,none,none,none]=some [some (.obj 82),some (enc (.one k b)),some (.str k),some (.tup [enc b]),none,none]:=rfl;have cs:bg aA .eq (.str k) (.str 61) h=some (decide (k=61)):=dX;have ln:∀ {hh:Hp},iT (.tup [enc b]) hh=some (.int 1):=rfl;have cl:bg aA .eq (.int 1) (.int 0) h=some false:=rfl;have d0:(decide (k=61)||false)=false:=by rw[US q];rfl
   have dk:decide (k=61)=false:=US q;have eU:n+ht (.one k b)+3=(n+ht b+3)+1:=by simp only[ht];lia
   have Qn:hr (.one k b)=hr b+1:=if_neg q;have LV:ht (.one k b)=ht b+1:=rfl;rw[eU,Qn,LV];have c3:∀ {j:Nat},bg aA .eq (.str k) (.str j) h1=some (decide (k=j)):=dX;have one:∀ {hh:Hp},bg aA .eq (.int 1) (.int 1) hh=some true:=rfl;have tA:bI aA (.tup [enc b]) (.int 0) h=some (enc b):=t0
   by_cases q2:k=14∨k=12
   ·have dd:(decide (k=14)||decide (k=12))=true:=by rcases q2 with e|e<;>rw[UT e];rfl;exact Bool.or_true _
    refine dP (gj (n:=n+ht b+2) S1 6 (by decide) (by decide)) fun i h2 a2 hi e2 S2 f2=>?_;have e2:run aY (n+ht b+3) 69 [.obj 82,.int 6] h1=some (.int i,h2):=e2;have c0:bg aA .eq (.int i) (.int 0) h2=some (decide ((i:Int)=0)):=gz;have I3:ba (pg (n+ht b+3)) (.aV false [.cmp .eq (.loc 2) (.lit (.str 14)),.cmp .eq (.loc 2) (.lit (.str 12))]) [some (.obj 82),some (enc (.one k b)),some (.str k),some (.tup [enc b]),none,some (enc t)] h1=some (.bool true,h1):=by
     rw[<-dd]
     with_reducible repeat' first|(apply aC;with_unfolding_all exact rfl)|exists[ag,aa,af,aB,ao,ah,ai,aI,br,aj,ab,av,aq,au,aw,bz],[aG,aF,aO,aT,aS],ae,c3,aN rfl,aD rfl,dO
    by_cases q3:(i:Int)=0
    ·have z:decide ((i:Int)=0)=true:=UT q3;refine ⟨.one 11 t,h2,a2,?_,iE (.tail _ (.head _)) dt,S2,f1.trans f2⟩;rw[dC];show _=some (V.tup [.str 11,.tup [enc t]],h2)
     with_reducible repeat' first|exact I3|(apply aC;with_unfolding_all exact rfl)|exists[ag,aa,af,aB,ao,ah,ai,aL,aI,br,aj,ab,av,aq,au,aw],[aG,aF,aO,aT,aS],ae,bd,cs,ln,cl,aD dk,tA,e1,e2,c0,aN z,aN rfl,aD rfl,dO
    ·have z:decide ((i:Int)=0)=false:=US q3;refine ⟨.one k t,h2,a2,?_,iE (List.contains_iff_mem.mp (List.contains_iff_mem.mpr d'.1)) dt,S2,f1.trans f2⟩;rw[dC];show _=some (V.tup [.str k,.tup [enc t]],h2)
     with_reducible repeat' first|exact I3|(apply aC;with_unfolding_all exact rfl)|exists[ag,aa,af,aB,ao,ah,ai,aL,aI,br,aj,ab,av,aq,au,aw],[aG,aF,aO,aT,aS],ae,bd,cs,ln,cl,aD dk,tA,e1,e2,c0,aD z,one,aN rfl,aD rfl,dO
   ·have dd:(decide (k=14)||decide (k=12))=false:=by rw[US fun e=>q2 (.inl e),US fun e=>q2 (.inr e)];rfl
    have I3:ba (pg (n+ht b+3)) (.aV true [.aV false [.cmp .eq (.loc 2) (.lit (.str 14)),.cmp .eq (.loc 2) (.lit (.str 12))],.cmp .eq (.call 69 [.loc 0,.lit (.int (6))]) (.lit (.int (0)))]) [some (.obj 82),some (enc (.one k b)),some (.str k),some (.tup [enc b]),none,some (enc t)] h1=some (.bool false,h1):=by
     refine ah (aL (ah (bz (ao (aC rfl) ae c3) (ai (ao (aC rfl) ae c3)))) (aD dd) (aS ?_));rw[dd]
    refine ⟨.one k t,h1,a1,?_,iE d'.1 dt,S1,f1⟩;rw[dC];show _=some (V.tup [.str k,.tup [enc t]],h1)
    with_reducible repeat' first|exact I3|(apply aC;with_unfolding_all exact rfl)|exists[ag,aa,af,aB,ao,ah,ai,aI,br,aj,ab,av,aq,au,aw,bz],[aG,aF,aO,aT,aS],ae,bd,cs,ln,cl,aD d0,tA,e1,one,aN rfl,aD rfl,dO
 | .two k b c,h,a,d,S,n=>by
  have d':=d;simp only[dr,Bool.and_eq_true,List.contains_iff_mem] at d';have q:k≠61:=fun e=>by rw[e] at d';exact absurd d'.1 (by decide)
  refine dP (uz b h a d'.2.1 S (n+(max (ht b) (ht c) - ht b))) fun t h1 a1 e1 dt S1 f1=>?_;have Qo:drawn t (max (ht b) (ht c)) (max (hr b) (hr c)):=dU dt (Nat.le_max_left ..) (Nat.le_max_left ..);have eU:n+ht (.two k b c)+3=(n+max (ht b) (ht c)+3)+1:=by simp only[ht];lia
  have Qn:hr (.two k b c)=max (hr b) (hr c)+1:=rfl;have LV:ht (.two k b c)=max (ht b) (ht c)+1:=rfl;rw[show n+(max (ht b) (ht c) - ht b)+ht b+3=n+max (ht b) (ht c)+3 by lia] at e1;rw[eU,Qn,LV];have bd:cP (.many [2,3]) (enc (.two k b c)) [some (.obj 82),some (enc (.two k b c)),none,none,none,none]=some [some (.obj 82),some (enc (.two k b c)),some (.str k),some (.tup [enc b,enc c]),none,none]:=rfl;have cs:bg aA .eq (.str k) (.str 61) h=some (decide (k=61)):=dX;have ln:∀ {hh:Hp},iT (.tup [enc b,enc c]) hh=some (.int 2):=rfl;have cl:bg aA .eq (.int 2) (.int 0) h=some false:=rfl;have d0:(decide (k=61)||false)=false:=by rw[US q];rfl
  have dk:decide (k=61)=false:=US q;have c3:∀ {j:Nat},bg aA .eq (.str k) (.str j) h1=some (decide (k=j)):=dX;have two:∀ {hh:Hp},bg aA .eq (.int 2) (.int 1) hh=some false:=rfl;have tA:bI aA (.tup [enc b,enc c]) (.int 0) h=some (enc b):=t0;have tB:∀ {hh:Hp},bI aA (.tup [enc b,enc c]) (.int 1) hh=some (enc c):=t1
  by_cases q2:k=14∨k=12
  ·have dd:(decide (k=14)||decide (k=12))=true:=by rcases q2 with e|e<;>rw[UT e];rfl;exact Bool.or_true _
   refine dP (gj (n:=n+max (ht b) (ht c)+2) S1 6 (by decide) (by decide)) fun i h2 a2 hi e2 S2 f2=>?_;have e2:run aY (n+max (ht b) (ht c)+3) 69 [.obj 82,.int 6] h1=some (.int i,h2):=e2;have c0:bg aA .eq (.int i) (.int 0) h2=some (decide ((i:Int)=0)):=gz;have I3:ba (pg (n+max (ht b) (ht c)+3)) (.aV false [.cmp .eq (.loc 2) (.lit (.str 14)),.cmp .eq (.loc 2) (.lit (.str 12))]) [some (.obj 82),some (enc (.two k b c)),some (.str k),some (.tup [enc b,enc c]),none,some (enc t)] h1=some (.bool true,h1):=by
    rw[<-dd]
    with_reducible repeat' first|(apply aC;with_unfolding_all exact rfl)|exists[ag,aa,af,aB,ao,ah,ai,aI,br,aj,ab,av,aq,au,aw,bz],[aG,aF,aO,aT,aS],ae,c3,aN rfl,aD rfl,dO
   by_cases q3:(i:Int)=0
   ·have z:decide ((i:Int)=0)=true:=UT q3;refine ⟨.one 11 t,h2,a2,?_,iE (.tail _ (.head _)) Qo,S2,f1.trans f2⟩;rw[dC];show _=some (V.tup [.str 11,.tup [enc t]],h2)
    with_reducible repeat' first|exact I3|(apply aC;with_unfolding_all exact rfl)|exists[ag,aa,af,aB,ao,ah,ai,aL,aI,br,aj,ab,av,aq,au,aw],[aG,aF,aO,aT,aS],ae,bd,cs,ln,cl,aD dk,tA,e1,e2,c0,aN z,aN rfl,aD rfl,dO
   ·have z:decide ((i:Int)=0)=false:=US q3;refine dP (uz c h2 a2 d'.2.2 S2 (n+(max (ht b) (ht c) - ht c))) fun u h3 a3 e3 du S3 f3=>?_;rw[show n+(max (ht b) (ht c) - ht c)+ht c+3=n+max (ht b) (ht c)+3 by lia] at e3;refine ⟨.two k t u,h3,a3,?_,qD d'.1 Qo (dU du (Nat.le_max_right ..) (Nat.le_max_right ..)),S3,(f1.trans f2).trans f3⟩;rw[dC];show _=some (V.tup [.str k,.tup [enc t,enc u]],h3)
    with_reducible repeat' first|exact I3|(apply aC;with_unfolding_all exact rfl)|exists[ag,aa,af,aB,ao,ah,ai,aL,aI,br,aj,ab,av,aq,au,aw],[aG,aF,aO,aT,aS],ae,bd,cs,ln,cl,aD dk,tA,e1,e2,c0,aD z,two,tB,e3,aN rfl,aD rfl,dO
  ·have dd:(decide (k=14)||decide (k=12))=false:=by rw[US fun e=>q2 (.inl e),US fun e=>q2 (.inr e)];rfl
   have I3:ba (pg (n+max (ht b) (ht c)+3)) (.aV true [.aV false [.cmp .eq (.loc 2) (.lit (.str 14)),.cmp .eq (.loc 2) (.lit (.str 12))],.cmp .eq (.call 69 [.loc 0,.lit (.int (6))]) (.lit (.int (0)))]) [some (.obj 82),some (enc (.two k b c)),some (.str k),some (.tup [enc b,enc c]),none,some (enc t)] h1=some (.bool false,h1):=by
    refine ah (aL (ah (bz (ao (aC rfl) ae c3) (ai (ao (aC rfl) ae c3)))) (aD dd) (aS ?_));rw[dd]
   refine dP (uz c h1 a1 d'.2.2 S1 (n+(max (ht b) (ht c) - ht c))) fun u h3 a3 e3 du S3 f3=>?_;rw[show n+(max (ht b) (ht c) - ht c)+ht c+3=n+max (ht b) (ht c)+3 by lia] at e3;refine ⟨.two k t u,h3,a3,?_,qD d'.1 Qo (dU du (Nat.le_max_right ..) (Nat.le_max_right ..)),S3,f1.trans f3⟩;rw[dC];show _=some (V.tup [.str k,.tup [enc t,enc u]],h3)
   with_reducible repeat' first|exact I3|(apply aC;with_unfolding_all exact rfl)|exists[ag,aa,af,aB,ao,ah,ai,aI,br,aj,ab,av,aq,au,aw,bz],[aG,aF,aO,aT,aS],ae,bd,cs,ln,cl,aD d0,tA,e1,two,tB,e3,aN rfl,aD rfl,dO
end
end
section
noncomputable def sT(s:T):Prop:=Mj s/\ht s<=4/\hr s<=3
theorem vB{s:T}(d:drawn s 4 3):sT s:=⟨.inl d.1,d.2.1,d.2.2⟩
section
variable{W:Wd}{h h':Hp}{ts pend:List T}{t s u v x y:T}{n m:Nat}{a:Int}
theorem De(S:St W h ts pend a):∃ (s x y:T) (c:V) (h':Hp) (a':Int),run aY (n+9) 86 [.obj 82] h=some (.tup [enc s,c,enc x,enc y],h')/\sT s/\c∈consts/\drawn x 4 3/\drawn y 4 3/\St W h' ts pend a'/\Fr [82] h h':=by
 refine dP (gj (n:=n+7) S 4 (by decide) (by decide)) fun i h1 a1 hi e1 S1 f1=>?_;have e1:run aY (n+8) 69 [.obj 82,.int 4] h=some (.int i,h1):=e1;have c3:∀ {hh:Hp},bg aA .eq (.int i) (.int 3) hh=some (decide ((i:Int)=3)):=gz;have c2:∀ {hh:Hp},bg aA .eq (.int i) (.int 2) hh=some (decide ((i:Int)=2)):=gz;have vl:∀ {h:Hp} {a:Int},St W h ts pend a->∃ (t:T) (h':Hp) (a':Int),run aY (n+8) 83 [.obj 82] h=some (enc t,h')/\drawn t 4 3/\St W h' ts pend a'/\Fr [82] h h':=fun S=>by
  refine dP (xH (n:=n+6) S) fun t h' a' e d S' f=>?_;exact ⟨t,h',a',e,dU d (by decide) (by decide),S',f⟩
 have tm:∀ {h:Hp} {a:Int},St W h ts pend a->∃ (t:T) (h':Hp) (a':Int),run aY (n+8) 84 [.obj 82,.int 2] h=some (enc t,h')/\drawn t 4 3/\St W h' ts pend a'/\Fr [82] h h':=fun {h a} S=>LI (n:=n+3) 2 h a (by decide) S;have nr:∀ {h:Hp} {a:Int} {x:T},drawn x 4 3->St W h ts pend a->∃ (t:T) (h':Hp) (a':Int),run aY (n+8) 85 [.obj 82,enc x] h=some (enc t,h')/\drawn t 4 3/\St W h' ts pend a'/\Fr [82] h h':=fun {h a x} d S=>by
  refine dP (uz x h a d.1 S (n+5 - ht x)) fun t h' a' e dt S' f=>?_;have:=d.2.1;rw[show n+5 - ht x+ht x+3=n+8 by lia] at e;exact ⟨t,h',a',e,dU dt d.2.1 d.2.2,S',f⟩
 obtain ⟨x,h2,a2,E2,dx,S2,f2⟩:∃ (x:T) (h2:Hp) (a2:Int),ba (pg (n+8)) (.ite (.cmp .eq (.loc 1) (.lit (.int (3)))) (.call 83 [.loc 0]) (.call 84 [.loc 0,.lit (.int (2))])) [some (.obj 82),some (.int i),none,none,none,none,none] h1=some (enc x,h2)/\drawn x 4 3/\St W h2 ts pend a2/\Fr [82] h1 h2:=by
  by_cases q:(i:Int)=3
  ·have d:decide ((i:Int)=3)=true:=UT q;refine dP (vl S1) fun x h2 a2 e dx S2 f2=>?_;refine ⟨x,h2,a2,?_,dx,S2,f2⟩
   with_reducible repeat' first|(apply aC;with_unfolding_all exact rfl)|exists[ag,aa,af,aB,ao,ah,ai,aL,aI,aP,av,aq,au,aw],[aG,aF,aO,aS,bB],ae,c3,aN d,e,aN rfl,aD rfl,uA,cR,fy,cH,dO,iB
  ·have d:decide ((i:Int)=3)=false:=US q;refine dP (tm S1) fun x h2 a2 e dx S2 f2=>?_;refine ⟨x,h2,a2,?_,dx,S2,f2⟩
   with_reducible repeat' first|(apply aC;with_unfolding_all exact rfl)|exists[ag,aa,af,aB,ao,ah,ai,aL,aI,aP,av,aq,au,aw],[aG,aF,aO,aS,bB],ae,c3,aD d,e,aN rfl,aD rfl,uA,cR,fy,cH,dO,iB
 obtain ⟨y,h3,a3,E3,dy,S3,f3⟩:∃ (y:T) (h3:Hp) (a3:Int),ba (pg (n+8)) (.ite (.cmp .eq (.loc 1) (.lit (.int (3)))) (.call 83 [.loc 0]) (.ite (.cmp .eq (.loc 1) (.lit (.int (2)))) (.call 84 [.loc 0,.lit (.int (2))]) (.call 85 [.loc 0,.loc 2]))) [some (.obj 82),some (.int i),some (enc x),none,none,none,none] h2=some (enc y,h3)/\drawn y 4 3/\St W h3 ts pend a3/\Fr [82] h2 h3:=by
  by_cases q:(i:Int)=3
  ·have d:decide ((i:Int)=3)=true:=UT q;refine dP (vl S2) fun x h2 a2 e dx S2 f2=>?_;refine ⟨x,h2,a2,?_,dx,S2,f2⟩
   with_reducible repeat' first|(apply aC;with_unfolding_all exact rfl)|exists[ag,aa,af,aB,ao,ah,ai,aL,aI,aP,av,aq,au,aw],[aG,aF,aO,aS,bB],ae,c3,aN d,e,aN rfl,aD rfl,uA,cR,fy,cH,dO,iB
  ·have d:decide ((i:Int)=3)=false:=US q
   by_cases q2:(i:Int)=2
   ·have d2:decide ((i:Int)=2)=true:=UT q2;refine dP (tm S2) fun x h2 a2 e dx S2 f2=>?_;refine ⟨x,h2,a2,?_,dx,S2,f2⟩
    with_reducible repeat' first|(apply aC;with_unfolding_all exact rfl)|exists[ag,aa,af,aB,ao,ah,ai,aL,aI,aP,av,aq,au,aw],[aG,aF,aO,aS,bB],ae,c3,aD d,c2,aN d2,e,aN rfl,aD rfl,uA,cR,fy,cH,dO,iB
   ·have d2:decide ((i:Int)=2)=false:=US q2;refine dP (nr dx S2) fun x h2 a2 e dx S2 f2=>?_;refine ⟨x,h2,a2,?_,dx,S2,f2⟩
    with_reducible repeat' first|(apply aC;with_unfolding_all exact rfl)|exists[ag,aa,af,aB,ao,ah,ai,aL,aI,aP,av,aq,au,aw],[aG,aF,aO,aS,bB],ae,c3,aD d,c2,aD d2,e,aN rfl,aD rfl,uA,cR,fy,cH,dO,iB
 refine dP (gj (n:=n+7) S3 8 (by decide) (by decide)) fun j h4 a4 hj e4 S4 f4=>?_;have e4:run aY (n+8) 69 [.obj 82,.int 8] h3=some (.int j,h4):=e4;have OM:∀ {k:Nat},k∈[60,16,18,59,27,26]->sT (.nm k):=fun {k} hk=>by
  simp only[List.mem_cons,List.not_mem_nil,or_false] at hk;refine ⟨?_,Nat.le_of_ble_eq_true rfl,Nat.le_of_ble_eq_true rfl⟩;rcases hk with rfl|rfl|rfl|rfl|rfl|rfl
  ·exact .inr (.inr rfl)
  ·exact .inl (by decide)
  ·exact .inl (by decide)
  ·exact .inr (.inl rfl)
  ·exact .inl (by decide)
  ·exact .inl (by decide)
 obtain ⟨s0,Ud,E5⟩:∃ s0,sT s0/\bI aA (.tup [.tup [.str 60,.tup []],enc x,enc y,.tup [.str 16,.tup []],.tup [.str 18,.tup []],.tup [.str 59,.tup []],.tup [.str 27,.tup []],.tup [.str 26,.tup []]]) (.int j) h4=some (enc s0):=by
  have io:gO (j:Int)=true:=je (Int.natCast_nonneg j) (by lia)
  let L:List T:=[.nm 60,x,y,.nm 16,.nm 18,.nm 59,.nm 27,.nm 26]
  have lj:j<L.length:=hj;have g:L[j]?=some L[j]:=List.getElem?_eq_getElem lj;have m:L[j]∈L:=List.getElem_mem lj
  generalize L[j]=u at g m
  refine ⟨u,?_,bB (l:=L.map enc) rfl io (by rw[List.getElem?_map,g];rfl)⟩;rcases UO m with e|m
  ·rw[e];exact OM (by decide)
  rcases UO m with e|m
  ·rw[e];exact vB dx
  rcases UO m with e|m
  ·rw[e];exact vB dy
  have key:∀ u∈[T.nm 16,.nm 18,.nm 59,.nm 27,.nm 26],∃ k,u=.nm k/\k∈[60,16,18,59,27,26]:=by
   have k2:∀ u∈[T.nm 16,.nm 18,.nm 59,.nm 27,.nm 26],u=.nm (aH u)/\aH u∈[60,16,18,59,27,26]:=by decide
   exact fun u hu=>⟨_,(k2 u hu).1,(k2 u hu).2⟩
  refine aM (key u m) fun k e hk=>?_;rw[e];exact OM hk
 have cj:∀ {hh:Hp} {k:Int},bg aA .eq (.int j) (.int k) hh=some (decide ((j:Int)=k)):=gz;obtain ⟨s1,h6,a6,RI,E6,S6,f6⟩:∃ (s1:T) (h6:Hp) (a6:Int),sT s1/\(∀ {l:List Mine.S} {r:SR},aR (pg (n+8)) l [some (.obj 82),some (.int i),some (enc x),some (enc y),some (.int j),some (enc s1),none] h6=r->aR (pg (n+8)) (.ite (.aV false [.cmp .eq (.loc 4) (.lit (.int (5))),.cmp .eq (.loc 4) (.lit (.int (6)))]) [.asg (.one 5) (.ite (.cmp .eq (.loc 1) (.lit (.int (3)))) (.call 83 [.loc 0]) (.call 85 [.loc 0,.loc 2]))] []::l) [some (.obj 82),some (.int i),some (enc x),some (enc y),some (.int j),some (enc s0),none] h4=r)/\St W h6 ts pend a6/\Fr [82] h4 h6:=by
  have GV:ba (pg (n+8)) (.aV false [.cmp .eq (.loc 4) (.lit (.int (5))),.cmp .eq (.loc 4) (.lit (.int (6)))]) [some (.obj 82),some (.int i),some (enc x),some (enc y),some (.int j),some (enc s0),none] h4=some (.bool (decide ((j:Int)=5)||decide ((j:Int)=6)),h4):=by
   with_reducible repeat' first|(apply aC;with_unfolding_all exact rfl)|exists[ag,aa,af,aB,ao,ah,ai,aI,aP,av,aq,au,aw,bz],[aG,aF,aO,aS,bB],ae,cj,aN rfl,aD rfl,uA,cR,fy,cH,dO,iB
  cases z:(decide ((j:Int)=5)||decide ((j:Int)=6)) with
  | false=>exact ⟨s0,h4,a4,Ud,fun k=>aq GV (aD z) (aF k),S4,Fr.rfl'⟩
  | true=>
   by_cases q:(i:Int)=3
   ·have d:decide ((i:Int)=3)=true:=UT q;refine dP (vl S4) fun u h6 a6 e du S6 f6=>?_;refine ⟨u,h6,a6,vB du,fun k=>aq GV (aN z) (aG (av (aP (ao (aC rfl) ae c3) (aN d) (aG (af (aa (aC rfl) ag) e))) dO k)),S6,f6⟩
   ·have d:decide ((i:Int)=3)=false:=US q;refine dP (nr dx S4) fun u h6 a6 e du S6 f6=>?_;refine ⟨u,h6,a6,vB du,fun k=>aq GV (aN z) (aG (av (aP (ao (aC rfl) ae c3) (aD d) (aF (af (aa (aC rfl) (aa (aC rfl) ag)) e))) dO k)),S6,f6⟩
 obtain ⟨s2,h7,a7,Ue,E7,S7,f7⟩:∃ (s2:T) (h7:Hp) (a7:Int),sT s2/\(∀ {l:List Mine.S} {r:SR},aR (pg (n+8)) l [some (.obj 82),some (.int i),some (enc x),some (enc y),some (.int j),some (enc s2),none] h7=r->aR (pg (n+8)) (.ite (.aV true [.cmp .eq (.loc 4) (.lit (.int (7))),.call 69 [.loc 0,.lit (.int (2))]]) [.asg (.one 5) (.sub (.tup [.tup [.lit (.str 59),.tup []],.tup [.lit (.str 27),.tup []]]) (.call 69 [.loc 0,.lit (.int (2))]))] []::l) [some (.obj 82),some (.int i),some (enc x),some (enc y),some (.int j),some (enc s1),none] h6=r)/\St W h7 ts pend a7/\Fr [82] h6 h7:=by
  cases z:decide ((j:Int)=7) with
  | false=>exact ⟨s1,h6,a6,RI,fun k=>aq (ah (aL (ao (aC rfl) ae cj) (aD z) (aS rfl))) (aD z) (aF k),S6,Fr.rfl'⟩
  | true=>
   refine dP (gj (n:=n+7) S6 2 (by decide) (by decide)) fun k1 h8 a8 hk1 e8 S8 f8=>?_;have e8:run aY (n+8) 69 [.obj 82,.int 2] h6=some (.int k1,h8):=e8;have GV:ba (pg (n+8)) (.aV true [.cmp .eq (.loc 4) (.lit (.int (7))),.call 69 [.loc 0,.lit (.int (2))]]) [some (.obj 82),some (.int i),some (enc x),some (enc y),some (.int j),some (enc s1),none] h6=some (.int k1,h8):=
    ah (aL (ao (aC rfl) ae cj) (aN z) (aO (ai (af (aa (aC rfl) (aa ae ag)) e8))))
   by_cases q:k1=0
   ·subst q;exact ⟨s1,h8,a8,RI,fun k=>aq GV NJ (aF k),S8,f8⟩
   ·refine dP (gj (n:=n+7) S8 2 (by decide) (by decide)) fun k2 h9 a9 Hs e9 S9 f9=>?_;have e9:run aY (n+8) 69 [.obj 82,.int 2] h8=some (.int k2,h9):=e9;obtain ⟨u,hu,sb⟩:∃ u,sT u/\bI aA (.tup [.tup [.str 59,.tup []],.tup [.str 27,.tup []]]) (.int k2) h9=some (enc u):=by
     match k2,Hs with
     | 0,_=>exact ⟨.nm 59,OM (by decide),rfl⟩
     | 1,_=>exact ⟨.nm 27,OM (by decide),rfl⟩
    refine ⟨u,h9,a9,hu,fun k=>aq GV (PT (by lia)) (aG (av (v:=enc u) (h1:=h9) ?_ dO k)),S9,f8.trans f9⟩
    with_reducible repeat' first|(apply aC;with_unfolding_all exact rfl)|exists[ag,aa,af,aB,ao,ah,ai,aL,aI,aP,av,aq,au,aw],[aG,aF,aO,aS,bB],ae,e9,sb,aN rfl,aD rfl,uA,cR,fy,cH,dO,iB
 obtain ⟨c,h8,a8,hc,E8,S8,f8⟩:∃ (c:V) (h8:Hp) (a8:Int),c∈consts/\ba (pg (n+8)) (.ite (.cmp .isin (.sub (.loc 5) (.lit (.int (0)))) (.tup [.lit (.str 16),.lit (.str 18)])) (.sub (.tup [.lit .none,.lit (.int (0)),.lit (.int (7)),.lit (.int (-1)),.lit (.int (300)),.lit (.int (70000))]) (.call 69 [.loc 0,.lit (.int (6))])) (.lit .none)) [some (.obj 82),some (.int i),some (enc x),some (enc y),some (.int j),some (enc s2),none] h7=some (c,h8)/\St W h8 ts pend a8/\Fr [82] h7 h8:=by
  have z0:=e0 (t:=s2) (h:=h7);obtain ⟨bb,ci⟩:∃ bb,bg aA .isin (.str (aH s2)) (.tup [.str 16,.str 18]) h7=some bb:=⟨_,rfl⟩;cases bb with
  | false=>
   refine ⟨.none,h7,a7,fv,?_,S7,Fr.rfl'⟩
   with_reducible repeat' first|(apply aC;with_unfolding_all exact rfl)|exists[ag,aa,af,aB,ao,ah,ai,aL,aI,aP,av,aq,au,aw],[aG,aF,aO,aS,bB],ae,z0,ci,aN rfl,aD rfl,uA,cR,fy,cH,dO,iB
  | true=>
   refine dP (gj (n:=n+7) S7 6 (by decide) (by decide)) fun k2 h9 a9 Hs e9 S9 f9=>?_;have e9:run aY (n+8) 69 [.obj 82,.int 6] h7=some (.int k2,h9):=e9;obtain ⟨c,hc,sb⟩:∃ c,c∈consts/\bI aA (.tup [.none,.int 0,.int 7,.int (-1),.int 300,.int 70000]) (.int k2) h9=some c:=by
    have lk:k2<consts.length:=Hs;have g:consts[k2]?=some consts[k2]:=List.getElem?_eq_getElem lk;exact ⟨consts[k2],List.getElem_mem lk,bB (l:=consts) rfl (je (Int.natCast_nonneg k2) (by lia)) g⟩
   refine ⟨c,h9,a9,hc,?_,S9,f9⟩
   with_reducible repeat' first|(apply aC;with_unfolding_all exact rfl)|exists[ag,aa,af,aB,ao,ah,ai,aL,aI,aP,av,aq,au,aw],[aG,aF,aO,aS,bB],ae,z0,ci,e9,sb,aN rfl,aD rfl,uA,cR,fy,cH,dO,iB
 refine ⟨s2,x,y,c,h8,a8,?_,Ue,hc,dx,dy,S8,((((f1.trans f2).trans f3).trans f4).trans f6).trans (f7.trans f8)⟩;have L5:ba (pg (n+8)) (.sub (.tup [.tup [.lit (.str 60),.tup []],.loc 2,.loc 3,.tup [.lit (.str 16),.tup []],.tup [.lit (.str 18),.tup []],.tup [.lit (.str 59),.tup []],.tup [.lit (.str 27),.tup []],.tup [.lit (.str 26),.tup []]]) (.loc 4)) [some (.obj 82),some (.int i),some (enc x),some (enc y),some (.int j),none,none] h4=some (enc s0,h4):=by
  with_reducible repeat' first|(apply aC;with_unfolding_all exact rfl)|exists[ag,aa,af,aB,ao,ah,ai,aL,aI,aP,av,aq,au,aw],[aG,aF,aO,aS,bB],ae,E5,aN rfl,aD rfl,uA,cR,fy,cH,dO,iB
 rw[CT]
 with_reducible repeat' first|exact E2|exact E3|exact L5|exact E8|(apply aC;with_unfolding_all exact rfl)|refine' E6 ?_|refine' E7 ?_|exists[ag,aa,af,aB,ao,ah,ai,aL,aI,aP,av,aq,au,aw],[aG,aF,aO,aS,bB],ae,e1,e4,aN rfl,aD rfl,uA,cR,fy,cH,dO,iB
theorem I5(t:T):cost t+1<=3 ^ ht t:=by
 induction t with
 | nm n=>exact Nat.le_of_ble_eq_true rfl
 | one n b ih=>
  have e:cost (.one n b)<=2+2 * cost b:=by simp only[cost];split<;>lia
  show _<=3 ^ (ht b+1);rw[Nat.pow_succ];lia
 | two n b c ib ic=>
  have e:cost (.two n b c)=2+2 * cost b+cost c:=rfl;have m1:=Nat.pow_le_pow_right (n:=3) (by decide) (Nat.le_max_left (ht b) (ht c));have m2:=Nat.pow_le_pow_right (n:=3) (by decide) (Nat.le_max_right (ht b) (ht c));show _<=3 ^ (max (ht b) (ht c)+1);rw[Nat.pow_succ];lia
theorem xI{t:T}(h:ht t<=4):cost t<=80:=by
 have:=I5 t;have:=Nat.pow_le_pow_right (n:=3) (by decide) h;lia
theorem LJ(hs:sT s):LK W (n+86) s:=by
 rcases hs.1 with d|rfl|rfl
 ·have h4:=hs.2.1;have:=ux (W:=W) d (by lia) (n+78 - 3 * ht s);rw[show n+78 - 3 * ht s+3 * ht s+8=n+86 by lia] at this;exact this
 ·exact Gy (n:=n+85) (by decide)
 ·exact Gy (n:=n+85) (by decide)
noncomputable def LL:List Mine.S:=[.ite (.cmp .ne (.call 68 [.loc 1,.loc 6,.loc 3,.loc 7,.loc 8]) (.call 78 [.loc 0,.loc 2,.loc 4,.loc 5])) [.ret (.lit (.bool false))] [],
 .ite (.cmp .ne (.call 68 [.loc 1,.loc 6,.loc 3,.loc 8,.loc 7]) (.call 78 [.loc 0,.loc 2,.loc 5,.loc 4])) [.ret (.lit (.bool false))] [],
 .ite (.cmp .ne (.call 62 [.loc 1,.loc 6,.loc 3,.loc 7]) (.call 76 [.loc 0,.loc 2,.loc 3,.loc 4])) [.ret (.lit (.bool false))] [],
 .ret (.aV true [.cmp .eq (.call 62 [.loc 1,.loc 7,.lit .none,.loc 8]) (.call 76 [.loc 0,.loc 4,.lit .none,.loc 5]),.cmp .eq (.call 62 [.loc 1,.loc 8,.lit .none,.loc 7]) (.call 76 [.loc 0,.loc 5,.lit .none,.loc 4])])]
theorem LM{tb:List T}(S:St W h tb [] a)(ms:s∈tb)(mx:x∈tb)(my:y∈tb)(hs:sT s){c:V}(hc:c∈consts)(dx:drawn x 4 3)(dy:drawn y 4 3)(hl:tb.length+20<9000):∃ r h',aR (pg (n+86)) LL [some (.obj 82),some (.obj 8),some (enc s),some c,some (enc x),some (enc y),some (kv tb s),some (kv tb x),some (kv tb y)] h=some ((.ret (.bool true),[some (.obj 82),some (.obj 8),some (enc s),some c,some (enc x),some (enc y),some (kv tb s),some (kv tb x),some (kv tb y)]),h')/\St W h' (tb++r) [] a/\Fr kX h h'/\r.length<=10:=by
 have up:∀ {z:T} {r:List T},z∈tb->z∈tb++r/\kv (tb++r) z=kv tb z:=fun hz=>⟨UP _ hz,by rw[kv,dT hz]⟩;have ff:∀ {h h':Hp},Fr lH h h'->Fr kX h h':=fun f=>f.mono xF;have RJ:ht s<=20:=by have:=hs.2.1;lia
 refine fH (zu (n:=n+66) (c:=c) S ms mx my dx.1 dy.1 dx.2.2 dy.2.2 (by lia)) fun r1 h1 e1 S1 f1 l1=>?_;refine aM (pZ (n:=n+1) (s:=s) (x:=x) (y:=y) S1.lw RJ dx.1 dy.1 dx.2.1 dy.2.1) fun h2 e2 f2=>?_;have S2:=S1.pure f2;refine fH (zu (n:=n+66) (c:=c) S2 (up ms).1 (up my).1 (up mx).1 dy.1 dx.1 dy.2.2 dx.2.2 (by rw[UN];lia)) fun r2 h3 e3 S3 f3 l2=>?_;rw[(up ms).2,(up mx).2,(up my).2] at e3;refine aM (pZ (n:=n+1) (s:=s) (x:=y) (y:=x) S3.lw RJ dy.1 dx.1 dy.2.1 dx.2.1) fun h4 e4 f4=>?_;have S4:=S3.pure f4;rw[List.append_assoc] at S4;refine fH (kH (n:=n+68) S4 (up ms).1 (up mx).1 hs.1 dx.1 hc hs.2.2 dx.2.2 (by simp only[UN];lia)) fun r3 h5 e5 S5 f5 l3=>?_;rw[(up ms).2,(up mx).2] at e5;refine aM (jZ (n:=n+2) (s:=s) (t:=x) S5.lw hs.1 dx.1 hc hs.2.1 dx.2.1) fun h6 e6 f6=>?_;have S6:=S5.pure f6;rw[List.append_assoc tb] at S6;refine fH (kH (n:=n+68) S6 (up mx).1 (up my).1 (.inl dx.1) dy.1 fv dx.2.2 dy.2.2 (by simp only[UN];lia)) fun r4 h7 e7 S7 f7 l4=>?_;rw[(up mx).2,(up my).2] at e7;refine aM (jZ (n:=n+2) (s:=x) (t:=y) S7.lw (.inl dx.1) dy.1 fv dx.2.1 dy.2.1) fun h8 e8 f8=>?_;have S8:=S7.pure f8;rw[List.append_assoc tb] at S8;refine fH (kH (n:=n+68) S8 (up my).1 (up mx).1 (.inl dy.1) dx.1 fv dy.2.2 dx.2.2 (by simp only[UN];lia)) fun r5 h9 e9 S9 f9 l5=>?_;rw[(up mx).2,(up my).2] at e9;refine aM (jZ (n:=n+2) (s:=y) (t:=x) S9.lw (.inl dy.1) dx.1 fv dy.2.1 dx.2.1) fun hA Mf RK=>?_;have SA:=S9.pure RK;rw[List.append_assoc tb] at SA;have ci:∀ {i:Int} {hh:Hp},bg aA .ne (.int i) (.int i) hh=some false:=fun {i hh}=>by
  have:bg aA .ne (.int i) (.int i) hh=some (!decide (V.int i=V.int i)):=AD rfl;rw[this,UT rfl];rfl
 have cp:∀ {p:Int×Int} {hh:Hp},bg aA .ne (iD p) (iD p) hh=some false:=fun {p hh}=>by
  have:bg aA .ne (iD p) (iD p) hh=some (!decide (iD p=iD p)):=AD rfl;rw[this,UT rfl];rfl
 have cq:∀ {p:Int×Int} {hh:Hp},bg aA .eq (iD p) (iD p) hh=some true:=fun {p hh}=>by
  have:bg aA .eq (iD p) (iD p) hh=some (decide (iD p=iD p)):=yV rfl;rw[this,UT rfl]
 refine ⟨r1++r2++r3++r4++r5,hA,?_,SA,(ff f1).trans (f2.nil.trans ((ff f3).trans (f4.nil.trans ((ff f5).trans (f6.nil.trans ((ff f7).trans (f8.nil.trans ((ff f9).trans RK.nil)))))))),by simp only[UN];lia⟩;unfold LL
 with_reducible repeat' exists[ag,aa,af,ao,ah,ai,aL,aj,aq,au],[aF,aO],ae,e1,e2,ci,e3,e4,e5,e6,cp,e7,e8,cq,e9,Mf,aN rfl,aD rfl
theorem Od(S:St W h ts [] a)(hs:sT s){c:V}(hc:c∈consts)(dx:drawn x 4 3)(dy:drawn y 4 3)(hl:ts.length+300<9000):∃ r h',run aY (n+87) 87 [.obj 82,.obj 8,enc s,c,enc x,enc y] h=some (.bool true,h')/\St W h' (ts++r) [] a/\Fr kX h h'/\r.length<=300:=by
 have cs:=xI hs.2.1;have cx:=xI dx.2.1;have cy:=xI dy.2.1;have np:∀ {tt:List T},∀ u∈([]:List T),u∈tt:=fun u z=>by cases z
 have pc:∀ {z:T},∀ u∈([]:List T),(∃ k,u=.nm k)∨(ht z<=ht u/\z≠u/\aH u≠11):=fun u z=>by cases z
 refine sF (LJ (n:=n) hs h ts [] a S np pc (by lia)) fun r1 h1 k1 S1 m1 f1 l1=>?_;refine sF (LJ (n:=n) (vB dx) h1 _ [] a S1 np pc (by rw[UN];lia)) fun r2 h2 k2 S2 m2 f2 l2=>?_;refine sF (LJ (n:=n) (vB dy) h2 _ [] a S2 np pc (by rw[UN,UN];lia)) fun r3 h3 k3 S3 m3 f3 l3=>?_;have ms:s∈ts++r1++r2++r3:=UP _ (UP _ m1);have mx:x∈ts++r1++r2++r3:=UP _ m2;have ks:kv (ts++r1++r2++r3) s=kv (ts++r1) s:=by rw[kv,dT (UP _ m1),dT m1]
 have kx:kv (ts++r1++r2++r3) x=kv (ts++r1++r2) x:=by rw[kv,dT m2]
 rw[<-ks] at k1;rw[<-kx] at k2;refine fH (LM (n:=n) S3 ms mx m3 hs hc dx dy (by simp only[UN];lia)) fun r h4 q S4 f4 l4=>?_;refine ⟨r1++(r2++(r3++r)),h4,?_,by simpa [List.append_assoc] using S4,((f1.trans f2).trans f3).trans f4,by simp only[UN];lia⟩;have bd:∀ {p q r:V},cP (.many [6,7,8]) (.tup [p,q,r]) [some (.obj 82),some (.obj 8),some (enc s),some c,some (enc x),some (enc y),none,none,none]=some [some (.obj 82),some (.obj 8),some (enc s),some c,some (enc x),some (enc y),some p,some q,some r]:=rfl;rw[CU];unfold LL at q;exact aw (av (aI (aa (af (aa (aC rfl) (aa (aC rfl) (aa (aC rfl) ag))) k1) (aa (af (aa (aC rfl) (aa (aC rfl) (aa (aC rfl) ag))) k2) (aa (af (aa (aC rfl) (aa (aC rfl) (aa (aC rfl) ag))) k3) ag))) rfl) bd q) rfl
end
end
section
noncomputable def dA:List V:=(List.range 16).map fun (i:Nat)=>V.tup [.int 1,.int i]
noncomputable def fx:List V:=dA++[.tup [.int 2,.int 2,.tup []],.tup [.int 2,.int 3,.tup []],.tup [.int 2,.int 5,.tup []],.tup [.int 2,.int 6,.tup []],.tup [.int 2,.int 64,.tup []],.tup [.int 2,.int 65,.tup []],.tup [.int 2,.int 66,.tup []],.tup [.int 2,.int 67,.tup []],.tup [.int 2,.int 68,.tup []],.tup [.int 3,.int 70,.tup []],.tup [.int 3,.int 71,.tup []]]
noncomputable def Oe(l:List V):List (V×V):=(l.zip ((List.range l.length).map fun (i:Nat)=>V.int i))
noncomputable def ones(l:List V)(i:Int):List V:=l.map fun _=>.int i
noncomputable def qE(l:List V):Hp:=[.ins 0 [(30,.obj 3),(31,.obj 4),(32,.obj 5),(33,.obj 6),(34,.obj 7)],.list l,.dict 2 (Oe l),.list (ones l 1),.list (ones l 1),.list (ones l 0)]
noncomputable def qc(b s v u:Nat):Hp:=[.ins 1 [(38,.obj 2),(43,.obj b),(44,.obj 10),(45,.obj s),(46,.obj v),(47,.obj u),(37,.obj 14),(48,.obj 15),(49,.obj 16)],.dict 0 [],.dict 0 [],.dict 0 [],.dict 0 [],.dict 0 [],.dict 0 [],.dict 0 [],.dict 0 []]
noncomputable def BV(o0 o1:O)(l:List V):Hp:=o0::o1::qE l++qc 9 11 12 13
theorem Qp(o0 o1:O):run aY 149 1 [.obj 2] [o0,o1,.ins 0 []]=some (.none,o0::o1::qE dA):=by kernel_rfl
theorem LN(o0 o1:O):run aY 149 35 [.obj 8,.obj 2] (o0::o1::qE dA++[.ins 1 []])=some (.none,BV o0 o1 dA):=by kernel_rfl
noncomputable def F8:Hp:=[.list (eF (bX 0)),.list (eF (bX 1)),.list (eF (bX 2)),.list (eF (bX 3)),.list (eF (bX 4)),.list (eF (bX 5)),.list (eF (bX 6)),.list (eF (bX 7))]
theorem Of:∀ j:Nat,j<8->F8[j]?=some (.list (eF (bX j))):=by
 intro j hj
 match j,hj with
 | 0,_=>rfl
 | 1,_=>rfl
 | 2,_=>rfl
 | 3,_=>rfl
 | 4,_=>rfl
 | 5,_=>rfl
 | 6,_=>rfl
 | 7,_=>rfl
theorem GA(x:Int)(k:Nat)(hk:0<k):∃ j:Nat,j<k/\x % (k:Int)=j:=by
 have k0:(0:Int)<k:=Int.ofNat_lt.mpr hk;have nn:0<=x % k:=Int.emod_nonneg _ (by lia);have lt:x % k<k:=Int.emod_lt_of_pos _ k0;refine cX (Int.eq_ofNat_of_zero_le nn) fun i hi=>?_;exact ⟨i,by lia,hi⟩
theorem A8{m:Nat}(h:Hp)(x:Int):∃ j:Nat,j<8/\run aY (m+1) 80 [.int x] h=some (.obj (h.length+j),h++F8):=by
 refine aM (GA x 8 (by decide)) fun j hj ej=>?_;have ej:x % 8=(j:Int):=ej;refine ⟨j,hj,?_⟩;have nl:∀ {l:List V} {hh:Hp},l.length<=10000->jw l hh=some (.obj hh.length,hh++[.list l]):=fun hl=>gF (bA hl);have bd:cP (.many [1,2,3]) (.tup [.tup [.str 3,.tup []],.tup [.str 4,.tup []],.tup [.str 0,.tup []]]) [some (.int x),none,none,none]=some [some (.int x),some (.tup [.str 3,.tup []]),some (.tup [.str 4,.tup []]),some (.tup [.str 0,.tup []])]:=rfl;have vals:eY (pg m) [.lst [.tup [.lit (.str 2),.tup []]],.lst [],.lst [.tup [.lit (.str 11),.tup [.loc 1]]],.lst [.tup [.lit (.str 11),.tup [.loc 2]]],.lst [.tup [.lit (.str 12),.tup [.loc 2,.loc 1]]],.lst [.tup [.lit (.str 11),.tup [.loc 3]]],.lst [.tup [.lit (.str 12),.tup [.tup [.lit (.str 1),.tup []],.loc 3]]],.lst [.tup [.lit (.str 11),.tup [.tup [.lit (.str 28),.tup []]]],.tup [.lit (.str 2),.tup []]]] [some (.int x),some (.tup [.str 3,.tup []]),some (.tup [.str 4,.tup []]),some (.tup [.str 0,.tup []])] h=some ([.obj (h.length+0),.obj (h.length+1),.obj (h.length+2),.obj (h.length+3),.obj (h.length+4),.obj (h.length+5),.obj (h.length+6),.obj (h.length+7)],h++F8):=by
  have st:∀ {l:List V} {k:Nat} {hh:Hp},hh.length=h.length+k->l.length<=10000->jw l hh=some (.obj (h.length+k),hh++[.list l]):=fun e hl=>by rw[<-e];exact nl hl
  have ln:∀ {l:List V} {k:Nat} {hh:Hp},hh.length=h.length+k->(hh++[O.list l]).length=h.length+(k+1):=fun e=>by rw[UN,e];rfl
  have e0:h.length=h.length+0:=rfl;refine Eq.trans (b:=some ([.obj (h.length+0),.obj (h.length+1),.obj (h.length+2),.obj (h.length+3),.obj (h.length+4),.obj (h.length+5),.obj (h.length+6),.obj (h.length+7)],h++[.list (eF (bX 0))]++[.list (eF (bX 1))]++[.list (eF (bX 2))]++[.list (eF (bX 3))]++[.list (eF (bX 4))]++[.list (eF (bX 5))]++[.list (eF (bX 6))]++[.list (eF (bX 7))])) ?_ (by simp[F8,List.append_assoc]);exact aa (c7 rfl (st e0 (by decide))) (aa (c7 rfl (st (ln e0) (by decide))) (aa (c7 rfl (st (ln (ln e0)) (by decide))) (aa (c7 rfl (st (ln (ln (ln e0))) (by decide))) (aa (c7 rfl (st (ln (ln (ln (ln e0)))) (by decide))) (aa (c7 rfl (st (ln (ln (ln (ln (ln e0))))) (by decide))) (aa (c7 rfl (st (ln (ln (ln (ln (ln (ln e0)))))) (by decide))) (aa (c7 rfl (st (ln (ln (ln (ln (ln (ln (ln e0))))))) (by decide))) ag)))))))
 have bm:lD .mod (.int x) (.int 8) (h++F8)=some (.int j,h++F8):=by
  show some (V.int (x % 8),_)=_;rw[ej]
 have sb:bI aA (.tup [.obj (h.length+0),.obj (h.length+1),.obj (h.length+2),.obj (h.length+3),.obj (h.length+4),.obj (h.length+5),.obj (h.length+6),.obj (h.length+7)]) (.int j) (h++F8)=some (.obj (h.length+j)):=by
  match j,hj with
  | 0,_=>rfl
  | 1,_=>rfl
  | 2,_=>rfl
  | 3,_=>rfl
  | 4,_=>rfl
  | 5,_=>rfl
  | 6,_=>rfl
  | 7,_=>rfl
 rw[AA];refine aw (av (aI rfl rfl) bd (au (aB (aI vals rfl) (b8 (aC rfl) ae bm) sb))) rfl
theorem j0{m p:Nat}{h:Hp}{bl:List V}{a b:E}{e:aU}{h0:Hp}{i:Int}(ha:ba (pg (m+1)) a e h0=some (.obj p,h))(hp:h[p]?=some (.list bl))(hb:ba (pg (m+1)) b e h=some (.int i,h))(hl:bl.length<=100):∃ j:Nat,j<8/\ba (pg (m+1)) (.bin .add a (.call 80 [b])) e h0=some (.obj (h.length+8),h++F8++[.list (bl++eF (bX j))]):=by
 refine aM (A8 (m:=m) h i) fun j hj r=>?_;refine ⟨j,hj,b8 ha (af (aa hb ag) r) ?_⟩;have g1:(h++F8)[p]?=some (.list bl):=bj hp;have g2:(h++F8)[h.length+j]?=some (.list (eF (bX j))):=by
  rw[List.getElem?_append_right (Nat.le_add_right _ _),Nat.add_sub_cancel_left];exact Of j hj
 have fl:=mO j;have lk:bp (bl++eF (bX j))=true:=bA (by unfold eF;rw[UN,UQ];lia);have hlen:(h++F8).length=h.length+8:=by rw[UN];rfl
 rw[FK g1 g2 lk,hlen]
end
section
theorem BW{P:xK}{A l:List S}{e e1:aU}{h h1:Hp}{r:SR}(p:aR P A e h=some ((.next,e1),h1))(k:aR P l e1 h1=r):aR P (A++l) e h=r:=by
 rw[pL,p];exact k
noncomputable def Qq(j:Nat):List V:=eF (bX j)
noncomputable def JU(LO:List (V×V))(jr js jl jo jp ji:Nat):Hp:=[.dict 1 LO,.list [enc ob],.dict 1 lx,.list [],.list [enc (.nm 7)],.list [enc (.nm 10)]]++F8++[.list ([enc ob]++eF (bX jr))]++[.list [enc (.nm 3)]]++F8++[.list ([enc (.nm 3)]++eF (bX js))]++[.list [enc (.nm 4)]]++F8++[.list ([enc (.nm 4)]++eF (bX jl))]++F8++[.list ([enc ob]++eF (bX jo))]++[.list [enc (.nm 7)]]++F8++[.list ([enc (.nm 7)]++eF (bX jp))]++[.list [enc (.nm 7)]]++F8++[.list ([enc (.nm 7)]++eF (bX ji))]
noncomputable def plain0:List (V×V):=da.take 16
noncomputable def GH(o0 o1:O)(l:List V)(b s v u:Nat)(LO:List (V×V))(jr js jl jo jp ji:Nat)(pl:List (V×V)):Hp:=o0::o1::qE l++qc b s v u++JU LO jr js jl jo jp ji++[.dict 1 pl]
noncomputable def dN(g h1 h2 d1 d2:Int):List (V×V):=[(.str 11,.tup [.int g]),(.str 12,.tup [.int h1,.int h2]),(.str 13,.tup [.int d1,.int d2])]
noncomputable def JV:List S:=[.gN (.many [7,8]) (.tup [.tup [.lit (.str 7),.lit (.int (2))],.tup [.lit (.str 10),.lit (.int (3))],.tup [.lit (.str 8),.lit (.int (5))],.tup [.lit (.str 9),.lit (.int (6))],.tup [.lit (.str 3),.lit (.int (64))],.tup [.lit (.str 4),.lit (.int (65))],.tup [.lit (.str 5),.lit (.int (66))],.tup [.lit (.str 6),.lit (.int (67))],.tup [.lit (.str 2),.lit (.int (68))]]) [.bZ (.loc 6) (.loc 7) (.call 11 [.loc 1,.loc 8,.tup []])],
 .bZ (.loc 6) (.lit (.str 28)) (.call 12 [.loc 1,.lit (.int (70)),.tup []]),
 .bZ (.loc 6) (.lit (.str 29)) (.call 12 [.loc 1,.lit (.int (71)),.tup []]),
 .asg (.one 9) (.dict 1 [.lit (.str 56),.loc 5,.lit (.str 58),.loc 3,.lit (.str 62),.loc 6,.lit (.str 55),.loc 0])]
theorem Og(o0 o1:O)(n g h1 h2 d1 d2:Int)(jr js jl jo jp ji:Nat):aR (pg 149) JV [some (.int n),some (.obj 2),some (.obj 8),some (.obj 17),some (.obj 18),some (.obj 19),some (.obj 81),none,none,none,none] (GH o0 o1 dA 9 11 12 13 (dN g h1 h2 d1 d2) jr js jl jo jp ji plain0)=some ((.next,[some (.int n),some (.obj 2),some (.obj 8),some (.obj 17),some (.obj 18),some (.obj 19),some (.obj 81),some (.str 2),some (.int 68),some (.obj 82),none]),GH o0 o1 fx 9 11 12 13 (dN g h1 h2 d1 d2) jr js jl jo jp ji da++[.dict 1 [(.str 56,.obj 19),(.str 58,.obj 17),(.str 62,.obj 81),(.str 55,.int n)]]):=by kernel_rfl
noncomputable def JW:List S:=[.setAttr (.loc 2) 43 (.dict 0 [.sub (.loc 6) (.lit (.str 4)),.sub (.loc 6) (.lit (.str 3)),.sub (.loc 6) (.lit (.str 5)),.sub (.loc 6) (.lit (.str 4))]),
 .setAttr (.loc 2) 45 (.dict 0 [.lit (.int (68)),.lit (V.int (3)),.lit (.int (70)),.lit (V.int (2)),.lit (.int (71)),.lit (V.int (5)),.lit (.int (72)),.lit (V.int (3)),.lit (.int (73)),.lit (V.int (3)),.lit (.int (74)),.lit (V.int (4))]),
 .setAttr (.loc 2) 46 (.dict 0 [.lit (.int (72)),.sub (.loc 3) (.lit (.str 11)),.lit (.int (73)),.sub (.loc 3) (.lit (.str 12)),.lit (.int (74)),.sub (.loc 3) (.lit (.str 13))])]
noncomputable def wD(n:Int)(b:Bool):List (V×V):=[(.str 56,.obj 19),(.str 58,.obj 17),(.str 62,.obj 81),(.str 55,.int n),(.str 57,.bool b)]
noncomputable def zy(g h1 h2 d1 d2:Int):List (V×V):=[(.int 72,.tup [.int g]),(.int 73,.tup [.int h1,.int h2]),(.int 74,.tup [.int d1,.int d2])]
theorem I6(o0 o1:O)(n g h1 h2 d1 d2:Int)(b:Bool)(jr js jl jo jp ji:Nat):aR (pg 149) JW [some (.int n),some (.obj 2),some (.obj 8),some (.obj 17),some (.obj 18),some (.obj 19),some (.obj 81),some (.str 2),some (.int 68),some (.obj 82),none] (GH o0 o1 fx 9 11 12 13 (dN g h1 h2 d1 d2) jr js jl jo jp ji da++[.dict 1 (wD n b)])=some ((.next,[some (.int n),some (.obj 2),some (.obj 8),some (.obj 17),some (.obj 18),some (.obj 19),some (.obj 81),some (.str 2),some (.int 68),some (.obj 82),none]),GH o0 o1 fx 83 84 85 13 (dN g h1 h2 d1 d2) jr js jl jo jp ji da++[.dict 1 (wD n b),.dict 0 [(.int 21,.int 20),(.int 22,.int 21)],.dict 0 iQ,.dict 0 (zy g h1 h2 d1 d2)]):=by kernel_rfl
theorem vC(a b c x:Int):∃ w:Int,(w=a∨w=b∨w=c)/\∀ h:Hp,bI aA (.tup [.int a,.int b,.int c]) (.int (x % 3)) h=some (.int w):=by
 refine aM (GA x 3 (by decide)) fun j hj e=>?_;have e:x % 3=(j:Int):=e;rw[e]
 match j,hj with
 | 0,_=>exact ⟨a,.inl rfl,fun _=>rfl⟩
 | 1,_=>exact ⟨b,.inr (.inl rfl),fun _=>rfl⟩
 | 2,_=>exact ⟨c,.inr (.inr rfl),fun _=>rfl⟩
noncomputable def ON(o0 o1:O)(n g h1 h2 d1 d2 un:Int)(b:Bool)(jr js jl jo jp ji:Nat):Hp:=GH o0 o1 fx 83 84 85 86 (dN g h1 h2 d1 d2) jr js jl jo jp ji da++[.dict 1 (wD n b),.dict 0 [(.int 21,.int 20),(.int 22,.int 21)],.dict 0 iQ,.dict 0 (zy g h1 h2 d1 d2),.dict 0 [(.int 26,.int un)]]
noncomputable def Qr(g h1 h2 d1 d2 un:Int)(b:Bool)(jr js jl jo jp ji:Nat):Wd:=⟨g,h1,h2,d1,d2,b,un,fun k=>if k=3 then jr else if k=4 then js else if k=5 then jl else if k=6 then jo else if k=28 then jp else ji⟩
noncomputable def GB:List T:=xM.map T.nm
theorem Qs(o0 o1:O)(n g h1 h2 d1 d2 un:Int)(b:Bool)(jr js jl jo jp ji:Nat)(hg:∀ i∈[g,h1,h2,d1,d2],i=0∨i=1∨i=2)(hu:un=7∨un=4∨un=9)(hb:b=true->h1=0∨h1=g):St (Qr g h1 h2 d1 d2 un b jr js jl jo jp ji) (ON o0 o1 n g h1 h2 d1 d2 un b jr js jl jo jp ji) dD GB n:=by
 have rows:fx=dD.map (cG dD):=by kernel_rfl
 have dep:dD.map (fun t=>V.int (mr t))=ones fx 1:=by kernel_rfl
 have Qt:dD.map (fun t=>V.int (vm t))=ones fx 1:=by kernel_rfl
 have op:dD.map (fun _=>V.int 0)=ones fx 0:=by kernel_rfl
 have ix:ua dD dD=Oe fx:=by kernel_rfl
 have gI:∀ t∈dD,t∉GB->ez (Qr g h1 h2 d1 d2 un b jr js jl jo jp ji) t=[]:=by
  intro t ht nt;have key:∀ t∈dD,t∉GB->∃ k,t=.nm k/\xM.contains k=false:=by
   have k2:∀ t∈dD,t∉GB->t=.nm (aH t)/\xM.contains (aH t)=false:=by decide +kernel
   exact fun t h1 h2=>⟨_,(k2 t h1 h2).1,(k2 t h1 h2).2⟩
  (refine aM (key t ht nt) fun k y1_1 hk=>?_;obtain rfl:=y1_1)
  exact if_neg (by rw[hk];decide)
 refine ⟨⟨⟨⟨[],(List.append_nil _).symm⟩,by decide,by decide,by decide,by decide⟩,by kernel_rfl,?_,?_,?_,?_,?_⟩,⟨by kernel_rfl,by kernel_rfl,by kernel_rfl,by kernel_rfl,by kernel_rfl,by kernel_rfl,by kernel_rfl,?_,by kernel_rfl,hu,hg,hb⟩,by kernel_rfl,⟨[],by kernel_rfl,?_,⟨List.nodup_nil,fun k hk=>by cases hk⟩,fun i hi=>rfl⟩,?_,?_⟩
 ·rw[<-rows];kernel_rfl
 ·rw[ix];kernel_rfl
 ·rw[dep];kernel_rfl
 ·rw[Qt];kernel_rfl
 ·rw[op];kernel_rfl
 ·intro k hk;simp only[dG,List.mem_cons,List.not_mem_nil,or_false] at hk;rcases hk with rfl|rfl|rfl|rfl|rfl|rfl|rfl|rfl|rfl|rfl|rfl|rfl|rfl|rfl<;>kernel_rfl
 ·intro t ht
  by_cases q:t∈GB
  ·rw[if_pos q];rfl
  ·rw[if_neg q,gI t ht q];rfl
 ·intro t ht nt u oC;rw[gI t ht nt] at oC;cases oC
 ·intro t ht;have key:∀ t∈dD,t=.nm (aH t):=by decide
  rw[key t ht];exact ⟨fun _ a ha=>(by cases ha),fun a e=>(by cases e)⟩
theorem I7(i:Nat):∀ z∈bX i,dr z=true/\ht z<=2/\cost z<=2:=by
 match i with
 | 0|1|2|3|4|5|6=>decide
 | n+7=>exact (by decide:∀ z∈bX 7,dr z=true/\ht z<=2/\cost z<=2)
theorem vD:∀ (l:List T) (k:Nat),(∀ z∈l,cost z<=k)->ik l<=k * l.length
 | [],k,_=>Nat.zero_le _
 | z::l,k,h=>by
  have:=vD l k fun y hy=>h y (.tail _ hy);have:=h z (.head _);simp only[ik,List.length_cons,Nat.mul_succ];lia
noncomputable def Oh:List S:=[.bZ (.attr (.loc 2) 44) (.sub (.loc 6) (.loc 7)) (.jv (.comp (.call 79 [.loc 9,.loc 2,.loc 10]) 10 (.sub (.loc 5) (.loc 7)) [.cmp .isin (.sub (.loc 10) (.lit (.int (0)))) (.tup [.lit (.str 2),.lit (.str 11),.lit (.str 12)])]))]
section
variable{W:Wd}{h h':Hp}{ts pend:List T}{n:Nat}{a:Int}
theorem GC{L:List V}{x0:Option V}:∀ (l:List Nat) (h:Hp) (ts:List T) (x7 x8:Option V),St W h ts (l.map T.nm) a->(∀ u∈dD,u∈ts)->(∀ k∈l,k∈xM)->l.Nodup->ts.length+4 * l.length<=100->∃ (r:List T) (h':Hp) (y7:Option V),eQ (cV (.tup L) L) (dq (pg 149) (.one 7) Oh) (l.map V.str) [x0,some (.obj 2),some (.obj 8),some (.obj 17),some (.obj 18),some (.obj 19),some (.obj 81),x7,x8,some (.obj 82),none] h=some ((.next,[x0,some (.obj 2),some (.obj 8),some (.obj 17),some (.obj 18),some (.obj 19),some (.obj 81),y7,x8,some (.obj 82),none]),h')/\St W h' (ts++r) [] a/\Fr kX h h'/\r.length<=4 * l.length:=by
 intro l
 induction l with
 | nil=>intro h ts x7 x8 S hb hl nd hn;exact ⟨[],h,x7,rfl,by rw[List.append_nil];exact S,Fr.rfl',Nat.zero_le _⟩
 | cons k l ih=>
  intro h ts x7 x8 S hb hl nd hn;have hk:=hl k (.head _);have kb:T.nm k∈dD:=by
   have key:∀ k∈xM,T.nm k∈dD:=by decide
   exact key k hk
  have ko:k∈dG:=by
   have key:∀ k∈xM,k∈dG:=by decide
   exact key k hk
  have RL:=S.rs.ov k ko;have Mo:87<=h.length:=bU S.rs.Dl;have fl:(eh W k).length<=2:=by unfold eh;split;exact mO _;exact Nat.zero_le _
  have fd:∀ z∈eh W k,dr z=true/\ht z<=2/\cost z<=2:=fun z hz=>by
   unfold eh at hz
   split at hz
   ·exact I7 _ z hz
   ·cases hz
  have fq:∀ z∈eh W k,[2,11,12].contains (aH z)=true:=fun z hz=>by
   rcases dY (W:=W) (t:=.nm k) hz with rfl|⟨b,rfl⟩|⟨b,c,rfl⟩<;>rfl
  have oq:∀ z∈gg k,[2,11,12].contains (aH z)=false:=by
   have key:∀ k∈xM,∀ z∈gg k,[2,11,12].contains (aH z)=false:=by decide
   exact key k hk
  have LQ:(jW W k).filter (fun z=>[2,11,12].contains (aH z))=eh W k:=by
   rw[jW,List.filter_append,List.filter_eq_nil_iff.mpr fun z hz=>by rw[oq z hz];decide,List.nil_append];exact List.filter_eq_self.mpr fq
  have ol:(jW W k).length<=3:=by
   have key:∀ k∈xM,(gg k).length<=1:=by decide
   have:=key k hk;rw[jW,UN];lia
  have cl:=vD (eh W k) 2 fun z hz=>(fd z hz).2.2;refine BY (oA (W:=W) (m:=149) (pend:=(k::l).map T.nm) (a:=a) (elt:=.call 79 [.loc 9,.loc 2,.loc 10]) (conds:=[.cmp .isin (.sub (.loc 10) (.lit (.int (0)))) (.tup [.lit (.str 2),.lit (.str 11),.lit (.str 12)])]) (j:=10) (e:=[x0,some (.obj 2),some (.obj 8),some (.obj 17),some (.obj 18),some (.obj 19),some (.obj 81),some (.str k),x8,some (.obj 82),none]) (n0:=h.length) (same:=cV (.obj (mZ k)) ((jW W k).map enc)) (q:=fun z=>[2,11,12].contains (aH z)) Mo (jW W k) (h++[.list []]) ts [] (S.pure Fr.app)
   (fun u hu=>by obtain ⟨j,hj,e⟩:=List.mem_map.mp hu;rw[<-e];exact hb _ ((by decide:∀ k∈xM,T.nm k∈dD) j (hl j hj)))
   (fun z hz qz=>by
    have zi:z∈eh W k:=by rw[<-LQ];exact List.mem_filter.mpr ⟨hz,qz⟩
    obtain ⟨d,Oq,_⟩:=fd z zi;refine ⟨?_,fun u hu=>.inl (by obtain ⟨j,hj,e⟩:=List.mem_map.mp hu;exact ⟨j,e.symm⟩)⟩;have:=ux (W:=W) d (by lia) (141 - 3 * ht z);rw[show 141 - 3 * ht z+3 * ht z+8=149 by lia] at this;exact this)
   (fun z hz hh=>by
    have z0:=e0 (t:=z) (h:=hh);have ci:bg aA .isin (.str (aH z)) (.tup [.str 2,.str 11,.str 12]) hh=some ([2,11,12].contains (aH z)):=by
     have:bg aA .isin (.str (aH z)) (.tup [.str 2,.str 11,.str 12]) hh=some (decide (V.str (aH z)∈[2,11,12].map V.str)):=rfl;rw[this];congr 1;rw[Bool.eq_iff_iff,decide_eq_true_iff,List.contains_iff_mem,List.mem_map];exact ⟨fun ⟨j,hj,e⟩=>V.str.inj e▸hj,fun hj=>⟨_,hj,rfl⟩⟩
    show bf (ba (pg 149) _ _ hh) _=_;rw[ao (aB (aC rfl) ae z0) (aI (aa ae (aa ae (aa ae ag))) rfl) ci];cases [2,11,12].contains (aH z)<;>rfl)
   (fun z hz hh v h' e=>af (aa (aC rfl) (aa (aC rfl) (aa (aC rfl) ag))) e)
   (fun h' f=>gM (f (mZ k) _ (fun z=>by
    have key:∀ k∈dG,mZ k<87/\mZ k∉kX:=by decide
    obtain ⟨y1,y2⟩:=key k ko;rcases UO z with e|z
    ·lia
    ·exact y2 z) (bj RL))) (fun u hu=>by cases hu) bT (by rw[LQ];rw[List.length_cons] at hn;lia) (by show 0+_<=100;lia)) fun r h1 c1 c2 c3 c4 c5 c6=>?_
  rw[LQ] at c3 c5 c6;rw[List.nil_append] at c3;have it:dR (.obj (mZ k)) h=some ((jW W k).map enc):=iu RL;have so:bI aA (.obj 19) (.str k) h=some (.obj (mZ k)):=bh S.rs.BG rfl ((by decide:∀ k∈dG,aW lx (.str k)=some (.obj (mZ k))) k ko);have cv:ba (pg 149) (.jv (.comp (.call 79 [.loc 9,.loc 2,.loc 10]) 10 (.sub (.loc 5) (.loc 7)) [.cmp .isin (.sub (.loc 10) (.lit (.int (0)))) (.tup [.lit (.str 2),.lit (.str 11),.lit (.str 12)])])) [x0,some (.obj 2),some (.obj 8),some (.obj 17),some (.obj 18),some (.obj 19),some (.obj 81),some (.str k),x8,some (.obj 82),none] h=some (.tup ((eh W k).map (kv (ts++r))),h1):=
   mJ (xG (aB (aC rfl) (aC rfl) so) it c1) (mK c3 (bA (by rw[UQ];lia)))
  have LW:T.nm k∈ts++r:=UP _ (hb _ kb);have knd:=List.nodup_cons.mp nd;refine dj (c2.JT (x:=.nm k) (pend:=l.map T.nm) LW (fun u hu=>by
   obtain ⟨j,hj,e⟩:=List.mem_map.mp hu;rcases UO hj with q|q
   ·exact .inl (by rw[<-e,q])
   ·exact .inr (List.mem_map.mpr ⟨j,q,e⟩)) (fun u hu=>by
   obtain ⟨j,hj,e⟩:=List.mem_map.mp hu;exact List.mem_map.mpr ⟨j,.tail _ hj,e⟩) (fun z=>by
   obtain ⟨j,hj,e⟩:=List.mem_map.mp z;cases e;exact knd.1 hj) c5 (by rw[UN];rw[List.length_cons] at hn;lia)) fun h2 si S2 f2=>?_
  have Qm:cC (.obj 8) 44 h1=some (.obj 10):=k8 c2.rs rfl;have Ug:bI aA (.obj 81) (.str k) h1=some (kv (ts++r) (.nm k)):=by
   have key:∀ t∈dD,aW da (.str (aH t))=some (.int (dD.idxOf t:Nat)):=by decide +kernel
   have g:=key _ kb;rw[kv,mM c2.rp.tb kb];exact bh c2.rs.Me rfl g
  have Uh:Fr kX h h1:=((Fr.app (X:=h.length::kX) (h:=h) (l:=[.list []])).trans c4).drop fun i x=>by
   rcases UO x with e|x
   ·exact .inr (by lia)
   ·exact .inl x
  refine dP (ih h2 (ts++r) (some (.str k)) x8 S2 (fun u hu=>UP _ (hb u hu)) (fun j hj=>hl j (.tail _ hj)) knd.2 (by rw[UN];rw[List.length_cons] at hn;lia)) fun r2 h3 y7 e1 e2 e3 e4=>?_;refine ⟨r++r2,h3,y7,d7 (dJ By ?_) rfl e1,by rw[<-List.append_assoc];exact e2,(Uh.trans f2).trans e3,by rw[UN,List.length_cons];lia⟩;exact bG cv (aK (aC rfl) Qm) (aB (aC rfl) (aC rfl) Ug) si cJ
end
end
section
noncomputable def RM:List V:=[.str 59,.int 0,.str 25,.int 1,.str 24,.int 2,.str 23,.int 3,.str 22,.int 4,.str 20,.int 5,.str 21,.int 6,.str 16,.int 7,.str 17,.int 8,.str 18,.int 9,.str 19,.int 10,.str 26,.int 11,.str 0,.int 12,.str 1,.int 13,.str 60,.int 14,.str 27,.int 15]
noncomputable def Qu:List V:=[.str 0,.obj 20,.str 1,.obj 18,.str 2,.obj 18,.str 7,.obj 18,.str 8,.obj 18,.str 9,.obj 18,.str 10,.obj 21,.str 29,.obj 22,.str 3,.obj 31,.str 4,.obj 41,.str 5,.obj 51,.str 6,.obj 60,.str 28,.obj 70,.str 16,.obj 80]
theorem I9(o0 o1:O)(n:Int)(ws:List (V×V)):∃ jr js jl jo jp ji:Nat,ba (pg 149) (.dict 1 [.lit (.str 0),.lst [],.lit (.str 1),.loc 4,.lit (.str 2),.loc 4,.lit (.str 7),.loc 4,.lit (.str 8),.loc 4,.lit (.str 9),.loc 4,.lit (.str 10),.lst [.tup [.lit (.str 7),.tup []]],.lit (.str 29),.lst [.tup [.lit (.str 10),.tup []]],.lit (.str 3),.bin .add (.loc 4) (.call 80 [.bin .fdiv (.loc 0) (.lit (.int (2)))]),.lit (.str 4),.bin .add (.lst [.tup [.lit (.str 3),.tup []]]) (.call 80 [.bin .fdiv (.loc 0) (.lit (.int (16)))]),.lit (.str 5),.bin .add (.lst [.tup [.lit (.str 4),.tup []]]) (.call 80 [.bin .add (.bin .fdiv (.loc 0) (.lit (.int (128)))) (.lit (.int (2)))]),.lit (.str 6),.bin .add (.loc 4) (.call 80 [.bin .add (.bin .fdiv (.loc 0) (.lit (.int (1024)))) (.lit (.int (4)))]),.lit (.str 28),.bin .add (.lst [.tup [.lit (.str 7),.tup []]]) (.call 80 [.bin .fdiv (.loc 0) (.lit (.int (8192)))]),.lit (.str 16),.bin .add (.lst [.tup [.lit (.str 7),.tup []]]) (.call 80 [.bin .add (.bin .fdiv (.loc 0) (.lit (.int (65536)))) (.lit (.int (1)))])]) [some (.int n),some (.obj 2),some (.obj 8),some (.obj 17),some (.obj 18),none,none,none,none,none,none] (BV o0 o1 dA++[.dict 1 ws,.list [enc ob]])=some (.obj 19,o0::o1::qE dA++qc 9 11 12 13++JU ws jr js jl jo jp ji):=by
 obtain ⟨K0,k0⟩:∃ K0:Hp,K0=BV o0 o1 dA++[.dict 1 ws,.list [enc ob]]:=⟨_,rfl⟩;obtain ⟨K1,k1⟩:∃ K1:Hp,K1=K0++[.dict 1 []]++[.list []]++[.list [enc (.nm 7)]]++[.list [enc (.nm 10)]]:=⟨_,rfl⟩;have fd:∀ {k:Int} {hh:Hp},decide (0<k)=true->gO k=true->lD .fdiv (.int n) (.int k) hh=some (.int (n / k),hh):=FL;have l0:K0.length=19:=by rw[k0];kernel_rfl
 have l1:K1.length=23:=by rw[k1];simp only[UN,l0];rfl
 have Ui:K0[18]?=some (.list [enc ob]):=by rw[k0];kernel_rfl
 have g1:K1[18]?=some (.list [enc ob]):=by rw[k1];exact bj (bj (bj (bj Ui)))
 have nl:∀ {l:List V} {hh:Hp} {k:Nat},hh.length=k->l.length<=10000->jw l hh=some (.obj k,hh++[O.list l]):=fun e hl=>by rw[<-e];exact gF (bA hl)
 have at_:∀ {l:List V} {hh:Hp} {k:Nat},hh.length=k->(hh++[O.list l])[k]?=some (.list l):=fun e=>by rw[<-e];exact bT
 generalize Oi:([some (.int n),some (.obj 2),some (.obj 8),some (.obj 17),some (.obj 18),none,none,none,none,none,none]:aU)=env
 have v0:∀ {hh:Hp},ba (pg 149) (.loc 0) env hh=some (.int n,hh):=fun {hh}=>by rw[<-Oi];exact aC rfl
 have L4:∀ {hh:Hp},ba (pg 149) (.loc 4) env hh=some (.obj 18,hh):=fun {hh}=>by rw[<-Oi];exact aC rfl
 have Df:∀ {k j:Nat} {hh:Hp},hh.length=j->ba (pg 149) (.lst [.tup [.lit (.str k),.tup []]]) env hh=some (.obj j,hh++[.list [enc (.nm k)]]):=fun {k j hh} e=>c7 (vs:=[enc (.nm k)]) rfl (nl e (by show 1<=10000;decide));refine aM (j0 (m:=148) (h:=K1) (h0:=K1) (e:=env) (b:=.bin .fdiv (.loc 0) (.lit (.int (2)))) L4 g1 (b8 v0 ae (fd (by decide) (by decide))) (by show 1<=100;decide)) fun jr _ Er=>?_;rw[l1] at Er;obtain ⟨K2,k2⟩:∃ K2:Hp,K2=K1++F8++[.list ([enc ob]++eF (bX jr))]:=⟨_,rfl⟩;rw[<-k2] at Er;have l2:K2.length=32:=by rw[k2];simp only[UN,l1];rfl
 have m2:(K2++[O.list [enc (.nm 3)]]).length=33:=by rw[UN,l2];rfl
 refine aM (j0 (m:=148) (h:=K2++[.list [enc (.nm 3)]]) (h0:=K2) (e:=env) (b:=.bin .fdiv (.loc 0) (.lit (.int (16)))) (Df l2) (at_ l2) (b8 v0 ae (fd (by decide) (by decide))) (by show 1<=100;decide)) fun js _ Es=>?_;rw[m2] at Es;obtain ⟨K3,k3⟩:∃ K3:Hp,K3=K2++[.list [enc (.nm 3)]]++F8++[.list ([enc (.nm 3)]++eF (bX js))]:=⟨_,rfl⟩;rw[<-k3] at Es;have l3:K3.length=42:=by rw[k3];simp only[UN,l2];rfl
 have m3:(K3++[O.list [enc (.nm 4)]]).length=43:=by rw[UN,l3];rfl
 refine aM (j0 (m:=148) (h:=K3++[.list [enc (.nm 4)]]) (h0:=K3) (e:=env) (b:=.bin .add (.bin .fdiv (.loc 0) (.lit (.int (128)))) (.lit (.int (2)))) (Df l3) (at_ l3) (b8 (b8 v0 ae (fd (by decide) (by decide))) ae rfl) (by show 1<=100;decide)) fun jl _ El=>?_;rw[m3] at El;obtain ⟨K4,k4⟩:∃ K4:Hp,K4=K3++[.list [enc (.nm 4)]]++F8++[.list ([enc (.nm 4)]++eF (bX jl))]:=⟨_,rfl⟩;rw[<-k4] at El;have l4:K4.length=52:=by rw[k4];simp only[UN,l3];rfl
 have g4:K4[18]?=some (.list [enc ob]):=by
  rw[k4,k3,k2];exact bj (bj (bj (bj (bj (bj (bj (bj g1)))))))
 refine aM (j0 (m:=148) (h:=K4) (h0:=K4) (e:=env) (b:=.bin .add (.bin .fdiv (.loc 0) (.lit (.int (1024)))) (.lit (.int (4)))) L4 g4 (b8 (b8 v0 ae (fd (by decide) (by decide))) ae rfl) (by show 1<=100;decide)) fun jo _ Eo=>?_;rw[l4] at Eo;obtain ⟨K5,k5⟩:∃ K5:Hp,K5=K4++F8++[.list ([enc ob]++eF (bX jo))]:=⟨_,rfl⟩;rw[<-k5] at Eo;have l5:K5.length=61:=by rw[k5];simp only[UN,l4];rfl
 have m5:(K5++[O.list [enc (.nm 7)]]).length=62:=by rw[UN,l5];rfl
 refine aM (j0 (m:=148) (h:=K5++[.list [enc (.nm 7)]]) (h0:=K5) (e:=env) (b:=.bin .fdiv (.loc 0) (.lit (.int (8192)))) (Df l5) (at_ l5) (b8 v0 ae (fd (by decide) (by decide))) (by show 1<=100;decide)) fun jp _ Ep=>?_;rw[m5] at Ep;obtain ⟨K6,k6⟩:∃ K6:Hp,K6=K5++[.list [enc (.nm 7)]]++F8++[.list ([enc (.nm 7)]++eF (bX jp))]:=⟨_,rfl⟩;rw[<-k6] at Ep;have l6:K6.length=71:=by rw[k6];simp only[UN,l5];rfl
 have m6:(K6++[O.list [enc (.nm 7)]]).length=72:=by rw[UN,l6];rfl
 refine aM (j0 (m:=148) (h:=K6++[.list [enc (.nm 7)]]) (h0:=K6) (e:=env) (b:=.bin .add (.bin .fdiv (.loc 0) (.lit (.int (65536)))) (.lit (.int (1)))) (Df l6) (at_ l6) (b8 (b8 v0 ae (fd (by decide) (by decide))) ae rfl) (by show 1<=100;decide)) fun ji _ Ei=>?_;rw[m6] at Ei;obtain ⟨K7,k7⟩:∃ K7:Hp,K7=K6++[.list [enc (.nm 7)]]++F8++[.list ([enc (.nm 7)]++eF (bX ji))]:=⟨_,rfl⟩;rw[<-k7] at Ei;refine ⟨jr,js,jl,jo,jp,ji,?_⟩;have n0:(K0++[O.dict 1 []]).length=20:=by rw[UN,l0];rfl
 have n1:(K0++[O.dict 1 []]++[O.list []]).length=21:=by rw[UN,n0];rfl
 have n2:(K0++[O.dict 1 []]++[O.list []]++[O.list [enc (.nm 7)]]).length=22:=by rw[UN,n1];rfl
 have Uj:ba (pg 149) (.lst []) env (K0++[.dict 1 []])=some (.obj 20,K0++[.dict 1 []]++[.list []]):=c7 ag (nl n0 (Nat.zero_le _));have Uk:=Df (k:=7) n1;have RN:=Df (k:=10) n2;rw[<-k1] at RN;have VS:eY (pg 149) [.lit (.str 0),.lst [],.lit (.str 1),.loc 4,.lit (.str 2),.loc 4,.lit (.str 7),.loc 4,.lit (.str 8),.loc 4,.lit (.str 9),.loc 4,.lit (.str 10),.lst [.tup [.lit (.str 7),.tup []]],.lit (.str 29),.lst [.tup [.lit (.str 10),.tup []]],.lit (.str 3),.bin .add (.loc 4) (.call 80 [.bin .fdiv (.loc 0) (.lit (.int (2)))]),.lit (.str 4),.bin .add (.lst [.tup [.lit (.str 3),.tup []]]) (.call 80 [.bin .fdiv (.loc 0) (.lit (.int (16)))]),.lit (.str 5),.bin .add (.lst [.tup [.lit (.str 4),.tup []]]) (.call 80 [.bin .add (.bin .fdiv (.loc 0) (.lit (.int (128)))) (.lit (.int (2)))]),.lit (.str 6),.bin .add (.loc 4) (.call 80 [.bin .add (.bin .fdiv (.loc 0) (.lit (.int (1024)))) (.lit (.int (4)))]),.lit (.str 28),.bin .add (.lst [.tup [.lit (.str 7),.tup []]]) (.call 80 [.bin .fdiv (.loc 0) (.lit (.int (8192)))]),.lit (.str 16),.bin .add (.lst [.tup [.lit (.str 7),.tup []]]) (.call 80 [.bin .add (.bin .fdiv (.loc 0) (.lit (.int (65536)))) (.lit (.int (1)))])] env (K0++[.dict 1 []])=some (Qu,K7):=
  aa ae (aa Uj (aa ae (aa L4 (aa ae (aa L4 (aa ae (aa L4 (aa ae (aa L4 (aa ae (aa L4 (aa ae (aa Uk (aa ae (aa RN (aa ae (aa Er (aa ae (aa Es (aa ae (aa El (aa ae (aa Eo (aa ae (aa Ep (aa ae (aa Ei ag)))))))))))))))))))))))))))
 have ds:∀ {kvs:List (V×V)},yW 1 Qu []=some kvs->K7[19]?=some (.dict 1 [])->eI K0.length Qu K7=some (.obj K0.length,K7.set 19 (.dict 1 kvs)):=fun e h=>by rw[l0];exact yX h e
 have BG:K7[19]?=some (.dict 1 []):=by rw[k7,k6,k5,k4,k3,k2,k1,k0];kernel_rfl
 have ds:=ds (kvs:=lx) (by decide) BG;have fin:K7.set 19 (.dict 1 lx)=o0::o1::qE dA++qc 9 11 12 13++JU ws jr js jl jo jp ji:=by rw[k7,k6,k5,k4,k3,k2,k1,k0];kernel_rfl
 rw[fin] at ds;have r:=eR VS ds;rw[l0] at r;rw[<-k0];exact r
end
section
theorem Ja(o0 o1:O)(g h1 h2 d1 d2:Int):dn (.obj 17) (.str 12) (.tup [.int h1,.int h2]) (BV o0 o1 dA++[.dict 1 [(.str 11,.tup [.int g])]])=some (BV o0 o1 dA++[.dict 1 [(.str 11,.tup [.int g]),(.str 12,.tup [.int h1,.int h2])]])/\dn (.obj 17) (.str 13) (.tup [.int d1,.int d2]) (BV o0 o1 dA++[.dict 1 [(.str 11,.tup [.int g]),(.str 12,.tup [.int h1,.int h2])]])=some (BV o0 o1 dA++[.dict 1 (dN g h1 h2 d1 d2)])/\jw [enc ob] (BV o0 o1 dA++[.dict 1 (dN g h1 h2 d1 d2)])=some (.obj 18,BV o0 o1 dA++[.dict 1 (dN g h1 h2 d1 d2),.list [enc ob]]):=⟨by kernel_rfl,by kernel_rfl,by kernel_rfl⟩
theorem w_plain(o0 o1:O)(ws:List (V×V))(jr js jl jo jp ji:Nat):eI 81 RM (o0::o1::qE dA++qc 9 11 12 13++JU ws jr js jl jo jp ji++[.dict 1 []])=some (.obj 81,GH o0 o1 dA 9 11 12 13 ws jr js jl jo jp ji plain0)/\(o0::o1::qE dA++qc 9 11 12 13++JU ws jr js jl jo jp ji).length=81:=⟨by kernel_rfl,by kernel_rfl⟩
theorem Jb(o0 o1:O)(n g h1 h2 d1 d2:Int)(b:Bool)(jr js jl jo jp ji:Nat):dn (.obj 82) (.str 57) (.bool b) (GH o0 o1 fx 9 11 12 13 (dN g h1 h2 d1 d2) jr js jl jo jp ji da++[.dict 1 [(.str 56,.obj 19),(.str 58,.obj 17),(.str 62,.obj 81),(.str 55,.int n)]])=some (GH o0 o1 fx 9 11 12 13 (dN g h1 h2 d1 d2) jr js jl jo jp ji da++[.dict 1 (wD n b)])/\(∀ l:Hp,(GH o0 o1 fx 9 11 12 13 (dN g h1 h2 d1 d2) jr js jl jo jp ji da++l)[17]?=some (.dict 1 (dN g h1 h2 d1 d2))):=⟨by kernel_rfl,by intro l;kernel_rfl⟩
theorem Qv(o0 o1:O)(n g h1 h2 d1 d2 un:Int)(b:Bool)(jr js jl jo jp ji:Nat):(GH o0 o1 fx 83 84 85 13 (dN g h1 h2 d1 d2) jr js jl jo jp ji da++[O.dict 1 (wD n b),O.dict 0 [(.int 21,.int 20),(.int 22,.int 21)],O.dict 0 iQ,O.dict 0 (zy g h1 h2 d1 d2)]).length=86/\fX (.obj 8) 47 (.obj 86) (GH o0 o1 fx 83 84 85 13 (dN g h1 h2 d1 d2) jr js jl jo jp ji da++[O.dict 1 (wD n b),O.dict 0 [(.int 21,.int 20),(.int 22,.int 21)],O.dict 0 iQ,O.dict 0 (zy g h1 h2 d1 d2)]++[O.dict 0 [(.int 26,.int un)]])=some (ON o0 o1 n g h1 h2 d1 d2 un b jr js jl jo jp ji)/\(∀ l:Hp,bI aA (.obj 81) (.str 29) (GH o0 o1 fx 83 84 85 13 (dN g h1 h2 d1 d2) jr js jl jo jp ji da++[O.dict 1 (wD n b),O.dict 0 [(.int 21,.int 20),(.int 22,.int 21)],O.dict 0 iQ,O.dict 0 (zy g h1 h2 d1 d2)]++l)=some (.int 26)):=⟨by kernel_rfl,by kernel_rfl,by intro l;kernel_rfl⟩
theorem LR(o0 o1:O)(n g h1 h2 d1 d2 un:Int)(b:Bool)(jr js jl jo jp ji:Nat):(ON o0 o1 n g h1 h2 d1 d2 un b jr js jl jo jp ji)[0]?=some o0/\(ON o0 o1 n g h1 h2 d1 d2 un b jr js jl jo jp ji)[1]?=some o1:=⟨by kernel_rfl,by kernel_rfl⟩
theorem GD{P:xK}{a b c d:S}{l:List S}{e e1:aU}{h h1:Hp}{r:SR}(p:aR P [a,b,c,d] e h=some ((.next,e1),h1))(k:aR P l e1 h1=r):aR P (a::b::c::d::l) e h=r:=BW p k
theorem GG{P:xK}{a b c:S}{l:List S}{e e1:aU}{h h1:Hp}{r:SR}(p:aR P [a,b,c] e h=some ((.next,e1),h1))(k:aR P l e1 h1=r):aR P (a::b::c::l) e h=r:=BW p k
theorem zA(o0 o1:O)(n:Int):∃ (W:Wd) (r:List T) (h':Hp),run aY 150 81 [.int n] [o0,o1]=some (.tup [.obj 82,.obj 8],h')/\St W h' (dD++r) [] n/\h'[0]?=some o0/\h'[1]?=some o1/\r.length<=24:=by
 refine aM (vC 1 2 0 n) fun g hg Ul=>?_;refine aM (vC 1 2 0 (n / 3)) fun a1 ha1 Um=>?_;refine aM (vC 2 1 0 (n / 9)) fun a2 ha2 Un=>?_;refine aM (vC 2 1 0 (n / 27)) fun b1 hb1 Uo=>?_;refine aM (vC 1 2 0 (n / 81)) fun b2 hb2 Uq=>?_;refine aM (vC 7 4 9 (n / 5)) fun un Ur Us=>?_;refine O4 (I9 o0 o1 n (dN g a1 a2 b1 b2)) fun jr js jl jo jp ji Ov=>?_
 let lb:Bool:=decide (V.int a1∈[V.int 0,V.int g])&&decide (n / 243 % 2=0)
 have Ut:lb=true->a1=0∨a1=g:=fun e=>by
  have:=(Bool.and_eq_true_iff.mp e).1;have:=UU this;rcases UO this with q|q
  ·exact .inl (V.int.inj q)
  ·exact .inr (V.int.inj (UL q))
 have S0:=Qs o0 o1 n g a1 a2 b1 b2 un lb jr js jl jo jp ji (by
  intro i hi;simp only[List.mem_cons,List.not_mem_nil,or_false] at hi;rcases hi with rfl|rfl|rfl|rfl|rfl<;>lia) Ur Ut
 refine dP (GC (W:=Qr g a1 a2 b1 b2 un lb jr js jl jo jp ji) (L:=xM.map V.str) (x0:=some (.int n)) xM _ dD (some (.str 2)) (some (.int 68)) S0 (fun u hu=>hu) (fun k hk=>hk) (by decide) (by decide)) fun r hF y7 s1 s2 s3 s4=>?_;refine bY (LR o0 o1 n g a1 a2 b1 b2 un lb jr js jl jo jp ji) fun Uu Uv=>?_;refine ⟨_,r,hF,?_,s2,s3 0 _ (by decide) Uu,s3 1 _ (by decide) Uv,s4⟩;refine fU (Ja o0 o1 g a1 a2 b1 b2) fun Uw Ux Uy=>?_;refine bY (w_plain o0 o1 (dN g a1 a2 b1 b2) jr js jl jo jp ji) fun Uz UA=>?_;refine bY (Jb o0 o1 n g a1 a2 b1 b2 lb jr js jl jo jp ji) fun UB UC=>?_;refine fU (Qv o0 o1 n g a1 a2 b1 b2 un lb jr js jl jo jp ji) fun RO UD UE=>?_;have E1:∀ {e:aU},ba (pg 149) (.new 0 []) e [o0,o1]=some (.obj 2,o0::o1::qE dA):=fun {e}=>vk ag rfl (Qp o0 o1);have E2:ba (pg 149) (.new 1 [.loc 1]) [some (.int n),some (.obj 2),none,none,none,none,none,none,none,none,none] (o0::o1::qE dA)=some (.obj 8,BV o0 o1 dA):=vk (aa (aC rfl) ag) rfl (LN o0 o1);have fd:∀ {k:Int} {hh:Hp},decide (0<k)=true->gO k=true->lD .fdiv (.int n) (.int k) hh=some (.int (n / k),hh):=FL;have m3:∀ {k:Int} {hh:Hp},lD .mod (.int k) (.int 3) hh=some (.int (k % 3),hh):=rfl;have RP:(BV o0 o1 dA).length=17:=by kernel_rfl
 have E3:ba (pg 149) (.dict 1 [.lit (.str 11),.tup [.sub (.tup [.lit (V.int (1)),.lit (V.int (2)),.lit (V.int (0))]) (.bin .mod (.loc 0) (.lit (.int (3))))]]) [some (.int n),some (.obj 2),some (.obj 8),none,none,none,none,none,none,none,none] (BV o0 o1 dA)=some (.obj 17,BV o0 o1 dA++[.dict 1 [(.str 11,.tup [.int g])]]):=by
  generalize BV o0 o1 dA=HH at RP
  rw[<-RP];exact eR (vs:=[.str 11,.tup [.int g]]) (aa ae (aa (aI (aa (aB (aI (aa ae (aa ae (aa ae ag))) rfl) (b8 (aC rfl) ae m3) (Ul _)) ag) rfl) ag)) (mL (kvs:=[(.str 11,.tup [.int g])]) rfl)
 have E6:ba (pg 149) (.dict 1 [.lit (.str 59),.lit (.int (0)),.lit (.str 25),.lit (.int (1)),.lit (.str 24),.lit (.int (2)),.lit (.str 23),.lit (.int (3)),.lit (.str 22),.lit (.int (4)),.lit (.str 20),.lit (.int (5)),.lit (.str 21),.lit (.int (6)),.lit (.str 16),.lit (.int (7)),.lit (.str 17),.lit (.int (8)),.lit (.str 18),.lit (.int (9)),.lit (.str 19),.lit (.int (10)),.lit (.str 26),.lit (.int (11)),.lit (.str 0),.lit (.int (12)),.lit (.str 1),.lit (.int (13)),.lit (.str 60),.lit (.int (14)),.lit (.str 27),.lit (.int (15))]) [some (.int n),some (.obj 2),some (.obj 8),some (.obj 17),some (.obj 18),some (.obj 19),none,none,none,none,none] (o0::o1::qE dA++qc 9 11 12 13++JU (dN g a1 a2 b1 b2) jr js jl jo jp ji)=some (.obj 81,GH o0 o1 dA 9 11 12 13 (dN g a1 a2 b1 b2) jr js jl jo jp ji plain0):=by
  refine eR (vs:=RM) (h1:=o0::o1::qE dA++qc 9 11 12 13++JU (dN g a1 a2 b1 b2) jr js jl jo jp ji++[.dict 1 []]) ?_ (by rw[UA];exact Uz)
  generalize o0::o1::qE dA++qc 9 11 12 13++JU (dN g a1 a2 b1 b2) jr js jl jo jp ji++[O.dict 1 []]=HH
  rfl
 have C1:=Og o0 o1 n g a1 a2 b1 b2 jr js jl jo jp ji;have C2:=I6 o0 o1 n g a1 a2 b1 b2 lb jr js jl jo jp ji;have EL:ba (pg 149) (.aV true [.cmp .isin (.sub (.sub (.loc 3) (.lit (.str 12))) (.lit (.int (0)))) (.tup [.lit (V.int (0)),.sub (.sub (.loc 3) (.lit (.str 11))) (.lit (.int (0)))]),.cmp .eq (.bin .mod (.bin .fdiv (.loc 0) (.lit (.int (243)))) (.lit (.int (2)))) (.lit (.int (0)))]) [some (.int n),some (.obj 2),some (.obj 8),some (.obj 17),some (.obj 18),some (.obj 19),some (.obj 81),some (.str 2),some (.int 68),some (.obj 82),none] (GH o0 o1 fx 9 11 12 13 (dN g a1 a2 b1 b2) jr js jl jo jp ji da++[.dict 1 [(.str 56,.obj 19),(.str 58,.obj 17),(.str 62,.obj 81),(.str 55,.int n)]])=some (.bool lb,GH o0 o1 fx 9 11 12 13 (dN g a1 a2 b1 b2) jr js jl jo jp ji da++[.dict 1 [(.str 56,.obj 19),(.str 58,.obj 17),(.str 62,.obj 81),(.str 55,.int n)]]):=by
  have q:=UC [.dict 1 [(.str 56,.obj 19),(.str 58,.obj 17),(.str 62,.obj 81),(.str 55,.int n)]]
  generalize GH o0 o1 fx 9 11 12 13 (dN g a1 a2 b1 b2) jr js jl jo jp ji da++[O.dict 1 [(.str 56,.obj 19),(.str 58,.obj 17),(.str 62,.obj 81),(.str 55,.int n)]]=HH at q
  have q1:bI aA (.obj 17) (.str 12) HH=some (.tup [.int a1,.int a2]):=bh q rfl rfl;have q2:bI aA (.obj 17) (.str 11) HH=some (.tup [.int g]):=bh q rfl rfl;have ci:bg aA .isin (.int a1) (.tup [.int 0,.int g]) HH=some (decide (V.int a1∈[V.int 0,V.int g])):=rfl;have c2:bg aA .eq (.int (n / 243 % 2)) (.int 0) HH=some (decide (n / 243 % 2=0)):=gz;exact ah (b9 (ao (aB (aB (aC rfl) ae q1) ae t0) (aI (aa ae (aa (aB (aB (aC rfl) ae q2) ae t0) ag)) rfl) ci) (ai (ao (b8 (b8 (aC rfl) ae (fd (by decide) (by decide))) ae rfl) ae c2)))
 have EU:ba (pg 149) (.dict 0 [.sub (.loc 6) (.lit (.str 29)),.sub (.tup [.lit (.int (7)),.lit (.int (4)),.lit (.int (9))]) (.bin .mod (.bin .fdiv (.loc 0) (.lit (.int (5)))) (.lit (.int (3))))]) [some (.int n),some (.obj 2),some (.obj 8),some (.obj 17),some (.obj 18),some (.obj 19),some (.obj 81),some (.str 2),some (.int 68),some (.obj 82),none] (GH o0 o1 fx 83 84 85 13 (dN g a1 a2 b1 b2) jr js jl jo jp ji da++[.dict 1 (wD n lb),.dict 0 [(.int 21,.int 20),(.int 22,.int 21)],.dict 0 iQ,.dict 0 (zy g a1 a2 b1 b2)])=some (.obj 86,GH o0 o1 fx 83 84 85 13 (dN g a1 a2 b1 b2) jr js jl jo jp ji da++[.dict 1 (wD n lb),.dict 0 [(.int 21,.int 20),(.int 22,.int 21)],.dict 0 iQ,.dict 0 (zy g a1 a2 b1 b2)]++[.dict 0 [(.int 26,.int un)]]):=by
  have z:=UE [.dict 0 []]
  generalize GH o0 o1 fx 83 84 85 13 (dN g a1 a2 b1 b2) jr js jl jo jp ji da++[O.dict 1 (wD n lb),.dict 0 [(.int 21,.int 20),(.int 22,.int 21)],.dict 0 iQ,.dict 0 (zy g a1 a2 b1 b2)]=HH at z RO
  rw[<-RO];exact eR (vs:=[.int 26,.int un]) (aa (aB (aC rfl) ae z) (aa (aB (aI (aa ae (aa ae (aa ae ag))) rfl) (b8 (b8 (aC rfl) ae (fd (by decide) (by decide))) ae m3) (Us _)) ag)) (mL (kvs:=[(.int 26,.int un)]) rfl)
 unfold JV at C1;unfold JW at C2;unfold Oh at s1;rw[yU];refine aw (e1:=[some (.int n),some (.obj 2),some (.obj 8),some (.obj 17),some (.obj 18),some (.obj 19),some (.obj 81),y7,some (.int 68),some (.obj 82),none]) ?_ rfl;refine av E1 uA ?_;refine av E2 cR ?_;refine av E3 fy ?_;refine bG ?_ (aC rfl) ae Uw ?_
 ·exact (aI (aa (aB (aI (aa ae (aa ae (aa ae ag))) rfl) (b8 (b8 (aC rfl) ae (fd (by decide) (by decide))) ae m3) (Um _)) (aa (aB (aI (aa ae (aa ae (aa ae ag))) rfl) (b8 (b8 (aC rfl) ae (fd (by decide) (by decide))) ae m3) (Un _)) ag)) rfl)
 refine bG ?_ (aC rfl) ae Ux ?_
 ·exact (aI (aa (aB (aI (aa ae (aa ae (aa ae ag))) rfl) (b8 (b8 (aC rfl) ae (fd (by decide) (by decide))) ae m3) (Uo _)) (aa (aB (aI (aa ae (aa ae (aa ae ag))) rfl) (b8 (b8 (aC rfl) ae (fd (by decide) (by decide))) ae m3) (Uq _)) ag)) rfl)
 refine av (c7 (vs:=[enc ob]) rfl Uy) cH ?_;refine av Ov dO ?_;refine av E6 iB ?_;refine GD C1 ?_;refine bG EL (aC rfl) ae UB ?_;refine GG C2 ?_;refine fT EU (aC rfl) UD ?_;refine eT (aI rfl rfl) rfl s1 ?_;exact au (aI (aa (aC rfl) (aa (aC rfl) ag)) rfl)
end
section
structure Row where
 s:T
 c:V
 x:T
 y:T
noncomputable def Dg(r:Row):V:=.tup [enc r.s,r.c,enc r.x,enc r.y]
noncomputable def BX(r:Row):Prop:=sT r.s/\r.c∈consts/\drawn r.x 4 3/\drawn r.y 4 3
noncomputable def xJ:List Row:=[⟨.nm 60,.none,.two 13 (.nm 3) (.nm 5),.two 13 (.nm 5) (.nm 3)⟩,⟨.nm 60,.none,.two 13 (.nm 3) (.nm 3),.two 13 (.nm 5) (.nm 5)⟩,⟨.nm 60,.none,.nm 26,.nm 18⟩,⟨.nm 60,.none,.nm 27,.one 61 (.nm 28)⟩,⟨.nm 60,.none,.one 15 (.one 11 (.nm 5)),.one 15 (.one 11 (.nm 3))⟩]
theorem LS:∀ r∈xJ,BX r:=by
 have n0:sT (.nm 60):=⟨.inr (.inr rfl),by decide,by decide⟩;have key:∀ r∈xJ,r.s=.nm 60/\r.c=.none/\(dr r.x=true/\ht r.x<=4/\hr r.x<=3)/\(dr r.y=true/\ht r.y<=4/\hr r.y<=3):=by decide
 intro r hr;refine lI (key r hr) fun a b c d=>?_;exact ⟨by rw[a];exact n0,by rw[b];exact .head _,c,d⟩
theorem vE{m:Nat}{L:List V}{e:aU}{x:Option V}{e':aU}(he:e=x::none::e'):∀ (l:List Int) (acc:List V),acc.length+l.length<=100->iW 1 (cV (.obj 0) L) (qb (pg m) (.bin .mod (.loc 1) (.lit (.int (1000003)))) [] 1 e) (l.map V.int) [.list L,.list acc]=some ((),[.list L,.list (acc++l.map fun (i:Int)=>V.int (i % 1000003))])
 | [],acc,_=>by rw[List.map_nil,List.map_nil,List.append_nil];rfl
 | i::l,acc,hl=>by
  have cb:qb (pg m) (.bin .mod (.loc 1) (.lit (.int (1000003)))) [] 1 e (V.int i) [.list L,.list acc]=some (some (.int (i % 1000003)),[.list L,.list acc]):=by rw[he];rfl
  have lk:bp acc=true:=bA (by rw[List.length_cons] at hl;lia);have s1:cV (.obj 0) L [.list L,.list (acc++[V.int (i % 1000003)])]=true:=gM rfl;have:=vE (m:=m) (L:=L) he l (acc++[V.int (i % 1000003)]) (by rw[UN,List.length_singleton];rw[List.length_cons] at hl;lia);rw[List.append_assoc] at this;exact FQ cb rfl lk rfl s1 this
noncomputable def JX:List S:=[.asg (.one 1) (.bin .mod (.bin .add (.bin .mul (.loc 1) (.lit (.int (31)))) (.loc 3)) (.lit (.int (1000003))))]
theorem vF{m:Nat}{same:Hp->Bool}{h:Hp}{x0 x2:Option V}{e':aU}(hs:same h=true):∀ (l:List Int) (n:Int) (x3:Option V),∃ (n':Int) (y3:Option V),eQ same (dq (pg m) (.one 3) JX) (l.map V.int) (x0::some (.int n)::x2::x3::e') h=some ((.next,x0::some (.int n')::x2::y3::e'),h)
 | [],n,x3=>⟨n,x3,rfl⟩
 | i::l,n,x3=>by
  refine GX (vF (m:=m) (x0:=x0) (x2:=x2) (e':=e') hs l ((n * 31+i) % 1000003) (some (.int i))) fun n' y3 k=>?_;exact ⟨n',y3,d7 (dJ rfl (av (b8 (b8 (b8 (aC rfl) ae rfl) (aC rfl) rfl) ae rfl) rfl cJ)) hs k⟩
section
variable{W:Wd}{h h':Hp}{ts pend:List T}{n m:Nat}{a:Int}
noncomputable def A9:List S:=[.bZ (.loc 4) (.lit (.str 55)) (.loc 3),.expr (.app (.loc 9) (.call 86 [.loc 4]))]
theorem Dh{same:Hp->Bool}{N:O}{x0 x1 x2 x5 x6 x7 x8:Option V}{e':aU}{ro:Nat}(hr:87<=ro)(hs:∀ hh:Hp,hh[1]?=some N->same hh=true):∀ (l:List Int) (h:Hp) (a:Int) (rows:List Row) (x3:Option V),St W h ts pend a->h[1]?=some N->h[ro]?=some (.list (rows.map Dg))->(∀ r∈rows,BX r)->rows.length+l.length<=100->
  ∃ (h':Hp) (a':Int) (zB:List Row) (y3:Option V),eQ same (dq (pg (n+9)) (.one 3) A9) (l.map V.int) (x0::x1::x2::x3::some (.obj 82)::x5::x6::x7::x8::some (.obj ro)::e') h=some ((.next,x0::x1::x2::y3::some (.obj 82)::x5::x6::x7::x8::some (.obj ro)::e'),h')/\St W h' ts pend a'/\h'[1]?=some N/\h'[ro]?=some (.list (zB.map Dg))/\(∀ r∈zB,BX r)/\zB.length=rows.length+l.length:=by
 intro l
 induction l with
 | nil=>intro h a rows x3 S h1 h2 ok hl;exact ⟨h,a,rows,x3,rfl,S,h1,h2,ok,rfl⟩
 | cons i l ih=>
  intro h a rows x3 S h1 h2 ok hl;rw[List.length_cons] at hl
  let k1:=h.set 82 (.dict 1 [(.str 56,.obj 19),(.str 58,.obj 17),(.str 62,.obj 81),(.str 55,.int i),(.str 57,.bool W.eE)])
  have f1:Fr [82] h k1:=Fr.set (.head _);have OL:k1[82]?=_:=d9 (o:=.dict 1 [(.str 56,.obj 19),(.str 58,.obj 17),(.str 62,.obj 81),(.str 55,.int i),(.str 57,.bool W.eE)]) (bU S.sk);have S1:St W k1 ts pend i:=S.Oc f1 OL;have ss:dn (.obj 82) (.str 55) (.int i) h=some k1:=bF S.sk rfl rfl;refine O5 (De (n:=n) S1) fun s x y c k2 a2 er os oc ox oy S2 f2=>?_;have n1:1∉[82]:=by decide
  have nr:ro∉[82]:=fun q=>by have:=UL q;lia
  have r1:=f1 ro _ nr h2;have r2:=f2 ro _ nr r1
  let k3:Hp:=k2.set ro (O.list ((rows++[Row.mk s c x y]).map Dg))
  have f3:Fr [ro] k2 k3:=Fr.set (.head _);have S3:St W k3 ts pend a2:=S2.fr f3 fun i q=>by rw[UL q];exact hr
  have q1:k3[1]?=some N:=f3 1 _ (fun q=>by have:=UL q;lia) (f2 1 _ n1 (f1 1 _ n1 h1));have q3:k3[ro]?=some (.list ((rows++[Row.mk s c x y]).map Dg)):=d9 (bU r2);have ap:uD (.obj ro) (.tup [enc s,c,enc x,enc y]) k2=some (.none,k3):=by
   have lk:bp (rows.map Dg)=true:=bA (by rw[UQ];lia);have e:k3=k2.set ro (.list (rows.map Dg++[.tup [enc s,c,enc x,enc y]])):=by
    show k2.set ro _=_;rw[List.map_append];rfl
   rw[e];exact gY r2 lk
  refine BZ (ih k3 a2 (rows++[⟨s,c,x,y⟩]) (some (.int i)) S3 q1 q3 (fun r hr=>(UR hr).elim (ok r) fun q=>by rw[UL q];exact ⟨os,oc,ox,oy⟩) (by rw[UN,List.length_singleton];lia)) fun h' a' zB y3 k S' UG LY UH qd=>?_;refine ⟨h',a',zB,y3,?_,S',UG,LY,UH,by rw[qd,UN,List.length_singleton,List.length_cons];lia⟩;have il:Du (.obj ro) k1=true:=gb r1;have bd:aR (pg (n+9)) A9 (x0::x1::x2::some (.int i)::some (.obj 82)::x5::x6::x7::x8::some (.obj ro)::e') h=some ((.next,x0::x1::x2::some (.int i)::some (.obj 82)::x5::x6::x7::x8::some (.obj ro)::e'),k3):=
   bG (aC rfl) (aC rfl) ae ss (c9 (jd (aC rfl) il (af (aa (aC rfl) ag) er) ap) cJ)
  exact d7 (dJ rfl bd) (hs _ q1) k
noncomputable def GI:List S:=[.ite (.not_ (.call 87 [.loc 4,.loc 5,.loc 10,.loc 11,.loc 3,.loc 12])) [.ret (.lit (.bool false))] []]
theorem GJ{same:Hp->Bool}{O':O}{x0 x1 x2 x6 x7 x8 x9:Option V}{ro:Nat}(hr:87<=ro)(hs:∀ hh:Hp,hh[ro]?=some O'->same hh=true):∀ (l:List Row) (h:Hp) (ts:List T) (x3 x10 OO OP:Option V),St W h ts [] a->h[ro]?=some O'->(∀ r∈l,BX r)->ts.length+300 * l.length<9000->
  ∃ (h':Hp) (y3 JL Qw Qx:Option V),eQ same (dq (pg (m+87)) (.many [10,11,3,12]) GI) (l.map Dg) [x0,x1,x2,x3,some (.obj 82),some (.obj 8),x6,x7,x8,x9,x10,OO,OP] h=some ((.next,[x0,x1,x2,y3,some (.obj 82),some (.obj 8),x6,x7,x8,x9,JL,Qw,Qx]),h'):=by
 intro l
 induction l with
 | nil=>intro h ts x3 x10 OO OP S h1 ok hl;exact ⟨h,x3,x10,OO,OP,rfl⟩
 | cons r l ih=>
  intro h ts x3 x10 OO OP S h1 ok hl;rw[List.length_cons] at hl;refine lI (ok r (.head _)) fun os oc ox oy=>?_;refine fH (Od (n:=m) S os oc ox oy (by lia)) fun rr k1 e S1 f lr=>?_;have q1:=f ro _ (fun x=>by have:=(by decide:∀ i∈kX,i<87) ro x;lia) h1;refine J0 (ih k1 (ts++rr) (some (enc r.x)) (some (enc r.s)) (some r.c) (some (enc r.y)) S1 q1 (fun r hr=>ok r (.tail _ hr)) (by rw[UN];lia)) fun h' y3 JL Qw Qx k=>?_;have bd:aR (pg (m+87)) GI [x0,x1,x2,some (enc r.x),some (.obj 82),some (.obj 8),x6,x7,x8,x9,some (enc r.s),some r.c,some (enc r.y)] h=some ((.next,[x0,x1,x2,some (enc r.x),some (.obj 82),some (.obj 8),x6,x7,x8,x9,some (enc r.s),some r.c,some (enc r.y)]),k1):=
   aq (aZ (af (aa (aC rfl) (aa (aC rfl) (aa (aC rfl) (aa (aC rfl) (aa (aC rfl) (aa (aC rfl) ag)))))) e)) rfl (cJ (P:=pg (m+87)))
  exact ⟨h',y3,JL,Qw,Qx,d7 (dJ rfl bd) (hs _ q1) k⟩
end
theorem Oj(l:List Int)(hl:l.length<=63):∃ H',run aY 151 88 [.qF (l.map V.int)] []=some (.bool true,H'):=by
 have h8:(l.take 8).length<=8:=by rw[List.length_take];lia
 have tk:(l.map V.int).take 8=(l.take 8).map V.int:=List.map_take.symm
 let ns:List Int:=(l.take 8).map fun i=>i % 1000003
 have hn:ns.length<=8:=by rw[UQ];exact h8
 have nm:((l.take 8).map fun (i:Int)=>V.int (i % 1000003))=ns.map V.int:=by rw[List.map_map];rfl
 let o0:O:=.list ((l.take 8).map V.int)
 let o1:O:=.list (ns.map V.int)
 have pr:B5 (.qF (l.map V.int)) 8 []=some (.obj 0,[o0]):=by
  have lk:bp (l.map V.int)=true:=bA (by rw[UQ];lia);have Qi:bp ((l.take 8).map V.int)=true:=bA (by rw[UQ];lia);exact (if_pos lk).trans (by rw[tk];exact gF Qi)
 have cm:=vE (m:=150) (L:=(l.take 8).map V.int) (e:=[some (.qF (l.map V.int)),none,none,none,none,none,none,none,none,none,none,none,none]) rfl (l.take 8) [] (by rw[List.length_nil];lia);rw[List.nil_append,nm] at cm;have EC:ba (pg 150) (.comp (.bin .mod (.loc 1) (.lit (.int (1000003)))) 1 (.pre (.loc 0) 8) []) [some (.qF (l.map V.int)),none,none,none,none,none,none,none,none,none,none,none,none] []=some (.obj 1,[o0,o1]):=
  xG (nV (aC rfl) pr) rfl cm
 have i1:∀ {hh:Hp},hh[1]?=some o1->dR (.obj 1) hh=some (ns.map V.int):=fun e=>iu e;refine GX (vF (m:=150) (same:=cV (.obj 1) (ns.map V.int)) (h:=[o0,o1]) (x0:=some (.qF (l.map V.int))) (x2:=some (.obj 1)) (e':=[none,none,none,none,none,none,none,none,none]) (gM rfl) ns 0 none) fun n' x3 kf=>?_;refine Mt (zA o0 o1 n') fun W r h1 ew S w0 w1 lr=>?_;have Mo:=S.big;have nl:jw (xJ.map Dg) h1=some (.obj h1.length,h1++[.list (xJ.map Dg)]):=by
  unfold jw;rw[bA (by decide)];rfl
 refine BZ (Dh (n:=141) (x0:=some (.qF (l.map V.int))) (x1:=some (.int n')) (x2:=some (.obj 1)) (x5:=some (.obj 8)) (x6:=some (enc (.nm 3))) (x7:=some (enc (.nm 5))) (x8:=some (enc (.nm 60))) (e':=[none,none,none]) (same:=cV (.obj 1) (ns.map V.int)) (N:=o1) Mo (fun hh e=>gM e) ns (h1++[.list (xJ.map Dg)]) n' xJ x3 (S.pure Fr.app) (bj w1) bT LS (by have:xJ.length=5:=rfl;lia)) fun h2 a2 rows y3 kr S2 q1 q2 ok lrw=>?_;have l5:xJ.length=5:=rfl;have lb:dD.length=27:=rfl;refine J0 (GJ (m:=63) (x0:=some (.qF (l.map V.int))) (x1:=some (.int n')) (x2:=some (.obj 1)) (x6:=some (enc (.nm 3))) (x7:=some (enc (.nm 5))) (x8:=some (enc (.nm 60))) (x9:=some (.obj h1.length)) (same:=cV (.obj h1.length) (rows.map Dg)) Mo (fun hh e=>gM e) rows h2 _ y3 none none none S2 q2 ok (by rw[UN];lia)) fun h3 z3 UI UJ UK ka=>?_;refine ⟨h3,?_⟩;have i2:dR (.obj h1.length) h2=some (rows.map Dg):=iu q2;unfold JX at kf;unfold A9 at kr;unfold GI at ka;rw[NH];refine aw (e1:=[some (.qF (l.map V.int)),some (.int n'),some (.obj 1),z3,some (.obj 82),some (.obj 8),some (enc (.nm 3)),some (enc (.nm 5)),some (enc (.nm 60)),some (.obj h1.length),UI,UJ,UK]) ?_ rfl;refine av EC cR ?_;refine av ae uA ?_;refine eT (aC rfl) (i1 rfl) kf ?_;refine av (af (aa (aC rfl) ag) ew) rfl ?_;refine av (e1:=[some (.qF (l.map V.int)),some (.int n'),some (.obj 1),x3,some (.obj 82),some (.obj 8),some (enc (.nm 3)),some (enc (.nm 5)),some (enc (.nm 60)),none,none,none,none]) (v:=.tup [enc (.nm 3),enc (.nm 5),enc (.nm 60)]) rfl rfl ?_;refine av (c7 (vs:=xJ.map Dg) rfl nl) Ia ?_;refine eT (aC rfl) (i1 (bj w1)) kr ?_;refine eT (aC rfl) i2 ka ?_;exact au ae
end
section
theorem LU:JB:=fun l hl=>by
 obtain ⟨H',e⟩:=Oj l hl;exact ⟨151,H',by decide,e⟩
theorem holds:vj.Holds:=FC LU
end
end Mine
theorem PySem.Challenge.cw_xm0337_01_holds : PySem.Challenge.rw_xm0337_01.Holds :=
  Mine.holds
