import PyProof.Rows.All
import OpenK.KLine
import OpenK.KQuick
import OpenK.AllK
import Wide.FinOn
import Lean
import PySem.Challenge.RW_sa0285_01
set_option backward.eqns.nonrecursive false
set_option backward.eqns.deepRecursiveSplit false
set_option maxRecDepth 100000
set_option Elab.async false
set_option maxHeartbeats 4000000
set_option linter.all false
set_option tactic.hygienic false
set_option genSizeOf false
set_option genInjectivity false
noncomputable section
namespace MP
def jg:=@Nat.add_assoc
def ij:=@Nat.add_comm
def gR:=@Nat.add_le_add
def ik:=@Nat.add_le_add_left
def oF:=@Nat.add_le_add_right
def qE:=@Nat.add_lt_add_of_lt_of_le
def i9:=@Nat.add_right_comm
def k9:=@Nat.le_add_left
def nv:=@Nat.le_of_add_right_le
def la:=@Nat.le_of_eq
def iz:=@Nat.le_of_lt
def fq:=@Nat.lt_of_le_of_lt
def sM:=@Nat.lt_of_succ_lt_succ
def mO:=@Nat.lt_succ_of_le
def lc:=@Nat.lt_trans
def mP:=@Nat.mul_le_mul_left
def lf:=@Nat.succ_le_succ
def j5:=@Nat.succ_pos
def j6:=@Array.length_toList
def jd:=@Bool.and_eq_true
def pU:=@Bool.eq_false_iff
def rp:=@PySem.Heap.SameBut.update
def iV:=@PySem.Heap.get?_push_of_some
def jQ:=@PySem.Heap.get?_push_size
def pV:=@PySem.Heap.get?_update_self
def jp:=@PySem.Heap.lt_size
def tZ:=@PySem.Heap.size_push
def kC:=@List.all_cons
def kZ:=@List.all_eq_true
def Nm {P:Nat->Prop} (i) (h:i<0):P i:=(Nat.not_lt_zero i h).elim
theorem nf {n} {P:Nat->Prop} (h:P 0) (k:∀i,i<n->P (i+1)) (i) (hi:i<n+1):P i:=by
 cases i with
 |zero=>exact h
 |succ i=>exact k i<|Nat.lt_of_succ_lt_succ hi
def ng {p:Prop} (h:false):p:=by cases h
def fe {α:Type} {x:α} {p:Prop} (h:none=some x):p:=nomatch h
def gA:=@List.append_assoc
def gk:=@List.append_nil
def om:=@List.cons.injEq
def nw:=@List.getElem?_append_left
def nz:=@List.getElem?_append_right
def ka:=@List.getElem?_eq_getElem
def ke:=@List.getElem?_eq_some_iff
def fj:=@List.length_append
def kg:=@List.length_cons
def fk:=@List.length_map
def nC:=@List.length_nil
def hK:=@List.map_append
def hW:=@List.map_cons
def iv:=@List.map_map
def fL:=@List.mem_append
def gC:=@List.mem_cons
def gj:=@List.mem_cons_of_mem
def fA:=@List.mem_cons_self
def fW:=@List.mem_map
def o9:=@List.mem_map_of_mem
def lL:=@List.mem_of_getElem?
def gw:=@List.mem_singleton
def k8:=@List.nil_append
def kh:=@List.nodup_cons
def pW:=@List.nodup_nil
def jw:=@List.not_mem_nil
def t7:=@Nat.ble_eq_true_of_le
def mW:=@Nat.eq_of_beq_eq_true
def gV:=@Nat.le_add_right
def iw:=@Nat.le_of_ble_eq_true
def fX:=@Nat.le_refl
def kj:=@Nat.le_succ
def al_81:=@Nat.le_trans
def fB:=@Nat.lt_of_lt_of_le
def jq:=@Nat.ne_of_lt
def mx:=@Nat.not_lt
def gJ:=@Nat.zero_add
def ji:=@Nat.zero_le
def pb:=@Option.some.injEq
def pc:=@PySem.PyData.int.injEq
def oo:=@PySem.PyData.tuple.injEq
def sN:=@PySem.F.slot_tuple_mul
def fz:=@decide_eq_false
def fu:=@decide_eq_true
def kD:=@decide_eq_true_eq
def ff:=@if_neg
def fv:=@if_pos
def jA:=@of_decide_eq_true
def kE:=@PySem.sizeLine_eq
def eX:=@PySem.wpAny_bind
def mf:=@PySem.wpAny_holding
def gE:=@PySem.wpAny_mono
def mQ:=@PySem.wpAny_of_eq
def fD:=@PySem.wpAny_pure
theorem tT:true=true:=rfl
noncomputable def ay {p:Prop} [Decidable p] (h:decide p:=by exact tT):p:=of_decide_eq_true h
def nA {a b c:Nat} (h:a<b) (k:b<=c):a<c:=Nat.lt_of_lt_of_le h k
def nB {a b c:Nat} (h:a<=b) (k:b<=c):a<=c:=Nat.le_trans h k
noncomputable def eZ {p:Prop} (h:p:=by lia):p:=h
noncomputable def eV {p:Prop} (h:p:=by kernel_rfl):p:=h
noncomputable def fF {p:Prop} (h:p:=by simp):p:=h
def oq {A0 A1 A2:Prop}{G:Prop}(h:A0/\A1/\A2)(k:A0->A1->A2->G):G:=k  h.1 h.2.1 h.2.2
def Sw {A0 A1 A2 A3 A4:Prop}{G:Prop}(h:A0/\A1/\A2/\A3/\A4)(k:A0->A1->A2->A3->A4->G):G:=k  h.1 h.2.1 h.2.2.1 h.2.2.2.1 h.2.2.2.2
def e8 {α:Sort _}{A0 A1:α->Prop}{G:Prop}(h:∃x,A0 x/\A1 x)(k:∀x,A0 x->A1 x->G):G:=h.elim λx h=>k x h.1 h.2
def gT {α:Sort _}{A0 A1 A2:α->Prop}{G:Prop}(h:∃x,A0 x/\A1 x/\A2 x)(k:∀x,A0 x->A1 x->A2 x->G):G:=h.elim λx h=>k x h.1 h.2.1 h.2.2
def nD {α:Sort _}{A0 A1 A2 A3:α->Prop}{G:Prop}(h:∃x,A0 x/\A1 x/\A2 x/\A3 x)(k:∀x,A0 x->A1 x->A2 x->A3 x->G):G:=h.elim λx h=>k x h.1 h.2.1 h.2.2.1 h.2.2.2
def my {α:Sort _}{A0 A1 A2 A3 A4:α->Prop}{G:Prop}(h:∃x,A0 x/\A1 x/\A2 x/\A3 x/\A4 x)(k:∀x,A0 x->A1 x->A2 x->A3 x->A4 x->G):G:=h.elim λx h=>k x h.1 h.2.1 h.2.2.1 h.2.2.2.1 h.2.2.2.2
def ot {α:Sort _}{β:Sort _}{A0 A1:α->β->Prop}{G:Prop}(h:∃x y,A0 x y/\A1 x y)(k:∀x y,A0 x y->A1 x y->G):G:=h.elim λx h=>h.elim λy h=>k x y h.1 h.2
def kF {α:Sort _}{β:Sort _}{A0 A1 A2:α->β->Prop}{G:Prop}(h:∃x y,A0 x y/\A1 x y/\A2 x y)(k:∀x y,A0 x y->A1 x y->A2 x y->G):G:=h.elim λx h=>h.elim λy h=>k x y h.1 h.2.1 h.2.2
def DB {α:Sort _}{β:Sort _}{A0 A1 A2 A3:α->β->Prop}{G:Prop}(h:∃x y,A0 x y/\A1 x y/\A2 x y/\A3 x y)(k:∀x y,A0 x y->A1 x y->A2 x y->A3 x y->G):G:=h.elim λx h=>h.elim λy h=>k x y h.1 h.2.1 h.2.2.1 h.2.2.2
def ou {α:Sort _}{β:Sort _}{γ:Sort _}{A0 A1 A2:α->β->γ->Prop}{G:Prop}(h:∃x y z,A0 x y z/\A1 x y z/\A2 x y z)(k:∀x y z,A0 x y z->A1 x y z->A2 x y z->G):G:=h.elim λx h=>h.elim λy h=>h.elim λz h=>k x y z h.1 h.2.1 h.2.2
def pY {α:Sort _}{β:Sort _}{γ:Sort _}{A0 A1 A2 A3 A4 A5:α->β->γ->Prop}{G:Prop}(h:∃x y z,A0 x y z/\A1 x y z/\A2 x y z/\A3 x y z/\A4 x y z/\A5 x y z)(k:∀x y z,A0 x y z->A1 x y z->A2 x y z->A3 x y z->A4 x y z->A5 x y z->G):G:=h.elim λx h=>h.elim λy h=>h.elim λz h=>k x y z h.1 h.2.1 h.2.2.1 h.2.2.2.1 h.2.2.2.2.1 h.2.2.2.2.2
def ia {P:Prop}(h:∀G:Prop,(P->G)->G):P:=h P id
def Jf {A0 A1 A2:Prop}(a0:A0)(a1:A1)(a2:A2):A0/\A1/\A2:=⟨a0,a1,a2⟩
def iI {A0 A1 A2 A3:Prop}(a0:A0)(a1:A1)(a2:A2)(a3:A3):A0/\A1/\A2/\A3:=⟨a0,a1,a2,a3⟩
def jj {A0 A1 A2 A3 A4:Prop}(a0:A0)(a1:A1)(a2:A2)(a3:A3)(a4:A4):A0/\A1/\A2/\A3/\A4:=⟨a0,a1,a2,a3,a4⟩
def Cv {A0 A1 A2 A3 A4 A5:Prop}(a0:A0)(a1:A1)(a2:A2)(a3:A3)(a4:A4)(a5:A5):A0/\A1/\A2/\A3/\A4/\A5:=⟨a0,a1,a2,a3,a4,a5⟩
def DC {A0 A1 A2 A3:Prop}{G:Prop}(h:A0/\A1/\A2/\A3)(k:A0->A1->A2->A3->G):G:=let⟨a0,a1,a2,a3⟩:=h;k a0 a1 a2 a3
def Sy {A0 A1 A2 A3 A4 A5 A6:Prop}{G:Prop}(h:A0/\A1/\A2/\A3/\A4/\A5/\A6)(k:A0->A1->A2->A3->A4->A5->A6->G):G:=let⟨a0,a1,a2,a3,a4,a5,a6⟩:=h;k a0 a1 a2 a3 a4 a5 a6
def DD {α:Sort _}{A0 A1 A2 A3 A4 A5 A6 A7:α->Prop}{G:Prop}(h:∃x,A0 x/\A1 x/\A2 x/\A3 x/\A4 x/\A5 x/\A6 x/\A7 x)(k:∀x,A0 x->A1 x->A2 x->A3 x->A4 x->A5 x->A6 x->A7 x->G):G:=let⟨x,a0,a1,a2,a3,a4,a5,a6,a7⟩:=h;k x a0 a1 a2 a3 a4 a5 a6 a7
def DF {α:Sort _}{β:Sort _}{A0 A1 A2 A3 A4:α->β->Prop}{G:Prop}(h:∃x y,A0 x y/\A1 x y/\A2 x y/\A3 x y/\A4 x y)(k:∀x y,A0 x y->A1 x y->A2 x y->A3 x y->A4 x y->G):G:=let⟨x,y,a0,a1,a2,a3,a4⟩:=h;k x y a0 a1 a2 a3 a4
def Zp {A0 A1 A2 A3 A4 A5 A6:Prop}(a0:A0)(a1:A1)(a2:A2)(a3:A3)(a4:A4)(a5:A5)(a6:A6):A0/\A1/\A2/\A3/\A4/\A5/\A6:=⟨a0,a1,a2,a3,a4,a5,a6⟩
def Fo {A0 A1 A2 A3 A4 A5 A6 A7:Prop}(a0:A0)(a1:A1)(a2:A2)(a3:A3)(a4:A4)(a5:A5)(a6:A6)(a7:A7):A0/\A1/\A2/\A3/\A4/\A5/\A6/\A7:=⟨a0,a1,a2,a3,a4,a5,a6,a7⟩
def WZ {A0 A1 A2 A3 A4 A5 A6 A7 A8 A9 A10:Prop}(a0:A0)(a1:A1)(a2:A2)(a3:A3)(a4:A4)(a5:A5)(a6:A6)(a7:A7)(a8:A8)(a9:A9)(a10:A10):A0/\A1/\A2/\A3/\A4/\A5/\A6/\A7/\A8/\A9/\A10:=⟨a0,a1,a2,a3,a4,a5,a6,a7,a8,a9,a10⟩
section
open PySem PySem.W
noncomputable abbrev pw:Program:=PySem.Challenge.pw_sa0285_01
def Fp:List Stmt:=pw.main.body
noncomputable def HM:List Stmt->Nat->Stmt
 |[],_=>.Pass ⟨0,0,0,0⟩
 |s::_,0=>s
 |_::r,n+1=>HM r n
def sg (i:Nat):Stmt:=HM Fp i
noncomputable def Fq {α:Type} (s:Stmt) (z:α) (k:Str->Arguments->List Stmt->List Expr->Option Expr->List TypeParam->Scope->Option Scope->Str->Pos->α):α:=if h:s.ctorIdx=0 then Stmt.FunctionDef.elim (motive_2:=λZ=>α) s h k else z
noncomputable def Nn {α:Type} (s:Stmt) (z:α) (k:Str->List Expr->List Keyword->List Stmt->List Expr->List TypeParam->Scope->Option Scope->Str->List Str->Pos->α):α:=if h:s.ctorIdx=2 then Stmt.ClassDef.elim (motive_2:=λZ=>α) s h k else z
def Sz (s:Stmt):List Stmt:=Nn s [] λZ Z Z b Z Z Z Z Z Z Z=>b
def ms (i j:Nat):Stmt:=HM (Sz<|sg i) j
def we (s:Stmt):Str:=Fq s ⟨#[]⟩ λn Z Z Z Z Z Z Z Z Z=>n
def Jg (s:Stmt):Arguments:=Fq s ⟨[],[],none,[],[],none,[]⟩ λZ a Z Z Z Z Z Z Z Z=>a
def VK (s:Stmt):List Stmt:=Fq s [] λZ Z b Z Z Z Z Z Z Z=>b
def Jh (s:Stmt):Scope:=Fq s ⟨.function,[],false,false,[]⟩ λZ Z Z Z Z Z c Z Z Z=>c
noncomputable def jB (s:String) (t:Nat):Value:=.str (Str.ofString s) t
def wf:=jB "framerune.faults" 307
def Ji:=jB "framerune.schema" 388
def No:=jB "framerune.metacheck" 634
def Ag:=jB "framerune.kinds" 860
def Cw:=jB "framerune.pages" 1155
def yg:=jB "framerune.store" 1321
def VL:=jB "framerune.packcheck" 1598
def VM:=jB "framerune.packparts" 1641
def Np:=jB "framerune.pack" 1670
def Cx:=jB "law_sa0285_01" 1941
noncomputable def hsh (P:Params) (s:Str):Int:=if s.cps.isEmpty then 0 else reduceHash<|P.strHash s.cps
def deh (P:Params) (s:List Nat) (t:Nat) (v:Value):DictEntry:=⟨hsh P ⟨⟨s⟩⟩,.str ⟨⟨s⟩⟩ t,v⟩
def W0 (d:Stmt) (q:Str) (pm code doc:Value):FuncData:=
 {name:=we d,qualname:=q,params:=Jg d,body:=.stmts<|VK d,scope:=Jh d,globals:=3,closure:=[],defaults:=.none,kwdefaults:=.none,
  doc:=doc,pyModule:=pm,annotations:=none,code:=code,closureTuple:=.none,builtins:=0}
def SA (d:Stmt) (q:Str):FuncData:=
 {name:=we d,qualname:=q,params:=Jg d,body:=.stmts<|VK d,scope:=Jh d,globals:=0,closure:=[],defaults:=.none,kwdefaults:=.none}
noncomputable def VN (name:Str) (bases mro:List Value) (ns:Addr) (q:Str) (subs:List Value):ClassData:=
 {name:=name,bases:=bases,mro:=mro,ns:=ns,qualname:=q,hasDict:=true,slotNames:=[],subclasses:=subs,abstract:=false,collection:=none,hasDel:=false}
def DG (n:String) (b z:List Value) (a:Addr) (q:String):=VN (Str.ofString n) b z a<|Str.ofString q
noncomputable def Nq:List (Nat×Obj)->Nat->Obj->Obj
 |[],_,v=>v
 |(i,o)::r,b,v=>match Nat.beq i b with
  |true=>o
  |false=>Nq r b v
def HN (ov:List (Nat×Obj)):BT->Nat->Nat->Nat->BT
 |.nil,_,_,_=>.nil
 |.node v l r,a,b,n=>match Nat.blt b n with
  |true=>.node (Nq ov b v) (HN ov l (2*a) (a+b) n)<|HN ov r (2*a) (2*a+b) n
  |false=>.nil
noncomputable def Nr:List (Nat×Obj)->Nat->Obj->Obj
 |[],_,v=>v
 |(i,o)::r,b,v=>match Nat.beq i b with
  |true=>o
  |false=>Nr r b v
def HO (ov:List (Nat×Obj)):BT->Nat->Nat->Nat->BT
 |.nil,_,_,_=>.nil
 |.node v l r,a,b,n=>match Nat.blt b n with
  |true=>.node (Nr ov b v) (HO ov l (2*a) (a+b) n)<|HO ov r (2*a) (2*a+b) n
  |false=>.nil
noncomputable def Zq (n:List Nat) (p1h:Pos) (v:Int) (k:Nat) (p2h p3h:Pos):Stmt:=.Assign [.Name ⟨⟨n⟩⟩ p1h] (.Constant (.int v) k p2h) p3h
noncomputable def uR (n:List Nat) (p1h:Pos) (v:String) (k:Nat) (p2h p3h:Pos):Stmt:=.Assign [.Name ⟨⟨n⟩⟩ p1h] (.Constant (.str<|Str.ofString v) k p2h) p3h
noncomputable abbrev ki (l:List Nat):=l
def sy:=ki [95,95,110,97,109,101,95,95]
def Jj:=ki [95,95,100,111,99,95,95]
def VO:=ki [84,66,95,77,79,68,85,76,69]
def VP:=ki [84,66,95,84,89,80,69,82,69,70]
def VQ:=ki [84,66,95,84,89,80,69,68,69,70]
def VR:=ki [84,66,95,70,73,69,76,68]
def VS:=ki [84,66,95,77,69,84,72,79,68,68,69,70]
def VT:=ki [84,66,95,80,65,82,65,77]
def VU:=ki [84,66,95,73,78,84,69,82,70,65,67,69,73,77,80,76]
def VV:=ki [84,66,95,77,69,77,66,69,82,82,69,70]
def Nt:=ki [84,66,95,67,79,78,83,84,65,78,84]
def Nu:=ki [84,66,95,83,84,65,78,68,65,76,79,78,69,83,73,71]
def Nv:=ki [84,66,95,69,86,69,78,84,77,65,80]
def Nw:=ki [84,66,95,69,86,69,78,84]
def Nx:=ki [84,66,95,80,82,79,80,69,82,84,89,77,65,80]
def Ny:=ki [84,66,95,80,82,79,80,69,82,84,89]
def Nz:=ki [84,66,95,77,69,84,72,79,68,83,69,77,65,78,84,73,67,83]
def NA:=ki [84,66,95,77,69,84,72,79,68,73,77,80,76]
def NB:=ki [84,66,95,84,89,80,69,83,80,69,67]
def NC:=ki [84,66,95,65,83,83,69,77,66,76,89]
def ND:=ki [84,66,95,65,83,83,69,77,66,76,89,82,69,70]
def NF:=ki [84,66,95,78,69,83,84,69,68,67,76,65,83,83]
def NG:=ki [84,66,95,71,69,78,69,82,73,67,80,65,82,65,77]
def NH:=ki [84,66,95,77,69,84,72,79,68,83,80,69,67]
def NI:=ki [84,66,95,71,69,78,69,82,73,67,80,65,82,65,77,67,79,78,83,84,82,65,73,78,84]
def NJ:=ki [84,79,75,69,78,95,66,65,83,69]
def NK:=ki [69,95,86,79,73,68]
def NL:=ki [69,95,66,79,79,76,69,65,78]
def NM:=ki [69,95,67,72,65,82]
def NN:=ki [69,95,73,49]
def NO:=ki [69,95,85,49]
def NQ:=ki [69,95,73,50]
def NR:=ki [69,95,85,50]
def NS:=ki [69,95,73,52]
def NT:=ki [69,95,85,52]
def NU:=ki [69,95,73,56]
def NV:=ki [69,95,85,56]
def NW:=ki [69,95,83,84,82,73,78,71]
def NX:=ki [69,95,66,89,82,69,70]
def NY:=ki [69,95,86,65,76,85,69,84,89,80,69]
def NZ:=ki [69,95,67,76,65,83,83]
def N0:=ki [69,95,86,65,82]
def N1:=ki [69,95,71,69,78,69,82,73,67,73,78,83,84]
def N2:=ki [69,95,73]
def N3:=ki [69,95,79,66,74,69,67,84]
def N4:=ki [69,95,83,90,65,82,82,65,89]
def N5:=ki [69,95,77,86,65,82]
def N6:=ki [83,73,71,95,80,82,79,80,69,82,84,89]
def N7:=ki [83,73,71,95,71,69,78,69,82,73,67]
def N8:=ki [83,73,71,95,72,65,83,84,72,73,83]
def N9:=ki [84,65,95,80,85,66,76,73,67]
def N':=ki [84,65,95,78,69,83,84,69,68,80,85,66,76,73,67]
def Oa:=ki [84,65,95,78,69,83,84,69,68,65,83,83,69,77,66,76,89]
def Ob:=ki [84,65,95,73,78,84,69,82,70,65,67,69]
def Oc:=ki [84,65,95,65,66,83,84,82,65,67,84]
def Od:=ki [84,65,95,83,69,65,76,69,68]
def Oe:=ki [84,65,95,77,65,68,69]
def Of:=ki [84,65,95,66,69,70,79,82,69,70,73,69,76,68,73,78,73,84]
def Og:=ki [77,83,95,83,69,84,84,69,82]
def Oh:=ki [77,83,95,71,69,84,84,69,82]
def Oi:=ki [77,83,95,65,68,68,79,78]
def Oj:=ki [77,83,95,82,69,77,79,86,69,79,78]
def Ol:=ki [67,83,95,85,49,54]
def Om:=ki [67,83,95,85,51,50]
def On:=ki [67,83,95,85,56,80,65,68]
def Oo:=ki [67,83,95,84,69,88,84]
def Oq:=ki [67,83,95,66,76,79,66]
def Os:=ki [67,83,95,71,85,73,68]
def Ot:=ki [67,83,95,82,79,87]
def Ou:=ki [67,83,95,67,79,68,69,68]
def Ov:=ki [67,68,95,84,89,80,69,68,69,70,79,82,82,69,70]
def Ow:=ki [67,68,95,72,65,83,67,79,78,83,84,65,78,84]
def Ox:=ki [67,68,95,77,69,77,66,69,82,82,69,70,80,65,82,69,78,84]
def Oy:=ki [67,68,95,72,65,83,83,69,77,65,78,84,73,67,83]
def Oz:=ki [67,68,95,77,69,84,72,79,68,68,69,70,79,82,82,69,70]
def OA:=ki [67,68,95,82,69,83,79,76,85,84,73,79,78,83,67,79,80,69]
def OB:=ki [67,68,95,84,89,80,69,79,82,77,69,84,72,79,68,68,69,70]
def Jk:=ki [86,79,73,68]
def Jl:=ki [66,79,79,76]
def Jm:=ki [67,72,65,82]
def Jn:=ki [78,73,78,84]
def Jo:=ki [79,66,74,69,67,84]
def Jp:=ki [83,84,82,73,78,71]
def Jq:=ki [78,85,76,76,75]
def Jr:=ki [80,82,73,77,95,69,78,68]
def Js:=ki [82,95,80,82,73,77]
def Jt:=ki [82,95,67,76,65,83,83]
def Ju:=ki [82,95,86,65,76,85,69]
def Jv:=ki [82,95,65,82,82,65,89]
def Jw:=ki [82,95,66,89,82,69,70]
def Jx:=ki [82,95,86,65,82]
def Jy:=ki [82,95,77,86,65,82]
def Jz:=ki [82,95,66,79,88,69,68]
def JA:=ki [82,95,82,79,82,69,70]
def JB:=ki [82,95,70,84,78]
def JC:=ki [82,95,82,65,87]
def JD:=ki [68,69,69,80,69,83,84,95,75,73,78,68]
def JE:=ki [72,69,65,86,73,69,83,84,95,75,73,78,68]
def JF:=ki [65,82,82,65,89,95,84,73,68]
def JG:=ki [83,71,95,84,89,80,69,83,80,69,67]
def JH:=ki [83,71,95,77,69,84,72,79,68]
def JI:=ki [83,71,95,80,82,79,80,69,82,84,89]
def JJ:=ki [83,95,67,76,65,83,83]
def JK:=ki [83,95,83,84,82,85,67,84]
def JL:=ki [83,95,73,70,65,67,69]
def JM:=ki [83,95,68,69,76,69,71,65,84,69]
def JN:=ki [83,95,69,78,85,77]
def JO:=ki [84,70,95,65,66,83,84,82,65,67,84]
def JP:=ki [84,70,95,83,69,65,76,69,68]
def JQ:=ki [84,70,95,66,69,70,79,82,69]
def JR:=ki [84,70,95,73,78,84,69,82,78,65,76]
def JS:=ki [84,70,95,77,65,68,69]
def JT:=ki [86,65,95,78,79,78,69]
def JU:=ki [77,70,95,83,84,65,84,73,67]
def JV:=ki [77,70,95,86,73,82,84,85,65,76]
def JW:=ki [77,70,95,78,69,87,83,76,79,84]
def JX:=ki [77,70,95,67,84,79,82]
def JY:=ki [77,70,95,67,67,84,79,82]
def JZ:=ki [77,70,95,83,80,69,67,73,65,76]
def J0:=ki [84,95,79,66,74,69,67,84]
def J1:=ki [84,95,86,65,76,85,69,84,89,80,69]
def J2:=ki [84,95,69,78,85,77]
def J3:=ki [84,95,68,69,76,69,71,65,84,69]
def DH:=ki [95,95,109,111,100,117,108,101,95,95]
def J4:=ki [95,95,113,117,97,108,110,97,109,101,95,95]
def DI:=ki [95,95,102,105,114,115,116,108,105,110,101,110,111,95,95]
def J5:=ki [95,95,105,110,105,116,95,95]
def t8:=ki [95,95,115,116,97,116,105,99,95,97,116,116,114,105,98,117,116,101,115,95,95]
def J6:=ki [95,95,119,101,97,107,114,101,102,95,95]
def aba:=ki [114,111,119]
def abb:=ki [112,117,116]
def SC:=ki [95,95,100,105,99,116,95,95]
def abc:=ki [103,101,116]
def abd:=ki [97,100,100]
def abe:=ki [99,111,117,110,116]
def abf:=ki [115,105,103]
noncomputable def tO(l:List Value)(_:Params):Obj:=⟨.type "tuple",none,.seq l.toArray 0,#[]⟩
noncomputable def fO(l:List Value)(_:Params):Obj:=⟨.none,none,.fields l.toArray,#[]⟩
def fP:=fO []
def tP:=tO []
def uO(d:Stmt)(q:Str)(_:Params):Obj:=⟨.none,none,.func<|SA d q,#[]⟩
def gO(d:Stmt)(q:Str)(m:Value)(c:Nat)(_:Params):Obj:=⟨.type "function",none,.func<|W0 d q m (.ref c) .none,#[]⟩
noncomputable def yO(t:String)(l:List Value)(_:Params):Obj:=⟨.type t,none,.fields l.toArray,#[]⟩
noncomputable def dO(l:List DictEntry)(n:Nat)(_:Params):Obj:=⟨.type "dict",none,.dict l.toArray n,#[]⟩
def aI(n:List Nat)(r c e:Nat)(v:Int):Stmt:=Zq n ⟨r,0,r,c⟩ v 0 ⟨r,c+3,r,e⟩ ⟨r,0,r,e⟩
def cS(n q:Str)(t r:Nat)(a b c d:Int)(v:Nat)(x:Bool)(z:Int)(g:Nat)(h i j:Value)(u:Nat)(_:Params):Obj:=⟨.type "code",none,.fields #[.str n t,.str q<|t+1,jB "/claim/cut.py"<|t+2,.int r 0,.int a 0,.int b 0,.int c 0,.int d 0,.ref v,.bool x,.int z 0,.ref g,.none,h,i,j,.int u 0,.int r 0,jB "/claim/cut.py"<|u+1],#[]⟩
def cO(n q:String):=cS (Str.ofString n)<|Str.ofString q
def VW:List (List Nat):=[VO,VP,VQ,VR,VS,VT,VU,VV,Nt,Nu,Nv,Nw,Nx,Ny,Nz,NA,NB,NC,ND,NF,NG,NH,NI,NJ,NK,NL,NM,NN,NO,NQ,NR,NS,NT,NU,NV,NW,NX,NY,NZ,N0,N1,N2,N3,N4,N5,N6,N7,N8,N9,N',Oa,Ob,Oc,Od,Oe,Of,Og,Oh,Oi,Oj]
def VX:List (List Nat):=[[66,97,100,73,109,97,103,101],[66,97,100,83,105,103],[66,97,100,75,105,110,100],Ol,Om,On,Oo,Oq,Os,Ot,Ou,Ov,Ow,Ox,Oy,Oz,OA,OB,[67,79,68,69,68],[67,79,76,85,77,78,83],[83,79,82,84,69,68,95,66,89],[110,101,101,100,95,114,111,119],[109,97,107,101,95,99,111,100,101,100],[115,112,108,105,116,95,99,111,100,101,100],[109,97,107,101,95,116,111,107,101,110],[115,112,108,105,116,95,116,111,107,101,110],[115,111,114,116,95,107,101,121],[76,73,83,84,83],[77,65,89,95,66,69,95,78,79,78,69],[114,111,119,115,95,111,102],[116,97,98,108,101,95,116,101,120,116],[116,97,98,108,101,95,98,108,111,98],[114,117,108,101,95,109,97,112,115],[114,117,108,101,95,116,97,103,115],[99,111,100,101,100,95,112,97,105,114],[105,115,95,108,105,115,116,95,99,111,108,117,109,110],[114,117,108,101,95,112,97,114,101,110,116,115],[110,97,109,101,115,95,114,111,119],[108,105,115,116,95,114,97,110,103,101],[111,119,110,101,114,95,114,111,119],[114,117,108,101,95,116,119,105,99,101],[116,119,105,99,101,95,109,101,109,98,101,114,115],[114,117,108,101,95,115,101,109,97,110,116,105,99,115],[114,105,103,104,116,95,109,101,97,110,105,110,103],[97,115,115,111,99,105,97,116,105,111,110,95,116,121,112,101],[114,117,108,101,95,105,109,112,108,115],[114,117,108,101,95,110,101,115,116,101,100],Jk,Jl,Jm,[73,49],[85,49],[73,50],[85,50],[73,52],[85,52],[73,56],[85,56],Jn,Jo,Jp,Jq,Jr,Js,Jt,Ju,Jv,Jw,Jx,Jy,Jz,JA,JB,JC,JD,JE,[80,82,73,77,95,84,73,68],[84,73,68,95,80,82,73,77],JF,[75,105,110,100,84,97,98,108,101],[105,110,110,101,114,95,107,105,110,100,115],[114,111,119,95,108,101,118,101,108],[114,111,119,95,108,101,110,103,116,104],[99,104,101,99,107,95,107,105,110,100,95,114,111,119],[99,104,101,99,107,95,110,97,109,101,100],[99,104,101,99,107,95,97,114,103,115],[109,97,121,95,115,116,97,110,100],[99,108,97,115,115,95,107,105,110,100],[112,114,105,109,95,107,105,110,100],[107,105,110,100,95,115,111,114,116],[116,105,100,95,111,102],[97,114,103,115,95,111,102],[105,115,95,118,97,108,117,101],[105,115,95,118,97,114],JG,JH,JI,[80,108,97,105,110,72,101,97,112],[80,108,97,105,110,84,97,98,108,101,115],[80,97,103,101,115],JJ,JK,JL,JM,JN,JO,JP,JQ,JR,JS,JT,JU,JV,JW,JX,JY,JZ,J0,J1,J2,J3,[84,121,112,101,68,101,102],[77,101,116,104,111,100,68,101,102],[83,116,111,114,101],[112,108,97,105,110,95,110,97,109,101,115],[112,117,116,95,115,104,101,108,108],[117,115,117,97,108,95,98,97,115,101],[115,111,114,116,95,102,108,97,103,115],[97,100,100,95,116,121,112,101],[107,101,112,116,95,102,108,97,103,115],[97,100,100,95,109,101,116,104,111,100],[110,111,116,101,95,109,101,116,104,111,100],[105,115,95,115,116,97,116,105,99],[105,115,95,118,105,114,116,117,97,108],[110,101,101,100,95,102,111,114,101,109,111,115,116],[109,101,116,104,111,100,95,114,111,119,95,111,102],[110,101,101,100,95,111,119,110,95,109,101,116,104,111,100],[110,101,101,100,95,97,115,95,100,101,102,105,110,101,100],[110,101,101,100,95,97,115,109],[80,82,73,77,95,69,76,69,77,69,78,84],[102,108,111,111,114,95,116,121,112,101],[84,89,80,69,95,66,73,84,83],[116,117,114,110,101,100,95,98,105,116,115],[110,117,109,98,101,114,95,114,111,119,115],[101,110,117,109,95,102,105,101,108,100,115],[114,111,119,95,110,97,109,101],[97,115,109,95,114,101,102,95,114,111,119],[116,121,112,101,95,116,111,107,101,110],[115,105,103,95,116,114,101,101],[110,97,109,101,100,95,116,114,101,101],[115,105,103,95,116,114,101,101,115],[105,115,95,112,108,97,105,110],[107,105,110,100,95,116,111,107,101,110],[107,105,110,100,95,99,111,100,101,100],[109,101,116,104,111,100,95,98,108,111,98],[97,100,100,95,109,101,109,98,101,114],[99,104,101,99,107,95,117,115,101],[111,112,101,110,95,109,101,116,104,111,100,95,116,111,107,101,110],[109,101,116,104,111,100,95,99,111,100,101,100],[116,121,112,101,95,102,108,97,103,115],[112,97,99,107,95,116,121,112,101,115],[112,97,99,107,95,105,102,97,99,101,115],[97,100,100,95,115,111,114,116,101,100],[97,100,100,95,115,101,109,97,110,116,105,99,115],[112,97,99,107,95,115,101,109,97,110,116,105,99,115],[112,114,111,112,101,114,116,121,95,98,108,111,98],[95,108,97,119,95,112,108,97,110,115],[95,108,97,119,95,100,111,117,98,108,101,115],[95,108,97,119,95,115,101,109,97,110,116,105,99,115],[95,108,97,119,95,105,109,112,108,115],[108,97,119]]
def mw (P:Params):Nat->List (List Nat)->List (Nat×Nat)->List DictEntry
 |p,k::ks,(0,v)::r=>deh P k (p+2) (.int v<|p+1)::mw P (p+2) ks r
 |p,k::ks,(1,v)::r=>deh P k p (.int v<|p-1)::mw P p ks r
 |_,k::ks,(t,v)::r=>deh P k t (.ref v)::mw P (t+2) ks r
 |_,_,_=>[]
def SD (P:Params):List DictEntry:=[
 deh P sy 165 Cx,
 deh P Jj 166 .none,
 deh P [95,95,112,97,99,107,97,103,101,95,95] 167 .none,
 deh P [95,95,108,111,97,100,101,114,95,95] 168 (.builtin "__main__.__loader__#opaque"),
 deh P [95,95,115,112,101,99,95,95] 169 .none,
 deh P [95,95,97,110,110,111,116,97,116,105,111,110,115,95,95] 170 (.ref 6),
 deh P [95,95,98,117,105,108,116,105,110,115,95,95] 171 (.ref 4),
 deh P [95,95,102,105,108,101,95,95] 173 (jB "/claim/cut.py" 172),
 deh P [95,95,99,97,99,104,101,100,95,95] 174 .none]++mw P 186 (VW++[82,117,110,101,69,114,114,111,114]::VX) [(0,0),(0,1),(0,2),(0,4),(0,6),(0,8),(0,9),(0,10),(0,11),(0,17),(0,18),(0,20),(0,21),(0,23),(0,24),(0,25),(0,27),(0,32),(0,35),(0,41),(0,42),(0,43),(0,44),(0,16777216),(0,1),(0,2),(0,3),(0,4),(0,5),(0,6),(0,7),(0,8),(0,9),(0,10),(0,11),(0,14),(0,16),(0,17),(0,18),(0,19),(0,21),(0,24),(0,28),(0,29),(0,30),(0,8),(0,16),(0,32),(0,1),(0,2),(0,5),(0,32),(0,128),(0,256),(0,1024),(0,1048576),(0,1),(0,2),(0,8),(0,16),(339,31),(355,44),(371,56),(387,68),(0,1),(0,2),(0,3),(0,4),(0,5),(0,6),(0,256),(0,512),(0,0),(0,1),(0,2),(0,3),(0,4),(0,5),(0,6),(438,71),(567,86),(583,191),(590,205),(602,212),(612,219),(620,226),(627,233),(633,238),(641,244),(644,247),(652,254),(660,261),(668,268),(680,275),(693,282),(701,289),(710,296),(724,303),(735,310),(747,317),(761,324),(776,331),(800,338),(814,345),(822,352),(833,359),(846,366),(859,373),(0,0),(0,1),(0,2),(0,3),(0,4),(0,5),(0,6),(0,7),(0,8),(0,9),(0,10),(0,11),(0,12),(0,13),(0,14),(0,16),(0,1),(0,2),(0,3),(0,4),(0,5),(0,6),(0,7),(0,8),(0,9),(0,10),(0,11),(0,24),(0,4096),(948,374),(977,375),(1,5),(1036,406),(1044,417),(1051,424),(1058,431),(1068,438),(1076,445),(1085,452),(1094,459),(1103,466),(1111,473),(1119,480),(1128,487),(1137,494),(1145,501),(1154,508),(0,0),(0,1),(0,5),(1208,539),(1262,581),(1320,609),(0,1),(0,2),(0,3),(0,4),(0,5),(0,1),(0,2),(0,4),(0,8),(0,16),(0,0),(0,1),(0,2),(0,4),(0,32),(0,64),(0,128),(0,1),(0,2),(0,3),(0,6),(1418,630),(1466,651),(1500,672),(1509,683),(1520,690),(1528,697),(1536,704),(1551,711),(1558,718),(1573,725),(1583,732),(1590,739),(1597,746),(1610,753),(1617,760),(1623,765),(1632,772),(1640,779),(1657,780),(1669,787),(1672,792),(1683,799),(1698,806),(1705,813),(1712,820),(1721,827),(1731,834),(1741,841),(1753,848),(1763,855),(1772,862),(1782,869),(1793,876),(1803,883),(1815,890),(1827,897),(1838,904),(1849,911),(1858,918),(1870,925),(1884,932),(1896,939),(1907,946),(1925,953),(1940,960),(1959,967),(1965,972),(1971,977),(1984,984),(1990,989)]
def pt (P:Params) (m:Nat) (v:Value):Obj:=⟨.type "dict",none,.dict (match(SD P).take m with|e::r=>({e with val:=v}::r).toArray|[]=>#[]) m,#[]⟩
noncomputable def VY (k:List Nat):Str×NameKind:=(⟨⟨k⟩⟩,.local)
def Zr:List (Str×NameKind):=(VW++[sy,[82,117,110,101,69,114,114,111,114]]).map VY++(⟨⟨[69,120,99,101,112,116,105,111,110]⟩⟩,.globalImplicit)::VX.map VY
noncomputable def tv:List (Int×Nat)->List Value
 |[]=>[]
 |(a,r)::l=>.int a 0::.int 0 0::.ref r::tv l
def W1:List Value:=tv [(62,20),(67,40),(69,52),(71,64),(92,204),(95,211),(102,218),(108,225),(111,232),(113,237),(118,253),(120,260),(122,267),(124,274),(131,281),(138,288),(143,295),(148,302),(157,309),(166,316),(171,323),(177,330),(197,337),(209,344),(222,351),(226,358),(232,365),(241,372),(289,381),(338,416),(347,423),(351,430),(357,437),(379,444),(383,451),(387,458),(392,465),(396,472),(400,479),(402,486),(411,493),(416,500),(420,507),(427,514),(443,549),(459,591),(507,619),(533,640),(550,661),(560,682),(565,689),(574,696),(582,703),(588,710),(597,717),(601,724),(608,731),(616,738),(618,745),(621,752),(627,759),(629,764),(633,771),(641,778),(646,786),(656,798),(662,805),(686,812),(692,819),(696,826),(702,833),(716,840),(732,847),(744,854),(749,861),(754,868),(763,875),(766,882),(776,889),(779,896),(787,903),(802,910),(805,917),(817,924),(829,931),(843,938),(849,945),(854,952),(876,959),(888,966),(911,971),(913,976),(934,983),(945,988)]
def rq (m:Nat):Obj:=⟨.none,none,.fields (W1.take m).toArray,#[]⟩
noncomputable def OC:List Str->Nat->List Value
 |[],_=>[]
 |x::r,t=>.str x t::OC r (t+1)
noncomputable def OD:List (Str×NameKind)->List Str
 |[]=>[]
 |(n,.local)::r=>n::OD r
 |_::r=>OD r
noncomputable def VZ:List (Str×NameKind)->Bool
 |[]=>false
 |(_,.cell)::_=>true
 |_::r=>VZ r
def Cy (d:Stmt):List Str:=cond (VZ (Jh d).names) []<|OD (Jh d).names
def OE (s:Stmt):Nat:=Fq s 0 λZ Z Z Z Z Z Z Z Z p=>p.line
def Fh (d:Stmt) (q:Str) (b t:Nat) (m:Value):List (Params->Obj):=
 match Cy d with
 |[]=>tP::fP::uO d q::cS (we d) q t (OE d) (Jg d).args.length 0 0 3 b true 181 (b+1) .none .none (.ref<|b+2) (t+3)::gO d q m (b+3)::[]
 |l=>tP::fP::tO (OC l<|t+3)::tP::uO d q::cS (we d) q t (OE d) (Jg d).args.length 0 0 3 b true 181 (b+1) (.ref<|b+2) (.ref<|b+3) (.ref<|b+4) (t+3+l.length)::gO d q m (b+5)::[]
def gz (m:Value):Nat->Nat->Nat->Nat->List (Params->Obj)
 |0,_,_,_=>[]
 |n+1,i,b,t=>Fh (sg i) (we<|sg i) b t m++gz m n (i+1) (match Cy (sg i) with|[]=>b+5|_=>b+7) (t+(Cy<|sg i).length+6)
def mz (i j:Nat) (q:String) (b t:Nat) (m:Value):=Fh (ms i j) (Str.ofString q) b t m
def yh (s:Stmt):Str:=Nn s ⟨#[]⟩ λn Z Z Z Z Z Z Z Z Z Z=>n
def V0 (s:Stmt):Nat:=Nn s 0 λZ Z Z Z Z Z Z Z Z Z p=>p.line
def V1 (c:Nat):Nat->Nat->Nat->Nat->List (Stmt×Nat×Nat)
 |0,_,_,_=>[]
 |n+1,j,b,t=>(ms c j,b,t)::V1 c n (j+1) (b+7) (t+(Cy<|ms c j).length+6)
def V2 (c:Nat):Nat->Nat->Nat->Nat
 |0,_,t=>t
 |n+1,j,t=>V2 c n (j+1)<|t+(Cy<|ms c j).length+6
def OF (P:Params) (c:Stmt) (t:Nat) (m:Value) (l:List DictEntry):List DictEntry:=deh P DH t m::(l++[deh P DI (t+4)<|.int (V0 c)<|t+3])
def V3 (P:Params) (l:List (Stmt×Nat×Nat)):List DictEntry:=l.map λp=>⟨hsh P<|we p.1,.str (we p.1)<|p.2.2+(Cy p.1).length+5,.ref<|p.2.1+6⟩
noncomputable def dct (l:Params->List DictEntry) (n:Nat) (P:Params):Obj:=⟨.type "dict",none,.dict (l P).toArray n,#[]⟩
def V4 (s:Nat):=yO "builtin_function_or_method" [.builtin "object.__init_subclass__",.ref s]
def V5 (s:Nat):=yO "super" [.ref s,.ref s,.ref s]
def V6 (c:Stmt) (b:List Value) (z y:List Value) (s u:Nat) (e:Option Value) (n:String) (_:Params):Obj:=⟨.type "type",none,.cls<|VN (yh c) b (.ref s::z) (s-1) (yh c) y,#[e,none,some<|.str (yh c) u,some<|.str (yh c)<|u+8,some<|.builtin n,some<|.bool true]⟩
def OG (c:Stmt) (p u:Nat) (m:Value) (g:List Value) (l:Params->List DictEntry) (n:Nat):List (Params->Obj):=
 [yO "builtin_function_or_method" [.builtin "type.__prepare__",.type "type"],dct (λP=>OF P c (u+7) m [deh P J4 (u+9)<|.str (yh c)<|u+8]++l P) n,tP,fO g,cS (yh c) (yh c) (u+2) (V0 c) 0 0 0 0 (p+3) false 181 (p+4) .none .none .none<|u+5,
 λZ=>⟨.type "frame",none,.plain,#[some<|.ref<|p+5,some<|.ref 3,some<|.ref<|p+2,none,some m,none,some<|.ref 0]⟩]
def W2 (l:List (Stmt×Nat×Nat)):List Value:=l.flatMap λp=>[.int (OE p.1) 0,.int 4 0,.ref<|p.2.1+5]
def Ah (c n p u:Nat) (m:Value) (l:List String):List (Params->Obj):=
 let L:=V1 c n 0 (p+7)<|u+12;let e:=V2 c n 0<|u+12;let w:=e+l.length;let s:=p+7*n+9
 tP::OG (sg c) p u m (W2 L) (λP=>V3 P L++[deh P t8 w<|.ref<|s-2]) (4+n)++(L.flatMap λp=>Fh p.1 ⟨⟨(yh<|sg c).cps.toList++46::(we p.1).cps.toList⟩⟩ p.2.1 p.2.2 m)++
 [tO<|OC (l.map Str.ofString) e,dct (λP=>OF P (sg c) (u+7) m []++V3 P L++[deh P t8 w<|.ref<|s-2,deh P SC (w+2)<|.ref<|s+1,deh P J6 (w+4)<|.ref<|s+2,deh P Jj (w+5) .none]) 4,
 V6 (sg c) [.type "object"] [.type "object"] [] s u none "object.__new__",yO "getset_descriptor" [jB "__dict__"<|w+1,.ref s,.builtin "function.__dict__",.builtin "function.__dict__#set"],
 yO "getset_descriptor" [jB "__weakref__"<|w+3,.ref s,.builtin "ExceptionGroup.__weakref__",.none],V5 s,V4 s]
def bad (c p u:Nat):List (Params->Obj):=
 tO [.ref 31]::OG (sg c) p u wf [] (λP=>[deh P t8 (u+12)<|.ref<|p+7]) 4++[tP,dct (λP=>OF P (sg c) (u+7) wf []++[deh P t8 (u+12)<|.ref<|p+7,deh P Jj (u+13) .none]) 2,
 V6 (sg c) [.ref 31] [.ref 31,.type "Exception",.type "BaseException",.type "object"] [] (p+9) u (some<|.ref p) "Exception.__new__",V5<|p+9,V4<|p+9]
noncomputable def di (k t:Nat) (v:Value):DictEntry:=⟨k,.int k t,v⟩
def cols:Nat->List (String×Nat)->List (Params->Obj)
 |_,[]=>[]
 |t,(s,v)::r=>match Nat.ble v 6 with
  |true=>tO [jB s t,.int v<|388+2*v]::cols (t+1) r
  |false=>tO [jB s t,.int v<|t+1]::cols (t+2) r
noncomputable def HP:Nat->List (String×Nat)->Nat
 |t,[]=>t+1
 |t,(_,v)::r=>match Nat.ble v 6 with
  |true=>HP (t+1) r
  |false=>HP (t+2) r
noncomputable def OH:Nat->List (String×Nat)->List Value
 |_,[]=>[]
 |b,_::r=>.ref b::OH (b+1) r
def yi:Nat->Nat->List (List<|String×Nat)->List (Params->Obj)
 |_,_,[]=>[]
 |b,t,l::r=>cols t l++tO (OH b l)::yi (b+l.length+1) (HP t l) r
noncomputable def Fs:List (List<|Params->Obj)->List (Params->Obj)
 |[]=>[]
 |a::r=>a++Fs r
noncomputable def J7:Bool->List (Params->Obj)->List (Params->Obj)
 |_,[]=>[]
 |true,a::r=>a::J7 false r
 |false,_::r=>J7 true r
def OI:Nat->List (Params->Obj)->Params->BT
 |0,_,_=>.nil
 |_+1,[],_=>.nil
 |n+1,a::r,P=>.node (a P) (OI n (J7 true r) P)<|OI n (J7 false r) P
def W3:List (List<|Params->Obj):=[[λP=>boot_o_0 P,λP=>⟨.type "dict",none,.dict #[deh P [98,117,105,108,116,105,110,115] 162<|.ref 4,deh P [95,95,109,97,105,110,95,95] 163<|.ref 5] 2,#[]⟩,λP=>⟨.none,none,.dict #[deh P [116,121,112,101,46,95,95,115,117,98,99,108,97,115,115,101,115,95,95,46,69,120,99,101,112,116,105,111,110,46,48] 336<|.int 31 0,deh P [116,121,112,101,46,95,95,115,117,98,99,108,97,115,115,101,115,95,95,46,69,120,99,101,112,116,105,111,110,46,110] 337<|.int 1 0] 2,#[]⟩,λP=>pt P 241 Cx,λZ=>⟨.type "module",some 0,.plain,#[]⟩,λZ=>⟨.type "module",some 3,.plain,#[]⟩,dO [] 0,tP,fP,cO "<module>" "<module>" 176 1 0 0 0 0 7 false 175 8 .none .none .none 179,λZ=>⟨.type "frame",none,.plain,#[some<|.ref 9,some<|.ref 3,some<|.ref 3,none,some<|jB "__main__" 164,none,some<|.ref 0]⟩,tP,λZ=>rq 282,cO "<module>" "<module>" 182 1 0 0 0 0 11 false 181 12 .none .none .none 185,λZ=>⟨.type "frame",none,.plain,#[some<|.ref 13,some<|.ref 3,some<|.ref 3,none,some<|jB "__main__" 164,none,some<|.ref 0]⟩,tO [.type "Exception"],yO "builtin_function_or_method" [.builtin "type.__prepare__",.type "type"],λP=>⟨.type "dict",none,.dict #[deh P DH 316 wf,deh P J4 318<|jB "RuneError" 317,deh P DI 320<|.int 62 319,deh P J5 329<|.ref 28,deh P t8 332<|.ref 29] 5,#[]⟩,tP,fO [.int 64 0,.int 4 0,.ref 27],cO "RuneError" "RuneError" 311 62 0 0 0 0 18 false 181 19 .none .none .none 314,λZ=>⟨.type "frame",none,.plain,#[some<|.ref 20,some<|.ref 3,some<|.ref 17,none,some wf,none,some<|.ref 0]⟩],mz 61 0 "RuneError.__init__" 22 321 wf,[tO [jB "at" 330,jB "code" 331],λP=>⟨.type "dict",none,.dict #[deh P DH 316 wf,deh P DI 320<|.int 62 319,deh P J5 329<|.ref 28,deh P t8 332<|.ref 29,deh P J6 334<|.ref 32,deh P Jj 335 .none] 3,#[]⟩,λZ=>⟨.type "type",none,.cls<|DG "RuneError" [.type "Exception"] [.ref 31,.type "Exception",.type "BaseException",.type "object"] 30 "RuneError" [.ref 44,.ref 56,.ref 68],#[some<|.ref 15,none,some<|jB "RuneError" 309,some<|jB "RuneError" 317,some<|.builtin "Exception.__new__",some<|.bool true]⟩,yO "getset_descriptor" [jB "__weakref__" 333,.ref 31,.builtin "ExceptionGroup.__weakref__",.none],yO "super" [.ref 31,.ref 31,.ref 31],yO "builtin_function_or_method" [.builtin "object.__init_subclass__",.ref 31]],bad 62 35 340,bad 63 47 356,bad 64 59 372,[dO [di 0 406<|.ref 73,di 1 408<|.ref 75,di 2 410<|.ref 77,di 3 412<|.ref 79,di 4 414<|.ref 81,di 5 416<|.ref 83,di 6 418<|.ref 85] 7,tO [.int 2 191,.int 1 189,.int 27 219],tO [.int 2 420,.ref 72],tO [.int 4 193,.int 8 197,.int 23 213],tO [.int 2 421,.ref 74],tO [.int 2 191,.int 1 189,.int (-1) 424,.int 6 195,.int 27 219],tO [.int 3 422,.ref 76],tO [.int 20 209,.int 23 213],tO [.int 1 425,.ref 78],tO [.int 6 195,.int 10 201],tO [.int 1 426,.ref 80],tO [.int 0 187,.int (-1) 429,.int 35 223,.int 1 189],tO [.int 2 427,.ref 82],tO [.int 2 191,.int 6 195],tO [.int 1 430,.ref 84],dO [di 0 187<|.ref 92,di 1 189<|.ref 96,di 2 191<|.ref 103,di 4 193<|.ref 107,di 6 195<|.ref 114,di 8 197<|.ref 118,di 9 199<|.ref 121,di 10 201<|.ref 125,di 11 203<|.ref 129,di 17 205<|.ref 131,di 18 207<|.ref 134,di 20 209<|.ref 138,di 21 211<|.ref 141,di 23 213<|.ref 145,di 24 215<|.ref 149,di 25 217<|.ref 153,di 27 219<|.ref 155,di 32 221<|.ref 166,di 35 223<|.ref 176,di 41 225<|.ref 179,di 42 227<|.ref 184,di 43 229<|.ref 187,di 44 231<|.ref 190] 23],yi 87 439 [[("Generation",1),("Name",4),("Mvid",6),("EncId",6),("EncBaseId",6)],[("ResolutionScope",517),("TypeName",4),("TypeNamespace",4)],[("Flags",2),("TypeName",4),("TypeNamespace",4),("Extends",512),("FieldList",260),("MethodList",262)],[("Flags",1),("Name",4),("Signature",5)],[("RVA",2),("ImplFlags",1),("Flags",1),("Name",4),("Signature",5),("ParamList",264)],[("Flags",1),("Sequence",1),("Name",4)],[("Class",258),("Interface",512)],[("Class",514),("Name",4),("Signature",5)],[("Type",3),("Parent",513),("Value",5)],[("Signature",5)],[("Parent",258),("EventList",276)],[("EventFlags",1),("Name",4),("EventType",512)],[("Parent",258),("PropertyList",279)],[("Flags",1),("Name",4),("Type",5)],[("Semantics",1),("Method",262),("Association",515)],[("Class",258),("MethodBody",516),("MethodDeclaration",516)],[("Signature",5)]],[dO [di 32 221<|.ref 166,di 35 223<|.ref 176,di 41 225<|.ref 179,di 42 227<|.ref 184,di 43 229<|.ref 187,di 44 231<|.ref 190] 6],yi 157 527 [[("HashAlgId",2),("MajorVersion",1),("MinorVersion",1),("BuildNumber",1),("RevisionNumber",1),("Flags",2),("PublicKey",5),("Name",4),("Culture",4)]],yi 167 536 [[("MajorVersion",1),("MinorVersion",1),("BuildNumber",1),("RevisionNumber",1),("Flags",2),("PublicKeyOrToken",5),("Name",4),("Culture",4),("HashValue",5)]],yi 177 545 [[("NestedClass",258),("EnclosingClass",258)]],yi 180 549 [[("Number",1),("Flags",1),("Owner",518),("Name",4)]],yi 185 554 [[("Method",516),("Instantiation",5)]],yi 188 557 [[("Owner",298),("Constraint",512)]],[dO [di 9 199<|.ref 192,di 11 203<|.ref 193,di 24 215<|.ref 194,di 25 217<|.ref 195,di 41 225<|.ref 196,di 42 227<|.ref 197,di 44 231<|.ref 198] 7,tO [.int 0 568],tO [.int 1 569],tO [.int 2 570],tO [.int 0 571],tO [.int 0 572],tO [.int 2 573,.int 0 574],tO [.int 0 575]],gz Ji 6 84 199 584,[tO [.int 2 191,.int 4 636,.int 4 193],tO [.int 2 191,.int 5 637,.int 6 195],tO [.int 6 195,.int 5 638,.int 8 197],tO [.int 18 207,.int 1 639,.int 20 209],tO [.int 21 211,.int 1 640,.int 23 213],tO [.ref 239,.ref 240,.ref 241,.ref 242,.ref 243],tO [.int 2 191,jB "Extends" 642],tO [.int 20 209,jB "EventType" 643],tO [.ref 245,.ref 246]],gz No 18 93 248 645,[dO [di 0 862<|.int 20 920,di 1 864<|.int 9 921,di 2 866<|.int 10 922,di 3 868<|.int 11 923,di 4 870<|.int 12 924,di 5 872<|.int 13 925,di 6 874<|.int 14 926,di 7 876<|.int 15 927,di 8 878<|.int 16 928,di 9 880<|.int 17 929,di 10 882<|.int 18 930,di 11 884<|.int 19 931,di 12 886<|.int 1 932,di 13 888<|.int 4 933] 14,dO [di 20 949<|.int 0 862,di 9 950<|.int 1 864,di 10 951<|.int 2 866,di 11 952<|.int 3 868,di 12 953<|.int 4 870,di 13 954<|.int 5 872,di 14 955<|.int 6 874,di 15 956<|.int 7 876,di 16 957<|.int 8 878,di 17 958<|.int 9 880,di 18 959<|.int 10 882,di 19 960<|.int 11 884,di 1 961<|.int 12 886,di 4 962<|.int 13 888] 14],Ah 144 3 376 980 Ag ["depths","index","opens","rows","weights"],gz Ag 7 145 411 1037]
def W4:List (List<|Params->Obj):=[gz Ag 7 152 460 1095,Ah 163 3 509 1163 Cw ["rows"],Ah 164 4 544 1209 Cw ["rows"],Ah 165 2 586 1263 Cw ["asm","asm_refs","blobs","code","field_rows","guids","locals_sigs","members","method_rows","method_specs","rvas","specs","store","texts","tids","tokens","ts","type_refs","type_rows","users"],Ah 188 1 614 1365 yg ["asm","base","bounds","cctor","events","fields","finaliser","flags","home","ifaces","impls","methods","name","params","props","sort","tid","under","variances"],Ah 189 1 635 1419 yg ["access","body","flags","gbounds","gnames","mid","name","native","ngen","owner","params","pflags","pnames","ret"],Ah 190 1 656 1467 yg ["asms","entry","fields_","kt","methods","names","types"],gz yg 10 191 677 1501,gz VL 4 202 747 1600]
def W5:List (List<|Params->Obj):=[gz VL 1 206 773 1633,[dO [di 0 862<|.int 1 235,di 1 864<|.int 2 237,di 2 866<|.int 3 239,di 3 868<|.int 4 241,di 4 870<|.int 5 243,di 5 872<|.int 6 245,di 6 874<|.int 7 247,di 7 876<|.int 8 249,di 8 878<|.int 9 251,di 9 880<|.int 10 253,di 10 882<|.int 11 255,di 11 884<|.int 24 269,di 12 886<|.int 28 271,di 13 888<|.int 14 257] 14],gz VM 1 209 781 1658,[tO [.int 1 1333,.int 128 291],tO [.int 2 1335,.int 256 293],tO [.int 4 1337,.int 1048576 297],tO [.int 16 1341,.int 1024 295],tO [.ref 788,.ref 789,.ref 790,.ref 791]],gz Np 24 212 793 1673,gz Cx 5 237 961 1943]
def OL:=Fs [Fs W3,Fs W4,Fs W5]
def FT:Params->BT:=OI 10 OL
noncomputable def pk:List (Params->Obj)->List (Nat×Nat)->Params->List (Nat×Obj)
 |o::r,(g,i)::t,P=>match g with
  |0=>(i,o P)::pk r t P
  |g+1=>pk r ((g,i)::t) P
 |_,_,_=>[]
def HQ:=gO (sg 241) (we<|sg 241) Cx 988
def oa (n:Nat) (m:Value) (k:Nat) (P:Params):List (Nat×Obj):=[(3,pt P n m),(12,rq k)]
def tA (o:Params->List (Nat×Obj)) (n:Nat) (P:Params):BT:=HN (o P) (FT P) 1 0 n
def tB (o:Params->List (Nat×Obj)) (n:Nat) (P:Params):BT:=HO (o P) (FT P) 1 0 n
def Zs (P:Params):List (Nat×Obj):=[(3,pt P 9<|jB "__main__" 164),(12,rq 0),(2,⟨.none,none,.dict #[] 0,#[]⟩)]
def Cz:=tA Zs 15
def Zt (P:Params):List (Nat×Obj):=[(3,pt P 53<|jB "__main__" 164),(12,rq 0),(2,⟨.none,none,.dict #[] 0,#[]⟩)]
def V7:=tB Zt 15
def V8:List Stmt:=[aI VO 1 9 13 0,aI VP 2 10 14 1,aI VQ 3 10 14 2,aI VR 4 8 12 4,aI VS 5 12 16 6,aI VT 6 8 12 8,aI VU 7 16 20 9,aI VV 8 12 17 10,aI Nt 9 11 16 11,aI Nu 10 16 21 17,aI Nv 11 11 16 18,aI Nw 12 8 13 20,aI Nx 13 14 19 21,aI Ny 14 11 16 23,aI Nz 15 18 23 24,aI NA 16 13 18 25,aI NB 17 11 16 27,aI NC 18 11 16 32,aI ND 19 14 19 35,aI NF 20 14 19 41,aI NG 21 15 20 42,aI NH 22 13 18 43,aI NI 23 25 30 44,aI NJ 24 10 21 16777216,aI NK 25 6 10 1,aI NL 26 9 13 2,aI NM 27 6 10 3,aI NN 28 4 8 4,aI NO 29 4 8 5,aI NQ 30 4 8 6,aI NR 31 4 8 7,aI NS 32 4 8 8,aI NT 33 4 8 9,aI NU 34 4 9 10,aI NV 35 4 9 11,aI NW 36 8 13 14,aI NX 37 7 12 16,aI NY 38 11 16 17,aI NZ 39 7 12 18,aI N0 40 5 10 19,aI N1 41 13 18 21,aI N2 42 3 8 24,aI N3 43 8 13 28,aI N4 44 9 14 29]
def Zu (P:Params):List (Nat×Obj):=[(3,pt P 70 wf),(12,rq 3),(31,⟨.type "type",none,.cls<|DG "RuneError" [.type "Exception"] [.ref 31,.type "Exception",.type "BaseException",.type "object"] 30 "RuneError" [],#[some<|.ref 15,none,some<|jB "RuneError" 309,some<|jB "RuneError" 317,some<|.builtin "Exception.__new__",some<|.bool true]⟩)]
def V9:=tA Zu 35
def V':List Stmt:=[aI N5 45 6 11 30,aI N6 46 12 16 8,aI N7 47 11 16 16,aI N8 48 11 16 32,aI N9 49 9 13 1,aI N' 50 15 19 2,aI Oa 51 17 21 5,aI Ob 52 12 17 32,aI Oc 53 11 17 128,aI Od 54 9 15 256,aI Oe 55 7 14 1024,aI Of 56 18 28 1048576,aI Og 57 9 13 1,aI Oh 58 9 13 2,aI Oi 59 8 12 8,aI Oj 60 11 16 16,uR sy ⟨61,0,61,8⟩ "framerune.faults" 0 ⟨61,11,61,29⟩ ⟨61,0,61,29⟩,sg 61]
def Zv (P:Params):List (Nat×Obj):=[(3,pt P 71 wf),(12,rq 6),(31,⟨.type "type",none,.cls<|DG "RuneError" [.type "Exception"] [.ref 31,.type "Exception",.type "BaseException",.type "object"] 30 "RuneError" [.ref 44],#[some<|.ref 15,none,some<|jB "RuneError" 309,some<|jB "RuneError" 317,some<|.builtin "Exception.__new__",some<|.bool true]⟩)]
def Wa:=tB Zv 47
def Wb:List Stmt:=[sg 62]
def Zw (P:Params):List (Nat×Obj):=[(3,pt P 72 wf),(12,rq 9),(31,⟨.type "type",none,.cls<|DG "RuneError" [.type "Exception"] [.ref 31,.type "Exception",.type "BaseException",.type "object"] 30 "RuneError" [.ref 44,.ref 56],#[some<|.ref 15,none,some<|jB "RuneError" 309,some<|jB "RuneError" 317,some<|.builtin "Exception.__new__",some<|.bool true]⟩)]
def Wc:=tA Zw 59
def We:List Stmt:=[sg 63]
def Zx:=oa 88 Ji 12
def J8:=tB Zx 71
def Wf:List Stmt:=[sg 64,uR sy ⟨73,0,73,8⟩ "framerune.schema" 0 ⟨73,11,73,29⟩ ⟨73,0,73,29⟩,aI Ol 74 6 10 1,aI Om 75 6 10 2,aI On 76 8 12 3,aI Oo 77 7 11 4,aI Oq 78 7 11 5,aI Os 79 7 11 6,aI Ot 80 6 12 256,aI Ou 81 8 14 512,aI Ov 82 15 19 0,aI Ow 83 14 18 1,aI Ox 84 18 22 2,aI Oy 85 15 19 3,aI Oz 86 17 21 4,aI OA 87 18 22 5,aI OB 88 18 22 6]
def Zy:=oa 89 Ji 12
def CA:=tA Zy 86
def J9:List Stmt:=[sg 81]
def Zz:=oa 90 Ji 12
def CB:=tB Zz 191
def J':List Stmt:=[sg 82]
def ZA:=oa 99 No 30
def Ka:=tA ZA 248
def Kb:List Stmt:=[sg 83,sg 84,sg 85,sg 86,sg 87,sg 88,sg 89,uR sy ⟨115,0,115,8⟩ "framerune.metacheck" 0 ⟨115,11,115,32⟩ ⟨115,0,115,32⟩,sg 91,sg 92]
def ZB:=oa 111 No 66
def Wg:=tB ZB 332
def Wh:List Stmt:=[sg 93,sg 94,sg 95,sg 96,sg 97,sg 98,sg 99,sg 100,sg 101,sg 102,sg 103,sg 104]
def W6:=oa 136 Ag 84
def DJ:=tA W6 374
def OJ:List Stmt:=[sg 105,sg 106,sg 107,sg 108,sg 109,sg 110,uR sy ⟨256,0,256,8⟩ "framerune.kinds" 0 ⟨256,11,256,28⟩ ⟨256,0,256,28⟩,aI Jk 257 4 8 0,aI Jl 258 4 8 1,aI Jm 259 4 8 2,aI [73,49] 260 2 6 3,aI [85,49] 261 2 6 4,aI [73,50] 262 2 6 5,aI [85,50] 263 2 6 6,aI [73,52] 264 2 6 7,aI [85,52] 265 2 6 8,aI [73,56] 266 2 6 9,aI [85,56] 267 2 7 10,aI Jn 268 4 9 11,aI Jo 269 6 11 12,aI Jp 270 6 11 13,aI Jq 271 5 10 14,aI Jr 272 8 13 16,aI Js 273 6 10 1,aI Jt 274 7 11 2,aI Ju 275 7 11 3]
def W7:=oa 147 Ag 84
def xy:=tB W7 375
def DK:List Stmt:=[aI Jv 276 7 11 4,aI Jw 277 7 11 5,aI Jx 278 5 9 6,aI Jy 279 6 10 7,aI Jz 280 7 11 8,aI JA 281 7 11 9,aI JB 282 5 10 10,aI JC 283 5 10 11,aI JD 284 12 17 24,aI JE 285 13 20 4096,sg 141]
def W8:=oa 149 Ag 84
def DM:=tA W8 376
def DN:List Stmt:=[sg 142,aI JF 288 9 13 5]
def W9:=oa 153 Ag 96
def OK:=tB W9 432
def OM:List Stmt:=[sg 144,sg 145,sg 146,sg 147]
def Xa:=oa 167 Cw 129
def ON:=tA Xa 509
def OO:List Stmt:=[sg 148,sg 149,sg 150,sg 151,sg 152,sg 153,sg 154,sg 155,sg 156,sg 157,sg 158,uR sy ⟨423,0,423,8⟩ "framerune.pages" 0 ⟨423,11,423,28⟩ ⟨423,0,423,28⟩,aI JG 424 11 15 0,aI JH 425 9 13 1,aI JI 426 11 15 5]
def Xb:=oa 168 Cw 132
def OP:=tB Xb 544
def OQ:List Stmt:=[sg 163]
def Xc:=oa 169 Cw 135
def OR:=tA Xc 586
def OS:List Stmt:=[sg 164]
def Xd:=oa 182 yg 138
def OT:=tB Xd 614
def OU:List Stmt:=[sg 165,uR sy ⟨485,0,485,8⟩ "framerune.store" 0 ⟨485,11,485,28⟩ ⟨485,0,485,28⟩,aI JJ 486 7 11 1,aI JK 487 8 12 2,aI JL 488 7 11 3,aI JM 489 10 14 4,aI JN 490 6 10 5,aI JO 491 11 15 1,aI JP 492 9 13 2,aI JQ 493 9 13 4,aI JR 494 11 15 8,aI JS 495 7 12 16,aI JT 496 7 11 0,aI JU 497 9 13 1]
def Xe:=oa 192 yg 141
def OV:=tA Xe 635
def OW:List Stmt:=[aI JV 498 10 14 2,aI JW 499 10 14 4,aI JX 500 7 12 32,aI JY 501 8 13 64,aI JZ 502 10 16 128,aI J0 503 8 12 1,aI J1 504 11 15 2,aI J2 505 6 10 3,aI J3 506 10 14 6,sg 188]
def Xf:=oa 193 yg 144
def OX:=tB Xf 656
def OY:List Stmt:=[sg 189]
def Xg:=oa 199 yg 162
def OZ:=tA Xg 712
def O0:List Stmt:=[sg 190,sg 191,sg 192,sg 193,sg 194,sg 195]
def Xh:=oa 209 VM 192
def DO:=tB Xh 780
def O1:List Stmt:=[sg 196,sg 197,sg 198,sg 199,sg 200,uR sy ⟨620,0,620,8⟩ "framerune.packcheck" 0 ⟨620,11,620,32⟩ ⟨620,0,620,32⟩,sg 202,sg 203,sg 204,sg 205,sg 206,uR sy ⟨644,0,644,8⟩ "framerune.packparts" 0 ⟨644,11,644,32⟩ ⟨644,0,644,32⟩]
def Xi:=oa 215 Np 204
def DQ:=tA Xi 814
def DR:List Stmt:=[sg 208,sg 209,uR sy ⟨654,0,654,8⟩ "framerune.pack" 0 ⟨654,11,654,27⟩ ⟨654,0,654,27⟩,sg 211,sg 212,sg 213,sg 214]
def Xj:=oa 227 Np 240
def O2:=tB Xj 898
def O3:List Stmt:=[sg 215,sg 216,sg 217,sg 218,sg 219,sg 220,sg 221,sg 222,sg 223,sg 224,sg 225,sg 226]
def Xk:=oa 238 Cx 273
def O4:=tA Xk 973
def O5:List Stmt:=[sg 227,sg 228,sg 229,sg 230,sg 231,sg 232,sg 233,sg 234,sg 235,uR sy ⟨887,0,887,8⟩ "law_sa0285_01" 0 ⟨887,11,887,26⟩ ⟨887,0,887,26⟩,sg 237,sg 238]
def Xl:=oa 241 Cx 282
def Ai:=tB Xl 990
def O6:List Stmt:=[sg 239,sg 240,sg 241]
def Aj:Env:={scope:={kind:=.module,names:=Zr,isGenerator:=false,isCoroutine:=false,more:=[]},locals:=mainNs,globals:=mainNs,cells:=[],code:=.ref 13,frame:=some 14}
def sO:Code:=.body Fp Aj
noncomputable def sz:Pos:=⟨0,0,0,0⟩
def ZC:List Frame:=[topFrame sz]
noncomputable def sC (T:Params->BT) (n t:Nat) (w:World) (os:OsState):SharedT:=⟨T w.params,n,{},#[],{},t,os⟩
noncomputable abbrev O7:=PySem.W.Fast.tw10110043849684766642
noncomputable abbrev DS:=PySem.W.Fast.tw14364793385576792824
noncomputable abbrev O8:=PySem.W.Fast.tw12563942051412417395
def LA: @segRunT= @O7:=PySem.W.Fast.te10110043849684766642
def CC:treeTable=DS:=PySem.W.Fast.te14364793385576792824
def LB: @execs= @O8:=PySem.W.Fast.te12563942051412417395
noncomputable def rt:Option Value:=some<|.ref 6
def Xm (T:Params->BT) (n t:Nat) (p:Pos) (w:World) (os:OsState):Option (Flow×SharedT×Code×Pos):=some (.next,sC T n t w os,sO,p)
def fI (T T':Params->BT) (n t n' t':Nat) (p p':Pos) (L:List Stmt) (k:Nat) (w:World):Prop:=
 (λos=>O7 DS pw w 11 rt 1 (k+1) (sC T n t w os) ⟨(O8 L Aj).wrap doneF deadEnd id id,sO,p,ZC⟩)=Xm T' n' t' p' w
def gF (h:fI T T' n t n' t' p p' L k w) (os:OsState):
  segRun treeTable pw w 11 rt 1 (k+1) (sC T n t w os).abs (piecesOf L Aj sO p [topFrame sz])=some (.next,(sC T' n' t' w os).abs,sO,p'):=by
 refine segRun_of ?_;have e:=congrFun h os;rw[<-LA,<-CC,<-LB]at e;exact e
abbrev Wi:=PySem.W.Fast.tw15667345088766844465
def O9: @topGo= @Wi:=PySem.W.Fast.te15667345088766844465
def LD: @denote= @PySem.W.Fast.tw11892475500146522536:=PySem.W.Fast.te11892475500146522536
def O' (w:World) (os:OsState):Shared:=⟨boot_heap w.params,#[],boot_drawn,boot_toks,os⟩
def SE (w:World):(λos=>Wi DS pw w 11 rt 12 (O' w os)<|topStub pw)=λos=>some ((sC Cz 15 187 w os).abs,⟨PySem.W.Fast.tw11892475500146522536 DS sO,sO,sz,[topFrame sz]⟩):=eV
def Xn (w:World) (os:OsState):topGo treeTable pw w 11 rt 12 (O' w os) (topStub pw)=some ((sC Cz 15 187 w os).abs,⟨denote treeTable sO,sO,sz,[topFrame sz]⟩):=by
 have e:=congrFun (SE w) os;rw[<-O9,<-CC,<-LD]at e;exact e
def SF (w:World) (os:OsState):segRun treeTable pw w 11 rt 1 1 (sC Cz 15 187 w os).abs (blockOf Fp Aj sO sz [topFrame sz])=some (.next,(sC Cz 15 187 w os).abs,sO,sz):=rfl
def Xo (s:Shared) (c:Code) (p:Pos) (w:World):topRun treeTable pw w 11 rt 2 s ⟨doneF .next,c,p,[topFrame sz]⟩=some s:=rfl
def SG:Fp=V8++(V'++(Wb++(We++(Wf++(J9++(J'++(Kb++(Wh++(OJ++(DK++(DN++(OM++(OO++(OQ++(OS++(OU++(OW++(OY++(O0++(O1++(DR++(O3++(O5++(O6++[])))))))))))))))))))))))):=eV
def p1h:∀w:World,fI Cz V7 15 187 15 275 ⟨0,0,0,0⟩ ⟨44,0,44,9⟩ V8 396 w:=λw=>by delta fI;kernel_rfl
def p2h:∀w:World,fI V7 V9 15 275 35 340 ⟨44,0,44,9⟩ ⟨62,0,66,20⟩ V' 383 w:=λw=>by delta fI;kernel_rfl
def p3h:∀w:World,fI V9 Wa 35 340 47 356 ⟨62,0,66,20⟩ ⟨67,0,68,8⟩ Wb 213 w:=λw=>by delta fI;kernel_rfl
def ZD:∀w:World,fI Wa Wc 47 356 59 372 ⟨67,0,68,8⟩ ⟨69,0,70,8⟩ We 213 w:=λw=>by delta fI;kernel_rfl
def ZE:∀w:World,fI Wc J8 59 372 71 420 ⟨69,0,70,8⟩ ⟨88,0,88,18⟩ Wf 357 w:=λw=>by delta fI;kernel_rfl
def Xp:∀w:World,fI J8 CA 71 420 86 439 ⟨88,0,88,18⟩ ⟨89,0,89,5⟩ J9 186 (w.withFollow "special-get-raises" false):=λw=>by delta fI;kernel_rfl
def Xq:∀w:World,fI J8 CA 71 420 86 439 ⟨88,0,88,18⟩ ⟨89,0,89,5⟩ J9 186 (w.withFollow "special-get-raises" true):=λw=>by delta fI;kernel_rfl
def ZF:∀w:World,fI J8 CA 71 420 86 439 ⟨88,0,88,18⟩ ⟨89,0,89,5⟩ J9 186 w:=byRow2 "special-get-raises" Xp Xq
def Xr:∀w:World,fI CA CB 86 439 191 568 ⟨89,0,89,5⟩ ⟨90,0,90,7⟩ J' 973 (w.withFollow "special-get-raises" false):=λw=>by delta fI;kernel_rfl
def Xs:∀w:World,fI CA CB 86 439 191 568 ⟨89,0,89,5⟩ ⟨90,0,90,7⟩ J' 973 (w.withFollow "special-get-raises" true):=λw=>by delta fI;kernel_rfl
def ZG:∀w:World,fI CA CB 86 439 191 568 ⟨89,0,89,5⟩ ⟨90,0,90,7⟩ J' 973 w:=byRow2 "special-get-raises" Xr Xs
def Xt:∀w:World,fI CB Ka 191 568 248 645 ⟨90,0,90,7⟩ ⟨117,0,117,11⟩ Kb 377 (w.withFollow "special-get-raises" false):=λw=>by delta fI;kernel_rfl
def Xu:∀w:World,fI CB Ka 191 568 248 645 ⟨90,0,90,7⟩ ⟨117,0,117,11⟩ Kb 377 (w.withFollow "special-get-raises" true):=λw=>by delta fI;kernel_rfl
def ZH:∀w:World,fI CB Ka 191 568 248 645 ⟨90,0,90,7⟩ ⟨117,0,117,11⟩ Kb 377 w:=byRow2 "special-get-raises" Xt Xu
def ZI:∀w:World,fI Ka Wg 248 645 332 777 ⟨117,0,117,11⟩ ⟨177,0,196,76⟩ Wh 396 w:=λw=>by delta fI;kernel_rfl
def Xv:∀w:World,fI Wg DJ 332 777 374 900 ⟨177,0,196,76⟩ ⟨275,0,275,7⟩ OJ 395 w:=λw=>by delta fI;kernel_rfl
def SH:∀w:World,fI DJ xy 374 900 375 949 ⟨275,0,275,7⟩ ⟨286,0,286,8⟩ DK 296 (w.withFollow "special-get-raises" false):=λw=>by delta fI;kernel_rfl
def SJ:∀w:World,fI DJ xy 374 900 375 949 ⟨275,0,275,7⟩ ⟨286,0,286,8⟩ DK 296 (w.withFollow "special-get-raises" true):=λw=>by delta fI;kernel_rfl
def Xw:∀w:World,fI DJ xy 374 900 375 949 ⟨275,0,275,7⟩ ⟨286,0,286,8⟩ DK 296 w:=byRow2 "special-get-raises" SH SJ
def SK:∀w:World,fI xy DM 375 949 376 980 ⟨286,0,286,8⟩ ⟨288,0,288,9⟩ DN 215 (w.withFollow "special-get-raises" false):=λw=>by delta fI;kernel_rfl
def SL:∀w:World,fI xy DM 375 949 376 980 ⟨286,0,286,8⟩ ⟨288,0,288,9⟩ DN 215 (w.withFollow "special-get-raises" true):=λw=>by delta fI;kernel_rfl
def Xx:∀w:World,fI xy DM 375 949 376 980 ⟨286,0,286,8⟩ ⟨288,0,288,9⟩ DN 215 w:=byRow2 "special-get-raises" SK SL
def Xy:∀w:World,fI DM OK 376 980 432 1059 ⟨288,0,288,9⟩ ⟨351,0,356,12⟩ OM 386 w:=λw=>by delta fI;kernel_rfl
def Xz:∀w:World,fI OK ON 432 1059 509 1163 ⟨351,0,356,12⟩ ⟨426,0,426,11⟩ OO 374 w:=λw=>by delta fI;kernel_rfl
def XA:∀w:World,fI ON OP 509 1163 544 1209 ⟨426,0,426,11⟩ ⟨427,0,442,31⟩ OQ 287 w:=λw=>by delta fI;kernel_rfl
def XB:∀w:World,fI OP OR 544 1209 586 1263 ⟨427,0,442,31⟩ ⟨443,0,458,44⟩ OS 319 w:=λw=>by delta fI;kernel_rfl
def XC:∀w:World,fI OR OT 586 1263 614 1347 ⟨443,0,458,44⟩ ⟨497,0,497,9⟩ OU 392 w:=λw=>by delta fI;kernel_rfl
def XD:∀w:World,fI OT OV 614 1347 635 1419 ⟨497,0,497,9⟩ ⟨507,0,532,21⟩ OW 328 w:=λw=>by delta fI;kernel_rfl
def XF:∀w:World,fI OV OX 635 1419 656 1467 ⟨507,0,532,21⟩ ⟨533,0,549,23⟩ OY 241 w:=λw=>by delta fI;kernel_rfl
def XG:∀w:World,fI OX OZ 656 1467 712 1552 ⟨533,0,549,23⟩ ⟨588,0,596,14⟩ O0 388 w:=λw=>by delta fI;kernel_rfl
def XH:∀w:World,fI OZ DO 712 1552 780 1643 ⟨588,0,596,14⟩ ⟨644,0,644,8⟩ O1 323 w:=λw=>by delta fI;kernel_rfl
def SM:∀w:World,fI DO DQ 780 1643 814 1706 ⟨644,0,644,8⟩ ⟨686,0,691,12⟩ DR 396 (w.withFollow "special-get-raises" false):=λw=>by delta fI;kernel_rfl
def SN:∀w:World,fI DO DQ 780 1643 814 1706 ⟨644,0,644,8⟩ ⟨686,0,691,12⟩ DR 396 (w.withFollow "special-get-raises" true):=λw=>by delta fI;kernel_rfl
def XI:∀w:World,fI DO DQ 780 1643 814 1706 ⟨644,0,644,8⟩ ⟨686,0,691,12⟩ DR 396 w:=byRow2 "special-get-raises" SM SN
def XJ:∀w:World,fI DQ O2 814 1706 898 1828 ⟨686,0,691,12⟩ ⟨779,0,786,34⟩ O3 386 w:=λw=>by delta fI;kernel_rfl
def XK:∀w:World,fI O2 O4 898 1828 973 1966 ⟨779,0,786,34⟩ ⟨911,0,912,85⟩ O5 385 w:=λw=>by delta fI;kernel_rfl
def XL:∀w:World,fI O4 Ai 973 1966 990 1991 ⟨911,0,912,85⟩ ⟨945,0,997,84⟩ O6 87 w:=λw=>by delta fI;kernel_rfl
def SO (w:World) (os:OsState):topRun treeTable pw w 11 rt (397+(384+(214+(214+(358+(187+(974+(378+(397+(396+(297+(216+(387+(375+(288+(320+(393+(329+(242+(389+(324+(397+(387+(386+(88+2))))))))))))))))))))))))) (sC Cz 15 187 w os).abs (restOf Fp Aj sO sz [topFrame sz])=some (sC Ai 990 1991 w os).abs:=by
 rw[SG];exact(PySem.W.piece_app (gF (p1h w) os)<|PySem.W.piece_app (gF (p2h w) os)<|PySem.W.piece_app (gF (p3h w) os)<|PySem.W.piece_app (gF (ZD w) os)<|PySem.W.piece_app (gF (ZE w) os)<|PySem.W.piece_app (gF (ZF w) os)<|PySem.W.piece_app (gF (ZG w) os)<|PySem.W.piece_app (gF (ZH w) os)<|PySem.W.piece_app (gF (ZI w) os)<|PySem.W.piece_app (gF (Xv w) os)<|PySem.W.piece_app (gF (Xw w) os)<|PySem.W.piece_app (gF (Xx w) os)<|PySem.W.piece_app (gF (Xy w) os)<|PySem.W.piece_app (gF (Xz w) os)<|PySem.W.piece_app (gF (XA w) os)<|PySem.W.piece_app (gF (XB w) os)<|PySem.W.piece_app (gF (XC w) os)<|PySem.W.piece_app (gF (XD w) os)<|PySem.W.piece_app (gF (XF w) os)<|PySem.W.piece_app (gF (XG w) os)<|PySem.W.piece_app (gF (XH w) os)<|PySem.W.piece_app (gF (XI w) os)<|PySem.W.piece_app (gF (XJ w) os)<|PySem.W.piece_app (gF (XK w) os)<|PySem.W.piece_app (gF (XL w) os)<|piece_nil<|Xo _ _ _ w)
noncomputable def ZJ:Nat:=12+(1+(397+(384+(214+(214+(358+(187+(974+(378+(397+(396+(297+(216+(387+(375+(288+(320+(393+(329+(242+(389+(324+(397+(387+(386+(88+2))))))))))))))))))))))))))
def Pa (w:World) (os:OsState):topRun treeTable pw w 11 rt ZJ (O' w os) (topStub pw)=some (sC Ai 990 1991 w os).abs:=
 go_top (Xn w os) (piece_block (SF w os)<|SO w os)
end
section
open PySem PySem.W PySem.Calls PyProof.Rows
def HF (P:Params):Heap:=absHeap (Ai P) 990 {}
def Pb:opening pw=plainProg pw.main.scope.names:=eV
def LF (s:Shared):fenceModules? pw s=some s:=eV
def SR (P:Params):(boot_heap P).nsMap mainGlobals "__annotations__"=rt:=eV
def SS (P:Params):(boot_heap P).isNs mainGlobals:=eV
def t9 (P:Params):(HF P).isNs mainGlobals:=eV
def zH (P:Params):(HF P).isNs builtinsNs:=eV
def SU (P:Params):(HF P).isNs cStatics:=eV
def Ft:importedModules pw.main.body=[]:=eV
def Pc (P:Params):staticsOk [] (boot_heap P) (HF P):=eV
def SW (P:Params):(HF P).accountedOkI []:=eV
def Pd (P:Params):laidKept (boot_heap P) (HF P):=eV
def SY (P:Params):(HF P).bltView=bltViewBooted:=eV
def LG (P:Params):namesBound pw (HF P):=eV
abbrev lw:OpenLaw:=PySem.Challenge.rw_sa0285_01
noncomputable abbrev nh:Program:=PySem.Challenge.pw_sa0285_01
def Wj: @noRoadLSs= @PySem.W.Fast.tw8326940854005059898:=PySem.W.Fast.te8326940854005059898
def Kc: @namesMeet= @PySem.W.Fast.tw17119622794617984870:=PySem.W.Fast.te17119622794617984870
def ZK: @namesResolve= @PySem.W.Fast.tw8377067652309620493:=PySem.W.Fast.te8377067652309620493
def ZL:sreFenced nh.main:=eV
def ZM:((moduleNames nh.main.body).isEmpty||lookedIntoSs (moduleNames nh.main.body) nh.main.body):=eV
def XN:PySem.W.Fast.tw8377067652309620493 nh:=eV
def ZN:namesResolve nh:=by rw[ZK];exact XN
def ZO:nh.boundNames.all (λn=>!worldNames.contains n):=eV
def XO:PySem.W.Fast.tw8326940854005059898 {strict:=!(importedModules nh.main.body).all cThrough.contains,foot:=none,bare:=(["vars","dir","locals"]:List Str).filter<|readsOut nh nh.main.body} nh.main.body:=eV
def ZP:noRoadLSs {strict:=!(importedModules nh.main.body).all cThrough.contains,foot:=none,bare:=(["vars","dir","locals"]:List Str).filter<|readsOut nh nh.main.body} nh.main.body:=by rw[Wj];exact XO
def XQ:PySem.W.Fast.tw17119622794617984870 nh nh.main.body (λZ n=>attrL n):=eV
def ZQ:(namesMeet nh nh.main.body λZ n=>attrL n):=by rw[Kc];exact XQ
def LH:looksOpen nh:=by
 unfold looksOpen;rw[ZL,ZM,ZN,ZO,ZP,ZQ];rfl
def ZR:lw.row.partSaid:=by
 unfold OpenRow.partSaid;rw[show looksOpen lw.row.prog=true from LH];rfl
def Wl:lw.row.wellSaid:=by
 unfold OpenRow.wellSaid;rw[ZR];kernel_rfl
def ZS:decide (lw.foot<=(behindTheImports lw.prog).length):=eV
def ZT:lw.footing.all footLine:=eV
def ZU:noClassBlock lw.prog lw.footing:=eV
def ZV:lw.most.all (λn=>decide<|63<=n):=eV
def ZW:lw.bound.all (λn=>decide<|2^63<=n):=eV
def XR:PySem.W.Fast.tw8326940854005059898 {strict:=true,foot:=some lw.bound',writes:=lw.writes,may:=lw.may} lw.footing:=eV
def ZX:noRoadLSs {strict:=true,foot:=some lw.bound',writes:=lw.writes,may:=lw.may} lw.footing:=by rw[Wj];exact XR
def ZY:defStands lw.about lw.above:=eV
def ZZ:lw.namesIt:=eV
def XS:(["type","isinstance","issubclass","getattr","hasattr"]:List Str).all (λn=>lw.about !=[n]):=eV
def XT:lw.bound'.all (λn=>!builtinNamed n||lw.about==[n]||!lw.reads n):=eV
def XU:(!lw.writes||(lw.prog.main.body.flatMap importedNames).all λn=>!lw.reads n):=eV
def XV:(lw.prog.main.body.flatMap importedNames).all (λn=>!lw.reads n||(drawsOf n lw.prog.main.body).all λmn=>mn.2 !=("attrgetter":Str)&&mn.2 !=("methodcaller":Str)):=eV
def SZ:PySem.W.Fast.tw17119622794617984870 lw.prog lw.footing (λsc n=>(!(["type","isinstance","issubclass","getattr","hasattr"]:List Str).contains n||sc.names.lookup n==some .globalImplicit)&&
  (lw.may !=some n||sc.kind==.module||sc.names.lookup n==some .globalImplicit)):=eV
def XW:namesMeet lw.prog lw.footing (λsc n=>(!(["type","isinstance","issubclass","getattr","hasattr"]:List Str).contains n||sc.names.lookup n==some .globalImplicit)&&
  (lw.may !=some n||sc.kind==.module||sc.names.lookup n==some .globalImplicit)):=by rw[Kc];exact SZ
def XX:lw.own.contains lw.name:=eV
def XY:(lw.own.eraseDups.length==lw.own.length):=eV
def XZ:lw.own.all (λn=>!builtinNamed n):=eV
def S0:PySem.W.Fast.tw17119622794617984870 lw.prog lw.above (λZ n=>!lw.own.contains n):=eV
def X0:namesMeet lw.prog lw.above (λZ n=>!lw.own.contains n):=by rw[Kc];exact S0
def S1:PySem.W.Fast.tw17119622794617984870 lw.prog lw.footing (λsc n=>sc.kind==.module||sc.names.lookup n !=some .globalExplicit):=eV
def X1:namesMeet lw.prog lw.footing (λsc n=>sc.kind==.module||sc.names.lookup n !=some .globalExplicit):=by rw[Kc];exact S1
def Z0:OpenLaw.wellSaid lw:=by
 unfold OpenLaw.wellSaid;rw[Wl,ZS,ZT,ZU,ZV,ZW,ZX,ZY,ZZ,XS,XT,XU,XV,XW,XX,XY,XZ,X0,X1];rfl
end
section
open PySem PySem.W PySem.Calls PyProof.Rows PySem.Spec
def Fu (w:World) (os:OsState):Shared:=(sC Ai 990 1991 w os).abs
def DT (P:Params):builtinsAsBooted (HF P):=λx hx=>
 (Pin.builtinOf_eq (zH P) x).trans (Heap.of_bltView (zH P) (SY P) x hx)
def S2 (P:Params):globalOf (HF P) "__builtins__"=some (.ref 4):=eV
def Ke (P:Params):∃o,(HF P).get? 4=some o/\o.cls=.type "module"/\o.dict=some builtinsNs:=⟨⟨.type "module",some 0,.plain,#[]⟩,Jf eV rfl rfl⟩
def Fv (w:World):(∃s,AfterRun (opening pw) w s)/\∀s,AfterRun (opening pw) w s->∃s₀ os,fenceModules? pw s=some s₀/\s₀.gens= #[]/\TopRan pw w s₀ (Fu w os)/\(Fu w os).asleep:=by
 refine ia λG kk=>?_
 have h:=boot_open (N:=600) Pb rfl LF w;refine e8 (Option.map_eq_some_iff.mp h) λs₀ h2 hv=>?_
 rw[<-table_eq_tree]at h2;refine e8 (Option.bind_eq_some_iff.mp h2) λs h4 h5=>?_
 have A:=AfterImport.of_importEnds h4;apply kk;refine⟨⟨s,A⟩,λs' hs'=>?_⟩;refine ia λG kk=>?_
 obtain rfl:s'=s:=AfterImport.unique hs' A;have z:=PySem.Shared.asleep_of_life (fence_lifeW h5) A.life;obtain⟨hh,gg,dd,tt,os⟩:=s₀;simp[Prod.mk.injEq]at hv;obtain⟨rfl,rfl,rfl,rfl⟩:=hv;have run:=Pa w os;rw[<-table_eq_tree]at run;obtain⟨a,l,os',fr⟩:=topRun_spec _ _ _ _ z run;have hg:=SS w.params;apply kk;refine⟨_,os,h5,rfl,⟨a,l,Shared.rest_eq os',λb o hb hn=>fr b o ?_ (λq=>hn<|.inl q) (λq=>hn<|.inr<|.inl q) (λq=>hn<|.inr<|.inr<|(PySem.Pin.globalOf_eq hg _).trans<|(SR _).trans q) hb,
  ?_,?_,Pin.keysAreStrs_of<|t9 _,DT _,⟨4,(Ke w.params).choose,S2 _,(Ke w.params).choose_spec⟩,λg hg=>?_,names_of_bound<|LG _,laid_of_kept (Pd _)⟩,PySem.Shared.asleep_of_life l z⟩
 .have:=jp hb;exact this
 .rw[Ft];exact Heap.accountedI_of_ok (SW _)
 .rw[Ft];exact statics_of_ok (Pc _)
 .exact absurd hg (by show¬g∈(#[]:Array GenState);simp)
noncomputable abbrev uS:RowW:=lw.row.toRowW
def Fw (P:Params):globalOf (HF P) "law"=some (.ref 989):=eV
def Pe (P:Params):(HF P).get? 989=some (HQ P):=eV
theorem sD {R:WRecords}:∀{xs:List WData},WShape.hasItems R xs .int->∃ns:List Int,xs=ns.map WData.int
 |[],_=>⟨[],rfl⟩
 |x::xs,h=>by
  simp only[WShape.hasItems,jd]at h;obtain⟨n,rfl⟩:=hasW_int h.1;obtain⟨ns,rfl⟩:=sD h.2;exact⟨n::ns,rfl⟩
theorem pz {R:WRecords} {cl:Str->Option Addr} {h:Heap}:∀{ns:List Int} {vs:List Value} {as:List Addr},ReadsAllW R cl h vs (ns.map WData.int) as->IntsAre vs ns
 |[],_,_,x=>(readsAllW_nil_inv x).1▸.nil
 |n::ns,_,_,x=>by
  obtain⟨v,vs,_,_,rfl,_,h1,h2⟩:=readsAllW_cons_inv x;obtain⟨t,rfl,_⟩:=readsW_int_inv h1;exact .cons _ _<|pz h2
def X3 (w:World) (os:OsState):isTheDefsW pw (Fu w os).heap "law":=
 ⟨989,HQ w.params,_,_,_,_,Fw _,Pe _,rfl,eV,eV,eV,rfl,rfl,rfl,rfl,rfl,rfl,.inl ⟨rfl,eV⟩,_,eV,.inl ⟨rfl,rfl⟩⟩
def S3:uS.claim.pre [.list []]:=eV
def S4:(WData.layableAll [.list []]&&uS.returnsAt [.list []]):=eV
def Pf:uS.promised:=⟨_,S3,S4⟩
def Z1: @TablesWhole.wModule= @PySem.W.Fast.tw6116379765354995101:=PySem.W.Fast.te6116379765354995101
def LJ:PySem.W.Fast.tw6116379765354995101 TablesWhole.holds pw.main=true:=eV
def Pg:pw.tablesWhole:=by
 have e:=LJ;rw[<-Z1]at e;unfold Program.tablesWhole TablesWhole.wProgram;rw[e];rfl
def Ph:pw.bare:=Cv rfl rfl rfl rfl rfl Pg
def LK:opensWell pw:=eV
end
section
open PySem
inductive V where
 |B
 |O (b:Bool)
 |a (i:Int)
 |z (s:List Nat)
 |ah
 |v (l:List V)
 |w (l:List V)
 |ac (l:List (Int×V))
 |g (k:Nat)
 deriving Inhabited
inductive Op where
 |R|D|aw|W|ag|aN|aO|aL|aB
 deriving DecidableEq
inductive Cm where
 |eq|ne|lt|le|gt|ge|V|ab|is|aH
set_option genCtorIdx false
inductive Ex where
 |y (v:V)
 |u (x:Nat)
 |S (x:Nat) (v:V)
 |attr (e:Ex) (x:Nat)
 |D (e i:Ex)
 |aq (e lo hi:Ex)
 |A (f:Nat) (as:List Ex)
 |Q (o:Ex) (m:Nat) (as:List Ex)
 |new (c:Nat) (as:List Ex)
 |len (e:Ex)
 |aM (e:Ex)
 |aJ (e:Ex)
 |aA (e:Ex)
 |am (e:Ex)
 |an
 |Z (o x:Ex)
 |av (d k z:Ex)
 |aF (d k:Ex)
 |I (o:Op) (a b:Ex)
 |aC (e:Ex)
 |aD (e:Ex)
 |E (o:Cm) (a b:Ex)
 |Y (isAnd:Bool) (es:List Ex)
 |au (c a b:Ex)
 |v (es:List Ex)
 |N (es:List Ex)
 |w (es:List Ex)
 |X
 |aK (e n:Ex)
 |ai (single:Bool) (t:List Nat) (k:Nat) (a b:Ex) (c:Option Ex) (e:Ex)
 |F
inductive St where
 |H (e:Ex)
 |G (x:Nat) (e:Ex)
 |ak (xs:List Nat) (e:Ex)
 |P (o:Ex) (x:Nat) (e:Ex)
 |ae (d k e:Ex)
 |az (x:Nat) (o:Op) (e:Ex)
 |M (c:Ex) (a b:List St)
 |J (single:Bool) (t:List Nat) (k:Nat) (a b:Ex) (body:List St)
 |ao (c:Ex) (body:List St)
 |L (e:Ex)
 |af
 |aG (body:List St)
 |F
structure FD where
 addr:Addr
 src:Stmt
 ps:List Nat
 body:List St
structure CD where
 addr:Addr
 init:Nat
 ms:List (Nat×Nat)
set_option genInjectivity true
set_option genCtorIdx true
inductive O where
 |j (l:List V)
 |dict (l:List (PyData×V))
 |U (c:Nat) (fs:List (Nat×V))
 |an
 deriving Inhabited
abbrev H:=List O
abbrev Env:=List<|Nat×V
noncomputable def ci:List (Nat×V)->Nat->Option V
 |[],_=>none
 |(y,v)::r,x=>match Nat.beq y x with
  |true=>some v
  |false=>ci r x
noncomputable def sP:List (Nat×V)->Nat->V->List (Nat×V)
 |[],x,v=>[(x,v)]
 |(y,u)::r,x,v=>match Nat.beq y x with
  |true=>(y,v)::r
  |false=>(y,u)::sP r x v
noncomputable def eP (E:Env) (x:Nat) (v:V):Env:=(x,v)::E
noncomputable def d':H->Nat->Option O
 |[],_=>none
 |o::_,0=>some o
 |_::r,k+1=>d' r k
noncomputable def fc:H->Nat->O->H
 |[],_,_=>[]
 |_::r,0,o'=>o'::r
 |o::r,k+1,o'=>o::fc r k o'
noncomputable def fK:List V->Nat->Option V
 |[],_=>none
 |v::_,0=>some v
 |_::r,k+1=>fK r k
noncomputable def xz:List V->Nat->V->List V
 |[],_,_=>[]
 |_::r,0,v=>v::r
 |u::r,k+1,v=>u::xz r k v
noncomputable abbrev pZ:PyData->PyData->Bool:=PyData.eqv
noncomputable def fY {α β:Type} (f:α->Option β):List α->Option (List β)
 |[]=>some []
 |v::r=>match f v with
  |none=>none
  |some d=>match fY f r with
   |none=>none
   |some ds=>some (d::ds)
noncomputable def nR (s:List Nat):Bool:=s.all λc=>Nat.ble c 1000000
def gI (μ:H):Nat->V->Option PyData
 |0,_=>none
 |n+1,v=>match v with
  |.B=>some .none
  |.O b=>some<|.bool b
  |.a i=>some<|.int i
  |.z s=>match nR s with
   |true=>some<|.str ⟨⟨s⟩⟩
   |false=>none
  |.v l=>(fY (gI μ n) l).map .tuple
  |.w l=>(fY (gI μ n) l).map .list
  |.g k=>match d' μ k with
   |some (.j l)=>(fY (gI μ n) l).map .list
   |_=>none
  |.ah=>none
  |.ac _=>none
noncomputable def gN:Nat:=12
def fg:Nat->PyData->Bool
 |0,_=>false
 |n+1,d=>match d with
  |.int _=>true
  |.str x=>nR x.cps.toList
  |.tuple l=>l.all<|fg n
  |_=>false
def jr (μ:H) (v:V):Option PyData:=match v with
 |.a i=>some<|.int i
 |.v l=>match gI μ 6 (.v l)with
  |some d=>match fg 6 d with
   |true=>some d
   |false=>none
  |none=>none
 |_=>none
def gq (μ:H) (v:V) (l:List (PyData×V)):Option PyData:=match jr μ v with
 |none=>none
 |some d=>match l with
  |[]=>some d
  |(y,_)::_=>match y,d with
   |.int _,.int _=>some d
   |.tuple _,.tuple _=>some d
   |_,_=>none
noncomputable def rA:PyData->Option V
 |.int i=>some<|.a i
 |_=>none
def nU (μ:H) (a b:V):Option Bool:=match a,b with
 |.a i,.a j=>some<|decide<|i=j
 |.z s,.z t=>some<|decide<|s=t
 |a,b=>match gI μ gN a with
  |none=>none
  |some x=>match gI μ gN b with
   |none=>none
   |some y=>some<|PyData.eqv x y
def sQ (μ:H) (a b:V):Option Bool:=match a,b with
 |.ah,.v _=>some false
 |a,b=>nU μ a b
def sR (μ:H) (d:PyData):List V->Option Bool
 |[]=>some false
 |y::r=>match gI μ gN y with
  |none=>none
  |some e=>match sR μ d r with
   |none=>none
   |some c=>some<|PyData.eqv e d||c
def nE (μ:H) (x:V) (l:List V):Option Bool:=match gI μ gN x with
 |none=>none
 |some d=>sR μ d l
def gf (k:PyData):List (PyData×V)->Option V
 |[]=>none
 |(y,v)::r=>match pZ y k with
  |true=>some v
  |false=>gf k r
def jn (k:PyData) (v:V):List (PyData×V)->List (PyData×V)
 |[]=>[(k,v)]
 |(y,u)::r=>match pZ y k with
  |true=>(y,v)::r
  |false=>(y,u)::jn k v r
noncomputable def mc (k:Int):List (Int×V)->Option V
 |[]=>none
 |(y,v)::r=>match decide (y=k)with
  |true=>some v
  |false=>mc k r
mutual
noncomputable def jI:V->V->Bool
 |.B,b=>Nat.beq b.ctorIdx 0
 |.O x,b=>if h:b.ctorIdx=1 then V.O.elim (motive_1:=λZ=>Bool) b h (x==·) else false
 |.a x,b=>if h:b.ctorIdx=2 then V.a.elim (motive_1:=λZ=>Bool) b h λy=>decide (x=y) else false
 |.z x,b=>if h:b.ctorIdx=3 then V.z.elim (motive_1:=λZ=>Bool) b h λy=>decide (x=y) else false
 |.ah,b=>Nat.beq b.ctorIdx 4
 |.v x,b=>if h:b.ctorIdx=5 then V.v.elim (motive_1:=λZ=>Bool) b h (vsames x) else false
 |.w x,b=>if h:b.ctorIdx=6 then V.w.elim (motive_1:=λZ=>Bool) b h (vsames x) else false
 |.ac _,_=>false
 |.g x,b=>if h:b.ctorIdx=8 then V.g.elim (motive_1:=λZ=>Bool) b h (Nat.beq x) else false
noncomputable def vsames:List V->List V->Bool
 |[],l=>l.isEmpty
 |x::xs,l=>match l with
  |[]=>false
  |y::ys=>match jI x y with
   |true=>vsames xs ys
   |false=>false
end
noncomputable def gH:Nat:=1000000
def ix (μ:H):V->Option Bool
 |.B=>some false
 |.O b=>some b
 |.a i=>some<|decide<|i≠0
 |.w l=>match Nat.ble l.length gH with
  |true=>some<|!l.isEmpty
  |false=>none
 |.g k=>match d' μ k with
  |some (.j l)=>match Nat.ble l.length gH with
   |true=>some<|!l.isEmpty
   |false=>none
  |_=>none
 |_=>none
noncomputable def i3 (i:Int):Bool:=decide (-9223372036854775808<=i)&&decide (i<9223372036854775808)
def mK (μ:H) (o:Op) (a b:V):Option V:=match a with
 |.a i=>match b with
  |.a j=>match o with
   |.R=>some<|.a<|i+j
   |.D=>some<|.a<|i-j
   |.aw=>match i3 i&&i3 j with
    |true=>some<|.a<|i*j
    |false=>none
   |.W=>match decide (0<j)&&decide (j<1000000000)with
    |true=>some<|.a<|Int.fdiv i j
    |false=>none
   |.ag=>match decide (0<j)&&decide (j<1000000000)with
    |true=>some<|.a<|Int.fmod i j
    |false=>none
   |.aN=>match decide (0<=j)&&decide (j<=64)&&i3 i with
    |true=>some<|.a<|i*2^j.toNat
    |false=>none
   |.aO=>match decide (0<=j)&&decide (j<=64)with
    |true=>some<|.a<|Int.fdiv i<|2^j.toNat
    |false=>none
   |.aL=>some<|.a<|Builtin.bitOr i j
   |.aB=>some<|.a<|Builtin.bitAnd i j
  |_=>none
 |.w l=>match o with
  |.R=>match b with
   |.w r=>match Nat.ble (l.length+r.length) gH with
    |true=>some<|.w<|l++r
    |false=>none
   |.g k=>match d' μ k with
    |some (.j r)=>match Nat.ble (l.length+r.length) gH with
     |true=>some<|.w<|l++r
     |false=>none
    |_=>none
   |_=>none
  |_=>none
 |.g j=>match o with
  |.R=>match b with
   |.g k=>match d' μ j with
    |some (.j l)=>match d' μ k with
     |some (.j r)=>match Nat.ble (l.length+r.length) gH with
      |true=>some<|.w<|l++r
      |false=>none
     |_=>none
    |_=>none
   |_=>none
  |_=>none
 |.v l=>match o with
  |.aw=>match b with
   |.a i=>match decide (i=0)with
    |true=>some<|.v []
    |false=>match decide (i=1)with
     |true=>some<|.v l
     |false=>none
   |_=>none
  |_=>none
 |.z a=>match o with
  |.R=>match b with
   |.z b=>match Nat.ble (a.length+b.length) 1000 with
    |true=>some<|.z<|a++b
    |false=>none
   |_=>none
  |_=>none
 |_=>none
noncomputable def oS (v:V):Option Int:=if h:v.ctorIdx=2 then V.a.elim (motive_1:=λZ=>Option Int) v h some else none
noncomputable def Pj (v:V):Option (List Nat):=if h:v.ctorIdx=3 then V.z.elim (motive_1:=λZ=>Option<|List Nat) v h some else none
noncomputable def Kf:V->Option Bool
 |.B=>some true
 |.g _=>some false
 |.v _=>some false
 |_=>none
def pA (μ:H) (a b:V):Option Bool:=match b with
 |.ac l=>(oS a).bind λi=>some (mc i l).isSome
 |.w l=>nE μ a l
 |.v l=>nE μ a l
 |.z t=>(Pj a).bind λs=>match s with
  |[c]=>some<|t.contains c
  |_=>none
 |.g k=>match d' μ k with
  |some (.j l)=>nE μ a l
  |some (.dict l)=>(gq μ a l).bind λe=>some (gf e l).isSome
  |_=>none
 |_=>none
def jt (μ:H) (o:Cm) (a b:V):Option Bool:=match o with
 |.eq=>sQ μ a b
 |.ne=>(nU μ a b).map (!·)
 |.lt=>match a with
  |.a i=>match b with
   |.a j=>some<|decide<|i<j
   |_=>none
  |_=>none
 |.le=>match a with
  |.a i=>match b with
   |.a j=>some<|decide<|i<=j
   |_=>none
  |_=>none
 |.gt=>match a with
  |.a i=>match b with
   |.a j=>some<|decide<|j<i
   |_=>none
  |_=>none
 |.ge=>match a with
  |.a i=>match b with
   |.a j=>some<|decide<|j<=i
   |_=>none
  |_=>none
 |.is=>match b with
  |.B=>Kf a
  |_=>none
 |.aH=>match b with
  |.B=>(Kf a).map (!·)
  |_=>none
 |.V=>pA μ a b
 |.ab=>(pA μ a b).map (!·)
def place (n:Nat) (i:Int):Option Nat:=match i3 i with
 |false=>none
 |true=>match decide (0<=i)with
  |true=>some i.toNat
  |false=>match decide (0<=i+n)with
   |true=>some (i+n).toNat
   |false=>none
def f9 (μ:H) (o i:V):Option V:=match o with
 |.v l=>(oS i).bind λi=>(place l.length i).bind<|fK l
 |.w l=>(oS i).bind λi=>(place l.length i).bind<|fK l
 |.ac l=>(oS i).bind (mc · l)
 |.z l=>(oS i).bind λi=>match decide (0<=i)&&decide (i<l.length)&&i3 i with
  |true=>some<|.z [l.getD i.toNat 0]
  |false=>none
 |.g k=>match d' μ k with
  |some (.j l)=>(oS i).bind λi=>(place l.length i).bind<|fK l
  |some (.dict l)=>(gq μ i l).bind (gf · l)
  |_=>none
 |_=>none
noncomputable def part (d:Nat):V->Option Nat
 |.B=>some d
 |.a i=>match decide (0<=i)with
  |true=>some i.toNat
  |false=>none
 |_=>none
def rB (l:List V) (lo hi:V):Option V:=match part 0 lo with
 |none=>none
 |some a=>match part l.length hi with
  |none=>none
  |some b=>match Nat.ble l.length gH with
   |true=>some<|.w<|(l.take b).drop a
   |false=>none
def qF (μ:H) (o lo hi:V):Option V:=match o with
 |.w l=>rB l lo hi
 |.g k=>match d' μ k with
  |some (.j l)=>rB l lo hi
  |_=>none
 |_=>none
def items (μ:H):V->Option (List V)
 |.v l=>some l
 |.w l=>some l
 |.g k=>match d' μ k with
  |some (.j l)=>some l
  |_=>none
 |_=>none
noncomputable def jV:Int->List V->List V
 |_,[]=>[]
 |i,v::r=>.v [.a i,v]::jV (i+1) r
noncomputable def gZ:Int->Nat->List V
 |_,0=>[]
 |a,n+1=>.a a::gZ (a+1) n
inductive Flow where
 |C|af|L (v:V)
 deriving Inhabited
noncomputable def zI (i:Int):Bool:=decide (0<=i)&&decide (i<10)
noncomputable def Kg (i:Int):Bool:=decide (0<=i)&&decide (i<55296)
def lM (E:Env):List Nat->List V->Option Env
 |[],[]=>some E
 |x::xs,v::vs=>lM (eP E x v) xs vs
 |_,_=>none
def fi (E:Env) (single:Bool) (t:List Nat) (v:V):Option Env:=match single,t with
 |true,[x]=>some<|eP E x v
 |false,t=>match v with
  |.v l=>lM E t l
  |_=>none
 |_,_=>none
noncomputable def l9:List Nat->List V->Option Env
 |[],[]=>some []
 |x::xs,v::vs=>match l9 xs vs with
  |some r=>some ((x,v)::r)
  |none=>none
 |_,_=>none
section
variable{μ:H} {n:Nat} {s:List Nat}
theorem LL {k y v r}:mc k ((y,v)::r)=match decide (y=k)with
 |true=>some v
 |false=>mc k r:=rfl
theorem CE {k y v r}:gf k ((y,v)::r)=match pZ y k with
 |true=>some v
 |false=>gf k r:=rfl
theorem Fx {k v y u r}:jn k v ((y,u)::r)=match pZ y k with
 |true=>(y,v)::r
 |false=>(y,u)::jn k v r:=rfl
theorem Ak {d y r}:sR μ d (y::r)=match gI μ gN y with
 |none=>none
 |some e=>match sR μ d r with
  |none=>none
  |some c=>some (PyData.eqv e d||c):=rfl
def gM {α β:Type} {f:α->Option β} {v e r es} (h:f v=some e) (h2:fY f r=some es):fY f (v::r)=some (e::es):=by
 show(match f v with
  |none=>none
  |some _=>_)=_
 rw[h];show(match fY f r with
  |none=>none
  |some _=>_)=_
 rw[h2]
def HR (h:nR s):gI μ (n+1) (.z s)=some (.str ⟨⟨s⟩⟩):=by
 show(match nR s with|true=>_|false=>_)=_;rw[h]
end
set_option genInjectivity false
end
section
open PySem PySem.W
def wg (μ:H) (k:Nat):Bool:=match d' μ k with
 |some (.j _)=>true
 |_=>false
def sS (μ:H):V->Bool
 |.ac _=>true
 |.g k=>match d' μ k with
  |some (.dict _)=>true
  |_=>false
 |_=>false
noncomputable def jJ:List (PyData×V)->Bool
 |[]=>true
 |(.int _,_)::_=>true
 |_=>false
noncomputable def sT {α:Type} (f:Nat->Nat->Option Bool):KasT α->Option α
 |.ret a=>some a
 |.ask i j k=>match f i j with
  |none=>none
  |some b=>sT f<|k b
theorem Fy {α:Type} {f:Nat->Nat->Option Bool} {i j k}:sT (α:=α) f (.ask i j k)=match f i j with
 |none=>none
 |some b=>sT f (k b):=by delta sT;rfl
noncomputable def mX:V->Option Int
 |.a i=>some i
 |_=>none
noncomputable def DU:V->Option (List V)
 |.v l=>some l
 |_=>none
def DV (v:V):Option Int:=(DU v).bind λl=>l.head?.bind λx=>cond l.tail.isEmpty (mX x) none
def oz (g:V->Option Int) (v:V):Option (Int×Int):=(DU v).bind λl=>l.head?.bind λx=>l.tail.head?.bind λy=>(g x).bind λa=>(mX y).bind λi=>some (a,i)
noncomputable def sU (p q:Int×Int):Option Bool:=match decide (p.1=q.1)with
 |false=>some<|decide<|p.1<q.1
 |true=>match decide (p.2=q.2)with
  |false=>some<|decide<|p.2<q.2
  |true=>none
def lg (l:List V) (f:Nat->Nat->Option Bool):Option (List V):=match Nat.ble l.length 1 with
 |true=>some l
 |false=>match Nat.ble l.length 63 with
  |false=>none
  |true=>match sT f (kas_sort l.length)with
   |none=>none
   |some p=>some<|p.toList.map λi=>l.getD i .B
noncomputable def rC (l:List Int) (i j:Nat):Option Bool:=(l[i]?).bind λa=>(l[j]?).bind λb=>some<|decide<|a<b
def jC (l:List (Int×Int)) (i j:Nat):Option Bool:=(l[i]?).bind λa=>(l[j]?).bind λb=>sU a b
def jx (l:List V):Option (List V):=match fY mX l with
 |some ns=>lg l<|rC ns
 |none=>match fY (oz mX) l with
  |some ps=>lg l<|jC ps
  |none=>match fY (oz DV) l with
   |some ps=>lg l<|jC ps
   |none=>none
def mA (μ:H):V->Option V
 |.w l=>(jx l).map .w
 |.g k=>match d' μ k with
  |some (.j l)=>(jx l).map .w
  |some (.dict d)=>match fY (λp=>rA p.1) d with
   |some l=>(jx l).map .w
   |none=>none
  |_=>none
 |_=>none
def kG (μ:H) (k:Nat) (v:V):Option H:=match d' μ k with
 |some (.j l)=>match Nat.ble l.length gH with
  |true=>some<|fc μ k<|.j<|l++[v]
  |false=>none
 |_=>none
noncomputable def iX (i:Int):Bool:=decide (-4611686018427387904<=i)&&decide (i<4611686018427387904)
def im (μ:H) (k:Nat) (a:V) (b:V):Option (List V):=match k with
 |0=>items μ a
 |1=>(items μ a).map<|jV 0
 |2=>match a with
  |.a n=>match iX n&&Nat.ble n.toNat gH with
   |true=>some<|gZ 0 n.toNat
   |false=>none
  |_=>none
 |_=>match a,b with
  |.a m,.a n=>match iX m&&iX n&&Nat.ble (n-m).toNat gH with
   |true=>some<|gZ m (n-m).toNat
   |false=>none
  |_,_=>none
def fZ (k:Nat) (a:V) (l:List V) (μ:H):Bool:=match a with
 |.g r=>match k with
  |0=>match d' μ r with
   |some (.j l')=>vsames l' l
   |_=>false
  |1=>match d' μ r with
   |some (.j l')=>vsames l' l
   |_=>false
  |_=>true
 |_=>true
def src (μ:H) (a:V):List V:=match a with
 |.g r=>match d' μ r with
  |some (.j l)=>l
  |_=>[]
 |_=>[]
abbrev fb:=Nat->List V->H->Option (V×H)
variable(cs:List CD)
noncomputable def hU:List CD->Nat->Option CD
 |[],_=>none
 |c::_,0=>some c
 |_::r,k+1=>hU r k
noncomputable def km:List (Nat×Nat)->Nat->Option Nat
 |[],_=>none
 |(y,f)::r,m=>match Nat.beq y m with
  |true=>some f
  |false=>km r m
def DW (μ:H) (k x:Nat) (v:V):Option H:=match d' μ k with
 |some (.U c fs)=>match Nat.ble fs.length 500 with
  |true=>match hU cs c with
   |some cd=>match km cd.ms x with
    |none=>some<|fc μ k<|.U c<|sP fs x v
    |some _=>none
   |none=>none
  |false=>none
 |_=>none
noncomputable def fS {σ:Type} (ok:σ->Bool) (turn:V->σ->Option (Flow×σ)):List V->σ->Option (Flow×σ)
 |[],s=>match ok s with
  |true=>some (.C,s)
  |false=>none
 |v::r,s=>match ok s with
  |true=>match turn v s with
   |none=>none
   |some (.L u,s')=>some (.L u,s')
   |some (_,s')=>fS ok turn r s'
  |false=>none
mutual
noncomputable def ev (F:fb) (E:Env):Ex->H->Option (V×H)
 |.y v,μ=>some (v,μ)
 |.u x,μ=>match ci E x with
  |some v=>some (v,μ)
  |none=>none
 |.S _ v,μ=>some (v,μ)
 |.attr e x,μ=>match ev F E e μ with
  |some (.g k,μ)=>match d' μ k with
   |some (.U c fs)=>match ci fs x with
    |some v=>match hU cs c with
     |some cd=>match km cd.ms x with
      |none=>some (v,μ)
      |some _=>none
     |none=>none
    |none=>none
   |_=>none
  |_=>none
 |.D e i,μ=>match ev F E e μ with
  |some (o,μ)=>match ev F E i μ with
   |some (j,μ)=>match f9 μ o j with
    |some v=>some (v,μ)
    |none=>none
   |none=>none
  |none=>none
 |.aq e lo hi,μ=>match ev F E e μ with
  |some (o,μ)=>match ev F E lo μ with
   |some (a,μ)=>match ev F E hi μ with
    |some (b,μ)=>match qF μ o a b with
     |some v=>some (v,μ)
     |none=>none
    |none=>none
   |none=>none
  |none=>none
 |.A f as,μ=>match evs F E as μ with
  |some (vs,μ)=>F f vs μ
  |none=>none
 |.Q o m as,μ=>match ev F E o μ with
  |some (.g k,μ)=>match d' μ k with
   |some (.U c fs)=>match ci fs m with
    |some _=>none
    |none=>match hU cs c with
     |some cd=>match km cd.ms m with
      |some f=>match evs F E as μ with
       |some (vs,μ)=>F f (.g k::vs) μ
       |none=>none
      |none=>none
     |none=>none
   |_=>none
  |_=>none
 |.new c as,μ=>match evs F E as μ with
  |some (vs,μ)=>match hU cs c with
   |some cd=>match F cd.init (.g μ.length::vs) (μ++[.U c []])with
    |some (.B,μ')=>some (.g μ.length,μ')
    |_=>none
   |none=>none
  |none=>none
 |.len e,μ=>match ev F E e μ with
  |some (v,μ)=>match v with
   |.v l=>match Nat.ble l.length gH with
    |true=>some (.a l.length,μ)
    |false=>none
   |.w l=>match Nat.ble l.length gH with
    |true=>some (.a l.length,μ)
    |false=>none
   |.g k=>match d' μ k with
    |some (.j l)=>match Nat.ble l.length gH with
     |true=>some (.a l.length,μ)
     |false=>none
    |some (.dict l)=>match jJ l&&Nat.ble l.length gH with
     |true=>some (.a l.length,μ)
     |false=>none
    |_=>none
   |_=>none
  |none=>none
 |.aM e,μ=>match ev F E e μ with
  |some (.a i,μ)=>match Kg i with
   |true=>some (.z [i.toNat],μ)
   |false=>none
  |_=>none
 |.aJ e,μ=>match ev F E e μ with
  |some (.a i,μ)=>match zI i with
   |true=>some (.z [48+i.toNat],μ)
   |false=>none
  |_=>none
 |.aA e,μ=>match ev F E e μ with
  |some (v,μ)=>match items μ v with
   |some l=>match Nat.ble l.length gH with
    |true=>some (.v l,μ)
    |false=>none
   |none=>none
  |none=>none
 |.am e,μ=>match ev F E e μ with
  |some (v,μ)=>match mA μ v with
   |some v=>some (v,μ)
   |none=>none
  |none=>none
 |.an,μ=>some (.g μ.length,μ++[.an])
 |.Z o x,μ=>match ev F E o μ with
  |some (.g k,μ)=>match wg μ k with
   |true=>match ev F E x μ with
    |some (v,μ)=>match kG μ k v with
     |some μ=>some (.B,μ)
     |none=>none
    |none=>none
   |false=>none
  |_=>none
 |.av d k z,μ=>match ev F E d μ with
  |some (o,μ)=>match sS μ o with
   |true=>match ev F E k μ with
    |some (j,μ)=>match ev F E z μ with
     |some (u,μ)=>match o with
      |.ac l=>match j with
       |.a i=>some ((mc i l).getD u,μ)
       |_=>none
      |.g a=>match d' μ a with
       |some (.dict l)=>match gq μ j l with
        |some d=>some ((gf d l).getD u,μ)
        |none=>none
       |_=>none
      |_=>none
     |none=>none
    |none=>none
   |false=>none
  |none=>none
 |.aF d k,μ=>match ev F E d μ with
  |some (.g a,μ)=>match sS μ (.g a)with
   |true=>match ev F E k μ with
    |some (j,μ)=>match d' μ a with
     |some (.dict l)=>match j with
      |.a i=>match jJ l with
       |true=>match gf (.int i) l with
        |some v=>some (v,μ)
        |none=>match Nat.ble l.length gH with
         |true=>some (.g μ.length,fc μ a (.dict (jn (.int i) (.g μ.length) l))++[.j []])
         |false=>none
       |false=>none
      |_=>none
     |_=>none
    |none=>none
   |false=>none
  |_=>none
 |.I o a b,μ=>match ev F E a μ with
  |some (x,μ)=>match ev F E b μ with
   |some (y,μ)=>match mK μ o x y with
    |some v=>some (v,μ)
    |none=>none
   |none=>none
  |none=>none
 |.aC e,μ=>match ev F E e μ with
  |some (.a i,μ)=>some (.a (-i),μ)
  |_=>none
 |.aD e,μ=>match ev F E e μ with
  |some (v,μ)=>match ix μ v with
   |some b=>some (.O (!b),μ)
   |none=>none
  |none=>none
 |.E o a b,μ=>match ev F E a μ with
  |some (x,μ)=>match ev F E b μ with
   |some (y,μ)=>match jt μ o x y with
    |some v=>some (.O v,μ)
    |none=>none
   |none=>none
  |none=>none
 |.Y t es,μ=>evB F E t es μ
 |.au c a b,μ=>match ev F E c μ with
  |some (v,μ)=>match ix μ v with
   |some true=>ev F E a μ
   |some false=>ev F E b μ
   |none=>none
  |none=>none
 |.v es,μ=>match evs F E es μ with
  |some (vs,μ)=>some (.v vs,μ)
  |none=>none
 |.N es,μ=>match evs F E es μ with
  |some (vs,μ)=>some (.g μ.length,μ++[.j vs])
  |none=>none
 |.w es,μ=>match evs F E es μ with
  |some (vs,μ)=>some (.w vs,μ)
  |none=>none
 |.X,μ=>some (.g μ.length,μ++[.dict []])
 |.aK e n,μ=>match ev F E e μ with
  |some (v,μ)=>match ev F E n μ with
   |some (.a i,μ)=>match decide (0<=i)&&decide (i<=1000)with
    |true=>some (.g μ.length,μ++[.j (List.replicate i.toNat v)])
    |false=>none
   |_=>none
  |none=>none
 |.ai single t k a b c e,μ=>match ev F E a μ with
  |some (x,μ)=>match ev F E b μ with
   |some (y,μ)=>match im μ k x y with
    |some l=>match fS (λs=>fZ k x (src μ x) s) (λv (s:H)=>match fi E single t v with
      |none=>none
      |some E'=>match evC F E' c s with
       |none=>none
       |some (false,ν)=>some (.C,ν)
       |some (true,ν)=>match ev F E' e ν with
        |none=>none
        |some (u,ν)=>match kG ν μ.length u with
         |some ν=>some (.C,ν)
         |none=>none) l (μ++[.j []])with
     |some (_,ν)=>some (.g μ.length,ν)
     |none=>none
    |none=>none
   |none=>none
  |none=>none
 |.F,_=>none
noncomputable def evs (F:fb) (E:Env):List Ex->H->Option (List V×H)
 |[],μ=>some ([],μ)
 |e::r,μ=>match ev F E e μ with
  |some (v,μ)=>match evs F E r μ with
   |some (vs,μ)=>some (v::vs,μ)
   |none=>none
  |none=>none
noncomputable def evC (F:fb) (E:Env):Option Ex->H->Option (Bool×H)
 |none,μ=>some (true,μ)
 |some c,μ=>match ev F E c μ with
  |some (v,μ)=>match ix μ v with
   |some b=>some (b,μ)
   |none=>none
  |none=>none
noncomputable def evB (F:fb) (E:Env) (isAnd:Bool):List Ex->H->Option (V×H)
 |[],_=>none
 |e::r,μ=>match r with
  |[]=>ev F E e μ
  |_::_=>match ev F E e μ with
   |some (v,μ)=>match ix μ v with
    |some t=>match t==isAnd with
     |true=>evB F E isAnd r μ
     |false=>some (v,μ)
    |none=>none
   |none=>none
end
section
variable{γ:Type} {r:γ} {G:Prop}
theorem iA {o:Option (V×H)} {k:V->H->Option γ} (h:(match o with
  |some (v,μ)=>k v μ
  |none=>none)=some r) (c:∀v μ,o=some (v,μ)->k v μ=some r->G):G:=by
 cases o with
 |none=>cases h
 |some p=>exact c _ _ rfl h
theorem iB {o:Option (List V×H)} {k:List V->H->Option γ} (h:(match o with
  |some (v,μ)=>k v μ
  |none=>none)=some r) (c:∀v μ,o=some (v,μ)->k v μ=some r->G):G:=by
 cases o with
 |none=>cases h
 |some p=>exact c _ _ rfl h
theorem iC {o:Option V} {k:V->Option γ} (h:(match o with
  |some v=>k v
  |none=>none)=some r) (c:∀v,o=some v->k v=some r->G):G:=by
 cases o with
 |none=>cases h
 |some p=>exact c _ rfl h
theorem iD {b:Bool} {k:Option γ} (h:(match b with
  |true=>k
  |false=>none)=some r) (c:b->k=some r->G):G:=by
 cases b with
 |false=>cases h
 |true=>exact c rfl h
theorem iE {o:Option (V×H)} {k:Nat->H->Option γ} (h:(match o with
  |some (.g v,μ)=>k v μ
  |_=>none)=some r) (c:∀v μ,o=some (.g v,μ)->k v μ=some r->G):G:=by
 cases o with
 |none=>exact fe h
 |some p=>
  obtain⟨v,μ⟩:=p;cases v with
  |g k=>exact c _ _ rfl h
  |_=>exact fe h
theorem iF {o:Option (V×H)} {k:Int->H->Option γ} (h:(match o with
  |some (.a v,μ)=>k v μ
  |_=>none)=some r) (c:∀v μ,o=some (.a v,μ)->k v μ=some r->G):G:=by
 cases o with
 |none=>exact fe h
 |some p=>
  obtain⟨v,μ⟩:=p;cases v with
  |a k=>exact c _ _ rfl h
  |_=>exact fe h
theorem iG {o:Option O} {k:Nat->List (Nat×V)->Option γ} (h:(match o with
  |some (.U c l)=>k c l
  |_=>none)=some r) (c:∀a l,o=some (.U a l)->k a l=some r->G):G:=by
 cases o with
 |none=>exact fe h
 |some p=>
  cases p with
  |U a l=>exact c _ _ rfl h
  |_=>exact fe h
theorem iH {o:Option O} {k:List V->Option γ} (h:(match o with
  |some (.j l)=>k l
  |_=>none)=some r) (c:∀l,o=some (.j l)->k l=some r->G):G:=by
 cases o with
 |none=>exact fe h
 |some p=>
  cases p with
  |j l=>exact c _ rfl h
  |_=>exact fe h
theorem iJ {o:Option CD} {k:CD->Option γ} (h:(match o with
  |some v=>k v
  |none=>none)=some r) (c:∀v,o=some v->k v=some r->G):G:=by
 cases o with
 |none=>cases h
 |some p=>exact c _ rfl h
theorem iK {o:Option Bool} {k:Bool->Option γ} (h:(match o with
  |some v=>k v
  |none=>none)=some r) (c:∀v,o=some v->k v=some r->G):G:=by
 cases o with
 |none=>cases h
 |some p=>exact c _ rfl h
theorem iL {o:Option H} {k:H->Option γ} (h:(match o with
  |some v=>k v
  |none=>none)=some r) (c:∀v,o=some v->k v=some r->G):G:=by
 cases o with
 |none=>cases h
 |some p=>exact c _ rfl h
theorem iM {o:Option (List V)} {k:List V->Option γ} (h:(match o with
  |some v=>k v
  |none=>none)=some r) (c:∀v,o=some v->k v=some r->G):G:=by
 cases o with
 |none=>cases h
 |some p=>exact c _ rfl h
theorem iN {o:Option PyData} {k:PyData->Option γ} (h:(match o with
  |some v=>k v
  |none=>none)=some r) (c:∀v,o=some v->k v=some r->G):G:=by
 cases o with
 |none=>cases h
 |some p=>exact c _ rfl h
theorem iO {o:Option Nat} {k:Nat->Option γ} (h:(match o with
  |some v=>k v
  |none=>none)=some r) (c:∀v,o=some v->k v=some r->G):G:=by
 cases o with
 |none=>cases h
 |some p=>exact c _ rfl h
theorem iP {o:Option Nat} {k:Option γ} (h:(match o with
  |none=>k
  |some _=>none)=some r) (c:o=none->k=some r->G):G:=by
 cases o with
 |some _=>cases h
 |none=>exact c rfl h
theorem iQ {o:Option V} {k:Option γ} (h:(match o with
  |some _=>none
  |none=>k)=some r) (c:o=none->k=some r->G):G:=by
 cases o with
 |some _=>cases h
 |none=>exact c rfl h
theorem iR {o:Option Env} {k:Env->Option γ} (h:(match o with
  |some v=>k v
  |none=>none)=some r) (c:∀v,o=some v->k v=some r->G):G:=by
 cases o with
 |none=>cases h
 |some p=>exact c _ rfl h
@[elab_as_elim] theorem qG {α β δ:Type} {a a':α} {b b':β} {c c':δ} {P:α->β->δ->Prop} (h:some (a,(b,c))=some (a',(b',c'))) (k:P a b c):P a' b' c':=by
 cases h;exact k
@[elab_as_elim] theorem iS {α β:Type} {a c:α} {b d:β} {P:α->β->Prop} (h:some (a,b)=some (c,d)) (k:P a b):P c d:=by
 cases h;exact k
end
@[elab_as_elim] theorem CF {cs:List CD} {F:fb} {E:Env} {c:Nat} {es:List Ex} {μ μ':H} {v:V} {cd:CD} {P:V->H->Prop} (h:ev cs F E (.new c es) μ=some (v,μ')) (hC:hU cs c=some cd)
  (k:∀vs μ1 μ2,evs cs F E es μ=some (vs,μ1)->F cd.init (.g μ1.length::vs) (μ1++[.U c []])=some (.B,μ2)->P (.g μ1.length) μ2):P v μ':=iB h λvs μ1 v1 h=>by
 rw[hC]at h;dsimp only at h;cases e:F cd.init (.g μ1.length::vs) (μ1++[.U c []]) with
 |none=>rw[e]at h;exact fe h
 |some p=>
  obtain⟨u,μ2⟩:=p;rw[e]at h;cases u<;>first|exact iS h (k vs μ1 μ2 v1 e)|exact fe h
def iT {γ:Type} {r:γ} {G:Prop} {o:Option Bool} {k j:Option γ} (h:(match o with
  |some true=>k
  |some false=>j
  |none=>none)=some r) (c:o=some true->k=some r->G) (c':o=some false->j=some r->G):G:=by
 rcases o with _|_|_
 .cases h
 .exact c' rfl h
 .exact c rfl h
theorem iU {γ:Type} {r:γ} {G:Prop} {b:Bool} {k j:γ} (h:(match b with
  |true=>k
  |false=>j)=r) (c:b->k=r->G) (c':b=false->j=r->G):G:=by
 cases b with
 |true=>exact c rfl h
 |false=>exact c' rfl h
abbrev Sg:=Env×H
noncomputable def j4 (test:Sg->Option (Bool×H)) (turn:Sg->Option (Flow×Sg)):Nat->Sg->Option (Flow×Sg)
 |0,_=>none
 |n+1,s=>match test s with
  |none=>none
  |some (false,μ)=>some (.C,(s.1,μ))
  |some (true,μ)=>match turn (s.1,μ)with
   |none=>none
   |some (.L u,s')=>some (.L u,s')
   |some (_,s')=>j4 test turn n s'
def mg (μ:H) (o i v:V):Option H:=match o with
 |.g k=>match d' μ k with
  |some (.j l)=>(oS i).bind λi=>match decide (0<=i)&&decide (i<l.length)&&i3 i with
   |true=>some<|fc μ k<|.j<|xz l i.toNat v
   |false=>none
  |some (.dict l)=>(gq μ i l).bind λd=>match Nat.ble l.length gH with
   |true=>some<|fc μ k<|.dict<|jn d v l
   |false=>none
  |_=>none
 |_=>none
variable(cs:List CD)
mutual
noncomputable def exec (F:fb):St->Env->H->Option (Flow×Sg)
 |.H e,E,μ=>match ev cs F E e μ with
  |some (_,μ)=>some (.C,(E,μ))
  |none=>none
 |.G x e,E,μ=>match ev cs F E e μ with
  |some (v,μ)=>some (.C,(eP E x v,μ))
  |none=>none
 |.ak xs e,E,μ=>match ev cs F E e μ with
  |some (v,μ)=>match fi E false xs v with
   |some E=>some (.C,(E,μ))
   |none=>none
  |none=>none
 |.P o x e,E,μ=>match ev cs F E e μ with
  |some (v,μ)=>match ev cs F E o μ with
   |some (.g k,μ)=>match DW cs μ k x v with
    |some μ=>some (.C,(E,μ))
    |none=>none
   |_=>none
  |none=>none
 |.ae d k e,E,μ=>match ev cs F E e μ with
  |some (v,μ)=>match ev cs F E d μ with
   |some (o,μ)=>match ev cs F E k μ with
    |some (i,μ)=>match mg μ o i v with
     |some μ=>some (.C,(E,μ))
     |none=>none
    |none=>none
   |none=>none
  |none=>none
 |.az x o e,E,μ=>match ci E x with
  |some (.a i)=>match ev cs F E e μ with
   |some (.a j,μ)=>match o with
    |.R=>some (.C,(eP E x (.a (i+j)),μ))
    |_=>none
   |_=>none
  |_=>none
 |.M c a b,E,μ=>match ev cs F E c μ with
  |some (v,μ)=>match ix μ v with
   |some true=>execs F a E μ
   |some false=>execs F b E μ
   |none=>none
  |none=>none
 |.J single t k a b body,E,μ=>match ev cs F E a μ with
  |some (x,μ)=>match ev cs F E b μ with
   |some (y,μ)=>match im μ k x y with
    |some l=>fS (λs:Sg=>fZ k x (src μ x) s.2) (λv (s:Sg)=>match fi s.1 single t v with
      |none=>none
      |some E'=>execs F body E' s.2) l (E,μ)
    |none=>none
   |none=>none
  |none=>none
 |.ao c body,E,μ=>j4 (λs=>evC cs F s.1 (some c) s.2) (λs=>execs F body s.1 s.2) 80 (E,μ)
 |.L e,E,μ=>match ev cs F E e μ with
  |some (v,μ)=>some (.L v,(E,μ))
  |none=>none
 |.af,E,μ=>some (.af,(E,μ))
 |.aG b,E,μ=>execs F b E μ
 |.F,_,_=>none
noncomputable def execs (F:fb):List St->Env->H->Option (Flow×Sg)
 |[],E,μ=>some (.C,(E,μ))
 |s::r,E,μ=>match exec F s E μ with
  |some (.C,(E,μ))=>execs F r E μ
  |r=>r
end
noncomputable def ga:List FD->Nat->Option FD
 |[],_=>none
 |f::_,0=>some f
 |_::r,k+1=>ga r k
variable(fs:List FD)
def aP:Nat->fb
 |0,_,_,_=>none
 |d+1,f,vs,μ=>match ga fs f with
  |none=>none
  |some fd=>match l9 fd.ps vs with
   |none=>none
   |some E=>match execs cs (aP d) fd.body E μ with
    |some (.L v,(_,μ))=>some (v,μ)
    |some (.C,(_,μ))=>some (.B,μ)
    |_=>none
section
variable{cs:List CD} {fs:List FD} {F:fb} {E E':Env} {μ:H}
def zJ:ev cs F E (.y v) μ=some (v,μ):=rfl
def mY:ev cs F E (.u x) μ=match ci E x with
   |some v=>some (v,μ)
   |none=>none:=rfl
def Fz:ev cs F E (.attr e x) μ=match ev cs F E e μ with
   |some (.g k,μ)=>match d' μ k with
    |some (.U c fs)=>match ci fs x with
     |some v=>match hU cs c with
      |some cd=>match km cd.ms x with
       |none=>some (v,μ)
       |some _=>none
      |none=>none
     |none=>none
    |_=>none
   |_=>none:=rfl
def S5:ev cs F E (.D e i) μ=match ev cs F E e μ with
   |some (o,μ)=>match ev cs F E i μ with
    |some (j,μ)=>match f9 μ o j with
     |some v=>some (v,μ)
     |none=>none
    |none=>none
   |none=>none:=rfl
def CG:ev cs F E (.aq e lo hi) μ=match ev cs F E e μ with
   |some (o,μ)=>match ev cs F E lo μ with
    |some (a,μ)=>match ev cs F E hi μ with
     |some (b,μ)=>match qF μ o a b with
      |some v=>some (v,μ)
      |none=>none
     |none=>none
    |none=>none
   |none=>none:=rfl
def FA:ev cs F E (.A f as) μ=match evs cs F E as μ with
   |some (vs,μ)=>F f vs μ
   |none=>none:=rfl
def FC:ev cs F E (.Q o m as) μ=match ev cs F E o μ with
   |some (.g k,μ)=>match d' μ k with
    |some (.U c fs)=>match ci fs m with
     |some _=>none
     |none=>match hU cs c with
      |some cd=>match km cd.ms m with
       |some f=>match evs cs F E as μ with
        |some (vs,μ)=>F f (.g k::vs) μ
        |none=>none
       |none=>none
      |none=>none
    |_=>none
   |_=>none:=rfl
def S6:ev cs F E (.new c as) μ=match evs cs F E as μ with
   |some (vs,μ)=>match hU cs c with
    |some cd=>match F cd.init (.g μ.length::vs) (μ++[.U c []])with
     |some (.B,μ')=>some (.g μ.length,μ')
     |_=>none
    |none=>none
   |none=>none:=rfl
def rD:ev cs F E (.len e) μ=match ev cs F E e μ with
   |some (v,μ)=>match v with
    |.v l=>match Nat.ble l.length gH with
     |true=>some (.a l.length,μ)
     |false=>none
    |.w l=>match Nat.ble l.length gH with
     |true=>some (.a l.length,μ)
     |false=>none
    |.g k=>match d' μ k with
     |some (.j l)=>match Nat.ble l.length gH with
      |true=>some (.a l.length,μ)
      |false=>none
     |some (.dict l)=>match jJ l&&Nat.ble l.length gH with
      |true=>some (.a l.length,μ)
      |false=>none
     |_=>none
    |_=>none
   |none=>none:=rfl
def wh:ev cs F E (.aA e) μ=match ev cs F E e μ with
   |some (v,μ)=>match items μ v with
    |some l=>match Nat.ble l.length gH with
     |true=>some (.v l,μ)
     |false=>none
    |none=>none
   |none=>none:=rfl
def vw:ev cs F E (.am e) μ=match ev cs F E e μ with
   |some (v,μ)=>match mA μ v with
    |some v=>some (v,μ)
    |none=>none
   |none=>none:=rfl
def zK:ev cs F E (.Z o x) μ=match ev cs F E o μ with
   |some (.g k,μ)=>match wg μ k with
    |true=>match ev cs F E x μ with
     |some (v,μ)=>match kG μ k v with
      |some μ=>some (.B,μ)
      |none=>none
     |none=>none
    |false=>none
   |_=>none:=rfl
def FG:ev cs F E (.av d k z) μ=match ev cs F E d μ with
   |some (o,μ)=>match sS μ o with
    |true=>match ev cs F E k μ with
     |some (j,μ)=>match ev cs F E z μ with
      |some (u,μ)=>match o with
       |.ac l=>match j with
        |.a i=>some ((mc i l).getD u,μ)
        |_=>none
       |.g a=>match d' μ a with
        |some (.dict l)=>match gq μ j l with
         |some d=>some ((gf d l).getD u,μ)
         |none=>none
        |_=>none
       |_=>none
      |none=>none
     |none=>none
    |false=>none
   |none=>none:=rfl
def Kh:ev cs F E (.aF d k) μ=match ev cs F E d μ with
   |some (.g a,μ)=>match sS μ (.g a)with
    |true=>match ev cs F E k μ with
     |some (j,μ)=>match d' μ a with
      |some (.dict l)=>match j with
       |.a i=>match jJ l with
        |true=>match gf (.int i) l with
         |some v=>some (v,μ)
         |none=>match Nat.ble l.length gH with
          |true=>some (.g μ.length,fc μ a (.dict<|jn (.int i) (.g μ.length) l)++[.j []])
          |false=>none
        |false=>none
       |_=>none
      |_=>none
     |none=>none
    |false=>none
   |_=>none:=rfl
def zM:ev cs F E (.I o a b) μ=match ev cs F E a μ with
   |some (x,μ)=>match ev cs F E b μ with
    |some (y,μ)=>match mK μ o x y with
     |some v=>some (v,μ)
     |none=>none
    |none=>none
   |none=>none:=rfl
def S7:ev cs F E (.aC e) μ=match ev cs F E e μ with
   |some (.a i,μ)=>some (.a (-i),μ)
   |_=>none:=rfl
def S8:ev cs F E (.aD e) μ=match ev cs F E e μ with
   |some (v,μ)=>match ix μ v with
    |some b=>some (.O<|!b,μ)
    |none=>none
   |none=>none:=rfl
def Ki:ev cs F E (.E o a b) μ=match ev cs F E a μ with
   |some (x,μ)=>match ev cs F E b μ with
    |some (y,μ)=>match jt μ o x y with
     |some v=>some (.O v,μ)
     |none=>none
    |none=>none
   |none=>none:=rfl
def zO:ev cs F E (.Y t es) μ=evB cs F E t es μ:=rfl
def S9:ev cs F E (.au c a b) μ=match ev cs F E c μ with
   |some (v,μ)=>match ix μ v with
    |some true=>ev cs F E a μ
    |some false=>ev cs F E b μ
    |none=>none
   |none=>none:=rfl
def Kj:ev cs F E (.v es) μ=match evs cs F E es μ with
   |some (vs,μ)=>some (.v vs,μ)
   |none=>none:=rfl
def qH:ev cs F E (.N es) μ=match evs cs F E es μ with
   |some (vs,μ)=>some (.g μ.length,μ++[.j vs])
   |none=>none:=rfl
def ph:ev cs F E (.w es) μ=match evs cs F E es μ with
   |some (vs,μ)=>some (.w vs,μ)
   |none=>none:=rfl
def LM:ev cs F E (.X) μ=some (.g μ.length,μ++[.dict []]):=rfl
def Pm:ev cs F E (.ai single t k a b c e) μ=match ev cs F E a μ with
   |some (x,μ)=>match ev cs F E b μ with
    |some (y,μ)=>match im μ k x y with
     |some l=>match fS (λs=>fZ k x (src μ x) s) (λv (s:H)=>match fi E single t v with
       |none=>none
       |some E'=>match evC cs F E' c s with
        |none=>none
        |some (false,ν)=>some (.C,ν)
        |some (true,ν)=>match ev cs F E' e ν with
         |none=>none
         |some (u,ν)=>match kG ν μ.length u with
          |some ν=>some (.C,ν)
          |none=>none) l (μ++[.j []])with
      |some (_,ν)=>some (.g μ.length,ν)
      |none=>none
     |none=>none
    |none=>none
   |none=>none:=rfl
def lU:evs cs F E [] μ=some ([],μ):=rfl
def pi:evs cs F E (e::r) μ=match ev cs F E e μ with
   |some (v,μ)=>match evs cs F E r μ with
    |some (vs,μ)=>some (v::vs,μ)
    |none=>none
   |none=>none:=rfl
def zP:evC cs F E none μ=some (true,μ):=rfl
def Ta:evC cs F E (some c) μ=match ev cs F E c μ with
   |some (v,μ)=>match ix μ v with
    |some b=>some (b,μ)
    |none=>none
   |none=>none:=rfl
def FH:evB cs F E t [e] μ=ev cs F E e μ:=rfl
theorem nV:evB cs F E t (e::e'::r) μ=match ev cs F E e μ with
 |some (v,μ)=>match ix μ v with
  |some u=>match u==t with
   |true=>evB cs F E t (e'::r) μ
   |false=>some (v,μ)
  |none=>none
 |none=>none:=rfl
def LN:exec cs F (.H e) E μ=match ev cs F E e μ with
   |some (_,μ)=>some (.C,(E,μ))
   |none=>none:=rfl
def FJ:exec cs F (.G x e) E μ=match ev cs F E e μ with
   |some (v,μ)=>some (.C,(eP E x v,μ))
   |none=>none:=rfl
def ua:exec cs F (.ak xs e) E μ=match ev cs F E e μ with
   |some (v,μ)=>match fi E false xs v with
    |some E=>some (.C,(E,μ))
    |none=>none
   |none=>none:=rfl
def LO:exec cs F (.ae d k e) E μ=match ev cs F E e μ with
   |some (v,μ)=>match ev cs F E d μ with
    |some (o,μ)=>match ev cs F E k μ with
     |some (i,μ)=>match mg μ o i v with
      |some μ=>some (.C,(E,μ))
      |none=>none
     |none=>none
    |none=>none
   |none=>none:=rfl
def Pn:exec cs F (.az x o e) E μ=match ci E x with
   |some (.a i)=>match ev cs F E e μ with
    |some (.a j,μ)=>match o with
     |.R=>some (.C,(eP E x<|.a<|i+j,μ))
     |_=>none
    |_=>none
   |_=>none:=rfl
def FK:exec cs F (.M c a b) E μ=match ev cs F E c μ with
   |some (v,μ)=>match ix μ v with
    |some true=>execs cs F a E μ
    |some false=>execs cs F b E μ
    |none=>none
   |none=>none:=rfl
def CH:exec cs F (.J single t k a b body) E μ=match ev cs F E a μ with
   |some (x,μ)=>match ev cs F E b μ with
    |some (y,μ)=>match im μ k x y with
     |some l=>fS (λs:Sg=>fZ k x (src μ x) s.2) (λv (s:Sg)=>match fi s.1 single t v with
       |none=>none
       |some E'=>execs cs F body E' s.2) l (E,μ)
     |none=>none
    |none=>none
   |none=>none:=rfl
def FL:exec cs F (.ao c body) E μ=j4 (λs=>evC cs F s.1 (some c) s.2) (λs=>execs cs F body s.1 s.2) 80 (E,μ):=rfl
def Po:exec cs F (.L e) E μ=match ev cs F E e μ with
   |some (v,μ)=>some (.L v,(E,μ))
   |none=>none:=rfl
def LQ:exec cs F (.af) E μ=some (.af,(E,μ)):=rfl
def CJ:execs cs F [] E μ=some (.C,(E,μ)):=rfl
def i7:execs cs F (s::r) E μ=match exec cs F s E μ with
   |some (.C,(E,μ))=>execs cs F r E μ
   |r=>r:=rfl
def HS:aP cs fs (d+1) f vs μ=match ga fs f with
  |none=>none
  |some fd=>match l9 fd.ps vs with
   |none=>none
   |some E=>match execs cs (aP cs fs d) fd.body E μ with
    |some (.L v,(_,μ))=>some (v,μ)
    |some (.C,(_,μ))=>some (.B,μ)
    |_=>none:=rfl
def Pp:aP cs fs 0 f vs μ=none:=rfl
end
noncomputable def Wm:List Str:=[⟨⟨[114,111,119]⟩⟩,⟨⟨[84,79,75,69,78,95,66,65,83,69]⟩⟩,⟨⟨[99,111,100,101,100]⟩⟩,⟨⟨[116,97,98,108,101]⟩⟩,⟨⟨[112,97,105,114]⟩⟩,⟨⟨[67,79,68,69,68]⟩⟩,⟨⟨[116,97,103]⟩⟩,⟨⟨[110,97,109,101,100]⟩⟩,⟨⟨[110]⟩⟩,⟨⟨[116,111,107,101,110]⟩⟩,⟨⟨[112,108,97,99,101]⟩⟩,⟨⟨[83,79,82,84,69,68,95,66,89]⟩⟩,⟨⟨[116,115]⟩⟩,⟨⟨[114,111,119,115]⟩⟩,⟨⟨[116,101,120,116,115]⟩⟩,⟨⟨[111,102,102,115,101,116]⟩⟩,⟨⟨[103,101,116]⟩⟩,⟨⟨[98,108,111,98,115]⟩⟩,⟨⟨[116,111,108,100]⟩⟩,⟨⟨[84,66,95,69,86,69,78,84,77,65,80]⟩⟩,⟨⟨[84,66,95,80,82,79,80,69,82,84,89,77,65,80]⟩⟩,⟨⟨[115,101,101,110]⟩⟩,⟨⟨[110,117,109,98,101,114]⟩⟩,⟨⟨[99,111,108,117,109,110]⟩⟩,⟨⟨[67,79,76,85,77,78,83]⟩⟩,⟨⟨[67,83,95,67,79,68,69,68]⟩⟩,⟨⟨[115,111,114,116]⟩⟩,⟨⟨[76,73,83,84,83]⟩⟩,⟨⟨[67,83,95,82,79,87]⟩⟩,⟨⟨[109,97,121,95,110,111,110,101]⟩⟩,⟨⟨[77,65,89,95,66,69,95,78,79,78,69]⟩⟩,⟨⟨[99,111,117,110,116]⟩⟩,⟨⟨[111,116,104,101,114]⟩⟩,⟨⟨[102,105,114,115,116]⟩⟩,⟨⟨[101,110,100]⟩⟩,⟨⟨[101,110,99,108,111,115,101,100]⟩⟩,⟨⟨[84,66,95,78,69,83,84,69,68,67,76,65,83,83]⟩⟩,⟨⟨[84,66,95,84,89,80,69,68,69,70]⟩⟩,⟨⟨[107,101,121]⟩⟩,⟨⟨[84,66,95,84,89,80,69,82,69,70]⟩⟩,⟨⟨[84,66,95,70,73,69,76,68]⟩⟩,⟨⟨[84,66,95,77,69,84,72,79,68,68,69,70]⟩⟩,⟨⟨[84,66,95,80,82,79,80,69,82,84,89]⟩⟩,⟨⟨[84,66,95,69,86,69,78,84]⟩⟩,⟨⟨[108,105,115,116,115]⟩⟩,⟨⟨[110,97,109,101,95,112,108,97,99,101]⟩⟩,⟨⟨[115,105,103,95,112,108,97,99,101]⟩⟩,⟨⟨[115,105,103]⟩⟩,⟨⟨[84,66,95,77,69,84,72,79,68,83,69,77,65,78,84,73,67,83]⟩⟩,⟨⟨[67,68,95,72,65,83,83,69,77,65,78,84,73,67,83]⟩⟩,⟨⟨[101,118,101,110,116]⟩⟩,⟨⟨[77,83,95,65,68,68,79,78]⟩⟩,⟨⟨[77,83,95,82,69,77,79,86,69,79,78]⟩⟩,⟨⟨[109,101,97,110,105,110,103]⟩⟩,⟨⟨[77,83,95,83,69,84,84,69,82]⟩⟩,⟨⟨[77,83,95,71,69,84,84,69,82]⟩⟩,⟨⟨[109,97,112,115]⟩⟩,⟨⟨[84,66,95,77,69,84,72,79,68,73,77,80,76]⟩⟩,⟨⟨[67,68,95,77,69,84,72,79,68,68,69,70,79,82,82,69,70]⟩⟩,⟨⟨[111,117,116,101,114]⟩⟩,⟨⟨[97,116]⟩⟩,⟨⟨[115,116,101,112,115]⟩⟩,⟨⟨[115,101,108,102]⟩⟩,⟨⟨[105,110,100,101,120]⟩⟩,⟨⟨[100,101,112,116,104,115]⟩⟩,⟨⟨[119,101,105,103,104,116,115]⟩⟩,⟨⟨[111,112,101,110,115]⟩⟩,⟨⟨[80,82,73,77,95,69,78,68]⟩⟩,⟨⟨[82,95,80,82,73,77]⟩⟩,⟨⟨[107]⟩⟩,⟨⟨[102,111,117,110,100]⟩⟩,⟨⟨[100,101,112,116,104]⟩⟩,⟨⟨[119,101,105,103,104,116]⟩⟩,⟨⟨[111,112,101,110,101,100]⟩⟩,⟨⟨[82,95,86,65,82]⟩⟩,⟨⟨[82,95,77,86,65,82]⟩⟩,⟨⟨[108,101,118,101,108]⟩⟩,⟨⟨[105,110,110,101,114]⟩⟩,⟨⟨[68,69,69,80,69,83,84,95,75,73,78,68]⟩⟩,⟨⟨[72,69,65,86,73,69,83,84,95,75,73,78,68]⟩⟩,⟨⟨[82,95,67,76,65,83,83]⟩⟩,⟨⟨[82,95,86,65,76,85,69]⟩⟩,⟨⟨[82,95,65,82,82,65,89]⟩⟩,⟨⟨[107,116]⟩⟩,⟨⟨[82,95,82,65,87]⟩⟩,⟨⟨[84,73,68,95,80,82,73,77]⟩⟩,⟨⟨[97,114,103,115]⟩⟩,⟨⟨[97,114,103]⟩⟩,⟨⟨[116,105,100]⟩⟩,⟨⟨[112,117,116]⟩⟩,⟨⟨[80,82,73,77,95,84,73,68]⟩⟩,⟨⟨[122,101,114,111]⟩⟩,⟨⟨[118,97,108,117,101]⟩⟩,⟨⟨[115,116,111,114,101]⟩⟩,⟨⟨[97,115,109]⟩⟩,⟨⟨[117,115,101,114,115]⟩⟩,⟨⟨[103,117,105,100,115]⟩⟩,⟨⟨[99,111,100,101]⟩⟩,⟨⟨[116,111,107,101,110,115]⟩⟩,⟨⟨[116,105,100,115]⟩⟩,⟨⟨[116,121,112,101,95,114,111,119,115]⟩⟩,⟨⟨[102,105,101,108,100,95,114,111,119,115]⟩⟩,⟨⟨[109,101,116,104,111,100,95,114,111,119,115]⟩⟩,⟨⟨[97,115,109,95,114,101,102,115]⟩⟩,⟨⟨[116,121,112,101,95,114,101,102,115]⟩⟩,⟨⟨[115,112,101,99,115]⟩⟩,⟨⟨[109,101,109,98,101,114,115]⟩⟩,⟨⟨[109,101,116,104,111,100,95,115,112,101,99,115]⟩⟩,⟨⟨[108,111,99,97,108,115,95,115,105,103,115]⟩⟩,⟨⟨[114,118,97,115]⟩⟩,⟨⟨[116,114,101,101]⟩⟩,⟨⟨[110,97,109,101]⟩⟩,⟨⟨[102,108,97,103,115]⟩⟩,⟨⟨[98,97,115,101]⟩⟩,⟨⟨[112,97,114,97,109,115]⟩⟩,⟨⟨[105,102,97,99,101,115]⟩⟩,⟨⟨[118,97,114,105,97,110,99,101,115]⟩⟩,⟨⟨[98,111,117,110,100,115]⟩⟩,⟨⟨[119,111,114,100]⟩⟩,⟨⟨[102,105,101,108,100,115]⟩⟩,⟨⟨[109,101,116,104,111,100,115]⟩⟩,⟨⟨[99,99,116,111,114]⟩⟩,⟨⟨[117,110,100,101,114]⟩⟩,⟨⟨[105,109,112,108,115]⟩⟩,⟨⟨[112,114,111,112,115]⟩⟩,⟨⟨[101,118,101,110,116,115]⟩⟩,⟨⟨[102,105,110,97,108,105,115,101,114]⟩⟩,⟨⟨[104,111,109,101]⟩⟩,⟨⟨[109,105,100]⟩⟩,⟨⟨[111,119,110,101,114]⟩⟩,⟨⟨[97,99,99,101,115,115]⟩⟩,⟨⟨[114,101,116]⟩⟩,⟨⟨[110,103,101,110]⟩⟩,⟨⟨[103,110,97,109,101,115]⟩⟩,⟨⟨[103,98,111,117,110,100,115]⟩⟩,⟨⟨[112,110,97,109,101,115]⟩⟩,⟨⟨[112,102,108,97,103,115]⟩⟩,⟨⟨[98,111,100,121]⟩⟩,⟨⟨[110,97,116,105,118,101]⟩⟩,⟨⟨[116,121,112,101,115]⟩⟩,⟨⟨[102,105,101,108,100,115,95]⟩⟩,⟨⟨[110,97,109,101,115]⟩⟩,⟨⟨[97,115,109,115]⟩⟩,⟨⟨[101,110,116,114,121]⟩⟩,⟨⟨[111,117,116]⟩⟩,⟨⟨[115,104,101,108,108]⟩⟩,⟨⟨[83,95,73,70,65,67,69]⟩⟩,⟨⟨[83,95,67,76,65,83,83]⟩⟩,⟨⟨[77,70,95,67,84,79,82]⟩⟩,⟨⟨[77,70,95,67,67,84,79,82]⟩⟩,⟨⟨[77,70,95,83,80,69,67,73,65,76]⟩⟩,⟨⟨[116]⟩⟩,⟨⟨[109]⟩⟩,⟨⟨[86,79,73,68]⟩⟩,⟨⟨[77,70,95,83,84,65,84,73,67]⟩⟩,⟨⟨[112]⟩⟩,⟨⟨[83,95,83,84,82,85,67,84]⟩⟩,⟨⟨[83,95,69,78,85,77]⟩⟩,⟨⟨[112,97,105,114,115]⟩⟩,⟨⟨[111,119,110]⟩⟩,⟨⟨[116,104,101,105,114,115]⟩⟩,⟨⟨[102,105,100]⟩⟩,⟨⟨[97,100,100]⟩⟩,⟨⟨[84,66,95,65,83,83,69,77,66,76,89,82,69,70]⟩⟩,⟨⟨[115,99,111,112,101]⟩⟩,⟨⟨[67,68,95,82,69,83,79,76,85,84,73,79,78,83,67,79,80,69]⟩⟩,⟨⟨[80,82,73,77,95,69,76,69,77,69,78,84]⟩⟩,⟨⟨[107,115]⟩⟩,⟨⟨[115,116,121,108,101]⟩⟩,⟨⟨[83,73,71,95,72,65,83,84,72,73,83]⟩⟩,⟨⟨[83,71,95,77,69,84,72,79,68]⟩⟩,⟨⟨[98,108,111,98]⟩⟩,⟨⟨[112,97,114,101,110,116]⟩⟩,⟨⟨[67,68,95,77,69,77,66,69,82,82,69,70,80,65,82,69,78,84]⟩⟩,⟨⟨[84,66,95,77,69,77,66,69,82,82,69,70]⟩⟩,⟨⟨[100,101,99,108,97,114,101,100]⟩⟩,⟨⟨[84,89,80,69,95,66,73,84,83]⟩⟩,⟨⟨[105,110,116,101,114,110,97,108]⟩⟩,⟨⟨[84,70,95,73,78,84,69,82,78,65,76]⟩⟩,⟨⟨[84,65,95,78,69,83,84,69,68,80,85,66,76,73,67]⟩⟩,⟨⟨[84,65,95,80,85,66,76,73,67]⟩⟩,⟨⟨[67,68,95,84,89,80,69,68,69,70,79,82,82,69,70]⟩⟩,⟨⟨[98,111,100,121,95,109,105,100]⟩⟩,⟨⟨[111,114,100,101,114]⟩⟩,⟨⟨[98,105,116,115]⟩⟩,⟨⟨[107,105,110,100]⟩⟩,⟨⟨[97,100,100,101,114]⟩⟩,⟨⟨[114,101,109,111,118,101,114]⟩⟩,⟨⟨[112,114,111,112]⟩⟩,⟨⟨[103,101,116,116,101,114]⟩⟩,⟨⟨[115,101,116,116,101,114]⟩⟩,⟨⟨[105,110,100,101,120,95,107,105,110,100,115]⟩⟩,⟨⟨[83,73,71,95,80,82,79,80,69,82,84,89]⟩⟩,⟨⟨[97,99,99,101,115,115,111,114]⟩⟩,⟨⟨[83,71,95,80,82,79,80,69,82,84,89]⟩⟩,⟨⟨[115,99,114,105,112,116]⟩⟩,⟨⟨[118]⟩⟩,⟨⟨[106]⟩⟩,⟨⟨[119]⟩⟩,⟨⟨[111,110,101]⟩⟩,⟨⟨[116,119,111]⟩⟩,⟨⟨[107,101,121,115]⟩⟩,⟨⟨[112,108,97,110,115]⟩⟩,⟨⟨[115,105,110,103,108,101]⟩⟩,⟨⟨[101]⟩⟩,⟨⟨[100,101,99,108]⟩⟩,⟨⟨[116,117,114,110]⟩⟩,⟨⟨[100,101,99,108,115]⟩⟩,⟨⟨[99,111,114,101]⟩⟩,⟨⟨[104,111,109,101,115]⟩⟩,⟨⟨[109,105,100,115]⟩⟩,⟨⟨[116,119,105,99,101]⟩⟩,⟨⟨[111,116,104,101,114,115]⟩⟩,⟨⟨[95,95,105,110,105,116,95,95]⟩⟩]
noncomputable def Al:V:=.ac [(0,.v [.a 2,.v [.a 2,.a 1,.a 27]]),(1,.v [.a 2,.v [.a 4,.a 8,.a 23]]),(2,.v [.a 3,.v [.a 2,.a 1,.a (-1),.a 6,.a 27]]),(3,.v [.a 1,.v [.a 20,.a 23]]),(4,.v [.a 1,.v [.a 6,.a 10]]),(5,.v [.a 2,.v [.a 0,.a (-1),.a 35,.a 1]]),(6,.v [.a 1,.v [.a 2,.a 6]])]
noncomputable def sV:V:=.ac [(9,.v [.a 0]),(11,.v [.a 1]),(24,.v [.a 2]),(25,.v [.a 0]),(41,.v [.a 0]),(42,.v [.a 2,.a 0]),(44,.v [.a 0])]
noncomputable def nF:V:=.ac [(0,.v [.v [.z [71,101,110,101,114,97,116,105,111,110],.a 1],.v [.z [78,97,109,101],.a 4],.v [.z [77,118,105,100],.a 6],.v [.z [69,110,99,73,100],.a 6],.v [.z [69,110,99,66,97,115,101,73,100],.a 6]]),(1,.v [.v [.z [82,101,115,111,108,117,116,105,111,110,83,99,111,112,101],.a 517],.v [.z [84,121,112,101,78,97,109,101],.a 4],.v [.z [84,121,112,101,78,97,109,101,115,112,97,99,101],.a 4]]),(2,.v [.v [.z [70,108,97,103,115],.a 2],.v [.z [84,121,112,101,78,97,109,101],.a 4],.v [.z [84,121,112,101,78,97,109,101,115,112,97,99,101],.a 4],.v [.z [69,120,116,101,110,100,115],.a 512],.v [.z [70,105,101,108,100,76,105,115,116],.a 260],.v [.z [77,101,116,104,111,100,76,105,115,116],.a 262]]),(4,.v [.v [.z [70,108,97,103,115],.a 1],.v [.z [78,97,109,101],.a 4],.v [.z [83,105,103,110,97,116,117,114,101],.a 5]]),(6,.v [.v [.z [82,86,65],.a 2],.v [.z [73,109,112,108,70,108,97,103,115],.a 1],.v [.z [70,108,97,103,115],.a 1],.v [.z [78,97,109,101],.a 4],.v [.z [83,105,103,110,97,116,117,114,101],.a 5],.v [.z [80,97,114,97,109,76,105,115,116],.a 264]]),(8,.v [.v [.z [70,108,97,103,115],.a 1],.v [.z [83,101,113,117,101,110,99,101],.a 1],.v [.z [78,97,109,101],.a 4]]),(9,.v [.v [.z [67,108,97,115,115],.a 258],.v [.z [73,110,116,101,114,102,97,99,101],.a 512]]),(10,.v [.v [.z [67,108,97,115,115],.a 514],.v [.z [78,97,109,101],.a 4],.v [.z [83,105,103,110,97,116,117,114,101],.a 5]]),(11,.v [.v [.z [84,121,112,101],.a 3],.v [.z [80,97,114,101,110,116],.a 513],.v [.z [86,97,108,117,101],.a 5]]),(17,.v [.v [.z [83,105,103,110,97,116,117,114,101],.a 5]]),(18,.v [.v [.z [80,97,114,101,110,116],.a 258],.v [.z [69,118,101,110,116,76,105,115,116],.a 276]]),(20,.v [.v [.z [69,118,101,110,116,70,108,97,103,115],.a 1],.v [.z [78,97,109,101],.a 4],.v [.z [69,118,101,110,116,84,121,112,101],.a 512]]),(21,.v [.v [.z [80,97,114,101,110,116],.a 258],.v [.z [80,114,111,112,101,114,116,121,76,105,115,116],.a 279]]),(23,.v [.v [.z [70,108,97,103,115],.a 1],.v [.z [78,97,109,101],.a 4],.v [.z [84,121,112,101],.a 5]]),(24,.v [.v [.z [83,101,109,97,110,116,105,99,115],.a 1],.v [.z [77,101,116,104,111,100],.a 262],.v [.z [65,115,115,111,99,105,97,116,105,111,110],.a 515]]),(25,.v [.v [.z [67,108,97,115,115],.a 258],.v [.z [77,101,116,104,111,100,66,111,100,121],.a 516],.v [.z [77,101,116,104,111,100,68,101,99,108,97,114,97,116,105,111,110],.a 516]]),(27,.v [.v [.z [83,105,103,110,97,116,117,114,101],.a 5]]),(32,.v [.v [.z [72,97,115,104,65,108,103,73,100],.a 2],.v [.z [77,97,106,111,114,86,101,114,115,105,111,110],.a 1],.v [.z [77,105,110,111,114,86,101,114,115,105,111,110],.a 1],.v [.z [66,117,105,108,100,78,117,109,98,101,114],.a 1],.v [.z [82,101,118,105,115,105,111,110,78,117,109,98,101,114],.a 1],.v [.z [70,108,97,103,115],.a 2],.v [.z [80,117,98,108,105,99,75,101,121],.a 5],.v [.z [78,97,109,101],.a 4],.v [.z [67,117,108,116,117,114,101],.a 4]]),(35,.v [.v [.z [77,97,106,111,114,86,101,114,115,105,111,110],.a 1],.v [.z [77,105,110,111,114,86,101,114,115,105,111,110],.a 1],.v [.z [66,117,105,108,100,78,117,109,98,101,114],.a 1],.v [.z [82,101,118,105,115,105,111,110,78,117,109,98,101,114],.a 1],.v [.z [70,108,97,103,115],.a 2],.v [.z [80,117,98,108,105,99,75,101,121,79,114,84,111,107,101,110],.a 5],.v [.z [78,97,109,101],.a 4],.v [.z [67,117,108,116,117,114,101],.a 4],.v [.z [72,97,115,104,86,97,108,117,101],.a 5]]),(41,.v [.v [.z [78,101,115,116,101,100,67,108,97,115,115],.a 258],.v [.z [69,110,99,108,111,115,105,110,103,67,108,97,115,115],.a 258]]),(42,.v [.v [.z [78,117,109,98,101,114],.a 1],.v [.z [70,108,97,103,115],.a 1],.v [.z [79,119,110,101,114],.a 518],.v [.z [78,97,109,101],.a 4]]),(43,.v [.v [.z [77,101,116,104,111,100],.a 516],.v [.z [73,110,115,116,97,110,116,105,97,116,105,111,110],.a 5]]),(44,.v [.v [.z [79,119,110,101,114],.a 298],.v [.z [67,111,110,115,116,114,97,105,110,116],.a 512]])]
noncomputable def HT:V:=.v [.v [.a 2,.a 4,.a 4],.v [.a 2,.a 5,.a 6],.v [.a 6,.a 5,.a 8],.v [.a 18,.a 1,.a 20],.v [.a 21,.a 1,.a 23]]
noncomputable def mB:V:=.v [.v [.a 2,.z [69,120,116,101,110,100,115]],.v [.a 20,.z [69,118,101,110,116,84,121,112,101]]]
noncomputable def uT:V:=.ac [(20,.a 0),(9,.a 1),(10,.a 2),(11,.a 3),(12,.a 4),(13,.a 5),(14,.a 6),(15,.a 7),(16,.a 8),(17,.a 9),(18,.a 10),(19,.a 11),(1,.a 12),(4,.a 13)]
noncomputable def Ce:V:=.ac [(0,.a 20),(1,.a 9),(2,.a 10),(3,.a 11),(4,.a 12),(5,.a 13),(6,.a 14),(7,.a 15),(8,.a 16),(9,.a 17),(10,.a 18),(11,.a 19),(12,.a 1),(13,.a 4)]
noncomputable def p9:V:=.ac [(0,.a 1),(1,.a 2),(2,.a 3),(3,.a 4),(4,.a 5),(5,.a 6),(6,.a 7),(7,.a 8),(8,.a 9),(9,.a 10),(10,.a 11),(11,.a 24),(12,.a 28),(13,.a 14)]
noncomputable def Am:V:=.v [.v [.a 1,.a 128],.v [.a 2,.a 256],.v [.a 4,.a 1048576],.v [.a 16,.a 1024]]
noncomputable abbrev vX:=Ex.u
noncomputable abbrev nX (i:Int):=Ex.y<|.a i
noncomputable abbrev oX:=Ex.y .B
noncomputable abbrev gX (k:Nat) (i:Int):=Ex.S k<|.a i
noncomputable abbrev aX (k x:Nat):=Ex.attr (.u k) x
noncomputable abbrev bX (k x y:Nat):=Ex.attr (.attr (.u k) x) y
noncomputable abbrev sX (k:Nat) (i:Int):=Ex.D (.u k)<|.y<|.a i
def DX:FD:=⟨205,sg 84,[0],[.M (.Y false [.E .lt (vX 0)<|nX 0,.E .ge (vX 0)<|gX 1 16777216]) [.F] []]⟩
def An:FD:=⟨212,sg 85,[2,3,0],[.H<|.A 0 [vX 0],.G 4<|.D (.S 5 Al)<|vX 2,.J false [6,7] 1 (sX 4 1) oX [.M (.Y true [.E .eq (vX 7)<|vX 3,.E .ge (vX 3)<|nX 0]) [.L<|.I .aL (.I .aN (vX 0)<|sX 4 0)<|vX 6] []],.F]⟩
def zp:FD:=⟨219,sg 86,[2,8],[.G 4<|.D (.S 5 Al)<|vX 2,.G 6<|.I .aB (vX 8)<|.I .D (.I .aN (nX 1)<|sX 4 0)<|nX 1,.M (.Y false [.E .ge (vX 6)<|.len<|sX 4 1,.E .lt (.D (sX 4 1)<|vX 6)<|nX 0]) [.F] [],.L<|.v [.D (sX 4 1)<|vX 6,.I .aO (vX 8)<|sX 4 0]]⟩
def Ao:FD:=⟨226,sg 87,[3,0],[.H<|.A 0 [vX 0],.L<|.I .R (.I .aw (vX 3)<|gX 1 16777216)<|vX 0]⟩
def zq:FD:=⟨233,sg 88,[9],[.L<|.v [.I .W (vX 9)<|gX 1 16777216,.I .ag (vX 9)<|gX 1 16777216]]⟩
def wi:FD:=⟨238,sg 89,[3,0],[.L<|.aA<|.ai true [10] 0 (.D (.S 11 sV)<|vX 3) oX none<|.D (vX 0)<|vX 10]⟩
def yj:FD:=⟨254,sg 93,[12,3],[.L<|.av (aX 12 13) (vX 3)<|.w []]⟩
def sW:FD:=⟨261,sg 94,[14,15],[.L<|.Q (vX 14) 16 [vX 15]]⟩
def sY:FD:=⟨268,sg 95,[17,15],[.L<|.aA<|.Q (vX 17) 16 [vX 15]]⟩
def uU:FD:=⟨275,sg 96,[12,18],[.J true [3] 0 (.v [gX 19 18,gX 20 21]) oX [.G 21 .X,.J false [22,0] 1 (.A 6 [vX 12,vX 3]) oX [.M (.E .V (sX 0 0)<|vX 21) [.F] [],.ae (vX 21) (sX 0 0)<|nX 1]]]⟩
def uV:FD:=⟨282,sg 97,[12,18],[.J true [3] 0 (.am<|aX 12 13) oX [.J false [10,23] 1 (.D (.S 24 nF)<|vX 3) oX [.M (.E .ge (sX 23 1)<|gX 25 512) [.J false [22,0] 1 (.A 6 [vX 12,vX 3]) oX [.M (.E .is (.A 11 [sX 23 1,.D (vX 0)<|vX 10]) oX) [.F] []]] []]]]⟩
def Ap:FD:=⟨289,sg 98,[26,8],[.aG [.L<|.A 2 [.I .D (vX 26)<|gX 25 512,vX 8]]]⟩
def vx:FD:=⟨296,sg 99,[3,10],[.J true [0] 0 (.S 27 HT) oX [.M (.Y true [.E .eq (sX 0 0)<|vX 3,.E .eq (sX 0 1)<|vX 10]) [.L<|.y<|.O true] []],.L<|.y<|.O false]⟩
def qI:FD:=⟨303,sg 100,[12,18],[.J true [3] 0 (.am<|aX 12 13) oX [.J false [10,23] 1 (.D (.S 24 nF)<|vX 3) oX [.M (.Y false [.E .lt (sX 23 1)<|gX 28 256,.A 12 [vX 3,vX 10]]) [.af] [],.G 29<|.E .V (.v [vX 3,sX 23 0])<|.S 30 mB,.J false [22,0] 1 (.A 6 [vX 12,vX 3]) oX [.M (.aD<|.A 14 [vX 12,sX 23 1,.D (vX 0)<|vX 10,vX 29]) [.F] []]]]]⟩
def uW:FD:=⟨310,sg 101,[12,26,8,29],[.M (.E .lt (vX 26)<|gX 25 512) [.L<|.Y true [.E .ge (vX 8)<|nX 1,.E .le (vX 8)<|.Q (vX 12) 31 [.I .D (vX 26)<|gX 28 256]]] [],.G 4<|.A 11 [vX 26,vX 8],.M (.E .is (vX 4) oX) [.F] [],.M (.E .eq (sX 4 1)<|nX 0) [.L<|vX 29] [],.L<|.Y true [.E .ge (sX 4 1)<|nX 1,.E .le (sX 4 1)<|.Q (vX 12) 31 [sX 4 0]]]⟩
def sZ:FD:=⟨317,sg 102,[12,3,10,32,22],[.G 33<|.D (.Q (vX 12) 16 [vX 3,vX 22])<|vX 10,.M (.E .lt (vX 22)<|.Q (vX 12) 31 [vX 3]) [.L<|.v [vX 33,.D (.Q (vX 12) 16 [vX 3,.I .R (vX 22)<|nX 1])<|vX 10]] [],.L<|.v [vX 33,.I .R (.Q (vX 12) 31 [vX 32])<|nX 1]]⟩
def uX:FD:=⟨324,sg 103,[12,3,10,32,8],[.J true [22] 3 (nX 1) (.I .R (.Q (vX 12) 31 [vX 3])<|nX 1) [.ak [33,34]<|.A 15 [vX 12,vX 3,vX 10,vX 32,vX 22],.M (.Y true [.E .ge (vX 8)<|vX 33,.E .lt (vX 8)<|vX 34]) [.L<|vX 22] []],.F]⟩
def pB:FD:=⟨331,sg 104,[12,14,17,18],[.G 35 .X,.J true [0] 0 (.A 6 [vX 12,gX 36 41]) oX [.ae (vX 35) (sX 0 0)<|sX 0 1],.G 21 .X,.J false [22,0] 1 (.A 6 [vX 12,gX 37 2]) oX [.G 38<|.v [.av (vX 35) (.I .R (vX 22)<|nX 1)<|nX 0,.A 7 [vX 14,sX 0 2],.A 7 [vX 14,sX 0 1]],.M (.E .V (vX 38)<|vX 21) [.H<|.Z (vX 18)<|.v [gX 37 2,.I .R (vX 22)<|nX 1,.y<|.z [116,119,105,99,101]]] [],.ae (vX 21) (vX 38)<|nX 1],.G 21 .X,.J false [22,0] 1 (.A 6 [vX 12,gX 39 1]) oX [.G 38<|.v [sX 0 0,.A 7 [vX 14,sX 0 2],.A 7 [vX 14,sX 0 1]],.M (.E .V (vX 38)<|vX 21) [.F] [],.ae (vX 21) (vX 38)<|nX 1],.H<|.A 18 [vX 12,vX 14,vX 17,vX 18,.v [gX 37 2,nX 4,gX 40 4],nX 1,nX 2],.H<|.A 18 [vX 12,vX 14,vX 17,vX 18,.v [gX 37 2,nX 5,gX 41 6],nX 3,nX 4],.H<|.A 18 [vX 12,vX 14,vX 17,vX 18,.v [gX 20 21,nX 1,gX 42 23],nX 1,nX 2],.H<|.A 18 [vX 12,vX 14,vX 17,vX 18,.v [gX 19 18,nX 1,gX 43 20],nX 1,.aC<|nX 1]]⟩
def qa:FD:=⟨338,sg 105,[12,14,17,18,44,45,46],[.ak [3,10,32]<|vX 44,.J true [22] 3 (nX 1) (.I .R (.Q (vX 12) 31 [vX 3])<|nX 1) [.ak [33,34]<|.A 15 [vX 12,vX 3,vX 10,vX 32,vX 22],.G 21 .X,.J true [8] 3 (vX 33) (vX 34) [.G 0<|.Q (vX 12) 16 [vX 32,vX 8],.G 47<|.au (.E .ge (vX 46)<|nX 0) (.A 8 [vX 17,.D (vX 0)<|vX 46])<|.v [],.G 38<|.v [.A 7 [vX 14,.D (vX 0)<|vX 45],vX 47],.M (.E .V (vX 38)<|vX 21) [.H<|.Z (vX 18)<|.v [vX 32,vX 8,.y<|.z [116,119,105,99,101]]] [],.ae (vX 21) (vX 38)<|nX 1]]]⟩
def pC:FD:=⟨345,sg 106,[12,18],[.G 21 .X,.J false [22,0] 1 (.A 6 [vX 12,gX 48 24]) oX [.ak [3,8]<|.A 2 [gX 49 3,sX 0 2],.M (.Y false [.aD<|.A 20 [sX 0 0,vX 3],.E .V (.v [sX 0 0,sX 0 2])<|vX 21]) [.F] [.M (.E .ne (.A 16 [vX 12,gX 37 2,nX 5,gX 41 6,sX 0 1])<|.A 21 [vX 12,vX 3,vX 8]) [.H<|.Z (vX 18)<|.v [gX 48 24,.I .R (vX 22)<|nX 1,.y<|.z [115,101,109,97,110,116,105,99,115]]] []],.ae (vX 21) (.v [sX 0 0,sX 0 2])<|nX 1],.J true [8] 3 (nX 1) (.I .R (.Q (vX 12) 31 [gX 43 20])<|nX 1) [.G 50<|.A 1 [gX 49 3,gX 43 20,vX 8],.M (.Y false [.E .ab (.v [gX 51 8,vX 50])<|vX 21,.E .ab (.v [gX 52 16,vX 50])<|vX 21]) [.H<|.Z (vX 18)<|.v [gX 43 20,vX 8,.y<|.z [115,101,109,97,110,116,105,99,115]]] []]]⟩
def wj:FD:=⟨352,sg 107,[53,3],[.M (.E .eq (vX 3)<|gX 43 20) [.L<|.Y false [.E .eq (vX 53)<|gX 51 8,.E .eq (vX 53)<|gX 52 16]] [],.L<|.Y false [.E .eq (vX 53)<|gX 54 1,.E .eq (vX 53)<|gX 55 2]]⟩
def oH:FD:=⟨359,sg 108,[12,3,8],[.G 56<|.au (.E .eq (vX 3)<|gX 43 20) (gX 19 18)<|gX 20 21,.G 22<|.A 16 [vX 12,vX 56,nX 1,vX 3,vX 8],.M (.E .eq (vX 22)<|nX 0) [.F] [],.L<|.D (.Q (vX 12) 16 [vX 56,vX 22])<|nX 0]⟩
def s6:FD:=⟨366,sg 109,[12,18],[.G 21 .X,.J false [22,0] 1 (.A 6 [vX 12,gX 57 25]) oX [.ak [3,8]<|.A 2 [gX 58 4,sX 0 1],.M (.Y false [.E .ne (vX 3)<|gX 41 6,.E .ne (.A 16 [vX 12,gX 37 2,nX 5,gX 41 6,vX 8])<|sX 0 0]) [.H<|.Z (vX 18)<|.v [gX 57 25,.I .R (vX 22)<|nX 1,.y<|.z [105,109,112,108]]] [.M (.E .V (.v [sX 0 0,sX 0 2])<|vX 21) [.H<|.Z (vX 18)<|.v [gX 57 25,.I .R (vX 22)<|nX 1,.y<|.z [105,109,112,108]]] []],.ae (vX 21) (.v [sX 0 0,sX 0 2])<|nX 1]]⟩
def oT:FD:=⟨373,sg 110,[12,18],[.G 59 .X,.J false [22,0] 1 (.A 6 [vX 12,gX 36 41]) oX [.M (.E .V (sX 0 0)<|vX 59) [.F] [.ae (vX 59) (sX 0 0)<|sX 0 1]],.J false [22,0] 1 (.A 6 [vX 12,gX 36 41]) oX [.G 60<|sX 0 1,.G 61<|nX 0,.ao (.Y true [.E .V (vX 60)<|vX 59,.E .ne (vX 60)<|sX 0 0,.E .le (vX 61)<|.len<|vX 59]) [.G 60<|.D (vX 59)<|vX 60,.az 61 .R<|nX 1],.M (.E .eq (vX 60)<|sX 0 0) [.F] []]]⟩
def rE:FD:=⟨389,ms 144 0,[62],[.P (vX 62) 13<|.N [],.P (vX 62) 63 .X,.P (vX 62) 64<|.N [],.P (vX 62) 65<|.N [],.P (vX 62) 66<|.N [],.J true [22] 2 (gX 67 16) oX [.G 0<|.v [gX 68 1,vX 22],.H<|.Z (aX 62 13)<|vX 0,.ae (aX 62 63) (vX 0)<|vX 22,.H<|.Z (aX 62 64)<|nX 1,.H<|.Z (aX 62 65)<|nX 1,.H<|.Z (aX 62 66)<|nX 0]]⟩
def wl:FD:=⟨396,ms 144 1,[62,69],[.M (.Y false [.E .lt (vX 69)<|nX 0,.E .ge (vX 69)<|.len<|aX 62 13]) [.F] [],.L<|.D (aX 62 13)<|vX 69]⟩
def wm:FD:=⟨403,ms 144 2,[62,0],[.G 70<|.av (aX 62 63) (vX 0)<|.aC<|nX 1,.M (.E .ge (vX 70)<|nX 0) [.F] [],.H<|.A 30 [vX 62,vX 0],.G 71<|nX 1,.G 72<|nX 1,.G 73<|nX 0,.M (.Y false [.E .eq (sX 0 0)<|gX 74 6,.E .eq (sX 0 0)<|gX 75 7]) [.F] [],.G 76<|.A 28 [sX 0 0],.J true [77] 0 (.A 27 [vX 0]) oX [.F,.F,.F],.M (.E .gt (vX 71)<|gX 78 24) [.F] [],.M (.E .gt (vX 72)<|gX 79 4096) [.F] [],.G 69<|.len<|aX 62 13,.H<|.Z (aX 62 13)<|vX 0,.ae (aX 62 63) (vX 0)<|vX 69,.H<|.Z (aX 62 64)<|vX 71,.H<|.Z (aX 62 65)<|vX 72,.H<|.Z (aX 62 66)<|vX 73,.L<|vX 69]⟩
def zr:FD:=⟨417,sg 145,[0],[.G 26<|sX 0 0,.M (.Y false [.E .eq (vX 26)<|gX 80 2,.E .eq (vX 26)<|gX 81 3]) [.L<|sX 0 2] [],.F,.F,.F]⟩
def Cf:FD:=⟨424,sg 146,[26],[.M (.Y false [.E .eq (vX 26)<|gX 80 2,.E .eq (vX 26)<|gX 81 3,.E .eq (vX 26)<|gX 82 4]) [.L<|nX 1] [],.F]⟩
def Aq:FD:=⟨431,sg 147,[26],[.M (.Y false [.E .eq (vX 26)<|gX 80 2,.E .eq (vX 26)<|gX 81 3]) [.L<|nX 3] [],.F,.F]⟩
def vy:FD:=⟨438,sg 148,[83,0],[.M (.Y false [.E .eq (.len<|vX 0)<|nX 0,.E .le (sX 0 0)<|gX 68 1,.E .gt (sX 0 0)<|gX 84 11]) [.F] [],.G 26<|sX 0 0,.M (.E .ne (.len<|vX 0)<|.A 29 [vX 26]) [.F] [],.J true [77] 0 (.A 27 [vX 0]) oX [.F],.M (.Y false [.E .eq (vX 26)<|gX 80 2,.E .eq (vX 26)<|gX 81 3]) [.H<|.A 31 [vX 83,vX 0]] [.F]]⟩
def zs:FD:=⟨445,sg 149,[83,0],[.M (.Y false [.E .le (sX 0 1)<|nX 0,.E .V (sX 0 1)<|.S 85 uT]) [.F] [],.H<|.A 32 [vX 83,sX 0 2]]⟩
def Ar:FD:=⟨452,sg 150,[83,86],[.J true [87] 0 (vX 86) oX [.F]]⟩
def As:FD:=⟨466,sg 152,[83,88,86],[.M (.E .V (vX 88)<|.S 85 uT) [.F] [],.L<|.Q (vX 83) 89 [.v [gX 80 2,vX 88,vX 86]]]⟩
def Cg:FD:=⟨480,sg 154,[83,69],[.L<|.D (.Q (vX 83) 0 [vX 69])<|nX 0]⟩
def HU:FD:=⟨487,sg 155,[83,69],[.G 0<|.Q (vX 83) 0 [vX 69],.M (.Y false [.E .eq (sX 0 0)<|gX 80 2,.E .eq (sX 0 0)<|gX 81 3]) [.L<|sX 0 1] [],.M (.E .eq (sX 0 0)<|gX 68 1) [.L<|.av (.S 90 Ce) (vX 69)<|nX 0] [],.F,.F]⟩
def FM:FD:=⟨494,sg 156,[83,69],[.G 0<|.Q (vX 83) 0 [vX 69],.M (.Y false [.E .eq (sX 0 0)<|gX 80 2,.E .eq (sX 0 0)<|gX 81 3]) [.L<|sX 0 2] [],.F]⟩
def rF:FD:=⟨522,ms 163 0,[62,91],[.P (vX 62) 13<|.N [vX 91]]⟩
def qb:FD:=⟨529,ms 163 1,[62,92],[.J true [10] 2 (.len<|aX 62 13) oX [.M (.E .eq (.D (aX 62 13)<|vX 10)<|vX 92) [.L<|vX 10] []],.H<|.Z (aX 62 13)<|vX 92,.L<|.I .D (.len<|aX 62 13)<|nX 1]⟩
def qc:FD:=⟨536,ms 163 2,[62,10],[.M (.Y false [.E .lt (vX 10)<|nX 0,.E .ge (vX 10)<|.len<|aX 62 13]) [.F] [],.L<|.D (aX 62 13)<|vX 10]⟩
def qy:FD:=⟨557,ms 164 0,[62],[.P (vX 62) 13 .X]⟩
def oW:FD:=⟨564,ms 164 1,[62,3,0],[.H<|.Z (.aF (aX 62 13)<|vX 3)<|vX 0,.L<|.len<|.D (aX 62 13)<|vX 3]⟩
def oY:FD:=⟨571,ms 164 2,[62,3,8],[.M (.Y false [.E .lt (vX 8)<|nX 1,.E .gt (vX 8)<|.Q (vX 62) 31 [vX 3]]) [.F] [],.L<|.D (.D (aX 62 13)<|vX 3)<|.I .D (vX 8)<|nX 1]⟩
def nS:FD:=⟨578,ms 164 3,[62,3],[.L<|.len<|.av (aX 62 13) (vX 3)<|.w []]⟩
def vz:FD:=⟨599,ms 165 0,[62,93,94],[.P (vX 62) 93<|vX 93,.P (vX 62) 94<|vX 94,.P (vX 62) 12<|.new 2 [],.P (vX 62) 14<|.new 1 [.y<|.z []],.P (vX 62) 95<|.new 1 [.y<|.z []],.P (vX 62) 96<|.new 1 [.y .ah],.P (vX 62) 17<|.new 1 [.y .ah],.P (vX 62) 97 .an,.P (vX 62) 98 oX,.P (vX 62) 99<|.N [],.P (vX 62) 100 .X,.P (vX 62) 101 .X,.P (vX 62) 102 .X,.P (vX 62) 103 .X,.P (vX 62) 104 .X,.P (vX 62) 105 .X,.P (vX 62) 106 .X,.P (vX 62) 107 .X,.P (vX 62) 108 .X,.P (vX 62) 109 .X]⟩
def uY:FD:=⟨606,ms 165 1,[62,26,110],[.L<|.Q (aX 62 17) 89 [vX 110]]⟩
def s7:FD:=⟨627,ms 188 0,[62,88,111,26,112,113,114,94],[.P (vX 62) 88<|vX 88,.P (vX 62) 111<|vX 111,.P (vX 62) 26<|vX 26,.P (vX 62) 112<|vX 112,.P (vX 62) 113<|vX 113,.P (vX 62) 115<|.N [],.P (vX 62) 114<|.N [],.P (vX 62) 116<|.N [],.P (vX 62) 117<|.N [],.J true [118] 0 (vX 114) oX [.F,.F,.F],.P (vX 62) 119<|.N [],.P (vX 62) 120<|.N [],.P (vX 62) 94<|vX 94,.P (vX 62) 121<|nX 0,.P (vX 62) 122<|.aC<|nX 1,.P (vX 62) 123<|.N [],.P (vX 62) 124<|.N [],.P (vX 62) 125<|.N [],.P (vX 62) 126<|nX 0,.P (vX 62) 127<|nX 0]⟩
def rG:FD:=⟨648,ms 189 0,[62,128,129,111,130,112,131,114],[.P (vX 62) 128<|vX 128,.P (vX 62) 129<|vX 129,.P (vX 62) 111<|vX 111,.P (vX 62) 130<|vX 130,.P (vX 62) 112<|vX 112,.P (vX 62) 132<|nX 0,.P (vX 62) 133<|.N [],.P (vX 62) 134<|.N [],.P (vX 62) 131<|vX 131,.P (vX 62) 114<|.aA<|vX 114,.P (vX 62) 135<|.A 49 [.len<|vX 114],.P (vX 62) 136<|.I .aw (.v [nX 0])<|.len<|vX 114,.P (vX 62) 137 oX,.P (vX 62) 138<|nX 0]⟩
def vA:FD:=⟨669,ms 190 0,[62],[.P (vX 62) 83<|.new 0 [],.P (vX 62) 139<|.N [oX],.P (vX 62) 140<|.N [oX],.P (vX 62) 120<|.N [oX],.P (vX 62) 141 .X,.P (vX 62) 142<|.N [],.P (vX 62) 143<|nX 0]⟩
def zt:FD:=⟨683,sg 191,[31],[.G 144<|.N [],.J true [10] 2 (vX 31) oX [.H<|.Z (vX 144)<|.I .R (.y<|.z [112])<|.aJ<|vX 10],.L<|.aA<|vX 144]⟩
def Ch:FD:=⟨690,sg 192,[93,0],[.G 113<|.aC<|nX 1,.M (.E .gt (sX 0 4)<|nX 0) [.F] [],.G 145<|.new 4 [sX 0 0,sX 0 1,sX 0 2,sX 0 3,vX 113,sX 0 5,nX 0],.J true [10] 2 (.len<|sX 0 6) oX [.F],.ae (aX 93 139) (sX 0 0)<|vX 145,.ae (aX 93 141) (.v [nX 0,sX 0 1,.len<|sX 0 5])<|sX 0 0]⟩
def At:FD:=⟨704,sg 194,[26,112],[.M (.E .eq (vX 26)<|gX 146 3) [.F] [],.M (.E .eq (vX 26)<|gX 147 1) [.L<|vX 112] [],.F]⟩
def DY:FD:=⟨711,sg 195,[93,94,111,26,112,113,114],[.M (.E .lt (vX 113)<|nX 0) [.F] [],.G 88<|.len<|aX 93 139,.H<|.Z (aX 93 139)<|.new 4 [vX 88,vX 111,vX 26,.A 51 [vX 26,vX 112],vX 113,vX 114,vX 94],.G 38<|.v [vX 94,vX 111,.len<|vX 114],.M (.E .ab (vX 38)<|aX 93 141) [.ae (aX 93 141) (vX 38)<|vX 88] [],.L<|vX 88]⟩
def Au:FD:=⟨718,sg 196,[112],[.M (.Y true [.E .ne (.I .aB (vX 112)<|.I .R (gX 148 32)<|gX 149 64)<|nX 0,.E .ne (.I .aB (vX 112)<|gX 150 128)<|nX 0]) [.F] [],.L<|vX 112]⟩
def Av:FD:=⟨725,sg 197,[93,88,111,130,112,131,114],[.G 151<|.D (aX 93 139)<|vX 88,.G 128<|.len<|aX 93 120,.H<|.Z (aX 93 120)<|.new 5 [vX 128,vX 88,vX 111,vX 130,.A 53 [vX 112],vX 131,vX 114],.H<|.Z (aX 151 120)<|vX 128,.H<|.A 55 [vX 93,vX 128],.L<|vX 128]⟩
def zu:FD:=⟨732,sg 198,[93,128],[.G 152<|.D (aX 93 120)<|vX 128,.G 151<|.D (aX 93 139)<|aX 152 129,.M (.E .ne (.I .aB (aX 152 112)<|gX 149 64)<|nX 0) [.F] [],.M (.Y true [.E .eq (aX 152 111)<|.y<|.z [70,105,110,97,108,105,122,101],.F,.E .eq (.len<|aX 152 114)<|nX 0,.E .eq (aX 152 131)<|gX 153 0]) [.F] []]⟩
def Ci:FD:=⟨739,sg 199,[152],[.L<|.E .ne (.I .aB (aX 152 112)<|gX 154 1)<|nX 0]⟩
def qd:FD:=⟨753,sg 202,[0,70,8],[.J false [32,18] 0 (vX 70) oX [.M (.E .eq (vX 18)<|vX 0) [.M (.E .ne (vX 32)<|vX 8) [.F] [],.L oX] []]]⟩
def wn:FD:=⟨760,sg 203,[152],[.L<|.v [aX 152 111,aX 152 132,aX 152 131,aX 152 114,.A 56 [vX 152]]]⟩
def oZ:FD:=⟨765,sg 204,[155,128],[.G 120<|bX 155 93 120,.G 70<|.ai true [8] 0 (.attr (.D (bX 155 93 139)<|.attr (.D (vX 120)<|vX 128) 129) 120) oX none<|.v [vX 8,.A 58 [.D (vX 120)<|vX 8]],.H<|.A 57 [.A 58 [.D (vX 120)<|vX 128],vX 70,vX 128]]⟩
def uN:FD:=⟨772,sg 205,[93,0],[.M (.Y true [.E .ne (sX 0 0)<|gX 80 2,.E .ne (sX 0 0)<|gX 81 3]) [.L oX] [],.G 151<|.D (aX 93 139)<|sX 0 1,.M (.E .ne (.len<|sX 0 2)<|.len<|aX 151 114) [.F] [],.M (.E .ne (.E .eq (sX 0 0)<|gX 81 3)<|.Y false [.E .eq (aX 151 26)<|gX 156 2,.E .eq (aX 151 26)<|gX 157 5]) [.F] []]⟩
def DZ:FD:=⟨779,sg 206,[93,94],[.M (.Y false [.E .lt (vX 94)<|nX 0,.E .ge (vX 94)<|.len<|aX 93 142,.E .V (.D (aX 93 142)<|vX 94)<|.aq (aX 93 142) (.I .R (vX 94)<|nX 1) oX]) [.F] []]⟩
def Aw:FD:=⟨787,sg 209,[93,94,111,31],[.G 88<|.av (aX 93 141) (.v [vX 94,vX 111,vX 31])<|nX 0,.ao (.Y true [vX 88,.E .lt (vX 88)<|.len<|aX 93 139]) [.G 151<|.D (aX 93 139)<|vX 88,.M (.Y true [.E .aH (vX 151) oX,.E .eq (aX 151 127)<|nX 0,.E .eq (.v [aX 151 94,aX 151 111,.len<|aX 151 114])<|.v [vX 94,vX 111,vX 31]]) [.L<|vX 88] [],.F],.F]⟩
def zv:FD:=⟨799,sg 212,[112,158],[.G 144<|nX 0,.J false [159,160] 0 (vX 158) oX [.M (.E .ne (.I .aB (vX 112)<|vX 159)<|nX 0) [.F] []],.L<|vX 144]⟩
def zw:FD:=⟨806,sg 213,[155],[.G 141 .X,.G 119<|nX 0,.G 120<|nX 0,.J true [88] 3 (nX 1) (.len<|bX 155 93 139) [.G 151<|.D (bX 155 93 139)<|vX 88,.M (.Y false [.E .is (vX 151) oX,.E .ne (aX 151 94)<|aX 155 94]) [.af] [],.M (.E .V (.aM<|nX 96)<|aX 151 111) [.F] [],.G 38<|.v [aX 151 111,.len<|aX 151 114],.M (.Y true [.E .eq (aX 151 127)<|nX 0,.E .V (vX 38)<|vX 141]) [.F] [],.M (.E .eq (aX 151 127)<|nX 0) [.ae (vX 141) (vX 38)<|vX 88] [],.H<|.Z (aX 155 99)<|vX 88,.ae (aX 155 100) (vX 88)<|.I .R (.len<|aX 155 99)<|nX 1,.az 119 .R<|.A 65 [vX 151],.J true [161] 0 (aX 151 119) oX [.F,.F],.J true [128] 0 (aX 151 120) oX [.az 120 .R<|nX 1,.ae (aX 155 102) (vX 128)<|vX 120]]]⟩
def zx:FD:=⟨813,sg 214,[151],[.M (.E .ne (aX 151 26)<|gX 157 5) [.L<|nX 0] [],.F,.F]⟩
def D0:FD:=⟨820,sg 215,[151],[.M (.E .eq (.len<|aX 151 114)<|nX 0) [.L<|aX 151 111] [],.F]⟩
def zy:FD:=⟨827,sg 216,[155,94],[.M (.E .ab (vX 94)<|aX 155 103) [.H<|.A 61 [aX 155 93,vX 94],.G 111<|.Q (aX 155 14) 89 [.D (bX 155 93 142)<|vX 94],.ae (aX 155 103) (vX 94)<|.Q (aX 155 12) 162 [gX 163 35,.v [nX 1,nX 0,nX 0,nX 0,nX 0,nX 0,vX 111,nX 0,nX 0]]] [],.L<|.D (aX 155 103)<|vX 94]⟩
def lh:FD:=⟨834,sg 217,[155,88],[.M (.E .V (vX 88)<|aX 155 100) [.F] [],.M (.E .ab (vX 88)<|aX 155 104) [.M (.Y false [.E .le (vX 88)<|nX 0,.E .ge (vX 88)<|.len<|bX 155 93 139,.E .is (.D (bX 155 93 139)<|vX 88) oX]) [.F] [],.G 151<|.D (bX 155 93 139)<|vX 88,.M (.E .gt (aX 151 127)<|nX 0) [.F] [],.M (.Y false [.E .ne (.A 62 [aX 155 93,aX 151 94,aX 151 111,.len<|aX 151 114])<|vX 88,.E .V (.aM<|nX 96)<|aX 151 111]) [.F] [],.G 164<|.A 1 [gX 165 5,gX 163 35,.A 67 [vX 155,aX 151 94]],.ae (aX 155 104) (vX 88)<|.Q (aX 155 12) 162 [gX 39 1,.v [vX 164,.Q (aX 155 14) 89 [.A 66 [vX 151]],nX 0]]] [],.L<|.A 3 [gX 39 1,.D (aX 155 104)<|vX 88]]⟩
def D7:FD:=⟨841,sg 218,[155,69],[.M (.E .V (vX 69)<|.S 166 p9) [.L<|.v [.D (.S 166 p9)<|vX 69]] [],.F,.F,.F,.F,.F,.F,.F,.F]⟩
def uZ:FD:=⟨855,sg 220,[155,167],[.G 144<|.N [],.J true [69] 0 (vX 167) oX [.H<|.Z (vX 144)<|.A 69 [vX 155,vX 69]],.L<|.aA<|vX 144]⟩
def D8:FD:=⟨862,sg 221,[155,69],[.G 26<|.A 34 [bX 155 93 83,vX 69],.M (.E .eq (vX 26)<|gX 68 1) [.L<|.E .gt (.A 35 [bX 155 93 83,vX 69])<|nX 0] [],.L<|.Y true [.Y false [.E .eq (vX 26)<|gX 80 2,.E .eq (vX 26)<|gX 81 3],.E .eq (.len<|.A 36 [bX 155 93 83,vX 69])<|nX 0]]⟩
def s8:FD:=⟨869,sg 222,[155,69],[.M (.A 71 [vX 155,vX 69]) [.G 9<|.A 68 [vX 155,.A 35 [bX 155 93 83,vX 69]],.H<|.A 60 [aX 155 93,.Q (bX 155 93 83) 0 [vX 69]],.L<|vX 9] [],.F,.F]⟩
def s9:FD:=⟨876,sg 223,[155,2,69],[.ak [3,0]<|.A 4 [.A 72 [vX 155,vX 69]],.L<|.A 1 [vX 2,vX 3,vX 0]]⟩
def lV:FD:=⟨883,sg 224,[155,128],[.M (.E .eq (vX 128)<|nX 0) [.F] [],.G 152<|.D (bX 155 93 120)<|vX 128,.G 168<|nX 0,.M (.aD<|.A 56 [vX 152]) [.G 168<|gX 169 32] [],.M (.E .gt (aX 152 132)<|nX 0) [.F] [],.L<|.Q (vX 155) 47 [gX 170 1,.v [vX 168,aX 152 132,.A 69 [vX 155,aX 152 131],.A 70 [vX 155,aX 152 114]]]]⟩
def tc:FD:=⟨890,sg 225,[155,38,129,111,171],[.G 172<|.A 73 [vX 155,gX 173 2,vX 129],.ae (aX 155 106) (vX 38)<|.Q (aX 155 12) 162 [gX 174 10,.v [vX 172,.Q (aX 155 14) 89 [vX 111],vX 171]]]⟩
def Cj:FD:=⟨897,sg 226,[155,13,129,8,118],[.M (.Y false [.E .le (vX 8)<|nX 0,.E .ge (vX 8)<|.len<|vX 13,.E .is (.D (vX 13)<|vX 8) oX]) [.F] [],.G 175<|.attr (.D (vX 13)<|vX 8) 129,.M (.E .ne (.A 35 [bX 155 93 83,vX 129])<|vX 175) [.F] [],.M (.E .ne (.len<|.A 36 [bX 155 93 83,vX 129])<|.len<|.attr (.D (bX 155 93 139)<|vX 175) 114) [.F] []]⟩
def iY:FD:=⟨904,sg 227,[155,129,128],[.M (.E .ne (vX 128)<|nX 0) [.H<|.A 76 [vX 155,bX 155 93 120,vX 129,vX 128,.y<|.z [109,101,116,104,111,100]]] [.F],.M (.Y true [.E .V (vX 128)<|aX 155 102,.A 71 [vX 155,vX 129]]) [.F] [],.G 38<|.v [.y<|.z [109],vX 129,vX 128],.M (.E .ab (vX 38)<|aX 155 106) [.G 111<|.y<|.z [46,99,116,111,114],.M (.E .gt (vX 128)<|nX 0) [.H<|.A 59 [vX 155,vX 128],.G 111<|.attr (.D (bX 155 93 120)<|vX 128) 111] [],.H<|.A 75 [vX 155,vX 38,vX 129,vX 111,.A 74 [vX 155,vX 128]]] [],.L<|.A 3 [gX 174 10,.D (aX 155 106)<|vX 38]]⟩
def qJ:FD:=⟨911,sg 228,[155,129,128],[.ak [3,0]<|.A 4 [.A 77 [vX 155,vX 129,vX 128]],.L<|.A 1 [gX 58 4,vX 3,vX 0]]⟩
def Ax:FD:=⟨918,sg 229,[151],[.G 112<|.A 63 [aX 151 112,.S 176 Am],.M (.E .eq (aX 151 26)<|gX 146 3) [.F] [],.G 177<|.E .ne (.I .aB (aX 151 112)<|gX 178 8)<|nX 0,.M (.E .gt (aX 151 127)<|nX 0) [.M (vX 177) [.F] [],.L<|.I .aL (vX 112)<|gX 179 2] [],.M (vX 177) [.F] [],.L<|.I .aL (vX 112)<|gX 180 1]⟩
def Ay:FD:=⟨925,sg 230,[155],[.H<|.Q (aX 155 12) 162 [gX 37 2,.v [nX 0,.Q (aX 155 14) 89 [.y<|.z [60,77,111,100,117,108,101,62]],nX 0,nX 0,nX 1,nX 1]],.G 119<|nX 1,.G 120<|nX 1,.J true [88] 0 (aX 155 99) oX [.G 151<|.D (bX 155 93 139)<|vX 88,.G 113<|nX 0,.M (.E .ge (aX 151 113)<|nX 0) [.G 113<|.A 73 [vX 155,gX 181 0,aX 151 113]] [],.H<|.Q (aX 155 12) 162 [gX 37 2,.v [.A 79 [vX 151],.Q (aX 155 14) 89 [.A 66 [vX 151]],nX 0,vX 113,vX 119,vX 120]],.az 119 .R<|.I .R (.A 65 [vX 151])<|.len<|aX 151 119,.az 120 .R<|.len<|aX 151 120]]⟩
def oU:FD:=⟨932,sg 231,[155],[.J true [88] 0 (aX 155 99) oX [.G 151<|.D (bX 155 93 139)<|vX 88,.J true [69] 0 (aX 151 115) oX [.F],.J false [182,129,128] 0 (aX 151 123) oX [.M (.E .ab (vX 182)<|aX 155 102) [.F] [],.G 137<|.A 1 [gX 58 4,gX 41 6,.D (aX 155 102)<|vX 182],.H<|.Q (aX 155 12) 162 [gX 57 25,.v [.D (aX 155 100)<|vX 88,vX 137,.A 78 [vX 155,vX 129,vX 128]]]],.M (.E .gt (aX 151 127)<|nX 0) [.M (.Y false [.E .ab (aX 151 127)<|aX 155 100,.E .ge (aX 151 127)<|vX 88]) [.F] [],.H<|.Q (aX 155 12) 162 [gX 36 41,.v [.D (aX 155 100)<|vX 88,.D (aX 155 100)<|aX 151 127]]] []]]⟩
def nG:FD:=⟨939,sg 232,[155,3,13],[.G 183<|.N [],.J true [10] 2 (.len<|vX 13) oX [.H<|.Z (vX 183)<|.v [.A 5 [vX 3,.D (vX 13)<|vX 10],vX 10]],.J true [4] 0 (.am<|vX 183) oX [.H<|.Q (aX 155 12) 162 [vX 3,.D (vX 13)<|sX 4 1]]]⟩
def qe:FD:=⟨946,sg 233,[155,13,184,128,2],[.M (.E .gt (vX 128)<|nX 0) [.M (.E .ab (vX 128)<|aX 155 102) [.F] [],.H<|.Z (vX 13)<|.v [vX 184,.D (aX 155 102)<|vX 128,vX 2]] []]⟩
def m8:FD:=⟨953,sg 234,[155],[.G 13<|.N [],.J true [88] 0 (aX 155 99) oX [.G 151<|.D (bX 155 93 139)<|vX 88,.M (.E .gt (.len<|aX 151 125)<|nX 0) [.H<|.Q (aX 155 12) 162 [gX 19 18,.v [.D (aX 155 100)<|vX 88,.I .R (.Q (aX 155 12) 31 [gX 43 20])<|nX 1]]] [],.J false [111,185,186,187] 0 (aX 151 125) oX [.G 7<|nX 0,.M (.E .ge (vX 185)<|nX 0) [.G 7<|.A 73 [vX 155,gX 181 0,vX 185]] [],.G 10<|.Q (aX 155 12) 162 [gX 43 20,.v [nX 0,.Q (aX 155 14) 89 [vX 111],vX 7]],.G 2<|.A 1 [gX 49 3,gX 43 20,vX 10],.H<|.A 83 [vX 155,vX 13,gX 51 8,vX 186,vX 2],.H<|.A 83 [vX 155,vX 13,gX 52 16,vX 187,vX 2]],.M (.E .gt (.len<|aX 151 124)<|nX 0) [.H<|.Q (aX 155 12) 162 [gX 20 21,.v [.D (aX 155 100)<|vX 88,.I .R (.Q (aX 155 12) 31 [gX 42 23])<|nX 1]]] [],.J true [188] 0 (aX 151 124) oX [.G 10<|.Q (aX 155 12) 162 [gX 42 23,.v [nX 0,.Q (aX 155 14) 89 [sX 188 0],.A 85 [vX 155,vX 188]]],.G 2<|.A 1 [gX 49 3,gX 42 23,vX 10],.H<|.A 83 [vX 155,vX 13,gX 55 2,sX 188 2,vX 2],.H<|.A 83 [vX 155,vX 13,gX 54 1,sX 188 3,vX 2]]],.H<|.A 82 [vX 155,gX 48 24,vX 13]]⟩
def kJ:FD:=⟨960,sg 235,[155,188],[.ak [111,185,189,190,191]<|vX 188,.G 33<|gX 192 8,.G 193<|vX 189,.M (.E .eq (vX 189)<|nX 0) [.F] [],.M (.E .ab (vX 193)<|aX 155 102) [.F] [],.M (.aD<|.A 56 [.D (bX 155 93 120)<|vX 193]) [.G 33<|.I .aL (vX 33)<|gX 169 32] [],.L<|.Q (vX 155) 47 [gX 194 5,.v [vX 33,.len<|vX 191,.A 69 [vX 155,vX 185],.A 70 [vX 155,vX 191]]]]⟩
def td:FD:=⟨967,sg 237,[195],[.G 124<|.w [.N [],.N [],.N []],.G 125<|.w [.N [],.N [],.N []],.G 123<|.w [.N [],.N [],.N []],.J true [196] 0 (.au (.E .gt (.len<|vX 195)<|nX 1) (.aq (vX 195) (nX 1)<|nX 10)<|.w [nX 0,nX 4,nX 8,nX 37,nX 50]) oX [.G 197<|.I .ag (.I .W (vX 196)<|nX 12)<|nX 3,.G 198<|.I .W (vX 196)<|nX 36,.G 111<|.D (.v [.y<|.z [120],.y<|.z [121]])<|.I .ag (vX 198)<|nX 2,.G 199<|.D (.v [.I .R (.I .aw (nX 2)<|vX 197)<|.I .ag (.I .W (vX 198)<|nX 2)<|nX 2,.I .ag (.I .W (vX 198)<|nX 4)<|nX 6])<|.I .W (.I .ag (.I .W (vX 198)<|nX 24)<|nX 3)<|nX 2,.G 200<|.D (.v [.I .R (.I .aw (nX 2)<|vX 197)<|.I .ag (.I .W (vX 198)<|nX 72)<|nX 2,.I .ag (.I .W (vX 198)<|nX 72)<|nX 6])<|.I .W (.I .ag (.I .W (vX 198)<|nX 24)<|nX 3)<|nX 2,.M (.E .eq (.I .ag (vX 196)<|nX 3)<|nX 0) [.G 0<|.v [vX 111,.D (.v [nX 7,nX 9])<|.I .ag (.I .W (vX 198)<|nX 8)<|nX 2,vX 199,.au (.I .ag (.I .W (vX 198)<|nX 16)<|nX 2) (vX 200)<|.aC<|nX 1],.M (.E .ab (vX 0)<|.D (vX 124)<|vX 197) [.H<|.Z (.D (vX 124)<|vX 197)<|vX 0] []] [.M (.E .eq (.I .ag (vX 196)<|nX 3)<|nX 1) [.G 0<|.v [vX 111,.au (.E .eq (.I .ag (.I .W (vX 198)<|nX 8)<|nX 4)<|nX 3) (.aC<|nX 1)<|vX 199,.au (.E .eq (.I .ag (.I .W (vX 198)<|nX 8)<|nX 4)<|nX 2) (.aC<|nX 1)<|vX 200],.M (.E .ab (vX 0)<|.D (vX 125)<|vX 197) [.H<|.Z (.D (vX 125)<|vX 197)<|vX 0] []] [.G 0<|.v [vX 199,.I .ag (.I .W (vX 198)<|nX 144)<|nX 2],.M (.E .ab (vX 0)<|.D (vX 123)<|vX 197) [.H<|.Z (.D (vX 123)<|vX 197)<|vX 0] []]]],.L<|.v [vX 124,vX 125,vX 123]]⟩
def nW:FD:=⟨972,sg 238,[201,3],[.L<|.ai true [8] 2 (.len<|vX 201) oX (some<|.E .V (.D (vX 201)<|vX 8)<|.aq (vX 201) oX<|vX 8)<|.v [vX 3,.I .R (vX 8)<|nX 1,.y<|.z [116,119,105,99,101]]]⟩
def lN:FD:=⟨977,sg 239,[202],[.ak [124,125,123]<|vX 202,.G 13<|.N [],.G 203<|.N [],.G 8<|nX 0,.G 204<|nX 0,.J true [197] 2 (nX 3) oX [.J false [111,199,200] 0 (.D (vX 125)<|vX 197) oX [.az 204 .R<|nX 1,.J true [128] 0 (.v [vX 199,vX 200]) oX [.M (.E .ge (vX 128)<|nX 0) [.H<|.Z (vX 13)<|.v [.I .aw (nX 2)<|vX 204,.len<|vX 13,.E .eq (.I .W (vX 128)<|nX 2)<|vX 197]] []],.M (.Y false [.E .lt (vX 199)<|nX 0,.E .lt (vX 200)<|nX 0]) [.H<|.Z (vX 203)<|.v [nX 20,vX 204,.y<|.z [115,101,109,97,110,116,105,99,115]]] []],.J false [111,185,199,200] 0 (.D (vX 124)<|vX 197) oX [.az 8 .R<|nX 1,.J true [128] 0 (.v [vX 199,vX 200]) oX [.M (.E .ge (vX 128)<|nX 0) [.H<|.Z (vX 13)<|.v [.I .R (.I .aw (nX 2)<|vX 8)<|nX 1,.len<|vX 13,.E .eq (.I .W (vX 128)<|nX 2)<|vX 197]] []]]],.G 13<|.am<|vX 13,.L<|.I .R (.ai true [8] 2 (.len<|vX 13) oX (some<|.aD<|.D (.D (vX 13)<|vX 8)<|nX 2)<|.v [nX 24,.I .R (vX 8)<|nX 1,.y<|.z [115,101,109,97,110,116,105,99,115]])<|vX 203]⟩
def pD:FD:=⟨984,sg 240,[123],[.G 144<|.N [],.G 8<|nX 0,.J true [197] 2 (nX 3) oX [.G 21<|.N [],.J false [137,205] 0 (.D (vX 123)<|vX 197) oX [.az 8 .R<|nX 1,.M (.Y false [.E .ne (.I .W (vX 137)<|nX 2)<|vX 197,.E .V (vX 205)<|vX 21]) [.H<|.Z (vX 144)<|.v [nX 25,vX 8,.y<|.z [105,109,112,108]]] [],.H<|.Z (vX 21)<|vX 205]],.L<|vX 144]⟩
def mC:FD:=⟨989,sg 241,[195],[.G 206<|.au (vX 195) (sX 195 0)<|nX 3,.G 202<|.A 86 [vX 195],.ak [124,125,123]<|vX 202,.G 93<|.new 6 [],.P (vX 93) 142<|.N [.y<|.z [99,111,114,101],.y<|.z [97,112,112]],.P (vX 93) 139<|.aK oX<|nX 64,.H<|.A 50 [vX 93,.v [nX 1,.y<|.z [79,98,106,101,99,116],nX 1,nX 0,nX 0,.v [],.v []]],.H<|.A 50 [vX 93,.v [nX 7,.y<|.z [69,120,99,101,112,116,105,111,110],nX 1,nX 0,nX 0,.v [],.v []]],.G 207<|.w [.A 54 [vX 93,nX 7,.y<|.z [100],nX 6,nX 2,nX 0,.v []],.A 54 [vX 93,nX 7,.y<|.z [100],nX 6,nX 2,nX 0,.v [nX 7]]],.G 208<|.A 33 [aX 93 83,nX 7,.v []],.G 209<|.v [nX 0,.I .ag (vX 206)<|nX 2,.I .ag (.I .W (vX 206)<|nX 2)<|nX 3],.G 141<|.w [.y<|.z [65],.au (sX 209 1) (.y<|.z [78])<|.y<|.z [66],.au (sX 209 2) (.y<|.z [78])<|.y<|.z [67]],.G 99<|.ai true [111] 0 (vX 141) oX none<|.A 52 [vX 93,nX 1,vX 111,nX 1,nX 0,nX 12,.w []],.G 210<|.N [],.J true [197] 2 (nX 3) oX [.M (.D (vX 209)<|vX 197) [.P (.D (aX 93 139)<|.D (vX 99)<|vX 197) 127<|.D (vX 99)<|.I .D (.D (vX 209)<|vX 197)<|nX 1] [],.J true [8] 2 (nX 2) oX [.H<|.Z (vX 210)<|.A 54 [vX 93,.D (vX 99)<|vX 197,.D (.y<|.z [109,110])<|vX 8,nX 6,vX 8,nX 0,.v []]]],.H<|.Z (vX 210)<|nX 0,.J true [197] 2 (nX 3) oX [.G 151<|.D (aX 93 139)<|.D (vX 99)<|vX 197,.J false [111,185,199,200] 0 (.D (vX 124)<|vX 197) oX [.H<|.Z (aX 151 124)<|.v [vX 111,vX 185,.D (vX 210)<|vX 199,.D (vX 210)<|vX 200,.v []]],.J false [111,199,200] 0 (.D (vX 125)<|vX 197) oX [.H<|.Z (aX 151 125)<|.v [vX 111,vX 208,.D (vX 210)<|vX 199,.D (vX 210)<|vX 200]],.J false [137,205] 0 (.D (vX 123)<|vX 197) oX [.H<|.Z (aX 151 123)<|.v [.D (vX 210)<|vX 137,vX 208,.D (vX 207)<|vX 205]]],.G 155<|.new 3 [vX 93,nX 1],.H<|.A 64 [vX 155],.H<|.A 80 [vX 155],.J true [8] 2 (nX 6) oX [.H<|.Q (aX 155 12) 162 [nX 6,.v [nX 0,nX 0,nX 0,.Q (aX 155 14) 89 [.D (.y<|.z [109,110])<|.I .ag (vX 8)<|nX 2],.Q (aX 155 17) 89 [.v [.I .aw (nX 32)<|.I .D (nX 1)<|.I .ag (vX 8)<|nX 2,nX 0,.v [nX 1],.v []]],nX 1]]],.H<|.A 81 [vX 155],.H<|.A 84 [vX 155],.G 18<|.w [.N [],.N [],.N [],.N [],.N [],.N [],.N []],.H<|.A 10 [aX 155 12,sX 18 0],.H<|.A 13 [aX 155 12,sX 18 1],.H<|.A 9 [aX 155 12,sX 18 2],.H<|.A 23 [aX 155 12,sX 18 3],.H<|.A 17 [aX 155 12,aX 155 14,aX 155 17,sX 18 4],.H<|.A 19 [aX 155 12,sX 18 5],.H<|.A 22 [aX 155 12,sX 18 6],.G 211<|.A 87 [.ai true [197] 2 (nX 3) oX none<|.v [.D (vX 209)<|vX 197,.D (vX 141)<|vX 197],nX 2],.G 211<|.ai false [3,8,118] 0 (vX 211) oX none<|.v [nX 2,.I .R (vX 8)<|nX 1,vX 118],.G 201<|.w [],.G 212<|.w [],.J true [197] 2 (nX 3) oX [.G 201<|.I .R (vX 201)<|.ai false [111,185,199,200] 0 (.D (vX 124)<|vX 197) oX none<|.v [vX 197,vX 111,vX 185,.I .ag (vX 199)<|nX 2],.G 212<|.I .R (vX 212)<|.ai false [111,199,200] 0 (.D (vX 125)<|vX 197) oX none<|.v [vX 197,vX 111]],.G 211<|.I .R (.I .R (vX 211)<|.A 87 [vX 201,nX 23])<|.A 87 [vX 212,nX 20],.L<|.E .eq (vX 18)<|.w [.w [],.w [],.w [],.w [],vX 211,.A 88 [vX 202],.A 89 [vX 123]]]⟩
def eU:List FD:=[DX,An,zp,Ao,zq,wi,yj,sW,sY,uU,uV,Ap,vx,qI,uW,sZ,uX,pB,qa,pC,wj,oH,s6,oT,rE,wl,wm,zr,Cf,Aq,vy,zs,Ar,As,Cg,HU,FM,rF,qb,qc,qy,oW,oY,nS,vz,uY,s7,rG,vA,zt,Ch,At,DY,Au,Av,zu,Ci,qd,wn,oZ,uN,DZ,Aw,zv,zw,zx,D0,zy,lh,D7,uZ,D8,s8,s9,lV,tc,Cj,iY,qJ,Ax,Ay,oU,nG,qe,m8,kJ,td,nW,lN,pD,mC]
noncomputable def aj:List CD:=[⟨406,24,[(213,24),(0,25),(89,26)]⟩,⟨539,37,[(213,37),(89,38),(16,39)]⟩,⟨581,40,[(213,40),(162,41),(16,42),(31,43)]⟩,⟨609,44,[(213,44),(47,45)]⟩,⟨630,46,[(213,46)]⟩,⟨651,47,[(213,47)]⟩,⟨672,48,[(213,48)]⟩]
abbrev f8:=List<|Addr×Addr
def kL (ρ:f8) (b:Addr):Prop:=∃p,p∈ρ/\p.2=b
def nm (x:Nat):Str:=Wm.getD x ⟨#[]⟩
def kL.ba:kL (ρ++e) b↔kL ρ b\/kL e b:=by
 constructor
 .rintro⟨p,hp,h⟩
  obtain hp|hp:=fL.mp hp
  .exact .inl ⟨p,hp,h⟩
  .exact .inr ⟨p,hp,h⟩
 .rintro(⟨p,hp,h⟩|⟨p,hp,h⟩)
  .exact⟨p,fL.mpr<|.inl hp,h⟩
  .exact⟨p,fL.mpr<|.inr hp,h⟩
mutual
inductive eW (w:World) (ρ:f8) (h:Heap):V->Value->Prop
 |bv:eW w ρ h .B .none
 |bM (b):eW w ρ h (.O b) (.bool b)
 |bY (i t):eW w ρ h (.a i) (.int i t)
 |ck (x t):eW w ρ h (.z x) (.str ⟨⟨x⟩⟩ t)
 |bN (t):eW w ρ h .ah (.bytes #[] t)
 |bF {a l vs}:h.IsTuple a vs->¬kL ρ a->RelVs w ρ h l vs.toList->eW w ρ h (.v l) (.ref a)
 |bo {a l vs}:h.IsList a vs->¬kL ρ a->RelVs w ρ h l vs.toList->eW w ρ h (.w l) (.ref a)
 |bU {a l vs}:a<990->3<a->h.DictOf (intKind pw w) a ((l.map (·.1)).zip vs)->¬kL ρ a->RelVs w ρ h (l.map (·.2)) vs->eW w ρ h (.ac l) (.ref a)
 |cv {k p}:ρ[k]?=some p->eW w ρ h (.g k) (.ref p.1)
inductive RelVs (w:World) (ρ:f8) (h:Heap):List V->List Value->Prop
 |aS:RelVs w ρ h [] []
 |aR {v x l vs}:eW w ρ h v x->RelVs w ρ h l vs->RelVs w ρ h (v::l) (x::vs)
end
section
variable{w:World} {ρ:f8} {h:Heap} {u:Value} {us:List Value} {P:Value->Prop} {Q:List Value->Prop}
@[elab_as_elim] theorem nH (r:RelVs w ρ h [] us) (k:Q []):Q us:=by cases r;exact k
@[elab_as_elim] theorem kq {v:V} {l:List V} (r:RelVs w ρ h (v::l) us) (k:∀x xs,eW w ρ h v x->RelVs w ρ h l xs->Q (x::xs)):Q us:=by cases r with |aR a b=>exact k _ _ a b
@[elab_as_elim] theorem pE {v:V} (r:RelVs w ρ h [v] us) (k:∀x,eW w ρ h v x->Q [x]):Q us:=by cases r with |aR a b=>cases b;exact k _ a
@[elab_as_elim] theorem rH (r:eW w ρ h .B u) (k:P .none):P u:=by cases r;exact k
@[elab_as_elim] theorem jD {i:Int} (r:eW w ρ h (.a i) u) (k:∀t,P<|.int i t):P u:=by cases r;exact k _
@[elab_as_elim] theorem vB {x:List Nat} (r:eW w ρ h (.z x) u) (k:∀t,P<|.str ⟨⟨x⟩⟩ t):P u:=by cases r;exact k _
@[elab_as_elim] theorem qz {l:List V} (r:eW w ρ h (.v l) u) (k:∀a vs,h.IsTuple a vs->¬kL ρ a->RelVs w ρ h l vs.toList->P (.ref a)):P u:=by cases r with |bF a b c=>exact k _ _ a b c
@[elab_as_elim] theorem mh {l:List V} (r:eW w ρ h (.w l) u) (k:∀a vs,h.IsList a vs->¬kL ρ a->RelVs w ρ h l vs.toList->P (.ref a)):P u:=by cases r with |bo a b c=>exact k _ _ a b c
@[elab_as_elim] theorem wo {l:List (Int×V)} (r:eW w ρ h (.ac l) u) (k:∀a vs,a<990->3<a->h.DictOf (intKind pw w) a ((l.map (·.1)).zip vs)->¬kL ρ a->RelVs w ρ h (l.map (·.2)) vs->P (.ref a)):P u:=by cases r with |bU a b c d e=>exact k _ _ a b c d e
@[elab_as_elim] theorem xA {i:Nat} (r:eW w ρ h (.g i) u) (k:∀p,ρ[i]?=some p->P (.ref p.1)):P u:=by cases r with |cv a=>exact k _ a
end
theorem RelVs.aV {w:World} {ρ:f8} {h:Heap} {l:List V}:∀{vs:List Value},RelVs w ρ h l vs->l.length=vs.length:=by
 induction l with
 |nil=>exact λr=>nH (Q:=λvs=>0=vs.length) r rfl
 |cons v l ih=>exact λr=>kq (Q:=λvs=>l.length+1=vs.length) r λZ Z Z b=>congrArg (·+1)<|ih b
structure fM (W:List Addr) (ρ:f8) (h:Heap) (ρ':f8) (h':Heap):Prop where
 pre:∃e,ρ'=ρ++e/\∀p∈e,h.get? p.1=none/\h.get? p.2=none
 keep:∀b o,h.get? b=some o->¬kL ρ b->b∉W->h'.get? b=some o
 live:∀b,h'.get? b=none->h.get? b=none
def pj {h:Heap} {b:Addr} (x:h.objs.size<=b):h.get? b=none:=by
 cases e:h.get? b with
 |none=>rfl
 |some o=>exact absurd (jp e)<|mx.mpr x
def qL {h h':Heap} (k:∀b o,h.get? b=some o->∃o',h'.get? b=some o'):∀b,h'.get? b=none->h.get? b=none:=λb e=>by
 cases q:h.get? b with
 |none=>rfl
 |some o=>obtain⟨o',z⟩:=k b o q;rw[e]at z;first|exact fe z|exact nomatch z
def fM.aZ (W ρ h):fM W ρ h ρ h:=⟨⟨[],fF,fF⟩,λZ Z e Z Z=>e,λZ e=>e⟩
def fM.eJ (x:fM W ρ h ρ' h') (m:kL ρ' b):kL ρ b\/h.get? b=none:=by
 obtain⟨e,rfl,he⟩:=x.pre;obtain m|⟨p,hp,rfl⟩:=kL.ba.mp m
 .exact .inl m
 .exact .inr (he p hp).2
def fM.bI (x:fM W ρ h ρ' h') (e:h.get? b=some o) (m:¬kL ρ b):¬kL ρ' b:=λm'=>by
 obtain m'|m':=x.eJ m'
 .exact m m'
 .rw[e]at m';cases m'
def fM.aT (x:fM W ρ h ρ' h') (y:fM W ρ' h' ρ'' h''):fM W ρ h ρ'' h'':=by
 refine⟨?_,λb o e m hw=>y.keep b o (x.keep b o e m hw) (x.bI e m) hw,λb e=>x.live b<|y.live b e⟩;obtain⟨e,rfl,he⟩:=x.pre;obtain⟨e',rfl,he'⟩:=y.pre;refine⟨e++e',fF,λp hp=>?_⟩;obtain hp|hp:=fL.mp hp
 .exact he p hp
 .exact⟨x.live _ (he' p hp).1,x.live _ (he' p hp).2⟩
def fM.bC (x:fM W ρ h ρ' h') (hs:∀b∈W,b∈W'):fM W' ρ h ρ' h':=⟨x.pre,λb o e m hw=>x.keep b o e m λq=>hw<|hs b q,x.live⟩
def fM.aY (k:∀b o,h.get? b=some o->h'.get? b=some o):fM W ρ h ρ h':=
 ⟨⟨[],fF,fF⟩,λb o e Z Z=>k b o e,qL λb o e=>⟨o,k b o e⟩⟩
def fM.bL {W ρ h h'} (k:∀b o,h.get? b=some o->h'.get? b=some o) (_:h.objs.size<=h'.objs.size):fM W ρ h ρ h':=.aY k
def fM.get (x:fM W ρ h ρ' h') {k:Nat} (e:ρ[k]?=some p):ρ'[k]?=some p:=by
 obtain⟨f,rfl,_⟩:=x.pre;rw[nw (ke.mp e).1];exact e
def fM.cH (x:fM W ρ h ρ' h') (hf:∀b∈W,b∉W'->h.get? b=none):fM W' ρ h ρ' h':=
 ⟨x.pre,λb o e m hw=>x.keep b o e m λq=>by simp_all,x.live⟩
structure hZ (W:List Addr) (ρ:f8) (h:Heap):Prop where
 cls:∀b∈W,990<=b/\∃o,h.get? b=some o/\∀vs n,o.data≠.seq vs n
 rho:∀b∈W,∀p∈ρ,p.1≠b/\p.2≠b
def hZ.aS (ρ h):hZ [] ρ h:=⟨fF,fF⟩
def yk {α:Type} {P Q:α->Prop} (h:∃x,P x/\Q x):∃x,P x:=h.elim λx q=>⟨x,q.1⟩
def CK {α β γ:Type} {P:α->Prop} {Q:α->β->γ->Prop} (h:∃x y z,P x/\Q x y z):∃x,P x:=h.elim λx q=>q.elim λZ q=>q.elim λZ q=>⟨x,q.1⟩
def yl {h h':Heap} (x:h.IsList a vs) (k:∀o,h.get? a=some o->h'.get? a=some o):h'.IsList a vs:=x.elim λo q=>⟨o,k o q.1,q.2⟩
def ym {h h':Heap} (x:h.DictOf (intKind pw w) a kvs) (k:∀o,h.get? a=some o->h'.get? a=some o):h'.DictOf (intKind pw w) a kvs:=x.elim λo q=>q.elim λes q=>q.elim λep q=>⟨o,es,ep,k o q.1,q.2⟩
section
variable{w:World} {W:List Addr} {ρ ρ':f8} {h h':Heap}
def hZ.no {a:Addr} {o:Obj} {vs:Array Value} {n:Nat} (f:hZ W ρ h) (ho:h.get? a=some o) (hd:o.data=.seq vs n):a∉W:=λq=>(f.cls _ q).2.elim λo' e=>e.2 vs n<|(Option.some.inj<|ho.symm.trans e.1)▸hd
def eW.cA {w:World} {ρ ρ':f8} {h h':Heap} (kt:∀{a o vs n},h.get? a=some o->o.data=.seq vs n->¬kL ρ a->h'.get? a=some o/\¬kL ρ' a) (kd:∀{a o},a<990->h.get? a=some o->¬kL ρ a->h'.get? a=some o/\¬kL ρ' a) (kr:∀{k:Nat} {p:Addr×Addr},ρ[k]?=some p->ρ'[k]?=some p) {v:V} {u:Value} (r:eW w ρ h v u):eW w ρ' h' v u:=
 eW.rec (motive_1:=λv u Z=>eW w ρ' h' v u) (motive_2:=λl us Z=>RelVs w ρ' h' l us) .bv .bM .bY .ck .bN
  (λa1 a2 Z r=>a1.elim λo a=>a.2.2.elim λn hd=>.bF ⟨o,(kt a.1 hd a2).1,a.2⟩ (kt a.1 hd a2).2 r)
  (λa1 a2 Z r=>a1.elim λo a=>a.2.2.elim λn hd=>.bo ⟨o,(kt a.1 hd a2).1,a.2⟩ (kt a.1 hd a2).2 r)
  (λa0 a00 a1 a2 Z r=>a1.elim λo a=>a.elim λes a=>a.elim λep a=>.bU a0 a00 ⟨o,es,ep,(kd a0 a.1 a2).1,a.2⟩ (kd a0 a.1 a2).2 r)
  (λe=>.cv<|kr e) .aS (λZ Z a b=>.aR a b) r
theorem RelVs.c9 {w:World} {ρ ρ':f8} {h h':Heap} (k:∀{v u},eW w ρ h v u->eW w ρ' h' v u) {l:List V}:∀{us:List Value},RelVs w ρ h l us->RelVs w ρ' h' l us:=by
 induction l with
 |nil=>exact λr=>nH (Q:=λus=>RelVs w ρ' h' [] us) r .aS
 |cons v l ih=>exact λr=>kq (Q:=λus=>RelVs w ρ' h' (v::l) us) r λZ Z a b=>.aR (k a)<|ih b
def eW.aU (x:fM W ρ h ρ' h') (f:hZ W ρ h) {v:V} {u:Value} (r:eW w ρ h v u):eW w ρ' h' v u:=
 r.cA (λg hd m=>⟨x.keep _ _ g m<|f.no g hd,x.bI g m⟩) (λl g m=>⟨x.keep _ _ g m λq=>absurd (f.cls _ q).1<|Nat.not_le.mpr l,x.bI g m⟩) x.get
def RelVs.aU (x:fM W ρ h ρ' h') (f:hZ W ρ h) {l:List V} {us:List Value} (r:RelVs w ρ h l us):RelVs w ρ' h' l us:=r.c9<|eW.aU x f
def hZ.aU (x:fM W' ρ h ρ' h') (f:hZ W ρ h) (hk:∀b∈W,b∈W'->∃o,h'.get? b=some o/\∀vs n,o.data≠.seq vs n):hZ W ρ' h':=by
 refine⟨λb hb=>?_,λb hb p hp=>?_⟩
 .obtain⟨h1,o,ho,h2⟩:=f.cls b hb;refine⟨h1,?_⟩;by_cases hw:b∈W'
  .exact hk b hb hw
  .exact⟨o,x.keep b o ho (λ⟨p,hp,e⟩=>(f.rho b hb p hp).2 e) hw,h2⟩
 .obtain⟨-,o,ho,-⟩:=f.cls b hb;obtain⟨e,rfl,he⟩:=x.pre;obtain hp|hp:=fL.mp hp
  .exact f.rho b hb p hp
  .have:=he p hp;exact⟨λq=>by simp_all,λq=>by simp_all⟩
end
inductive gW (w:World) (ρ:f8) (h:Heap):List (PyData×V)->List (PyData×Value)->Prop
 |aS:gW w ρ h [] []
 |aR {k v x l vs}:eW w ρ h v x->gW w ρ h l vs->gW w ρ h ((k,v)::l) ((k,x)::vs)
section
variable{w:World} {ρ:f8} {h:Heap} {l:List (PyData×V)} {Q:List (PyData×V)->Prop}
def eN (r:gW w ρ h l []) (k:Q []):Q l:=by cases r;exact k
def eC {p:PyData×Value} {vs:List (PyData×Value)} (r:gW w ρ h l (p::vs)) (k:∀v l',eW w ρ h v p.2->gW w ρ h l' vs->Q ((p.1,v)::l')):Q l:=by cases r with |aR a b=>exact k _ _ a b
end
noncomputable def iy:List Nat:=[0,12,13,14,16,17,26,31,47,63,64,65,66,83,88,89,93,94,95,96,97,98,99,100,101,102,103,104,105,106,107,108,109,111,112,113,114,115,116,117,119,120,121,122,123,124,125,126,127,128,129,130,131,132,133,134,135,136,137,138,139,140,141,142,143,162,213]
inductive jR (w:World) (ρ:f8) (h:Heap):List (Nat×V)->List DictEntry->Prop
 |aS:jR w ρ h [] []
 |aR {n v l e es}:n∈iy->e.key.isStr (nm n)->eW w ρ h v e.val->jR w ρ h l es->jR w ρ h ((n,v)::l) (e::es)
def gW.aU (x:fM W ρ h ρ' h') (f:hZ W ρ h) (r:gW w ρ h l us):gW w ρ' h' l us:=by
 induction r with
 |aS=>exact .aS
 |aR a _ ih=>exact .aR (a.aU x f) ih
def jR.aU (x:fM W ρ h ρ' h') (f:hZ W ρ h) (r:jR w ρ h l us):jR w ρ' h' l us:=by
 induction r with
 |aS=>exact .aS
 |aR i a b _ ih=>exact .aR i a (b.aU x f) ih
def gW.aV (r:gW w ρ h l us):l.length=us.length:=by induction r<;>simp_all
def jR.aV (r:jR w ρ h l us):l.length=us.length:=by induction r<;>simp_all
end
section
open PySem PySem.W PySem.SeqAt
mutual
noncomputable def wq (w:World):PyData->Int
 |.int i=>hashInt i
 |.str x=>hashStr w x
 |.tuple l=>reduceHash (Builtin.Tuple.tupleHashOf (hashDs w l))
 |_=>0
noncomputable def hashDs (w:World):List PyData->List Int
 |[]=>[]
 |d::r=>wq w d::hashDs w r
end
mutual
noncomputable def te:PyData->Nat
 |.tuple l=>drawsDs l+1
 |_=>1
noncomputable def drawsDs:List PyData->Nat
 |[]=>0
 |d::r=>te d+drawsDs r
end
@[elab_as_elim] theorem Pq {h:Heap} {P:Value->PyData->Prop} {n:Nat} {v:Value} {d:PyData} {as:List Addr} (r:Reads h v d as) (k:fg (n+1) d)
  (i:∀i t,P (.int i t)<|.int i) (s:∀x t,P (.str x t)<|.str x)
  (t:∀a o vs m l,h.get? a=some o->o.cls=.type "tuple"->o.data=.seq vs m->ReadsAll h vs.toList l as->l.all (fg n)->P (.ref a) (.tuple l)):P v d:=by
 cases r with
 |int=>exact i _ _
 |str=>exact s _ _
 |tuple a b c e=>exact t _ _ _ _ _ a b c e k
 |none=>first|exact fe k|exact nomatch k
 |bool=>first|exact fe k|exact nomatch k
 |list=>first|exact fe k|exact nomatch k
 |dict=>first|exact fe k|exact nomatch k
@[elab_as_elim] theorem FN {P:PyData->Prop} {n:Nat} {d:PyData} (k:fg (n+1) d) (i:∀i,P<|.int i) (s:∀x,nR x.cps.toList->P (.str x)) (t:∀l,l.all (fg n)->P (.tuple l)):P d:=by
 cases d with
 |int=>exact i _
 |str=>exact s _ k
 |tuple=>exact t _ k
 |none=>first|exact fe k|exact nomatch k
 |bool=>first|exact fe k|exact nomatch k
 |list=>first|exact fe k|exact nomatch k
 |dict=>first|exact fe k|exact nomatch k
section
variable{h:Heap} {P:List Value->Prop} {vs:List Value} {as:List Addr}
@[elab_as_elim] theorem Wn (r:ReadsAll h vs [] as) (k:P []):P vs:=by cases r;exact k
@[elab_as_elim] theorem Wo {d:PyData} {ds:List PyData} (r:ReadsAll h vs (d::ds) as) (k:∀v vs a b,Reads h v d a->ReadsAll h vs ds b->P (v::vs)):P vs:=by cases r with|cons a b=>exact k _ _ _ _ a b
end
def tf {n:Nat} {d:PyData} {ds:List PyData} {G:Prop} (h:(d::ds).all (fg n)) (k:fg n d->ds.all (fg n)->G):G:=by rw[kC,jd]at h;exact k h.1 h.2
section
variable{w:World}
def Kk (w:World):Array Int->List PyData->Array Int
 |b,[]=>b
 |b,d::r=>Kk w (b.push<|wq w d) r
theorem Az:∀(ds:List PyData) (b:Array Int),(Kk w b ds).toList=b.toList++hashDs w ds
 |[],b=>(gk _).symm
 |d::r,b=>(Az r _).trans (by rw[Array.toList_push,gA];rfl)
section
variable{n:Nat} {A:Around} {E:Value->Shared->Prop} {h:Heap}
theorem FO (ih:∀{d s v as} {Q:Int->Shared->Prop},s.heap=h->fg n d->Reads h v d as->Q (wq w d) {s with toks:=s.toks+te d}->wpAny (model pw w) A (pyHash v) Q E s) {Q:Array Int->Shared->Prop} (ds:List PyData):∀{vs as b s},s.heap=h->ds.all (fg n)->ReadsAll h vs ds as->Q (Kk w b ds) {s with toks:=s.toks+drawsDs ds}->
  wpAny (model pw w) A (forIn vs b λx r=>do let i<-pyHash x;pure (.yield<|r.push i)) Q E s:=by
 induction ds with
 |nil=>exact λZ Z r q=>Wn r<|fD q
 |cons d ds jh=>
  exact λ{_ _ _ s} e k r q=>tf k λk1 k2=>Wo r λv vs a b r1 r2=>by
   rw[List.forIn_cons];exact eX<|eX<|ih e k1 r1<|fD<|jh e k2 r2<|(jg s.toks (te d)<|drawsDs ds).symm▸q
end
theorem HV:∀(n:Nat) {d:PyData} {A:Around} {E:Value->Shared->Prop} {s:Shared} {v:Value} {as:List Addr} {Q:Int->Shared->Prop},fg n d->
  A.units+n<cLine->Reads s.heap v d as->Q (wq w d) {s with toks:=s.toks+te d}->wpAny (model pw w) A (pyHash v) Q E s:=by
 intro n
 induction n with
 |zero=>exact λk=>nomatch k
 |succ n ih=>
  exact λ{d A E s v as Q} k hu r=>Pq r k (λi t q=>wpAny_pyHash_int q) (λx t q=>wpAny_pyHash_str q) λa o vs m l ho hc hd hr hl q=>by
   refine pyHash_slot (T:="tuple") ⟨o,ho,hc⟩ F.slot_tuple_hash F.entry_tuple_hash (F.args_tuple_hash_1 _) (beq_builtin_none _) (.inr eZ) ?_;show wpAny _ _ (Builtin.Tuple.tupleItemsOf (.ref a)>>=_) _ _ s;refine eX<|wpAny_tupleItemsOf ho hd<|eX ?_;rw[<-Array.forIn_toList];refine FO (λe k r q=>ih k (by show A.units+1+n<cLine;lia) (e.symm▸r) q) l rfl hl hr ?_;show wpAny _ _ (retInt<|Builtin.Tuple.tupleHashOf (Kk w #[] l).toList) _ _ _;rw[Az];exact eX<|wpAny_mkInt<|fD ⟨_,_,rfl,q⟩
theorem FR:∀(n:Nat) {m:Nat} {d:PyData} {A:Around} {E:Value->Shared->Prop} {s:Shared} {v:Value} {as:List Addr} {Q:Bool->Shared->Prop},fg n d->n<=m->
  Reads s.heap v d as->Q true s->wpAny (model pw w) A (eqIsQuiet m v) Q E s:=by
 intro n
 induction n with
 |zero=>exact λk=>nomatch k
 |succ n ih=>
  exact λ{m d A E s v as Q} k hm r=>Pq r k (λi t q=>mQ (eqIsQuiet_byValue _ rfl) q) (λx t q=>mQ (eqIsQuiet_byValue _ rfl) q) λa o vs m' l ho hc hd hr hl q=>by
   obtain⟨m,rfl⟩:=Nat.exists_eq_add_of_lt<|show 0<m by lia
   have hT:s.TypeIs (.ref a) "tuple":=⟨o,ho,hc⟩;rw[show 0+m+1=m+1 by lia] at hm⊢;unfold eqIsQuiet;refine eX<|wpAny_specialOf hT F.slot_tuple_eq.lookup ?_;refine eX<|wpAny_isInstance hT isSubtype_tuple_tuple ?_;refine eX<|wpAny_seqItems ho hd<|eX ?_;show wpAny _ _ (forIn vs _ _) _ _ s;rw[<-Array.forIn_toList];refine wpAny_forIn_list _ (λrest r s'=>r.1=none/\s'=s/\∃left as',left.all (fg n)/\ReadsAll s.heap rest left as') _ ?_ ?_ _ _ ⟨rfl,rfl,l,_,hl,hr⟩
   .rintro v rest r s' ⟨hr,rfl,left,as',hall,hl⟩
    cases hl with
    |cons h1 h2=>exact tf hall λk1 k2=>eX<|ih k1 (Nat.le_of_succ_le_succ hm) h1<|fD ⟨rfl,rfl,_,_,k2,h2⟩
   .rintro⟨r1,r2⟩ s' ⟨hq,rfl,_⟩
    obtain rfl:r1=none:=hq;exact fD q
end
def yo {x:Str} (h:nR x.cps.toList):PyData.strOk x:=by
 obtain⟨⟨l⟩⟩:=x;unfold nR at h;unfold PyData.strOk;simp only[kZ]at h;simp only[List.all_toArray,kZ,kD];intro c hc;have:=iw<|h c hc;lia
theorem ws:∀(n:Nat) {d:PyData},fg n d->d.canLay0/\d.depth<=n:=by
 intro n
 induction n with
 |zero=>exact λk=>nomatch k
 |succ n ih=>
  exact λ{d} k=>FN k (λi=>⟨rfl,ji _⟩) (λx h=>⟨yo h,ji _⟩) λl hk=>by
   have:PyData.canLayAll0 l/\PyData.depthAll l<=n:=by
    induction l with
    |nil=>exact⟨rfl,ji _⟩
    |cons x l jh=>exact tf hk λk1 k2=>⟨by show (x.canLay0&&PyData.canLayAll0 l)=true;rw[(ih k1).1,(jh k2).1];rfl,Nat.max_le.mpr ⟨(ih k1).2,(jh k2).2⟩⟩
   exact⟨this.1,show _+1<=_ from lf this.2⟩
noncomputable instance:DecidableEq PyData:=λZ Z=>Classical.propDecidable _
def Kl {x y:PyData} {b:Bool} (h:b=true↔x=y):b=decide (x=y):=by cases b<;>simp_all
theorem ub:∀(n:Nat) {x y:PyData},fg n x->fg n y->(PyData.eqv x y=true↔x=y):=by
 intro n
 induction n with
 |zero=>exact λk=>nomatch k
 |succ n ih=>
  exact λ{x y} k k'=>FN k
   (λi=>FN k' (λj=>by simp[PyData.eqv]) (λZ Z=>by simp[PyData.eqv]) λZ Z=>by simp[PyData.eqv])
   (λi Z=>FN k' (λj=>by simp[PyData.eqv]) (λZ Z=>by simp[PyData.eqv]) λZ Z=>by simp[PyData.eqv])
   λl hl=>FN k' (λj=>by simp[PyData.eqv]) (λZ Z=>by simp[PyData.eqv]) λm hm=>by
    have:∀m:List PyData,m.all (fg n)->(PyData.eqvAll l m=true↔l=m):=by
     clear hm m
     induction l with
     |nil=>intro m _;cases m<;>simp[PyData.eqvAll]
     |cons x l jh=>
      intro m h;cases m with
      |nil=>simp[PyData.eqvAll]
      |cons y m=>exact tf hl λa b=>tf h λc d=>by simp only[PyData.eqvAll,jd,ih a c,jh b m d,om]
    simp only[PyData.eqv,this m hm,oo]
def Km (h:Heap) (k:PyData) (a:Addr):Prop:=(∃l,k=.tuple l)/\fg 6 k/\∃as,Reads h (.ref a) k as
def rI {h:Heap} {i:Int} {t:Tok} {e:PyData} {bs:List Addr} (r:Reads h (.int i t) e bs):.int i=e:=by cases r;rfl
def rX {h:Heap} {x:Str} {t:Tok} {e:PyData} {bs:List Addr} (r:Reads h (.str x t) e bs):.str x=e:=by cases r;rfl
theorem Z2 {h:Heap} {a:Addr} {n:Nat} {e:PyData} {bs:List Addr} {o:Obj} {vs:Array Value} {m:Nat} (r:Reads h (.ref a) e bs) (k:fg (n+1) e) (ho:h.get? a=some o) (hd:o.data=.seq vs m):
  ∃l b,e=.tuple l/\ReadsAll h vs.toList l b/\l.all (fg n):=by
 cases r with
 |tuple a b c d=>
  cases ho.symm.trans a;cases hd.symm.trans c;exact⟨_,_,rfl,d,k⟩
 |list=>first|exact fe k|exact nomatch k
 |dict=>first|exact fe k|exact nomatch k
section
variable{h:Heap} {n:Nat}
theorem Pr (ih:∀{v d e as bs},fg n d->fg n e->Reads h v d as->Reads h v e bs->d=e) (l:List PyData):∀{vs as l' bs},l.all (fg n)->l'.all (fg n)->ReadsAll h vs l as->ReadsAll h vs l' bs->l=l':=by
 induction l with
 |nil=>exact λZ Z r q=>Wn r (λq=>by cases q;rfl) q
 |cons x l jh=>
  exact λk k' r q=>Wo r (λv vs a b r1 r2 q=>by
   cases q with
   |cons q1 q2=>exact tf k λk1 k2=>tf k' λk3 k4=>by rw[ih k1 k3 r1 q1,jh k2 k4 r2 q2]) q
theorem zz:∀(n:Nat) {v:Value} {d e:PyData} {as bs:List Addr},fg n d->fg n e->Reads h v d as->Reads h v e bs->d=e:=by
 intro n
 induction n with
 |zero=>exact λk=>nomatch k
 |succ n ih=>
  exact λk k' r=>Pq r k (λi t=>rI) (λx t=>rX) λa o vs m l ho hc hd hr hl r'=>
   let⟨_,_,e,q,k⟩:=Z2 r' k' ho hd
   e▸congrArg _ (Pr ih l hl k hr q)
theorem LR {h':Heap} (ih:∀{v d as},fg n d->Reads h v d as->Reads h' v d as) (l:List PyData):∀{vs as},l.all (fg n)->ReadsAll h vs l as->ReadsAll h' vs l as:=by
 induction l with
 |nil=>exact λZ r=>by cases r;exact .nil
 |cons x l jh=>exact λq r=>by cases r with|cons a b=>exact tf q λc d=>.cons (ih c a)<|jh d b
theorem qM {h':Heap} (k:∀b o,h.get? b=some o->o.cls=.type "tuple"->(∃vs n,o.data=.seq vs n)->h'.get? b=some o):∀(n:Nat) {v:Value} {d:PyData} {as:List Addr},fg n d->Reads h v d as->Reads h' v d as:=by
 intro n
 induction n with
 |zero=>exact λk=>nomatch k
 |succ n ih=>
  exact λ{v d as} q r=>by
   cases r with
   |int=>exact .int ..
   |str=>exact .str ..
   |tuple a b c d=>exact .tuple (k _ _ a b ⟨_,_,c⟩) b c<|LR ih _ q d
   |none=>first|exact fe q|exact nomatch q
   |bool=>first|exact fe q|exact nomatch q
   |list=>first|exact fe q|exact nomatch q
   |dict=>first|exact fe q|exact nomatch q
end
def nI (w:World):HeapKind pw w PyData where
 is:=Km
 hash:=wq w
 draws:=te
 room:=λA=>A.units+70<cLine
 inj:=λhx hy=>by
  obtain⟨-,a1,_,a2⟩:=hx;obtain⟨-,b1,_,b2⟩:=hy;exact zz 6 a1 b1 a2 b2
 keeps:=λ{h h' k a d o es ep} x ho hd hs=>by
  obtain⟨x1,x2,as,x3⟩:=x;exact⟨x1,x2,as,qM (λb ob hb Z hq=>(hs.2 b λe=>by
   subst e;rw[ho]at hb;cases hb;obtain⟨_,_,q⟩:=hq;rw[hd]at q;cases q).trans hb) 6 x2 x3⟩
 pyHash:=λhu hk h=>by
  obtain⟨-,a1,_,a2⟩:=hk;exact HV 6 a1 (fq (ik ay _) hu) a2 h
 eqBool:=λ{A E s x y a b Q} hu hx hy h=>by
  obtain⟨-,a1,_,a2⟩:=hx;obtain⟨-,b1,_,b2⟩:=hy;have c1:=ws 6 a1;have c2:=ws 6 b1;have:=eqAt_reads x y A s _ _ _ _ a2 b2 c1.1 c2.1<|fq (ik (al_81 (Nat.min_le_left _ _)<|al_81 c1.2 ay) _) hu;refine this _ _ _ _ ?_;rw[Kl<|ub 6 a1 b1];exact h
 quiet:=λhk h=>by
  obtain⟨-,a1,_,a2⟩:=hk;exact FR 6 a1 ay a2 h
end
section
open PySem PySem.W
theorem mD (μ:H):∀(k:Nat),d' μ k=μ[k]?:=by
 induction μ with
 |nil=>exact λZ=>rfl
 |cons v r ih=>
  intro k;cases k with
  |zero=>rfl
  |succ k=>exact ih k
theorem uc (μ:H):∀(k:Nat) (o:O),fc μ k o=μ.set k o:=by
 induction μ with
 |nil=>exact λZ Z=>rfl
 |cons v r ih=>
  intro k o;cases k with
  |zero=>rfl
  |succ k=>exact congrArg (v::·)<|ih k o
theorem LS (μ:List V):∀(k:Nat),fK μ k=μ[k]?:=by
 induction μ with
 |nil=>exact λZ=>rfl
 |cons v r ih=>
  intro k;cases k with
  |zero=>rfl
  |succ k=>exact ih k
theorem LT (μ:List V):∀(k:Nat) (o:V),xz μ k o=μ.set k o:=by
 induction μ with
 |nil=>exact λZ Z=>rfl
 |cons v r ih=>
  intro k o;cases k with
  |zero=>rfl
  |succ k=>exact congrArg (v::·)<|ih k o
def th (h:Heap) (a:Addr):Prop:=∃o,h.get? a=some o/\o.dict=none
def FU (x:th h a) (k:∀o,h.get? a=some o->h'.get? a=some o):th h' a:=x.elim λo q=>⟨o,k o q.1,q.2⟩
def th.eE (x:th h a):∀b,Value.ref a=.ref b->∃ob,h.get? b=some ob/\ob.dict=none:=λb e=>by cases e;exact x
inductive lu (w:World) (ρ:f8) (h:Heap):O->Addr×Addr->Prop
 |bh {l a vs}:h.IsList a vs->th h a->RelVs w ρ h l vs.toList->lu w ρ h (.j l) (a,a)
 |bu {l a} {kvs:List (Int×Value)}:h.DictOf (intKind pw w) a kvs->gW w ρ h l (kvs.map λp=>(.int p.1,p.2))->lu w ρ h (.dict l) (a,a)
 |bz {l a} {xs:List (PyData×Addr×Value)}:h.DictOfH (nI w) a xs->gW w ρ h l (xs.map λx=>(x.1,x.2.2))->lu w ρ h (.dict l) (a,a)
 |bJ {c fs a d C es n}:hU aj c=some C->h.get? a=some ⟨.ref C.addr,some d,.plain,#[]⟩->¬kL ρ a->h.get? d=some (dictOf es n)->jR w ρ h fs es->lu w ρ h (.U c fs) (a,d)
 |bK {a o}:h.get? a=some o->o.cls=.type "bytearray"->lu w ρ h .an (a,a)
def lu.bw (r:lu w ρ h o p):∃ob,h.get? p.2=some ob/\ob.cls≠.type "tuple":=by
 cases r with
 |bh a _ _=>refine gT a λo ho hc Z=>?_;exact⟨o,ho,by rw[hc];decide⟩
 |bu a _=>refine ou a λo Z Z ho hc Z=>?_;exact⟨o,ho,by rw[hc.1];decide⟩
 |bz a _=>refine ou a λo Z Z ho hc Z=>?_;exact⟨o,ho,by rw[hc.1];decide⟩
 |bJ _ _ _ a _=>exact⟨_,a,by show Value.type "dict"≠_;decide⟩
 |bK a c=>exact⟨_,a,by rw[c];decide⟩
def lu.cw (r:lu w ρ h o p):∃ob,h.get? p.1=some ob:=by
 cases r with
 |bh a _ _=>refine gT a λo ho hc Z=>?_;exact⟨o,ho⟩
 |bu a _=>refine ou a λo Z Z ho hc Z=>?_;exact⟨o,ho⟩
 |bz a _=>refine ou a λo Z Z ho hc Z=>?_;exact⟨o,ho⟩
 |bJ _ a _ _ _=>exact⟨_,a⟩
 |bK a c=>exact⟨_,a⟩
abbrev ti (h h':Heap):Prop:=∀b o,h.get? b=some o->h'.get? b=some o
def qN (h h':Heap):Prop:=∀b o,h.get? b=some o->o.cls=.type "tuple"->(∃vs n,o.data=.seq vs n)->h'.get? b=some o
def wt (x:h.DictOfH (nI w) a xs) (t:qN h h') (k:∀o,h.get? a=some o->h'.get? a=some o):h'.DictOfH (nI w) a xs:=by
 refine pY x λo es ep ho h1 h2 h3 h4 h5=>⟨o,es,ep,Cv (k o ho) h1 h2 h3 (λy hy=>?_) h5⟩
 obtain⟨z1,z2,as,z3⟩:=h4 y hy;exact⟨z1,z2,as,qM t 6 z2 z3⟩
def lu.move (r:lu w ρ h o p) (hp:p∈ρ) (x:fM W ρ h ρ' h') (f:hZ W ρ h) (t:qN h h') (k:∀ob,h.get? p.2=some ob->h'.get? p.2=some ob):lu w ρ' h' o p:=by
 cases r with
 |bh a n b=>exact .bh (yl a k) (FU n k)<|b.aU x f
 |bu a b=>exact .bu (ym a k)<|b.aU x f
 |bz a b=>exact .bz (wt a t k)<|b.aU x f
 |bJ a b c d e=>exact .bJ a (x.keep _ _ b c λq=>(f.rho _ q _ hp).1 rfl) (x.bI b c) (k _ d)<|e.aU x f
 |bK a b=>exact .bK (k _ a) b
structure e9 (w:World) (ρ:f8) (μ:H) (s:Shared):Prop where
 base:ti (HF w.params) s.heap
 gens:s.gens= #[]
 len:ρ.length=μ.length
 fresh:∀p∈ρ,990<=p.1/\990<=p.2
 obj:∀(k:Nat) (o:O) (p:Addr×Addr),d' μ k=some o->ρ[k]?=some p->lu w ρ s.heap o p
 inj:∀(i j:Nat) (p q:Addr×Addr),ρ[i]?=some p->ρ[j]?=some q->p.2=q.2->i=j
def LU (P:Params):∃o,(HF P).get? 989=some o:=⟨HQ P,eV⟩
section
variable{w:World} {W:List Addr} {ρ ρ':f8} {μ:H} {s s':Shared}
def e9.cE (R:e9 w ρ μ s):990<=s.heap.objs.size:=let⟨o,ho⟩:=LU w.params;jp (R.base _ o ho)
def e9.cR (R:e9 w ρ μ s) (hp:p∈ρ):∃k o,ρ[k]?=some p/\d' μ k=some o/\lu w ρ s.heap o p:=by
 obtain⟨k,hk⟩:=List.mem_iff_getElem?.mp hp;have hl:k<μ.length:=by rw[<-R.len];exact(ke.mp hk).1
 have:d' μ k=some μ[k]:=by rw[mD];simp
 exact⟨k,_,hk,this,R.obj _ _ _ this hk⟩
def e9.bw (R:e9 w ρ μ s) (m:kL ρ b):∃ob,s.heap.get? b=some ob/\ob.cls≠.type "tuple":=by
 obtain⟨p,hp,rfl⟩:=m;exact kF (R.cR hp) λk o Z Z r=>r.bw
def e9.bF (R:e9 w ρ μ s) (x:fM W ρ s.heap ρ' h') (f:hZ W ρ s.heap):qN s.heap h':=λb o ho hc hd=>
 x.keep b o ho λm=>by obtain⟨ob,hb,hn⟩:=R.bw m;rw[ho]at hb;cases hb;exact hn hc
  λq=>by obtain⟨-,ob,hb,hn⟩:=f.cls b q;rw[ho]at hb;cases hb;obtain⟨_,_,e⟩:=hd;exact hn _ _ e
def e9.cg (R:e9 w ρ μ s) (hb:b<990):¬kL ρ b:=λ⟨p,hp,e⟩=>by
 have:=(R.fresh p hp).2;rw[e]at this;exact absurd hb<|mx.mpr this
def xB (P:Params):(HF P).objs.size=990:=eV
def e9.bA (R:e9 w ρ μ s) (x:fM W ρ s.heap ρ' h') (f:hZ W ρ s.heap):ti (HF w.params) h':=λb o ho=>by
 have hb:b<990:=by have:=jp ho;rw[xB]at this;exact this
 exact x.keep b o (R.base b o ho) (R.cg hb) λq=>absurd (f.cls b q).1<|Nat.not_le.mpr hb
def e9.ch (R:e9 w ρ μ s) (x:fM W ρ s.heap ρ s'.heap) (f:hZ W ρ s.heap) (k:∀b o,kL ρ b->s.heap.get? b=some o->s'.heap.get? b=some o) (hg:s'.gens=s.gens):e9 w ρ μ s' where
 base:=R.bA x f
 gens:=hg.trans R.gens
 len:=R.len
 fresh:=R.fresh
 obj:=λi o p ho hp=>(R.obj i o p ho hp).move (lL hp) x f (R.bF x f) λob=>k _ ob ⟨p,lL hp,rfl⟩
 inj:=R.inj
def e9.keep (R:e9 w ρ μ s) (k:ti s.heap s'.heap) (hz:s.heap.objs.size<=s'.heap.objs.size) (hg:s'.gens=s.gens):e9 w ρ μ s':=
 R.ch (.bL k hz) (.aS ..) (λb o Z=>k b o) hg
def e9.bi (R:e9 w ρ μ s) (k:ti s.heap s'.heap) (hg:s'.gens=s.gens):e9 w ρ μ s':=
 R.ch (.aY k) (.aS ..) (λb o Z=>k b o) hg
def e9.dB (R:e9 w ρ μ s) (t:Nat):e9 w ρ μ {s with toks:=t}:=R.keep (λZ Z e=>e) (fX _) rfl
def e9.cL (R:e9 w ρ μ s) (hp:ρ[k]?=some p) (hk:∀b o,b≠p.2->s.heap.get? b=some o->s'.heap.get? b=some o)
  (hz:∃o,s'.heap.get? p.2=some o) (hg:s'.gens=s.gens) (hn:fM [] ρ s.heap ρ s'.heap->qN s.heap s'.heap->lu w ρ s'.heap o' p):
  fM [] ρ s.heap ρ s'.heap/\e9 w ρ (fc μ k o') s':=by
 have x:fM [] ρ s.heap ρ s'.heap:=⟨⟨[],fF,fF⟩,λb o e m Z=>hk b o (λq=>m ⟨p,lL hp,q.symm⟩) e,qL λb o e=>by
  by_cases q:b=p.2
  .rw[q];exact hz
  .exact⟨o,hk b o q e⟩⟩
 have f:hZ [] ρ s.heap:=.aS ..;refine⟨x,R.bA x f,hg.trans R.gens,by simp only[uc,List.length_set];exact R.len,R.fresh,λi o q ho hq=>?_,R.inj⟩;rw[uc,mD]at ho;by_cases hi:i=k
 .subst hi;rw[hp]at hq;cases hq;have hl:i<μ.length:=by rw[<-R.len];exact(ke.mp hp).1
  rw[List.getElem?_set_self hl]at ho;cases ho;exact hn x<|R.bF x f
 .rw[List.getElem?_set_ne λe=>hi e.symm,<-mD]at ho;exact(R.obj i o q ho hq).move (lL hq) x f (R.bF x f) λob hb=>hk _ ob (λe=>hi<|R.inj i k q p hq hp e) hb
def e9.cj (R:e9 w ρ μ s) (k:ti s.heap s'.heap) (hz:s.heap.objs.size<=s'.heap.objs.size) (hg:s'.gens=s.gens)
  (h1:s.heap.objs.size<=p.1) (h2:s.heap.objs.size<=p.2) (hn:fM [] ρ s.heap (ρ++[p]) s'.heap->lu w (ρ++[p]) s'.heap o p):
  fM [] ρ s.heap (ρ++[p]) s'.heap/\e9 w (ρ++[p]) (μ++[o]) s':=by
 have x:fM [] ρ s.heap _ s'.heap:=⟨⟨[p],rfl,λq hq=>by rw[gw.mp hq];exact⟨pj h1,pj h2⟩⟩,λb o e Z Z=>k b o e,qL λb o e=>⟨o,k b o e⟩⟩;have f:hZ [] ρ s.heap:=.aS ..;have old:∀q∈ρ,q.2<s.heap.objs.size:=λq hq=>by refine kF (R.cR hq) λZ Z Z Z r=>?_;refine e8 r.bw λZ ho Z=>?_;exact jp ho
 have hmem:∀i q,(ρ++[p])[i]?=some q->_\/(i=ρ.length/\q=p):=λi q hq=>by
  by_cases hi:i<ρ.length
  .rw[nw hi]at hq;exact .inl hq
  .rw[nz<|mx.mp hi]at hq;have hl:=(ke.mp hq).1;have hi0:i-ρ.length=0:=by simp[List.length_singleton]at hl;omega
   rw[hi0]at hq;simp only[List.getElem?_cons_zero,pb]at hq;exact .inr ⟨Nat.le_antisymm (Nat.le_of_sub_eq_zero hi0) (mx.mp hi),hq.symm⟩
 refine⟨x,R.bA x f,hg.trans R.gens,by simp[R.len],λq hq=>?_,λi o' q ho hq=>?_,λi j q r hq hr e=>?_⟩
 .obtain hq|hq:=fL.mp hq
  .exact R.fresh q hq
  .rw[gw.mp hq];exact⟨al_81 R.cE h1,al_81 R.cE h2⟩
 .rw[mD]at ho;obtain hq'|⟨hi,rfl⟩:=hmem i q hq
  .rw[nw (by rw[<-R.len];exact(ke.mp hq').1),<-mD]at ho;exact(R.obj i o' q ho hq').move (lL hq') x f (R.bF x f) λob hb=>k _ ob hb
  .rw[hi,R.len,nz (fX _),Nat.sub_self]at ho;simp only[List.getElem?_cons_zero,pb]at ho;subst ho;exact hn x
 .obtain hq'|⟨hi,rfl⟩:=hmem i q hq<;>obtain hr'|⟨hj,rfl⟩:=hmem j r hr
  .exact R.inj i j q r hq' hr' e
  .have:=old q (lL hq');rw[e]at this;exact absurd this (mx.mpr h2)
  .have:=old r (lL hr');rw[<-e]at this;exact absurd this (mx.mpr h2)
  .lia
end
def jE (d:Nat) (A:Around):Prop:=A.handled=none/\A.depth+3*d+5<recursionLimit/\A.units+10*d+200<cLine
def rJ (d:Nat) (A:Around):Prop:=A.handled=none/\A.depth+3*d+3<recursionLimit/\A.units+10*d+193<cLine
def jE.cn (h:jE d A):rJ d A:=⟨h.1,fq (ik ay _) h.2.1,fq (ik ay _) h.2.2⟩
def fH:Value->Shared->Prop:=λZ Z=>False
def fV {α:Type} (w:World) (ρ:f8) (s:Shared) (μ':H) (R:f8->Heap->α->Prop):α->Shared->Prop:=
 λu s'=>∃ρ',fM [] ρ s.heap ρ' s'.heap/\e9 w ρ' μ' s'/\s'.os=s.os/\R ρ' s'.heap u
abbrev PV (w:World) (ρ:f8) (s:Shared) (v:V) (μ':H):Value->Shared->Prop:=fV w ρ s μ' λρ' h' u=>eW w ρ' h' v u
abbrev Z3 (w:World) (ρ:f8) (s:Shared) (vs:List V) (μ':H):List Value->Shared->Prop:=fV w ρ s μ' λρ' h' us=>RelVs w ρ' h' vs us
structure f6 (w:World) (sc:Scope) (env:PySem.Env) (E:Env) (ρ:f8) (h:Heap):Prop where
 kind:env.scope.kind=.function
 names:env.scope.names=sc.names
 glob:env.globals=3
 blt:env.builtins=0
 ns:∃m,h.Ns env.locals m/\∀x v,ci E x=some v->sc.names.lookup (nm x)=some .local->∃u,m (nm x)=some u/\eW w ρ h v u
 cell:∀x v,ci E x=some v->sc.names.lookup (nm x)=some .cell\/sc.names.lookup (nm x)=some .free->∃c u,env.cells.lookup (nm x)=some c/\h.IsCell c (some u)/\eW w ρ h v u
 cells:∀n,sc.names.lookup n=some .cell->∃c u,env.cells.lookup n=some c/\h.IsCell c u
 apart:env.cells.Pairwise λx y=>x.2≠y.2
 off:hZ (env.locals::env.cells.map (·.2)) ρ h
section
variable{w:World} {sc:Scope} {env:PySem.Env} {E:Env} {ρ ρ' ρ'':f8} {μ μ' μ'':H} {s s':Shared} {h h':Heap} {A:Around} {d:Nat}
def qf (x:h.IsCell c u) (k:∀o,h.get? c=some o->h'.get? c=some o):h'.IsCell c u:=x.elim λo q=>⟨o,k o q.1,q.2⟩
def D9 (x:h.Ns a m) (k:∀o,h.get? a=some o->h'.get? a=some o):h'.Ns a m:=x.elim λo q=>q.elim λes q=>q.elim λep q=>⟨o,es,ep,k o q.1,q.2⟩
def f6.bn (e:f6 w sc env E ρ h) (x:fM [] ρ h ρ' h'):f6 w sc env E ρ' h':=by
 have f0:hZ [] ρ h:=.aS ..;have own:=λb hb o ho=>
  x.keep b o ho (λ⟨p,hp,q⟩=>(e.off.rho b hb p hp).2 q) fF
 have cm:∀{n c},env.cells.lookup n=some c->c∈env.locals::env.cells.map (·.2):=λhc=>gj _<|fW.mpr ⟨_,mem_of_lookup hc,rfl⟩
 refine⟨e.kind,e.names,e.glob,e.blt,?_,λy v hy hk=>?_,λn hn=>?_,e.apart,e.off.aU x λb hb hw=>absurd hw fF⟩
 .exact e8 e.ns λm hm hr=>⟨m,D9 hm<|own _ fA,λy v hy hk=>e8 (hr y v hy hk) λu hu r=>⟨u,hu,r.aU x f0⟩⟩
 .exact kF (e.cell y v hy hk) λc u hc hi r=>⟨c,u,hc,qf hi<|own _<|cm hc,r.aU x f0⟩
 .exact ot (e.cells n hn) λc u hc hi=>⟨c,u,hc,qf hi<|own _<|cm hc⟩
def fV.bj {α:Type} {R:f8->Heap->α->Prop} {u:α} {s₂:Shared} (x:fM [] ρ s.heap ρ' s'.heap) (ho:s'.os=s.os) (p:fV w ρ' s' μ'' R u s₂):fV w ρ s μ'' R u s₂:=
 nD p λρ'' a b c d=>⟨ρ'',iI (x.aT a) b (c.trans ho) d⟩
def fV.bZ {u:α} (T:e9 w ρ μ s) (k:ti s.heap s₂.heap) (hz:s.heap.objs.size<=s₂.heap.objs.size) (hg:s₂.gens=s.gens) (ho:s₂.os=s.os)
  (r:R ρ s₂.heap u):fV w ρ s μ R u s₂:=⟨ρ,iI (.bL k hz) (T.keep k hz hg) ho r⟩
def fV.cz {u:α} (T:e9 w ρ μ s) (k:ti s.heap s₂.heap) (hg:s₂.gens=s.gens) (ho:s₂.os=s.os)
  (r:R ρ s₂.heap u):fV w ρ s μ R u s₂:=⟨ρ,iI (.aY k) (T.bi k hg) ho r⟩
def fV.bD {u:α} (T:e9 w ρ μ s) (t:Nat) (r:R ρ s.heap u):fV w ρ s μ R u {s with toks:=t}:=
 fV.bZ T (λZ Z e=>e) (fX _) rfl rfl r
def fV.aW {u:α} (T:e9 w ρ μ s) (r:R ρ s.heap u):fV w ρ s μ R u s:=⟨ρ,iI (.aZ ..) T rfl r⟩
def RV (P:Value->Shared->Prop):Result->Shared->Prop:=λr s'=>match r with
 |.ok (.ret v)=>P v s'
 |_=>False
noncomputable def oA (f:Nat):Bool:=!Nat.beq f 44&&!Nat.beq f 90
def FS (w:World) (d:Nat) (F:fb):Prop:=∀f vs μ v μ',oA f->F f vs μ=some (v,μ')->∀fd,ga eU f=some fd->∀(A:Around) (ρ:f8) (s:Shared) us,
 e9 w ρ μ s->RelVs w ρ s.heap vs us->rJ d A->codeAny (model pw w) A (.call (.ref fd.addr) ⟨us,[]⟩) (RV<|PV w ρ s v μ') s
def SV (w:World) (d:Nat) (F:fb) (sc:Scope) (e:Ex) (x:Expr):Prop:=∀(env:PySem.Env) (E:Env) (A:Around) (ρ:f8) (μ:H) (s:Shared) v μ',f6 w sc env E ρ s.heap->e9 w ρ μ s->jE d A->
 ev aj F E e μ=some (v,μ')->wpAny (model pw w) A (eval x env) (PV w ρ s v μ') fH s
def ST (w:World) (d:Nat) (F:fb) (sc:Scope) (e:Ex) (x:Expr):Prop:=∀(env:PySem.Env) (E:Env) (A:Around) (ρ:f8) (μ:H) (s:Shared) v b μ',f6 w sc env E ρ s.heap->e9 w ρ μ s->jE d A->
 ev aj F E e μ=some (v,μ')->ix μ' v=some b->wpAny (model pw w) A (isTrue x env<|eval x env) (fV w ρ s μ' λZ Z u=>u=b) fH s
def hY (w:World) (d:Nat) (F:fb) (sc:Scope) (es:List Ex) (xs:List Expr):Prop:=∀(env:PySem.Env) (E:Env) (A:Around) (ρ:f8) (μ:H) (s:Shared) vs μ' pos,f6 w sc env E ρ s.heap->e9 w ρ μ s->jE d A->
 evs aj F E es μ=some (vs,μ')->wpAny (model pw w) A (spliced<|backTo pos<|starEach xs env) (Z3 w ρ s vs μ') fH s
def Ps (h:codeAny (model pw w) A (.call f ⟨us,[]⟩) (RV P) s):wpAny (model pw w) A (call f us) P fH s:=by
 refine wpAny_call<|codeAny_mono h λr s' z=>?_
 obtain e|(v|_|_|_):=r<;>first|exact z|exact z.elim
def fN {Q:α->Shared->Prop} (h:wpAny (model pw w) A t (fV w ρ s μ' R) fH s)
  (k:∀u s₁ ρ₁,fM [] ρ s.heap ρ₁ s₁.heap->e9 w ρ₁ μ' s₁->s₁.os=s.os->R ρ₁ s₁.heap u->Q u s₁):wpAny (model pw w) A t Q E' s:=
 gE h (λu s₁ ⟨ρ₁,a,b,c,d⟩=>k u s₁ ρ₁ a b c d) λZ Z f=>f.elim
def hY.aS {F:fb}:hY w d F sc [] []:=λenv E A ρ μ s vs μ' pos Z T Z h=>by
 exact iS h<|wpAny_items_nil<|fV.aW T .aS
noncomputable def f7 (x:Expr):Bool:=!Nat.beq x.ctorIdx 22
def ja (h:f7 e):starEach (e::rest) env=(false,eval e env)::starEach rest env:=by cases e<;>first|rfl|exact ng h
def hY.aR {F:fb} {e:Ex} {x:Expr} {es:List Ex} {xs:List Expr} (hp:f7 x) (h1:SV w d F sc e x) (h2:hY w d F sc es xs):hY w d F sc (e::es) (x::xs):=λenv E A ρ μ s vs μ' pos eR T hA h=>by
 refine iA h λv μ1 e1 h=>iB h λus μ2 e2 h=>iS h<|wpAny_items_cons (fN (h1 env E A ρ μ s _ _ eR T hA e1) λu s₁ ρ₁ a b c r=>?_)<|ja hp
 exact fN (h2 env E A ρ₁ μ1 s₁ _ _ pos (eR.bn a) b hA e2) λus s₂ ρ₂ a' b' c' r'=>⟨ρ₂,iI (a.aT a') b' (c'.trans c)<|.aR (r.aU a'<|.aS ..) r'⟩
end
end
section
open PySem PySem.W PyProof.Rows
noncomputable def CL:Op->Operator
 |.R=>.Add|.D=>.Sub|.aw=>.Mult|.W=>.FloorDiv|.ag=>.Mod|.aN=>.LShift|.aO=>.RShift|.aL=>.BitOr|.aB=>.BitAnd
noncomputable def FV:Cm->CmpOp
 |.eq=>.Eq|.ne=>.NotEq|.lt=>.Lt|.le=>.LtE|.gt=>.Gt|.ge=>.GtE|.V=>.In|.ab=>.NotIn|.is=>.Is|.aH=>.IsNot
section
variable{w:World} {ρ:f8} {μ:H} {s:Shared} {A:Around} {d:Nat} {a b r:V} {u v:Value}
def yp (h:i3 i):i.natAbs<2^64:=by
 unfold i3 at h;simp[jd,kD]at h;omega
def LV (h:i.natAbs<2^64):Builtin.Int.intBits i<=64:=by
 unfold Builtin.Int.intBits;split
 .lia
 .rename_i hn;have h0:i.natAbs≠0:=by simpa using hn
  have:=(Nat.log2_lt h0).mpr h;lia
def AA {b:Int} (h00:0<b) (h1:b<1000000000) (a:Int):Builtin.divisionGoesByPylong a b=false:=by
 unfold Builtin.divisionGoesByPylong;simp only[Bool.and_eq_false_iff,decide_eq_false_iff_not];left;split
 .lia
 .rename_i hn;have h0:b.natAbs≠0:=by simpa using hn
  have:=(Nat.log2_lt (k:=32) h0).mpr<|lc (Int.natAbs_lt_natAbs_of_nonneg_of_lt (Int.le_of_lt h00) h1) ay;lia
def j7 (T:e9 w ρ μ s):PV w ρ s (.a i) μ (.int i s.toks) {s with toks:=s.toks+1}:=fV.bD T _<|.bY i _
def e9.bI (T:e9 w ρ μ s) {b:Addr} (h:s.heap.objs.size<=b):¬kL ρ b:=λm=>by
 exact e8 (T.bw m) λZ ho Z=>absurd (jp ho)<|mx.mpr h
def e9.bg (o:Obj):fM W ρ s.heap ρ (s.heap.push o):=.bL (λZ Z e=>iV o e) fF
def tj (T:e9 w ρ μ s) (h:RelVs w ρ s.heap l vs.toList) (t:Nat):
  PV w ρ s (.w l) μ (.ref s.heap.objs.size) {s with heap:=s.heap.push {cls:=.type "list",data:=.seq vs},toks:=t}:=
 fV.bZ T (λZ Z e=>iV _ e) fF rfl rfl
  (.bo ⟨_,jQ _ rfl,rfl,_,rfl⟩ (T.bI<|fX _)<|h.aU (e9.bg _)<|.aS ..)
def vD (T:e9 w ρ μ s) (h:RelVs w ρ s.heap l vs.toList) (t:Nat):
  PV w ρ s (.v l) μ (.ref s.heap.objs.size) {s with heap:=s.heap.push {cls:=.type "tuple",data:=.seq vs},toks:=t}:=
 fV.bZ T (λZ Z e=>iV _ e) fF rfl rfl
  (.bF ⟨_,jQ _ rfl,rfl,_,rfl⟩ (T.bI<|fX _)<|h.aU (e9.bg _)<|.aS ..)
theorem RelVs.b0 {ρ:f8} {h:Heap} {l m:List V} {us vs:List Value} (a:RelVs w ρ h l us) (b:RelVs w ρ h m vs):RelVs w ρ h (l++m) (us++vs):=by
 induction l generalizing us with
 |nil=>exact nH (Q:=λus=>RelVs w ρ h ([]++m)<|us++vs) a b
 |cons v l ih=>exact kq (Q:=λus=>RelVs w ρ h ((v::l)++m)<|us++vs) a λZ Z p q=>.aR p<|ih q
def rK (T:e9 w ρ μ s) (h1:s.heap.IsList x xs) (h2:RelVs w ρ s.heap l xs.toList) (h3:s.heap.IsList y ys) (h4:RelVs w ρ s.heap m ys.toList)
  (hb:l.length+m.length<=gH):wpAny (model pw w) A (binaryOp .Add (.ref x)<|.ref y) (PV w ρ s (.w<|l++m) μ) fH s:=by
 refine ia λG kk=>?_
 obtain⟨⟨cls,dd,data,sl⟩,ho,hc,n,hd⟩:=id h1;obtain⟨⟨cls2,dd2,data2,sl2⟩,ho2,hc2,n2,hd2⟩:=id h3;subst hc hd hc2 hd2;have hz:xs.size+ys.size<=sizeLine:=by
  have e1:=h2.aV;have e2:=h4.aV;simp[j6]at e1 e2;rw[<-e1,<-e2,kE];unfold gH at hb;lia
 apply kk;refine concat_meets ⟨_,ho,rfl⟩ ⟨_,ho2,rfl⟩ noFill_list_add seq_list_add PySem.F.slot_list_add PySem.F.entry_list_add (PySem.F.args_list_add_2 _ _) (list_addW x y xs ys n n2 dd dd2 sl sl2 hz) ⟨ho,ho2,?_⟩;exact tj T (by rw[Array.toList_append];exact h2.b0 h4) _
def ud (T:e9 w ρ μ s) (hr:eW w ρ s.heap (.g k) v) (hg:d' μ k=some (.j l)):∃x xs,v=.ref x/\ρ[k]?=some (x,x)/\s.heap.IsList x xs/\RelVs w ρ s.heap l xs.toList:=by
 cases hr with
 |cv e=>
  have:=T.obj _ _ _ hg e;cases this with
  |bh a _ b=>exact⟨_,_,iI rfl e a b⟩
def AB (T:e9 w ρ μ s) (e:ρ[k]?=some (x,x)) (hg:d' μ k=some (.j l)):th s.heap x:=by
 have:=T.obj _ _ _ hg e;cases this with
 |bh _ n _=>exact n
def vF:fillsNumberSlot (.type "tuple") "mul"=pure false:=
 PySem.fillsNumberSlot_seq sN.lookup (by decide+kernel) PySem.F.slot_tuple_rmul.lookup (by decide+kernel)
def AC:seqRepeat? (.type "tuple")=pure (some<|.builtin "tuple.__mul__"):=by
 unfold seqRepeat?;rw[PySem.seqSlot_of (name:="__mul__") sN.lookup (by decide+kernel),PySem.seqSlot_of (name:="__rmul__") PySem.F.slot_tuple_rmul.lookup (by decide+kernel)];rfl
def xC (a:Int) (t:Tok) (l:Addr) (items:Array Value) (n:Nat) (dd:Option Addr) (sl:Array (Option Value)):
  Meets (Builtin.«int.__rmul__» ⟨[.int a t,.ref l],[]⟩) (λZ R s=>s.heap.get? l=some {cls:=.type "tuple",dict:=dd,data:=.seq items n,slots:=sl}/\R (.ok<|.ret Value.notImplemented) s):=
 .of_wp λprog w A R s h=>by obtain⟨hp,g,d,tk,os⟩:=s;obtain⟨hl,h⟩:=h;wp_walk;exact⟨_,rfl,h⟩
def zA (l:Addr) (items:Array Value) (n:Nat) (t:Tok) (dd:Option Addr) (sl:Array (Option Value)):
  Meets (Builtin.«tuple.__mul__» ⟨[.ref l,.int 1 t],[]⟩) (λZ R s=>s.heap.get? l=some {cls:=.type "tuple",dict:=dd,data:=.seq items n,slots:=sl}/\R (.ok<|.ret<|.ref l) s):=
 .of_wp λprog w A R s h=>by obtain⟨hp,g,d,tk,os⟩:=s;obtain⟨hl,h⟩:=h;wp_walk using PySem.wpAny_loadPart' hl;exact⟨_,rfl,h⟩
def wu (l:Addr) (items:Array Value) (n:Nat) (t:Tok) (dd:Option Addr) (sl:Array (Option Value)) (hc:items.isEmpty):
  Meets (Builtin.«tuple.__mul__» ⟨[.ref l,.int 0 t],[]⟩) (λZ R s=>s.heap.get? l=some {cls:=.type "tuple",dict:=dd,data:=.seq items n,slots:=sl}/\R (.ok<|.ret<|.ref l) s):=
 .of_wp λprog w A R s h=>by obtain⟨hp,g,d,tk,os⟩:=s;obtain⟨hl,h⟩:=h;wp_walk using PySem.wpAny_loadPart' hl;exact⟨_,rfl,h⟩
def wv (l:Addr) (items:Array Value) (n:Nat) (t:Tok) (dd:Option Addr) (sl:Array (Option Value)) (hc:¬items.isEmpty):
  Meets (Builtin.«tuple.__mul__» ⟨[.ref l,.int 0 t],[]⟩) (λZ R s=>s.heap.get? l=some {cls:=.type "tuple",dict:=dd,data:=.seq items n,slots:=sl}/\R (.ok<|.ret<|.ref s.heap.objs.size) {s with heap:=s.heap.push {cls:=.type "tuple",data:=.seq #[]}}):=
 .of_wp λprog w A R s h=>by obtain⟨hp,g,d,tk,os⟩:=s;obtain⟨hl,h⟩:=h;wp_walk using PySem.wpAny_loadPart' hl;exact⟨_,rfl,h⟩
def Tc {l:List V} {xs:Array Value} (h3:RelVs w ρ h l xs.toList) (he:xs.isEmpty):l=[]:=by
 have e:=h3.aV;have:xs= #[]:=by simpa using he
 rw[this]at e;exact List.length_eq_zero_iff.1 e
def X4 {h:Heap} {x xs} (h1:h.IsTuple x xs) {G:Prop} (k:∀dd sl n,h.get? x=some {cls:=.type "tuple",dict:=dd,data:=.seq xs n,slots:=sl}->G):G:=by
 obtain⟨⟨cls,dd,data,sl⟩,ho,hc,n,hd⟩:=h1;cases hc;cases hd;exact k dd sl n ho
def HW {x xs} {i:Int} {t:Nat} {dd sl n} {G:Value->Shared->Prop} (ho:s.heap.get? x=some {cls:=.type "tuple",dict:=dd,data:=.seq xs n,slots:=sl}) (h:wpAny (model pw w) A (call (.builtin "tuple.__mul__") [.ref x,.int i t]) G fH s):wpAny (model pw w) A (binaryOp .Mult (.ref x)<|.int i t) G fH s:=
 wpAny_binaryOp_repeat_ref ay ⟨_,ho,rfl⟩ (λs'=>typeIs_int s' i t) vF PySem.F.fills_int_mul PySem.F.slot_int_rmul AC PySem.F.slot_int_index.lookup
  (PySem.call_meets PySem.F.slot_int_rmul (typeIs_int s i t) PySem.F.entry_int_rmul (PySem.F.args_int_rmul_2 _ _) (xC i t x xs n dd sl)<|iI ho rfl ⟨_,ho,rfl⟩ h)
def CM (T:e9 w ρ μ s) {t:Nat} (hr:eW w ρ s.heap (.v l) u) (h:(i=0/\m=[])\/(i=1/\m=l)):wpAny (model pw w) A (binaryOp .Mult u<|.int i t) (PV w ρ s (.v m) μ) fH s:=
 qz (P:=λu=>eW w ρ s.heap (.v l) u->wpAny (model pw w) A (binaryOp .Mult u<|.int i t) (PV w ρ s (.v m) μ) fH s) hr (λx xs h1 Z h3 hr0=>X4 h1 λdd sl n ho=>HW ho (by
  obtain⟨rfl,rfl⟩|⟨rfl,rfl⟩:=h
  .by_cases he:xs.isEmpty=true
   .exact PySem.call_meets sN ⟨_,ho,rfl⟩ PySem.F.entry_tuple_mul (PySem.F.args_tuple_mul_2 _ _) (wu x xs n t dd sl he) ⟨ho,fV.aW T<|Tc h3 he▸hr0⟩
   .exact PySem.call_meets sN ⟨_,ho,rfl⟩ PySem.F.entry_tuple_mul (PySem.F.args_tuple_mul_2 _ _) (wv x xs n t dd sl he) ⟨ho,vD T .aS _⟩
  .exact PySem.call_meets sN ⟨_,ho,rfl⟩ PySem.F.entry_tuple_mul (PySem.F.args_tuple_mul_2 _ _) (zA x xs n t dd sl) ⟨ho,fV.aW T hr0⟩)) hr
def LW (x y:List Nat):(⟨⟨x⟩⟩:Str)++(⟨⟨y⟩⟩:Str)=⟨⟨x++y⟩⟩:=by
 show Str.mk _=_;simp
def LX {i j:Int} {t t':Tok} {o:Op} (T:e9 w ρ μ s) (h:mK μ o (.a i) (.a j)=some r):wpAny (model pw w) A (binaryOp (CL o) (.int i t)<|.int j t') (PV w ρ s r μ) fH s:=by
 cases o with
 |R=>cases h;exact add_int<|j7 T
 |D=>cases h;exact sub_int<|j7 T
 |aw=>
  exact iD h λhw h=>by
   cases h;exact mul_int (j7 T)<|.of_left<|LV<|yp (Bool.and_eq_true_iff.mp hw).1
 |W=>
  exact iD h λhw h=>by
   rw[jd,kD,kD]at hw;cases h;exact floordiv_int (by omega) (j7 T)<|.inl<|AA hw.1 hw.2 _
 |ag=>
  exact iD h λhw h=>by
   rw[jd,kD,kD]at hw;cases h;exact mod_int' (by omega)<|j7 T
 |aN=>
  exact iD h λhw h=>by
   rw[jd,jd,kD,kD]at hw;cases h;exact lshift_int_small hw.1.1 (by omega) (yp hw.2)<|j7 T
 |aO=>
  exact iD h λhw h=>by
   rw[jd,kD,kD]at hw;cases h;exact rshift_int hw.1<|j7 T
 |aL=>cases h;exact or_int<|j7 T
 |aB=>cases h;exact and_int<|j7 T
theorem Pt {o:Op} {f:Option V} {r:V} (h:(match o with
  |.R=>f
  |_=>none)=some r) {P:Op->Prop} (k:f=some r->P .R):P o:=by
 cases o with
 |R=>exact k h
 |_=>exact fe h
theorem Z4 {o:Op} {f:Option V} {r:V} (h:(match o with
  |.aw=>f
  |_=>none)=some r) {P:Op->Prop} (k:f=some r->P .aw):P o:=by
 cases o with
 |aw=>exact k h
 |_=>exact fe h
theorem Wp {b:V} {f:Int->Option V} {r:V} (h:(match b with
  |.a i=>f i
  |_=>none)=some r) {P:V->Prop} (k:∀i,f i=some r->P (.a i)):P b:=by
 cases b with
 |a i=>exact k i h
 |_=>exact fe h
theorem Z5 {b:V} {f:List Nat->Option V} {r:V} (h:(match b with
  |.z i=>f i
  |_=>none)=some r) {P:V->Prop} (k:∀i,f i=some r->P (.z i)):P b:=by
 cases b with
 |z i=>exact k i h
 |_=>exact fe h
theorem Z6 {b:V} {f:List V->Option V} {r:V} (h:(match b with
  |.w l=>f l
  |.g k=>match d' μ k with
   |some (.j l)=>f l
   |_=>none
  |_=>none)=some r) {P:V->Prop} (k:∀l,f l=some r->P (.w l)) (k':∀i l,d' μ i=some (.j l)->f l=some r->P (.g i)):P b:=by
 cases b with
 |w l=>exact k l h
 |g i=>exact iH h λl g h=>k' i l g h
 |_=>exact fe h
theorem Z7 {b:V} {f:Nat->Option V} {r:V} (h:(match b with
  |.g i=>f i
  |_=>none)=some r) {P:V->Prop} (k:∀i,f i=some r->P (.g i)):P b:=by
 cases b with
 |g i=>exact k i h
 |_=>exact fe h
def mi (T:e9 w ρ μ s) (hr:eW w ρ s.heap (.g k) v) (hg:d' μ k=some (.j l)) {P:Value->Prop} (kk:∀x xs,ρ[k]?=some (x,x)->s.heap.IsList x xs->RelVs w ρ s.heap l xs.toList->P (.ref x)):P v:=by
 obtain⟨x,xs,rfl,a,b,c⟩:=ud T hr hg;exact kk x xs a b c
theorem vbn_c {P:Op->V->V->V->Prop} {o:Op} {a b r:V} (h:mK μ o a b=some r) (ki:∀i j,mK μ o (.a i) (.a j)=some r->P o (.a i) (.a j) r) (kll:∀l r,(l.length+r.length)<=gH->P .R (.w l) (.w r) (.w<|l++r))
 (klr:∀l k r,d' μ k=some (.j r)->(l.length+r.length)<=gH->P .R (.w l) (.g k) (.w<|l++r)) (krr:∀j l k r,d' μ j=some (.j l)->d' μ k=some (.j r)->(l.length+r.length)<=gH->P .R (.g j) (.g k) (.w<|l++r))
 (k0:∀l,P .aw (.v l) (.a 0)<|.v []) (k1:∀l,P .aw (.v l) (.a 1)<|.v l) (ks:∀x y,(x.length+y.length)<=1000->P .R (.z x) (.z y) (.z<|x++y)):P o a b r:=by
 cases a with
 |a i=>exact Wp (f:=λj=>mK μ o (.a i)<|.a j) h (P:=λb=>P o _ b r)<|ki i
 |w l=>exact Pt h (P:=λo=>P o _ b r) λh=>Z6 h (P:=λb=>P _ _ b r) (λr h=>iD h λhw h=>Option.some.inj h▸kll l r (iw hw)) λk r g h=>iD h λhw h=>Option.some.inj h▸klr l k r g (iw hw)
 |g j=>exact Pt h (P:=λo=>P o _ b r) λh=>Z7 h (P:=λb=>P _ _ b r) λk h=>iH h λl g h=>iH h λr g' h=>iD h λhw h=>Option.some.inj h▸krr j l k r g g' (iw hw)
 |v l=>exact Z4 h (P:=λo=>P o _ b r) λh=>Wp h (P:=λb=>P _ _ b r) λi h=>iU h (λhi h=>Option.some.inj h▸jA hi▸k0 l) λZ h=>iD h λhi h=>Option.some.inj h▸jA hi▸k1 l
 |z x=>exact Pt h (P:=λo=>P o _ b r) λh=>Z5 h (P:=λb=>P _ _ b r) λy h=>iD h λhw h=>Option.some.inj h▸ks x y (iw hw)
 |_=>exact fe h
def Pu (o:Op) {a b r:V} {u v:Value} (T:e9 w ρ μ s) (ha:eW w ρ s.heap a u) (hb:eW w ρ s.heap b v) (h:mK μ o a b=some r):wpAny (model pw w) A (binaryOp (CL o) u v) (PV w ρ s r μ) fH s:=
 vbn_c (P:=λo a b r=>eW w ρ s.heap a u->eW w ρ s.heap b v->wpAny (model pw w) A (binaryOp (CL o) u v) (PV w ρ s r μ) fH s) h
  (λZ Z h ha hb=>jD (P:=λu=>wpAny (model pw w) A (binaryOp (CL o) u v) _ fH s) ha λZ=>jD hb λZ=>LX T h)
  (λZ Z hw ha hb=>mh (P:=λu=>wpAny (model pw w) A (binaryOp .Add u v) _ fH s) ha λZ Z a1 Z a3=>mh hb λZ Z b1 Z b3=>rK T a1 a3 b1 b3 hw)
  (λZ Z Z hg hw ha hb=>mh (P:=λu=>wpAny (model pw w) A (binaryOp .Add u v) _ fH s) ha λZ Z a1 Z a3=>mi (P:=λv=>wpAny (model pw w) A (binaryOp .Add _ v) _ fH s) T hb hg λZ Z Z b1 b3=>rK T a1 a3 b1 b3 hw)
  (λZ Z Z Z hg hg' hw ha hb=>mi (P:=λu=>wpAny (model pw w) A (binaryOp .Add u v) _ fH s) T ha hg λZ Z Z a1 a3=>mi (P:=λv=>wpAny (model pw w) A (binaryOp .Add _ v) _ fH s) T hb hg' λZ Z Z b1 b3=>rK T a1 a3 b1 b3 hw)
  (λZ ha hb=>jD hb λZ=>CM T ha<|.inl ⟨rfl,rfl⟩) (λZ ha hb=>jD hb λZ=>CM T ha<|.inr ⟨rfl,rfl⟩)
  (λZ Z hw ha hb=>vB (P:=λu=>wpAny (model pw w) A (binaryOp .Add u v) _ fH s) ha λZ=>vB hb λZ=>add_str (λZ tk=>fV.bD T tk (by rw[LW];exact .ck _ _)) (by rw[kE];exact al_81 hw ay)) ha hb
end
end
section
open PySem PySem.W PyProof.Rows PySem.SeqAt
section
variable{w:World} {ρ:f8} {μ:H} {s:Shared} {A:Around} {d:Nat} {a b:V} {u v:Value}
theorem oB {α β:Type} {o:Option α} {f:α->Option β} {r:β} (h:o.bind f=some r) {G:Prop} (k:∀a,o=some a->f a=some r->G):G:=by
 cases o with
 |none=>first|exact fe h|exact nomatch h
 |some a=>exact k a rfl h
theorem FW {γ:Type} {o:Option O} {f:List V->Option γ} {g:List (PyData×V)->Option γ} {r:γ} (h:(match o with
  |some (.j l)=>f l
  |some (.dict l)=>g l
  |_=>none)=some r) {G:Prop} (k:∀l,o=some (.j l)->f l=some r->G) (k':∀l,o=some (.dict l)->g l=some r->G):G:=by
 cases o with
 |none=>exact fe h
 |some o=>
  cases o with
  |j l=>exact k l rfl h
  |dict l=>exact k' l rfl h
  |_=>exact fe h
theorem Wq {γ:Type} {o:Option O} {g:List (PyData×V)->Option γ} {r:γ} (h:(match o with
  |some (.dict l)=>g l
  |_=>none)=some r) {G:Prop} (k':∀l,o=some (.dict l)->g l=some r->G):G:=by
 cases o with
 |none=>exact fe h
 |some o=>
  cases o with
  |dict l=>exact k' l rfl h
  |_=>exact fe h
theorem kU {α β:Type} {f:α->Option β} {v:α} {r:List α} {ds:List β} (h:fY f (v::r)=some ds) {G:Prop} (k:∀e es,f v=some e->fY f r=some es->ds=e::es->G):G:=by
 have h:(match f v with
  |none=>none
  |some d=>match fY f r with
   |none=>none
   |some ds=>some (d::ds))=some ds:=h
 cases a:f v with
 |none=>rw[a]at h;first|exact fe h|exact nomatch h
 |some e=>
  rw[a]at h;cases b:fY f r with
  |none=>rw[b]at h;first|exact fe h|exact nomatch h
  |some es=>rw[b]at h;exact k e es a b (Option.some.inj h).symm
theorem rL {n:Nat} (ih:∀v e u,gI μ n v=some e->eW w ρ s.heap v u->∃as,Reads s.heap u e as/\e.canLay0/\e.depth<=n) {l:List V}:
  ∀{ds us},fY (gI μ n) l=some ds->RelVs w ρ s.heap l us->∃as,ReadsAll s.heap us ds as/\PyData.canLayAll0 ds/\PyData.depthAll ds<=n:=by
 induction l with
 |nil=>intro ds us h r;rw[<-Option.some.inj h];exact nH (Q:=λus=>∃as,ReadsAll s.heap us [] as/\PyData.canLayAll0 []/\PyData.depthAll []<=n) r ⟨_,.nil,rfl,ji _⟩
 |cons x l il=>
  intro ds us h r;refine kU h λe es he hes ed=>?_
  rw[ed];exact kq (Q:=λus=>∃as,ReadsAll s.heap us (e::es) as/\PyData.canLayAll0 (e::es)/\PyData.depthAll (e::es)<=n) r λZ Z r1 r2=>(ih _ _ _ he r1).elim λas h=>(il hes r2).elim λbs g=>⟨_,.cons h.1 g.1,by rw[PyData.canLayAll0,h.2.1,g.2.1]; rfl,by rw[PyData.depthAll];exact Nat.max_le.mpr ⟨h.2.2,g.2.2⟩⟩
def X5 {a:Addr} {vs:Array Value} {ds:List PyData} {n:Nat} (h1:s.heap.IsTuple a vs) (g:∃as,ReadsAll s.heap vs.toList ds as/\PyData.canLayAll0 ds/\PyData.depthAll ds<=n):∃as,Reads s.heap (.ref a) (.tuple ds) as/\(PyData.tuple ds).canLay0/\(PyData.tuple ds).depth<=n+1:=by
 obtain⟨as,g1,g2,g3⟩:=g;obtain⟨o,ho,hc,k,hk⟩:=h1;exact⟨_,.tuple ho hc hk g1,by rw[PyData.canLay0];exact g2,by rw[PyData.depth];lia⟩
def Kn {a:Addr} {vs:Array Value} {ds:List PyData} {n:Nat} (h1:s.heap.IsList a vs) (g:∃as,ReadsAll s.heap vs.toList ds as/\PyData.canLayAll0 ds/\PyData.depthAll ds<=n):∃as,Reads s.heap (.ref a) (.list ds) as/\(PyData.list ds).canLay0/\(PyData.list ds).depth<=n+1:=by
 obtain⟨as,g1,g2,g3⟩:=g;obtain⟨o,ho,hc,k,hk⟩:=h1;exact⟨_,.list ho hc hk g1,by rw[PyData.canLay0];exact g2,by rw[PyData.depth];lia⟩
theorem HX {α β:Type} {o:Option α} {c:α->β} {e:β} {Q:β->Prop} (h:o.map c=some e) (k:∀a,o=some a->Q (c a)):Q e:=by
 cases o with
 |none=>first|exact fe h|exact nomatch h
 |some a=>exact Option.some.inj h▸k a rfl
theorem oI (T:e9 w ρ μ s) (n:Nat):∀v e u,gI μ n v=some e->eW w ρ s.heap v u->∃as,Reads s.heap u e as/\e.canLay0/\e.depth<=n:=by
 induction n with
 |zero=>intro v e u h;first|exact fe h|exact nomatch h
 |succ n ih=>
  intro v e u h r;cases r with
  |bv=>rw[<-Option.some.inj h];exact⟨_,.none,rfl,ji _⟩
  |bM b=>rw[<-Option.some.inj h];exact⟨_,.bool b,rfl,ji _⟩
  |bY i t=>rw[<-Option.some.inj h];exact⟨_,.int i t,rfl,ji _⟩
  |ck x t=>exact iU h (λhx h=>by rw[<-Option.some.inj h];exact⟨_,.str _ t,yo (x:=⟨⟨x⟩⟩) hx,ji _⟩) λZ h=>nomatch h
  |bN t=>first|exact fe h|exact nomatch h
  |bF h1 h2 h3=>exact HX (c:=PyData.tuple) (Q:=λe=>∃as,Reads s.heap _ e as/\e.canLay0/\e.depth<=n+1) h λds hd=>X5 h1<|rL ih hd h3
  |bo h1 h2 h3=>exact HX (c:=PyData.list) (Q:=λe=>∃as,Reads s.heap _ e as/\e.canLay0/\e.depth<=n+1) h λds hd=>Kn h1<|rL ih hd h3
  |bU=>first|exact fe h|exact nomatch h
  |cv e1=>exact iH h λl hl h=>HX (c:=PyData.list) (Q:=λe=>∃as,Reads s.heap _ e as/\e.canLay0/\e.depth<=n+1) h λds hd=>match T.obj _ _ _ hl e1 with |.bh h1 _ h3=>Kn h1<|rL ih hd h3
def AD {A:Around} {x y:PyData} {n:Nat} (h:x.depth<=n) (hu:A.units+n<cLine):A.units+min x.depth y.depth<cLine:=fq (ik (al_81 (Nat.min_le_left _ _) h) _) hu
set_option tactic.hygienic true in
def LY (T:e9 w ρ μ s) (hu:A.units+20<cLine) (rx:Reads s.heap x e as) (cx:e.canLay0)
  (h:sR μ e l=some r) (hr:RelVs w ρ s.heap l us):∃f:Value->Bool,(∀y∈us,EqAt A s y x<|f y)/\us.any f=r:=by
 have key:∀{l us r},sR μ e l=some r->RelVs w ρ s.heap l us->∃bs:List (Value×Bool),bs.map (·.1)=us/\(∀p∈bs,EqAt A s p.1 x p.2)/\bs.any (·.2)=r:=by
  intro l
  induction l with
  |nil=>intro us r h hr;refine nH hr ?_;cases h;exact⟨[],rfl,fF,rfl⟩
  |cons y l ih=>
   intro us r h hr;rw[Ak]at h;cases hy:gI μ gN y with
   |none=>rw[hy]at h;exact fe h
   |some ey=>
    rw[hy]at h;dsimp only at h;cases hc:sR μ e l with
    |none=>rw[hc]at h;exact fe h
    |some c=>
     rw[hc]at h;cases h;refine kq (Q:=λus=>∃bs:List (Value×Bool),bs.map (·.1)=us/\(∀p∈bs,EqAt A s p.1 x p.2)/\bs.any (·.2)=(PyData.eqv ey e||c)) hr λuy us r1 r2=>?_
     .refine gT (ih hc r2) λbs b1 b2 b3=>gT (oI T _ _ _ _ hy r1) λas' q1 q2 q3=>⟨(uy,PyData.eqv ey e)::bs,by simp[b1],λp hp=>?_,by simp[b3]⟩
      obtain rfl|hp:=gC.mp hp
      .exact eqAt_reads ey e A s _ _ _ _ q1 rx q2 cx (AD (n:=12) q3 eZ)
      .exact b2 p hp
 refine gT (key h hr) λbs b1 b2 b3=>⟨λy=>decide (∃p∈bs,p.1=y/\p.2),λy hy=>?_,?_⟩
 .rw[<-b1]at hy;obtain⟨p,hp,rfl⟩:=fW.mp hy;by_cases hq:∃q∈bs,q.1=p.1/\q.2=true
  .show EqAt A s p.1 x (decide _);rw[fu hq];refine gT hq λq hq1 hq2 hq3=>?_
   have:=b2 q hq1;rw[hq2,hq3]at this;exact this
  .show EqAt A s p.1 x (decide _);rw[fz hq];have:=b2 p hp;have hf:p.2=false:=by
    cases hv:p.2 with
    |false=>rfl
    |true=>exact absurd ⟨p,hp,rfl,hv⟩ hq
   rw[hf]at this;exact this
 .rw[<-b3,<-b1];rw[Bool.eq_iff_iff,List.any_eq_true,List.any_eq_true];constructor
  .rintro⟨y,hy,hd⟩
   exact gT (jA hd) λp hp Z h2=>⟨p,hp,h2⟩
  .rintro⟨p,hp,h2⟩
   exact⟨p.1,fW.mpr ⟨p,hp,rfl⟩,fu ⟨p,hp,rfl,h2⟩⟩
abbrev PB (w:World) (ρ:f8) (s:Shared) (r:Bool) (μ:H):Value->Shared->Prop:=fV w ρ s μ λZ Z x=>x=.bool r
def PB.aW (T:e9 w ρ μ s):PB w ρ s r μ (.bool r) s:=fV.aW T rfl
def PB.bD (T:e9 w ρ μ s) (t:Nat):PB w ρ s r μ (.bool r) {s with toks:=t}:=fV.bD T t rfl
def Ck (h:wpAny (model pw w) A (compareOp .In x c) (λy s'=>∀k,y=.bool k->Q (.bool<|!k) s') E s):wpAny (model pw w) A (compareOp .NotIn x c) Q E s:=λΓ p hΓ=>by
 have h1:=h Γ p hΓ;show Sem.wp _ Γ (contains c x>>=λk=>pure _) _ _ p s;have h2:Sem.wp _ Γ (contains c x>>=λk=>pure _) _ _ p s:=h1;simp only[PySem.Sem.wp_bind']at h2⊢;exact PySem.Sem.wp_mono _ Γ _ (λk p' s' z=>z k rfl) (λZ Z Z z=>z) p s h2
def ue (n:Nat) (x y:PyData) (h:fg n x) (h':fg n y):pZ x y=decide (x=y):=Kl<|ub n h h'
def Pv (a b:Int):pZ (.int a) (.int b)=decide (a=b):=by simp only[PyData.eqv];rfl
def lO (w:World) (ρ:f8) (h:Heap):Option V->Option Value->Prop
 |none,none=>True
 |some v,some x=>eW w ρ h v x
 |_,_=>False
def lO.bP (f:lO w ρ h x y):x.isSome=y.isSome:=by cases x<;>cases y<;>first|rfl|contradiction
theorem AE {h:Heap} {k:Int} {l:List (Int×V)}:∀{vs},RelVs w ρ h (l.map (·.2)) vs->lO w ρ h (mc k l) (valueAt ((l.map (·.1)).zip vs) k):=by
 induction l with
 |nil=>exact λr=>nH (Q:=λvs=>lO w ρ h none<|valueAt ([].zip vs) k) r trivial
 |cons p l ih=>
  refine λr=>kq (Q:=λvs=>lO w ρ h (mc k (p::l)) (valueAt (((p::l).map (·.1)).zip vs) k)) r λx vs r1 r2=>?_
  have ih:=ih r2;obtain⟨y,v⟩:=p;simp only[LL,hW,List.zip_cons_cons,valueAt,List.find?_cons];by_cases hk:y=k
  .rw[fu hk];exact r1
  .rw[fz hk];exact ih
theorem tl {h:Heap} {k:Int} {kvs:List (Int×Value)}:∀{l:List (PyData×V)},gW w ρ h l (kvs.map λp=>(PyData.int p.1,p.2))->lO w ρ h (gf (.int k) l) (valueAt kvs k):=by
 induction kvs with
 |nil=>exact λr=>eN (Q:=λl=>lO w ρ h (gf (.int k) l) none) r trivial
 |cons p kvs ih=>
  refine λr=>eC (Q:=λl=>lO w ρ h (gf (.int k) l)<|valueAt (p::kvs) k) r λv l r1 r2=>?_
  have ih:=ih r2;obtain⟨pk,px⟩:=p;simp only[CE,Pv,valueAt,List.find?_cons];by_cases hk:pk=k
  .rw[fu hk];exact r1
  .rw[fz hk];exact ih
theorem AF {h:Heap} {k:PyData} (hk:fg 6 k) {xs:List (PyData×Addr×Value)}:∀{l:List (PyData×V)},(∀x∈xs,fg 6 x.1)->gW w ρ h l (xs.map λx=>(x.1,x.2.2))->lO w ρ h (gf k l) ((atKey xs k).map (·.2)):=by
 induction xs with
 |nil=>exact λZ r=>eN (Q:=λl=>lO w ρ h (gf k l) none) r trivial
 |cons p xs ih=>
  refine λhx r=>eC (Q:=λl=>lO w ρ h (gf k l) ((atKey (p::xs) k).map (·.2))) r λv l r1 r2=>?_
  have ih:=ih (λx hm=>hx x<|gj _ hm) r2;have hy:=hx p fA;obtain⟨pk,pa,px⟩:=p;simp only[CE,ue 6 _ _ hy hk,atKey,List.find?_cons];by_cases hq:pk=k
  .rw[fu hq];exact r1
  .rw[fz hq];exact ih
def oC (l:List (PyData×V)):Prop:=∀y v r,l=(y,v)::r->∃i,y=.int i
def uf (l:List (PyData×V)):Prop:=∀y v r,l=(y,v)::r->∃m,y=.tuple m
def hN {G:Prop} {y:PyData} {v:V} {r} (h:[]=(y,v)::r):G:=nomatch h
theorem Z8 {y d e:PyData} (h:(match y,d with
   |.int _,.int _=>some d
   |.tuple _,.tuple _=>some d
   |_,_=>none)=some e) {P:PyData->PyData->PyData->Prop} (k1:∀i j,P (.int i) (.int j)<|.int j) (k2:∀i j,P (.tuple i) (.tuple j)<|.tuple j):P y d e:=by
 cases y with
 |int i=>
  cases d with
  |int j=>exact Option.some.inj h▸k1 i j
  |_=>exact fe h
 |tuple i=>
  cases d with
  |tuple j=>exact Option.some.inj h▸k2 i j
  |_=>exact fe h
 |_=>exact fe h
def Z9 {i:Int} {v:V} {r}:oC ((.int i,v)::r):=λy v' r' e=>⟨i,by cases e;rfl⟩
def Z' {i} {v:V} {r}:uf ((.tuple i,v)::r):=λy v' r' e=>⟨i,by cases e;rfl⟩
theorem tkc {e} {l:List (PyData×V)} (h:gq μ a l=some e) {G:Prop} (k:jr μ a=some e->(∀i,e=.int i->oC l)->(∀m,e=.tuple m->uf l)->G):G:=by
 unfold gq at h;cases q:jr μ a with
 |none=>rw[q]at h;exact fe h
 |some d=>
  rw[q]at h;cases l with
  |nil=>exact k (q.trans h) (λZ Z Z Z Z e=>hN e) λZ Z Z Z Z e=>hN e
  |cons p r=>exact Z8 h (P:=λy d e=>jr μ a=some d->(jr μ a=some e->(∀i,e=.int i->oC ((y,p.2)::r))->(∀m,e=.tuple m->uf ((y,p.2)::r))->G)->G) (λZ Z q k=>k q (λZ Z=>Z9) λZ e=>nomatch e) (λZ Z q k=>k q (λZ e=>nomatch e) λZ Z=>Z') q k
theorem tkK {P:V->PyData->Prop} {e} (h:jr μ a=some e) (kI:∀i,P (.a i)<|.int i) (kT:∀l m,gI μ 6 (.v l)=some (.tuple m)->fg 6 (.tuple m)->P (.v l) (.tuple m)):P a e:=by
 cases a with
 |a i=>cases h;exact kI i
 |v l=>
  refine Exists.elim (show ∃d,gI μ 6 (.v l)=some d/\fg 6 d/\d=e from ?_) λd z=>?_
  .unfold jr at h;dsimp only at h;cases q:gI μ 6 (.v l) with
   |none=>rw[q]at h;exact fe h
   |some d=>
    rw[q]at h;cases o:fg 6 d with
    |false=>simp only[o]at h;exact fe h
    |true=>simp only[o]at h;exact⟨d,rfl,o,Option.some.inj h⟩
  .obtain⟨m,_,y⟩:=Option.map_eq_some_iff.mp z.1;rw[<-z.2.2];rw[<-y]at z⊢;exact kT l m z.1 z.2.1
 |_=>exact fe h
def Ea {x:Addr} (h:990<=x):(x==sysModules)=false:=by
 have:x≠sysModules:=λq=>by rw[q]at h;exact absurd h ay
 simpa using this
theorem Pw {l x} {h:Heap} (r:lu w ρ h (.dict l) (x,x)) {G:Prop} (kI:∀kvs:List (Int×Value),h.DictOf (intKind pw w) x kvs->gW w ρ h l (kvs.map λp=>(.int p.1,p.2))->G)
 (kT:∀xs:List (PyData×Addr×Value),h.DictOfH (nI w) x xs->gW w ρ h l (xs.map λx=>(x.1,x.2.2))->G):G:=by
 cases r with
 |bu a b=>exact kI _ a b
 |bz a b=>exact kT _ a b
def Px {l p} {h:Heap} (r:lu w ρ h (.dict l) p):p=(p.1,p.1):=by cases r<;>rfl
theorem Ko {α:Type} {xs:List α} (h:∀x r,xs=x::r->False):xs=[]:=by
 cases xs with
 |nil=>rfl
 |cons x r=>exact (h x r rfl).elim
def dI {k l} (T:e9 w ρ μ s) (hr:eW w ρ s.heap (.g k) v) (hg:d' μ k=some (.dict l)) (hI:oC l) {P:Value->Prop} (kk:∀x (kvs:List (Int×Value)),ρ[k]?=some (x,x)->(x==sysModules)=false->s.heap.DictOf (intKind pw w) x kvs->gW w ρ s.heap l (kvs.map λp=>(.int p.1,p.2))->P (.ref x)):P v:=by
 refine xA hr λp e=>?_
 have o:=T.obj _ _ _ hg e;rw[Px o]at e o;refine Pw o (kk _ · e (Ea (T.fresh _<|lL e).1)) λxs h1 h2=>?_
 have h3:=Ko (xs:=xs) λx r q=>by
  subst q;refine eC (Q:=λl=>oC l->False) h2 (λZ Z Z Z hI=>?_) hI;refine pY h1 λZ Z Z Z Z Z Z g Z=>?_
  have z:=hI _ _ _ rfl;have y:=(g _ fA).1;obtain⟨i,z⟩:=z;obtain⟨m,y⟩:=y;exact nomatch z.symm.trans y
 subst h3;refine kk _ [] e (Ea (T.fresh _<|lL e).1) ?_ h2;refine pY h1 λo es ep g1 g2 g3 g4 g5 g6=>?_
 have he:es= #[]:=by simpa using g4
 subst he;exact⟨o,#[],ep,Cv g1 g2 g3 (λe he=>by simp at he) .nil pW⟩
def dT {k l} (T:e9 w ρ μ s) (hr:eW w ρ s.heap (.g k) v) (hg:d' μ k=some (.dict l)) (hT:uf l) {P:Value->Prop} (kk:∀x (xs:List (PyData×Addr×Value)),ρ[k]?=some (x,x)->(x==sysModules)=false->s.heap.DictOfH (nI w) x xs->gW w ρ s.heap l (xs.map λx=>(x.1,x.2.2))->P (.ref x)):P v:=by
 refine xA hr λp e=>?_
 have o:=T.obj _ _ _ hg e;rw[Px o]at e o;refine Pw o (λkvs h1 h2=>?_) (kk _ · e (Ea (T.fresh _<|lL e).1));have h3:=Ko (xs:=kvs) λx r q=>by
  subst q;refine eC (Q:=λl=>uf l->False) h2 (λZ Z Z Z hI=>?_) hT;obtain⟨i,z⟩:=hI _ _ _ rfl;exact nomatch z
 subst h3;refine kk _ [] e (Ea (T.fresh _<|lL e).1) ?_ h2;exact pY h1 λo es ep g1 g2 g3 g4 g5 g6=>⟨o,es,ep,Cv g1 g2 g3 (by have:=g5.length;simpa using this) fF pW⟩
def Eb {k l e} (T:e9 w ρ μ s) (hr:eW w ρ s.heap (.g k) v) (hg:d' μ k=some (.dict l)) (he:gq μ a l=some e) (ra:eW w ρ s.heap a u) {P:Value->Value->PyData->Prop}
 (kI:∀x i t (kvs:List (Int×Value)),ρ[k]?=some (x,x)->(x==sysModules)=false->s.heap.DictOf (intKind pw w) x kvs->gW w ρ s.heap l (kvs.map λp=>(.int p.1,p.2))->P (.ref x) (.int i t) (.int i))
 (kT:∀x y e (xs:List (PyData×Addr×Value)),ρ[k]?=some (x,x)->(x==sysModules)=false->Km s.heap e y->s.heap.DictOfH (nI w) x xs->gW w ρ s.heap l (xs.map λx=>(x.1,x.2.2))->P (.ref x) (.ref y) e):P v u e:=
 tkc he λh1 hI hT=>tkK (P:=λa e=>eW w ρ s.heap a u->(∀i,e=.int i->oC l)->(∀m,e=.tuple m->uf l)->P v u e) h1 (λi ra hI Z=>jD ra λt=>dI (P:=λv=>P v (.int i t)<|.int i) T hr hg (hI i rfl) λx kvs=>kI x i t kvs)
  (λm Z hd hk ra Z hT=>qz (P:=λu=>eW w ρ s.heap (.v m) u->P v u _) ra (λy Z Z Z Z ra=>gT (oI T _ _ _ _ hd ra) λas q1 Z Z=>
   dT (P:=λv=>P v _ _) T hr hg (hT _ rfl) λx xs h1 h2=>kT x y _ xs h1 h2 ⟨⟨_,rfl⟩,hk,as,q1⟩) ra) ra hI hT
end
def uP (b:Array UInt8) (t:Tok) (l:Addr) (items:Array Value) (n:Nat) (dd:Option Addr) (sl:Array (Option Value)):
  Meets (Builtin.«bytes.__eq__» ⟨[.bytes b t,.ref l],[]⟩) (λZ R s=>s.heap.get? l=some {cls:=.type "tuple",dict:=dd,data:=.seq items n,slots:=sl}/\R (.ok<|.ret .notImplemented) s):=
 .of_wp λprog w A R s h=>by obtain⟨hp,g,d,tk,os⟩:=s;obtain⟨hl,h⟩:=h;have f1:=PySem.F.sub_tuple_bytes;wp_walk using AutoSeq1.wpAny_loadPart' hl;exact⟨_,rfl,h⟩
def pS (l:Addr) (items:Array Value) (n:Nat) (dd:Option Addr) (sl:Array (Option Value)) (b:Array UInt8) (t:Tok):
  Meets (Builtin.«tuple.__eq__» ⟨[.ref l,.bytes b t],[]⟩) (λZ R s=>s.heap.get? l=some {cls:=.type "tuple",dict:=dd,data:=.seq items n,slots:=sl}/\R (.ok<|.ret .notImplemented) s):=
 .of_wp λprog w A R s h=>by obtain⟨hp,g,d,tk,os⟩:=s;obtain⟨hl,h⟩:=h;have f1:=PySem.F.sub_bytes_tuple;wp_walk using AutoSeq1.wpAny_loadPart' hl;exact⟨_,rfl,h⟩
section
variable{w:World} {ρ:f8} {μ:H} {s:Shared} {A:Around} {d:Nat} {a b:V} {u v:Value}
def xD {items:Array Value} (hl:s.heap.IsTuple l items) (hu:A.units<cLine):RcAt A s (.bytes #[] t) (.ref l) false:=λprog w E Q h=>by
 refine ia λG kk=>?_
 obtain⟨⟨cls,dd,data,sl⟩,ho,hc,n,hd⟩:=id hl;subst hc hd;apply kk;exact rc_eq_decline_or (typeIs_bytes s #[] t) ⟨_,ho,rfl⟩ ay PySem.F.sub_tuple_bytes FB.slot_bytes_eq PySem.F.slot_tuple_eq_refl
  (λZ hq=>PySem.call_meets FB.slot_bytes_eq (typeIs_bytes s #[] t) FB.entry_bytes_eq (FB.args_bytes_eq_2 _ _) (uP #[] t l items n dd sl) ⟨ho,hq⟩)
  (λZ hq=>PySem.call_meets PySem.F.slot_tuple_eq_refl ⟨_,ho,rfl⟩ PySem.F.entry_tuple_eq (PySem.F.args_tuple_eq_2 _ _) (pS l items n dd sl #[] t) ⟨ho,hq⟩)
  (λZ hq=>mQ (rfl:isSame _ _=pure false) hq) (.inr hu) h
theorem Py {P:V->V->Bool->Prop} (h:(match gI μ gN a with
  |none=>none
  |some x=>match gI μ gN b with
   |none=>none
   |some y=>some<|PyData.eqv x y)=some r) (kd:∀x y,gI μ gN a=some x->gI μ gN b=some y->P a b (PyData.eqv x y)):P a b r:=by
 cases p:gI μ gN a with
 |none=>rw[p]at h;exact fe h
 |some x=>
  rw[p]at h;cases q:gI μ gN b with
  |none=>rw[q]at h;exact fe h
  |some y=>rw[q]at h;exact Option.some.inj h▸kd x y p q
theorem v0c {P:V->V->Bool->Prop} (h:nU μ a b=some r) (ki:∀i j,P (.a i) (.a j)<|decide<|i=j) (ks:∀i j,P (.z i) (.z j)<|decide<|i=j) (kd:∀x y,gI μ gN a=some x->gI μ gN b=some y->P a b (PyData.eqv x y)):P a b r:=by
 cases a with
 |a i=>
  cases b with
  |a j=>exact Option.some.inj h▸ki i j
  |_=>exact Py h kd
 |z i=>
  cases b with
  |z j=>exact Option.some.inj h▸ks i j
  |_=>exact Py h kd
 |_=>exact Py h kd
def cmp0 (T:e9 w ρ μ s) (ha:eW w ρ s.heap a u) (hb:eW w ρ s.heap b v) (h:nU μ a b=some r) {P:Value->Value->Bool->Prop} (ki:∀i j t t',P (.int i t) (.int j t')<|decide<|i=j) (ks:∀i j t t',P (.str ⟨⟨i⟩⟩ t) (.str ⟨⟨j⟩⟩ t')<|decide<|i=j)
 (kd:∀x y as bs,Reads s.heap u x as->x.canLay0->x.depth<=gN->Reads s.heap v y bs->y.canLay0->P u v (PyData.eqv x y)):P u v r:=
 v0c (P:=λa b r=>eW w ρ s.heap a u->eW w ρ s.heap b v->P u v r) h (λi j ha hb=>jD (P:=λu=>P u v _) ha λt=>jD hb λt'=>ki i j t t') (λi j ha hb=>vB (P:=λu=>P u v _) ha λt=>vB hb λt'=>ks i j t t')
  (λx y p q ha hb=>gT (oI T _ _ _ _ p ha) λas p1 p2 p3=>gT (oI T _ _ _ _ q hb) λbs q1 q2 Z=>kd x y as bs p1 p2 p3 q1 q2) ha hb
def Wr (i j:Int):(i==j)=decide (i=j):=by by_cases q:i=j<;>simp[q]
def seq (i j:List Nat):((⟨⟨i⟩⟩:Str)==⟨⟨j⟩⟩)=decide (i=j):=by
 by_cases q:i=j
 .subst q;simp
 .rw[fz q];exact fz λe=>q (by simp_all)
def Pz (T:e9 w ρ μ s) (hu:A.units+100<cLine) (ha:eW w ρ s.heap a u) (hb:eW w ρ s.heap b v) (h:nU μ a b=some r):wpAny (model pw w) A (compareOp .Eq u v) (PB w ρ s r μ) fH s:=
 cmp0 (P:=λu v r=>wpAny (model pw w) A (compareOp .Eq u v) (PB w ρ s r μ) fH s) T ha hb h (λi j Z Z=>eq_int<|Wr i j▸PB.aW T) (λi j Z Z=>eq_str (seq i j▸PB.aW T))
  λZ Z Z Z p1 p2 p3 q1 q2=>compareEq_reads p1 q1 p2 q2 (AD p3 (by unfold gN;lia)) (PB.aW T)
theorem vec {P:V->V->Bool->Prop} (h:sQ μ a b=some r) (kb:∀l,P .ah (.v l) false) (k:nU μ a b=some r->P a b r):P a b r:=by
 cases a with
 |ah=>
  cases b with
  |v l=>exact Option.some.inj h▸kb l
  |_=>exact k h
 |_=>exact k h
def Td (T:e9 w ρ μ s) (hu:A.units+100<cLine) (ha:eW w ρ s.heap a u) (hb:eW w ρ s.heap b v) (h:sQ μ a b=some r):wpAny (model pw w) A (compareOp .Eq u v) (PB w ρ s r μ) fH s:=
 vec (P:=λa b r=>eW w ρ s.heap a u->eW w ρ s.heap b v->wpAny (model pw w) A (compareOp .Eq u v) (PB w ρ s r μ) fH s) h
  (λZ ha hb=>by cases ha;exact qz hb λZ Z h1 Z Z=>xD h1 eZ _ _ _ _<|PB.aW T) (λh ha hb=>Pz T hu ha hb h) ha hb
def Te (T:e9 w ρ μ s) (hu:A.units+100<cLine) (ha:eW w ρ s.heap a u) (hb:eW w ρ s.heap b v) (h:nU μ a b=some r):wpAny (model pw w) A (compareOp .NotEq u v) (PB w ρ s (!r) μ) fH s:=
 cmp0 (P:=λu v r=>wpAny (model pw w) A (compareOp .NotEq u v) (PB w ρ s (!r) μ) fH s) T ha hb h (λi j Z Z=>ne_int<|Wr i j▸PB.aW T) (λi j Z Z=>ne_str (seq i j▸PB.aW T))
  λZ Z Z Z p1 p2 p3 q1 q2=>compareNe_reads p1 q1 p2 q2 (AD p3 (by unfold gN;lia)) (PB.aW T)
theorem FX (T:e9 w ρ μ s) (hu:A.units+100<cLine) (ha:eW w ρ s.heap a u) (hl:RelVs w ρ s.heap l us) (h:nE μ a l=some r) {G:Prop} (k:∀f:Value->Bool,(∀y∈us,EqAt A.in1 s y u<|f y)->us.any f=r->G):G:=by
 unfold nE at h;cases he:gI μ gN a with
 |none=>rw[he]at h;exact fe h
 |some e=>
  rw[he]at h;exact gT (oI T _ _ _ _ he ha) λas p1 p2 p3=>e8 (LY T (by lia) p1 p2 h hl) k
def PC (T:e9 w ρ μ s) (hu:A.units+100<cLine) (ha:eW w ρ s.heap a u) (h1:s.heap.IsList x us) (hl:RelVs w ρ s.heap l us.toList) (h:nE μ a l=some r):wpAny (model pw w) A (compareOp .In u<|.ref x) (PB w ρ s r μ) fH s:=
 FX T hu ha hl h λf f1 f2=>in_listAt f h1 (λy hy=>f1 y<|Array.mem_toList_iff.mpr hy) (by rw[<-Array.any_toList,f2];exact PB.aW T)
def X6 (T:e9 w ρ μ s) (hu:A.units+100<cLine) (ha:eW w ρ s.heap a u) (h1:s.heap.IsTuple x us) (hl:RelVs w ρ s.heap l us.toList) (h:nE μ a l=some r):wpAny (model pw w) A (compareOp .In u<|.ref x) (PB w ρ s r μ) fH s:=
 FX T hu ha hl h λf f1 f2=>in_tupleAt f h1 (λy hy=>f1 y<|Array.mem_toList_iff.mpr hy) (by rw[<-Array.any_toList,f2];exact PB.aW T)
theorem pF {P:V->Prop} {i} (h:oS b=some i) (k:P (.a i)):P b:=by
 cases b with
 |a j=>cases h;exact k
 |_=>exact fe h
theorem PD {P:V->Prop} {i} (h:Pj b=some i) (k:P (.z i)):P b:=by
 cases b with
 |z j=>cases h;exact k
 |_=>exact fe h
theorem Tf {l:List Nat} {f:Nat->Bool} (h:(match l with
  |[c]=>some<|f c
  |_=>none)=some r) {P:List Nat->Bool->Prop} (k:∀c,P [c]<|f c):P l r:=by
 cases l with
 |nil=>exact fe h
 |cons c l=>
  cases l with
  |nil=>exact Option.some.inj h▸k c
  |cons d l=>exact fe h
theorem vinc {P:V->V->Bool->Prop} (h:pA μ a b=some r) (kc:∀l i,P (.a i) (.ac l) (mc i l).isSome) (kl:∀l,nE μ a l=some r->P a (.w l) r) (kt:∀l,nE μ a l=some r->P a (.v l) r) (ks:∀c t,P (.z [c]) (.z t)<|t.contains c)
 (kr:∀k l,d' μ k=some (.j l)->nE μ a l=some r->P a (.g k) r) (kd:∀k l e,d' μ k=some (.dict l)->gq μ a l=some e->P a (.g k) (gf e l).isSome):P a b r:=by
 cases b with
 |ac l=>exact oB h λi e h=>pF (P:=λa=>P a _ r) e<|Option.some.inj h▸kc l i
 |w l=>exact kl l h
 |v l=>exact kt l h
 |z t=>exact oB h λi e h=>PD (P:=λa=>P a _ r) e<|Tf (P:=λi r=>P (.z i) _ r) h λc=>ks c t
 |g k=>exact FW h (λl g h=>kr k l g h) λl g h=>oB h λe q h=>Option.some.inj h▸kd k l e g q
 |_=>exact fe h
def Kq {A:Around} (h:A.units+100<cLine):A.units+1+70<cLine:=by lia
def PF {x:Addr} (h:3<x):(x==sysModules)=false:=by
 have hs:x≠sysModules:=λq=>by
  subst q;exact absurd h ay
 simpa using hs
def Tg (t:List Nat) (c:Nat):(decide<|c∈(⟨⟨t⟩⟩:Str).cps.toList)=t.contains c:=by
 rw[Bool.eq_iff_iff,decide_eq_true_iff,List.contains_iff_mem]
def zQ {h:Heap} {a} {xs:List (PyData×Addr×Value)} (g:h.DictOfH (nI w) a xs):∀z∈xs,fg 6 z.1:=λz hz=>pY g λZ Z Z Z Z Z Z q Z=>(q z hz).2.1
def FY (T:e9 w ρ μ s) (hu:A.units+100<cLine) (ha:eW w ρ s.heap a u) (hb:eW w ρ s.heap b v) (h:pA μ a b=some r):wpAny (model pw w) A (compareOp .In u v) (PB w ρ s r μ) fH s:=
 vinc (P:=λa b r=>eW w ρ s.heap a u->eW w ρ s.heap b v->wpAny (model pw w) A (compareOp .In u v) (PB w ρ s r μ) fH s) h
  (λZ i ha hb=>jD (P:=λu=>wpAny (model pw w) A (compareOp .In u v) _ fH s) ha λZ=>wo hb λZ Z h0 h00 h1 Z h3=>wpAny_in_of (k:=i) (by simp[intKind,Value.isInt]) (PF h00) h1.mapOf (by rw[(AE h3).bP];exact PB.bD T _))
  (λZ h ha hb=>mh hb λZ Z h1 Z h3=>PC T hu ha h1 h3 h) (λZ h ha hb=>qz hb λZ Z h1 Z h3=>X6 T hu ha h1 h3 h)
  (λc t ha hb=>vB (P:=λu=>wpAny (model pw w) A (compareOp .In u v) _ fH s) ha λZ=>vB hb λZ=>P.in_str (by rw[StrLaws.found_one ⟨⟨t⟩⟩ c,Tg];exact PB.aW T))
  (λZ Z hg h ha hb=>mi (P:=λv=>wpAny (model pw w) A (compareOp .In u v) _ fH s) T hb hg λZ Z Z b1 b3=>PC T hu ha b1 b3 h)
  (λZ l Z hg he ha hb=>Eb (P:=λv u e=>wpAny (model pw w) A (compareOp .In u v) (PB w ρ s (gf e l).isSome μ) fH s) T hb hg he ha
   (λZ i Z Z Z hs g1 g2=>wpAny_in_of (k:=i) (by simp[intKind,Value.isInt]) hs g1.mapOf (by rw[(tl g2).bP];exact PB.bD T _))
   (λZ Z Z Z Z hs hk g1 g2=>wpAny_in_heap (Kq hu) hk hs g1 (by
     have:=(AF hk.2.1 (zQ g1) g2).bP;simp only[this,Option.isSome_map];exact PB.bD T _))) ha hb
theorem Ws {P:V->Prop} {b:V} {o:Option Bool} {r:Bool} (h:(match b with
  |.B=>o
  |_=>none)=some r) (k:o=some r->P .B):P b:=by
 cases b with
 |B=>exact k h
 |_=>exact fe h
theorem isNc {P:V->Bool->Prop} (h:Kf a=some r) (k0:P .B true) (k1:∀k,P (.g k) false) (k2:∀l,P (.v l) false):P a r:=by
 cases a with
 |B=>exact Option.some.inj h▸k0
 |g k=>exact Option.some.inj h▸k1 k
 |v k=>exact Option.some.inj h▸k2 k
 |_=>exact fe h
theorem iiV {a b:V} {f:Int->Int->Bool} {r:Bool} (h:(match a with
  |.a i=>match b with
   |.a j=>some<|f i j
   |_=>none
  |_=>none)=some r) {P:V->V->Bool->Prop} (k:∀i j,P (.a i) (.a j)<|f i j):P a b r:=by
 cases a with
 |a i=>
  cases b with
  |a j=>exact Option.some.inj h▸k i j
  |_=>exact fe h
 |_=>exact fe h
def Kr {a b:V} {f:Int->Int->Bool} {r:Bool} {o} (h:(match a with
  |.a i=>match b with
   |.a j=>some<|f i j
   |_=>none
  |_=>none)=some r) (ha:eW w ρ s.heap a u) (hb:eW w ρ s.heap b v) (k:∀i j t t',wpAny (model pw w) A (compareOp o (.int i t)<|.int j t') (PB w ρ s (f i j) μ) fH s):wpAny (model pw w) A (compareOp o u v) (PB w ρ s r μ) fH s:=
 iiV h (P:=λa b r=>eW w ρ s.heap a u->eW w ρ s.heap b v->wpAny (model pw w) A (compareOp o u v) (PB w ρ s r μ) fH s) (λi j ha hb=>jD (P:=λu=>wpAny (model pw w) A (compareOp o u v) _ fH s) ha λt=>jD hb λt'=>k i j t t') ha hb
def PH (ha:eW w ρ s.heap a u) (h:Kf a=some r) {P:Value->Bool->Prop} (k0:P .none true) (k1:∀k,P (.ref k) false):P u r:=
 isNc (P:=λa r=>eW w ρ s.heap a u->P u r) h (λha=>rH ha k0) (λZ ha=>xA ha λZ Z=>k1 _) (λZ ha=>qz ha λZ Z Z Z Z=>k1 _) ha
theorem AG {β γ:Type} {o:Option β} {f:β->γ} {r:γ} (h:o.map f=some r) {P:γ->Prop} (k:∀q,o=some q->P (f q)):P r:=by
 cases o with
 |none=>exact fe h
 |some q=>exact Option.some.inj h▸k q rfl
def FZ (o:Cm) (T:e9 w ρ μ s) (hu:A.units+100<cLine) (ha:eW w ρ s.heap a u) (hb:eW w ρ s.heap b v) (h:jt μ o a b=some r):wpAny (model pw w) A (compareOp (FV o) u v) (PB w ρ s r μ) fH s:=by
 cases o with
 |eq=>exact Td T hu ha hb h
 |V=>exact FY T hu ha hb h
 |ne=>exact AG (P:=λr=>wpAny (model pw w) A (compareOp .NotEq u v) (PB w ρ s r μ) fH s) h λZ hk=>Te T hu ha hb hk
 |lt=>exact Kr (f:=λi j=>decide<|i<j) h ha hb λZ Z Z Z=>lt_int<|PB.aW T
 |le=>exact Kr (f:=λi j=>decide<|i<=j) h ha hb λZ Z Z Z=>le_int<|PB.aW T
 |gt=>exact Kr (f:=λi j=>decide<|j<i) h ha hb λZ Z Z Z=>gt_int<|PB.aW T
 |ge=>exact Kr (f:=λi j=>decide<|j<=i) h ha hb λZ Z Z Z=>ge_int<|PB.aW T
 |is=>exact Ws (P:=λb=>eW w ρ s.heap b v->wpAny (model pw w) A (compareOp .Is u v) (PB w ρ s r μ) fH s) h (λh hb=>rH hb<|PH (P:=λu r=>wpAny (model pw w) A (compareOp .Is u .none) (PB w ρ s r μ) fH s) ha h (is_none<|PB.aW T) λZ=>is_none<|PB.aW T) hb
 |aH=>exact Ws (P:=λb=>eW w ρ s.heap b v->wpAny (model pw w) A (compareOp .IsNot u v) (PB w ρ s r μ) fH s) h (λh hb=>rH hb<|AG (P:=λr=>wpAny (model pw w) A (compareOp .IsNot u .none) (PB w ρ s r μ) fH s) h λZ h=>PH (P:=λu r=>wpAny (model pw w) A (compareOp .IsNot u .none) (PB w ρ s (!r) μ) fH s) ha h (isNot_none<|PB.aW T) λZ=>isNot_none<|PB.aW T) hb
 |ab=>exact AG (P:=λr=>wpAny (model pw w) A (compareOp .NotIn u v) (PB w ρ s r μ) fH s) h λZ hk=>Ck (fN (FY T hu ha hb hk) λx s₁ ρ₁ a b c d=>by
  subst d;intro k' e;cases e;exact⟨ρ₁,iI a b c rfl⟩)
end
section
variable{w:World} {ρ:f8} {μ:H} {s:Shared} {A:Around} {d:Nat} {a b r:V} {u v:Value}
theorem RelVs.get {ρ:f8} {h:Heap} {l}:∀{us} (j:Nat) {x},RelVs w ρ h l us->l[j]?=some x->∃y,us[j]?=some y/\eW w ρ h x y:=by
 induction l with
 |nil=>intro us j x _ e;exact fe e
 |cons v l ih=>
  intro us j x r e;refine kq (Q:=λus=>∃y,us[j]?=some y/\eW w ρ h x y) r λu us r1 r2=>?_
  cases j with
  |zero=>exact⟨u,rfl,Option.some.inj e▸r1⟩
  |succ j=>exact ih j r2 e
def PJ {i:Int} (h:i<9223372036854775808):i<2^63:=‹_›
def f64 {i:Int} (h:-9223372036854775808<=i):-(2^63)<=i:=‹_›
theorem Wt {n j:Nat} {i:Int} (h:place n i=some j) {P:Nat->Prop} (kp:0<=i->i<2^63->P i.toNat) (kn:i<0->0<=i+n->-(2^63)<=i->P (i+n).toNat):P j:=by
 unfold place at h;cases f:i3 i with
 |false=>rw[f]at h;exact fe h
 |true=>
  rw[f]at h;have q:=Bool.and_eq_true_iff.1 f;cases p:decide (0<=i) with
  |true=>rw[p]at h;cases h;exact kp (jA p)<|PJ<|jA q.2
  |false=>
   rw[p]at h;cases p2:decide (0<=i+n) with
   |true=>rw[p2]at h;cases h;exact kn (Int.lt_of_not_ge<|of_decide_eq_false p) (jA p2)<|f64<|jA q.1
   |false=>rw[p2]at h;exact fe h
def PK {i:Int} {n:Nat} (h:0<=i+n):-(n:Int)<=i:=eZ
def itm (hr:RelVs w ρ s.heap l us) (hg:fK l j=some r) {G:Prop} (k:∀y,us[j]?=some y->eW w ρ s.heap r y->j<us.length->G):G:=by
 rw[LS]at hg;exact e8 (hr.get j hg) λy hy z=>k y hy z (ke.mp hy).1
def yq (T:e9 w ρ μ s) {t:Nat} (hl:s.heap.IsList x us) (hr:RelVs w ρ s.heap l us.toList) (hp:place l.length i=some j) (hg:fK l j=some r):
  wpAny (model pw w) A (getItem (.ref x)<|.int i t) (PV w ρ s r μ) fH s:=
 have hz:l.length=us.size:=hr.aV.trans j6
 itm hr hg λZ hy ry Z=>Wt (P:=λj=>us.toList[j]?=some _->_) hp (λh1 h2 hy=>wpAny_getItem_list hl h1 h2 (by rwa[Array.getElem?_toList]at hy)<|fV.aW T ry)
  (λh1 h2 h3 hy=>wpAny_getItem_list_neg hl h1 (PK (by rwa[<-hz])) h3 (by rwa[Array.getElem?_toList,hz]at hy) (fV.aW T ry)) hy
def HY (T:e9 w ρ μ s) {t:Nat} (hl:s.heap.IsTuple x us) (hr:RelVs w ρ s.heap l us.toList) (hp:place l.length i=some j) (hg:fK l j=some r):
  wpAny (model pw w) A (getItem (.ref x)<|.int i t) (PV w ρ s r μ) fH s:=
 have hz:l.length=us.size:=hr.aV.trans j6
 itm hr hg λZ hy ry hj=>Wt (P:=λj=>us.toList[j]?=some _->j<us.toList.length->_) hp (λh1 h2 hy hj=>PyProof.Rows.getItem_tuple hl (Int.le_trans ay h1) h2 (PySem.seqIndex_of h1 (by rw[j6]at hj;exact (Int.toNat_lt h1).1 hj)) (by rwa[Array.getElem?_toList]at hy) (fV.aW T ry))
  (λh1 h2 h3 hy Z=>PyProof.Rows.getItem_tuple hl h3 (Int.lt_trans h1 ay) (PySem.seqIndex_neg h1 (PK (by rwa[<-hz]))) (by rwa[Array.getElem?_toList,hz]at hy) (fV.aW T ry)) hy hj
def Sub (w:World) (ρ:f8) (s:Shared) (A:Around) (μ:H) (r:V) (u v:Value):Prop:=
 ∃ty id,s.TypeIs u ty/\typeLookup (.type ty) "__getitem__"=pure (some<|.builtin id)/\wpAny (model pw w) A (getItem u v) (PV w ρ s r μ) fH s
theorem subc {P:V->V->V->Prop} (h:f9 μ a b=some r) (kt:∀l i j,place l.length i=some j->fK l j=some r->P (.v l) (.a i) r) (kl:∀l i j,place l.length i=some j->fK l j=some r->P (.w l) (.a i) r)
 (kc:∀l i,mc i l=some r->P (.ac l) (.a i) r) (ks:∀l i,(decide (0<=i)&&decide (i<l.length)&&i3 i)->P (.z l) (.a i) (.z [l.getD i.toNat 0]))
 (kr:∀k l i j,d' μ k=some (.j l)->place l.length i=some j->fK l j=some r->P (.g k) (.a i) r) (kd:∀k l d,d' μ k=some (.dict l)->gq μ b l=some d->gf d l=some r->P (.g k) b r):P a b r:=by
 cases a with
 |v l=>exact oB h λi e h=>pF (P:=λb=>P _ b r) e<|oB h λj=>kt l i j
 |w l=>exact oB h λi e h=>pF (P:=λb=>P _ b r) e<|oB h λj=>kl l i j
 |ac l=>exact oB h λi e h=>pF (P:=λb=>P _ b r) e<|kc l i h
 |z l=>exact oB h λi e h=>pF (P:=λb=>P _ b r) e<|iU h (λhc h=>Option.some.inj h▸ks l i hc) λZ h=>fe h
 |g k=>exact FW h (λl g h=>oB h λi e h=>pF (P:=λb=>P _ b r) e<|oB h λj=>kr k l i j g) λl g h=>oB h λd=>kd k l d g
 |_=>exact fe h
theorem PL {h:Heap} {o:Option V} {p:Option Value} (f:lO w ρ h o p) (e:o=some r) {G:Prop} (k:∀y,p=some y->eW w ρ h r y->G):G:=by
 subst e;cases p with
 |none=>exact f.elim
 |some y=>exact k y rfl f
theorem X7 {h:Heap} {o:Option V} {p:Option (Addr×Value)} (f:lO w ρ h o (p.map (·.2))) (e:o=some r) {G:Prop} (k:∀y,p=some y->eW w ρ h r y.2->G):G:=by
 subst e;cases p with
 |none=>exact f.elim
 |some y=>exact k y rfl f
def HZ (T:e9 w ρ μ s) {t t':Nat} {i:Int} {l:List Nat} (hc:(decide (0<=i)&&decide (i<l.length)&&i3 i)):wpAny (model pw w) A (getItem (.str ⟨⟨l⟩⟩ t)<|.int i t') (PV w ρ s (.z [l.getD i.toNat 0]) μ) fH s:=by
 have q:=Bool.and_eq_true_iff.1 hc;have q2:=Bool.and_eq_true_iff.1 q.1;have q0:=jA q2.1;have q1:i<(l.length:Int):=jA q2.2;have q3:=PJ<|jA (Bool.and_eq_true_iff.1 q.2).2;refine P.getItem_str (c:=l.getD i.toNat 0) (by simp only[Bool.or_eq_false_iff,decide_eq_false_iff_not];exact⟨Int.not_lt.2<|Int.le_trans ay q0,Int.not_le.2 q3⟩) ?_<|fV.bD T _ (.ck _ _);rw[PySem.seqIndex_of q0 (by exact q1)];have hlt:i.toNat<l.length:=(Int.toNat_lt q0).2 q1;simp[hlt]
def PM (T:e9 w ρ μ s) (hu:A.units+100<cLine) (ha:eW w ρ s.heap a u) (hb:eW w ρ s.heap b v) (h:f9 μ a b=some r):Sub w ρ s A μ r u v:=
 subc (P:=λa b r=>eW w ρ s.heap a u->eW w ρ s.heap b v->Sub w ρ s A μ r u v) h
  (λZ Z Z p g ha hb=>jD hb λZ=>qz (P:=λu=>Sub w ρ s A μ r u _) ha λZ Z h1 Z h3=>⟨"tuple",_,h1.typeIs,PySem.F.slot_tuple_getitem.lookup,HY T h1 h3 p g⟩)
  (λZ Z Z p g ha hb=>jD hb λZ=>mh (P:=λu=>Sub w ρ s A μ r u _) ha λZ Z h1 Z h3=>⟨"list",_,h1.typeIs,PySem.F.slot_list_getitem.lookup,yq T h1 h3 p g⟩)
  (λZ i g ha hb=>jD hb λZ=>wo (P:=λu=>Sub w ρ s A μ r u _) ha λZ Z Z Z h1 Z h3=>PL (AE (k:=i) h3) g λZ hv f=>⟨"dict",_,h1.typeIs,PySem.F.slot_dict_getitem.lookup,wpAny_getItem_of (by simp[intKind,Value.isInt]) h1.mapOf hv<|fV.bD T _ f⟩)
  (λZ Z hc ha hb=>jD hb λZ=>vB (P:=λu=>Sub w ρ s A μ _ u _) ha λta=>⟨"str",_,typeIs_str s _ ta,PySem.F.slot_str_getitem.lookup,HZ T hc⟩)
  (λZ Z Z Z hg p g ha hb=>jD hb λZ=>mi (P:=λu=>Sub w ρ s A μ _ u _) T ha hg λZ Z Z b1 b3=>⟨"list",_,b1.typeIs,PySem.F.slot_list_getitem.lookup,yq T b1 b3 p g⟩)
  (λZ Z Z hg he hd ha hb=>Eb (P:=λu v d=>gf d _=some r->Sub w ρ s A μ r u v) T ha hg he hb
   (λZ i Z Z Z Z g1 g2 hd=>PL (tl (k:=i) g2) hd λZ hv f=>⟨"dict",_,g1.typeIs,PySem.F.slot_dict_getitem.lookup,wpAny_getItem_of (k:=i) (by simp[intKind,Value.isInt]) g1.mapOf hv<|fV.bD T _ f⟩)
   (λZ Z e Z Z Z hk g1 g2 hd=>X7 (AF hk.2.1 (zQ g1) g2) hd λZ hv f=>⟨"dict",_,g1.typeIs,PySem.F.slot_dict_getitem.lookup,wpAny_getItem_heap (knd:=nI w) (k:=e) (Kq hu) hk g1 hv<|fV.bD T _ f⟩) hd) ha hb
def to (T:e9 w ρ μ s) (hl:s.heap.IsList x us) (hr:RelVs w ρ s.heap l us.toList) (hb:l.length<=gH):wpAny (model pw w) A (truthy<|.ref x) (fV w ρ s μ λZ Z k=>k=!l.isEmpty) fH s:=by
 have hz:l.length=us.size:=by rw[hr.aV,j6]
 unfold gH at hb;refine wpAny_truthy_list hl eZ<|fV.bD T _ ?_;cases l with
 |nil=>simp[nC]at hz;simp;exact Array.eq_empty_of_size_eq_zero hz.symm
 |cons y l=>simp[kg]at hz;simp;rintro rfl;simp at hz
theorem trc {r:Bool} {P:V->Bool->Prop} (h:ix μ a=some r) (k0:P .B false) (kb:∀b,P (.O b) b) (ki:∀i,P (.a i)<|decide<|i≠0) (kl:∀l,l.length<=gH->P (.w l) (!l.isEmpty)) (kr:∀k l,d' μ k=some (.j l)->l.length<=gH->P (.g k) (!l.isEmpty)):P a r:=by
 cases a with
 |B=>cases h;exact k0
 |O b=>cases h;exact kb _
 |a i=>cases h;exact ki i
 |w l=>exact iU h (λhb h=>Option.some.inj h▸kl l (iw hb)) λZ h=>fe h
 |g k=>exact iH h λl hg h=>iU h (λhb h=>Option.some.inj h▸kr k l hg (iw hb)) λZ h=>fe h
 |_=>exact fe h
def ine (i:Int):(i !=0)=decide (i≠0):=by
 by_cases hi:i=0<;>simp[hi]
def xE (T:e9 w ρ μ s) (ha:eW w ρ s.heap a u) {r:Bool} (h:ix μ a=some r):wpAny (model pw w) A (truthy u) (fV w ρ s μ λZ Z x=>x=r) fH s:=
 trc (P:=λa r=>eW w ρ s.heap a u->wpAny (model pw w) A (truthy u) (fV w ρ s μ λZ Z x=>x=r) fH s) h
  (λha=>rH ha<|fD<|fV.aW T rfl) (λZ ha=>by cases ha;exact wpAny_truthy_bool<|fV.aW T rfl) (λZ ha=>jD ha λZ=>truthy_int<|fV.aW T<|ine _)
  (λZ hb ha=>mh ha λZ Z h1 Z h3=>to T h1 h3 hb) (λZ Z hg hb ha=>mi (P:=λu=>wpAny (model pw w) A (truthy u) _ fH s) T ha hg λZ Z Z b1 b3=>to T b1 b3 hb) ha
end
section
variable{w:World} {d:Nat} {F:fb} {sc:Scope} {k:Nat} {pos:Pos}
def SV.bv:SV w d F sc (.y .B) (.Constant .none k pos):=λenv E A ρ μ s v μ' eR T hA h=>iS h<|wpAny_Constant_none<|fV.aW T .bv
def SV.bM {b:Bool}:SV w d F sc (.y<|.O b) (.Constant (.bool b) k pos):=λenv E A ρ μ s v μ' eR T hA h=>iS h<|wpAny_Constant_bool<|fV.aW T<|.bM b
def SV.bY {i:Int}:SV w d F sc (.y<|.a i) (.Constant (.int i) k pos):=λenv E A ρ μ s v μ' eR T hA h=>iS h<|wpAny_Constant_int<|j7 T
def SV.ck {x:List Nat}:SV w d F sc (.y<|.z x) (.Constant (.str ⟨⟨x⟩⟩) k pos):=λenv E A ρ μ s v μ' eR T hA h=>iS h<|wpAny_Constant_str<|fV.bD T _<|.ck x _
def SV.bN:SV w d F sc (.y .ah) (.Constant (.bytes []) k pos):=λenv E A ρ μ s v μ' eR T hA h=>iS h<|show wpAny _ A (mkTextBytes #[]) _ _ _ from eX<|wpAny_fresh<|fD<|fV.bD T _<|eW.bN _
def SV.ee {x:Nat} (hk:sc.names.lookup (nm x)=some .local\/sc.names.lookup (nm x)=some .cell\/sc.names.lookup (nm x)=some .free) (hd:(nm x==("__debug__":Str))=false)
  (hc:(nm x==("__classdict__":Str))=false):SV w d F sc (.u x) (.Name (nm x) pos):=λenv E A ρ μ s v μ' eR T hA h=>iC h λv0 hv h=>iS h (wpAny_Name (by
 have kin:∀n,env.kindOf n=sc.names.lookup n:=λn=>by unfold Env.kindOf;rw[eR.names]
 rcases hk with hl|hl|hl
 .obtain⟨m,hm,hr⟩:=eR.ns;obtain⟨u,hu,r⟩:=hr x v0 hv hl;exact wpAny_loadName_local eR.kind ((kin _).trans hl) hm hu<|fV.aW T r
 .obtain⟨c,u,h1,h2,r⟩:=eR.cell x v0 hv<|.inl hl;exact wpAny_loadName_cell eR.kind ((kin _).trans hl) h1 h2<|fV.aW T r
 .obtain⟨c,u,h1,h2,r⟩:=eR.cell x v0 hv<|.inr hl;exact wpAny_loadName_free eR.kind ((kin _).trans hl) h1 h2 (fV.aW T r) hc) hd)
def Kt (w:World) (n:Str) (v:V):Prop:=∃u,globalOf (HF w.params) n=some u/\eW w [] (HF w.params) v u
def e9.ct (T:e9 w ρ μ s):fM [] [] (HF w.params) ρ s.heap:=
 ⟨⟨ρ,rfl,λp hp=>⟨pj (by rw[xB];exact(T.fresh p hp).1),pj (by rw[xB];exact(T.fresh p hp).2)⟩⟩,λb o e Z Z=>T.base b o e,qL λb o e=>⟨o,T.base b o e⟩⟩
def CN (T:e9 w ρ μ s):s.heap.Ns 3 ((HF w.params).nsMap mainGlobals):=(Heap.Ns.of_isNs<|t9 w.params).keeps T.base
def Cl (T:e9 w ρ μ s):s.heap.Ns 0 ((HF w.params).nsMap builtinsNs):=(Heap.Ns.of_isNs<|zH w.params).keeps T.base
def qg (eR:f6 w sc env E ρ s.heap) (T:e9 w ρ μ s) (hk:sc.names.lookup n=some .globalImplicit) (hd:(n==("__debug__":Str))=false)
  (hg:globalOf (HF w.params) n=some u) (h:Q u s):wpAny (model pw w) A (eval (.Name n pos) env) Q E' s:=by
 refine Calls.Name_function_global eR.kind (by unfold Env.kindOf;rw[eR.names];exact hk) ?_ hd;refine Calls.loadGlobal_global (by rw[eR.glob];exact CN T) ?_ h;rw[<-PySem.Pin.globalOf_eq (t9 w.params)];exact hg
def SV.ef {x:Nat} {v0:V} (hk:sc.names.lookup (nm x)=some .globalImplicit) (hd:(nm x==("__debug__":Str))=false) (hg:Kt w (nm x) v0):SV w d F sc (.S x v0) (.Name (nm x) pos):=λenv E A ρ μ s v μ' eR T hA h=>iS h<|e8 hg λu h1 r=>qg eR T hk hd h1<|fV.aW T<|r.aU T.ct<|.aS ..
section
variable{env:PySem.Env} {E:Env} {A:Around} {ρ:f8} {μ μ1 μ2:H} {s:Shared} {e1 e2:Ex} {x1 x2:Expr} {a b:V} {E':Value->Shared->Prop}
def AH (h1:SV w d F sc e1 x1) (h2:SV w d F sc e2 x2) (eR:f6 w sc env E ρ s.heap) (T:e9 w ρ μ s) (hA:jE d A) (v1:ev aj F E e1 μ=some (a,μ1)) (v2:ev aj F E e2 μ1=some (b,μ2)) {Q:Value->Value->Shared->Prop}
  (k:∀u v s₂ ρ₂,fM [] ρ s.heap ρ₂ s₂.heap->e9 w ρ₂ μ2 s₂->s₂.os=s.os->eW w ρ₂ s₂.heap a u->eW w ρ₂ s₂.heap b v->Q u v s₂):
  wpAny (model pw w) A (eval x1 env) (λu s₁=>wpAny (model pw w) A (eval x2 env) (λv s₂=>Q u v s₂) E' s₁) E' s:=
 fN (h1 env E A ρ μ s _ _ eR T hA v1) λu s₁ ρ₁ a b c r=>fN (h2 env E A ρ₁ μ1 s₁ _ _ (eR.bn a) b hA v2) λv s₂ ρ₂ a' b' c' r'=>
  k u v s₂ ρ₂ (a.aT a') b' (c'.trans c) (r.aU a'<|.aS ..) r'
end
def lx {R:f8->Heap->α->Prop} (x:fM [] ρ s.heap ρ' s'.heap) (o:s'.os=s.os) (h:wpAny (model pw w) A t (fV w ρ' s' μ' R) fH s'):
  wpAny (model pw w) A t (fV w ρ s μ' R) E' s':=gE h (λZ Z p=>p.bj x o) λZ Z f=>f.elim
def SV.eo {o:Op} {e1 e2:Ex} {x1 x2:Expr} (h1:SV w d F sc e1 x1) (h2:SV w d F sc e2 x2):SV w d F sc (.I o e1 e2) (.BinOp x1 (CL o) x2 pos):=λenv E A ρ μ s v μ' eR T hA h=>
 iA h λa μ1 v1 h=>iA h λb μ2 v2 h=>iC h λr hr h=>iS h<|wpAny_BinOp<|AH h1 h2 eR T hA v1 v2 λu v s₂ ρ₂ x T2 o' ra rb=>lx x o'<|Pu o T2 ra rb hr
noncomputable def AI (x:Expr):Bool:=!Nat.beq x.ctorIdx 26
def F0 {y:Expr} (h:AI y) (o i:Value):subscripted y false o i=operate [o,i] (getItem o i):=by cases y<;>first|rfl|exact ng h
def nY {A:Around} (hA:jE d A):A.units+100<cLine:=fq (gR (gV _ _) ay) hA.2.2
def SV.ew {e1 e2:Ex} {x1 x2:Expr} (h1:SV w d F sc e1 x1) (h2:SV w d F sc e2 x2) (hs:AI x2):SV w d F sc (.D e1 e2) (.Subscript x1 x2 pos):=λenv E A ρ μ s v μ' eR T hA h=>
 iA h λa μ1 v1 h=>iA h λb μ2 v2 h=>iC h λr hr h=>iS h (Subscript_ (AH h1 h2 eR T hA v1 v2 λu v s₂ ρ₂ x T2 o' ra rb=>
 (PM T2 (nY hA) ra rb hr).elim λZ q=>q.elim λZ q=>tail_any q.1 q.2.1 (lx x o' q.2.2)<|F0 hs u v))
noncomputable def ly (x:Expr):Bool:=!Nat.beq x.ctorIdx 7
def yr {y:Expr} (h:ly y) (op:CmpOp):behindInMarks op y=false:=by cases y<;>first|rfl|exact ng h
def SV.dy {o:Cm} {e1 e2:Ex} {x1 x2:Expr} (h1:SV w d F sc e1 x1) (h2:SV w d F sc e2 x2) (hs:ly x2):SV w d F sc (.E o e1 e2) (.Compare x1 [FV o] [x2] pos):=λenv E A ρ μ s v μ' eR T hA h=>
 iA h λa μ1 v1 h=>iA h λb μ2 v2 h=>iK h λr hr h=>iS h (wpAny_Compare1 (AH h1 h2 eR T hA v1 v2 λu v s₂ ρ₂ x T2 o' ra rb=>
  lx x o' (fN (FZ o T2 (nY hA) ra rb hr) λy s' ρ' p1 p2 p3 p4=>⟨ρ',p1,p2,p3,p4▸.bM r⟩))<|yr hs _)
def ST.dy {o:Cm} {e1 e2:Ex} {x1 x2:Expr} (h1:SV w d F sc e1 x1) (h2:SV w d F sc e2 x2) (hs:ly x2):ST w d F sc (.E o e1 e2) (.Compare x1 [FV o] [x2] pos):=λenv E A ρ μ s v t μ' eR T hA h=>
 iA h λa μ1 v1 h=>iA h λb μ2 v2 h=>iK h λr hr h=>iS h λht=>wpAny_isTrue_Compare1 (AH h1 h2 eR T hA v1 v2 λu v s₂ ρ₂ x T2 o' ra rb=>
  fN (FZ o T2 (nY hA) ra rb hr) λy s' ρ' p1 p2 p3 p4=>p4▸wpAny_truthy_bool ⟨ρ',x.aT p1,p2,p3.trans o',Option.some.inj ht⟩)<|yr hs _
def SV.eA {e:Ex} {x:Expr} (h1:SV w d F sc e x):SV w d F sc (.aC e) (.UnaryOp .USub x pos):=λenv E A ρ μ s v μ' eR T hA h=>
 iF h λi μ1 v1 h=>iS h<|wpAny_UnaryOp<|fN (h1 env E A ρ μ s _ _ eR T hA v1) λu s₁ ρ₁ a b c r=>jD r λt=>neg_int<|(j7 b).bj a c
def SV.dz {e:Ex} {x:Expr} (h1:SV w d F sc e x):SV w d F sc (.aD e) (.UnaryOp .Not x pos):=λenv E A ρ μ s v μ' eR T hA h=>
 iA h λt μ1 v1 h=>iK h λk hk h=>iS h (wpAny_UnaryOp (fN (h1 env E A ρ μ s _ _ eR T hA v1) λu s₁ ρ₁ a b c r=>
  PySem.not_value (fN (xE b r hk) λy s₂ ρ₂ a' b' c' r'=>⟨ρ₂,a.aT a',b',c'.trans c,r'▸.bM _⟩)))
def ST.dz {e:Ex} {x:Expr} (h1:ST w d F sc e x):ST w d F sc (.aD e) (.UnaryOp .Not x pos):=λenv E A ρ μ s v t μ' eR T hA h=>
 iA h λu μ1 v1 h=>iK h λk hk h=>iS h λht=>wpAny_isTrue_Not<|fN (h1 env E A ρ μ s _ _ _ eR T hA v1 hk) λy s₂ ρ₂ a' b' c' r'=>⟨ρ₂,a',b',c',r'▸Option.some.inj ht⟩
noncomputable def AJ (x:Expr):Bool:=!(Nat.beq x.ctorIdx 15||Nat.beq x.ctorIdx 0||Nat.beq x.ctorIdx 5||Nat.beq x.ctorIdx 3)
def F1 {y:Expr} {env:PySem.Env} (h:AJ y) (whole:Sem Value):isTrue y env whole=(do let v <-whole;standAt y.pos;holding [v] (truthy v)):=by
 cases y<;>first|rfl|exact ng h
def ST.eB {e:Ex} {x:Expr} (h1:SV w d F sc e x) (hp:AJ x):ST w d F sc e x:=λenv E A ρ μ s v t μ' eR T hA h ht=>
 wpAny_isTrue_value (fN (h1 env E A ρ μ s _ _ eR T hA h) λu s₁ ρ₁ a b c r=>lx a c<|xE b r ht) (F1 hp _)
def SV.eD {c e1 e2:Ex} {xc x1 x2:Expr} (hc:ST w d F sc c xc) (h1:SV w d F sc e1 x1) (h2:SV w d F sc e2 x2):SV w d F sc (.au c e1 e2) (.IfExp xc x1 x2 pos):=λenv E A ρ μ s v μ' eR T hA h=>
 iA h λt μ1 v1 h=>wpAny_IfExp (iT h
  (λhk h=>fN (hc env E A ρ μ s _ _ _ eR T hA v1 hk) λu s₁ ρ₁ a b c r=>by rw[r];exact lx a c<|h1 env E A ρ₁ μ1 s₁ _ _ (eR.bn a) b hA h)
  λhk h=>fN (hc env E A ρ μ s _ _ _ eR T hA v1 hk) λu s₁ ρ₁ a b c r=>by rw[r];exact lx a c<|h2 env E A ρ₁ μ1 s₁ _ _ (eR.bn a) b hA h)
noncomputable def rM:Bool->BoolOp
 |true=>.And
 |false=>.Or
def SB (w:World) (d:Nat) (F:fb) (sc:Scope) (isAnd:Bool) (es:List Ex) (xs:List Expr):Prop:=∀(env:PySem.Env) (E:Env) (A:Around) (ρ:f8) (μ:H) (s:Shared) v μ' pos,f6 w sc env E ρ s.heap->e9 w ρ μ s->jE d A->
 evB aj F E isAnd es μ=some (v,μ')->wpAny (model pw w) A (boolOp pos (rM isAnd)<|evalEach xs env) (PV w ρ s v μ') fH s
def ww (w:World) (d:Nat) (F:fb) (sc:Scope) (isAnd:Bool) (es:List Ex) (xs:List Expr):Prop:=∀(env:PySem.Env) (E:Env) (A:Around) (ρ:f8) (μ:H) (s:Shared) v t μ',f6 w sc env E ρ s.heap->e9 w ρ μ s->jE d A->
 evB aj F E isAnd es μ=some (v,μ')->ix μ' v=some t->wpAny (model pw w) A (allTrue (rM isAnd) xs env) (fV w ρ s μ' λZ Z u=>u=t) fH s
def SB.b9 (h1:SV w d F sc e x):SB w d F sc isAnd [e] [x]:=λenv E A ρ μ s v μ' pos eR T hA h=>by
 exact h1 env E A ρ μ s v μ' eR T hA h
def SB.aR {isAnd:Bool} {e e2:Ex} {x x2:Expr} {es:List Ex} {xs:List Expr} (h1:SV w d F sc e x) (h2:SB w d F sc isAnd (e2::es) (x2::xs)):SB w d F sc isAnd (e::e2::es) (x::x2::xs):=λenv E A ρ μ s v μ' pos eR T hA h=>
 iA h λa μ1 v1 h=>iK h λt ht h=>
 eX (fN (h1 env E A ρ μ s _ _ eR T hA v1) λu s₁ ρ₁ a b c r=>eX (PySem.wpAny_standAt (eX (mf (fN (xE b r ht) λy s₂ ρ₂ a' b' c' r'=>by
   refine iU h (λhq h=>?_) λhq h=>?_
   .have e:y=isAnd:=r'.trans<|eq_of_beq hq;have go:=lx (E':=fH) (a.aT a') (c'.trans c)<|h2 env E A ρ₂ μ1 s₂ _ _ pos ((eR.bn a).bn a') b' hA h;clear h2 h hq h1;subst e;first|cases y|cases isAnd
    all_goals exact go
   .have e:y≠isAnd:=λe=>by rw[<-r',e]at hq;simp at hq
    refine iS h ?_;have go:PV w ρ s _ μ1 u s₂:=⟨ρ₂,a.aT a',b',c'.trans c,r.aU a'<|.aS ..⟩;clear h2 h hq h1 r' eR;cases y<;>cases isAnd<;>first|exact fD go|exact absurd rfl e)))))
def SV.dA (h:SB w d F sc isAnd es xs):SV w d F sc (.Y isAnd es) (.BoolOp (rM isAnd) xs pos):=λenv E A ρ μ s v μ' eR T hA hv=>by
 exact h env E A ρ μ s v μ' pos eR T hA hv
theorem AK {A:Around} {q:Bool} {x:Expr} {xs:List Expr} {env:PySem.Env} {Q:Bool->Shared->Prop} {E':Value->Shared->Prop} {s:Shared} (h:wpAny (model pw w) A (isTrue x env<|eval x env) (λy s=>if y=q then wpAny (model pw w) A (allTrue (rM q) xs env) Q E' s else Q y s) E' s):wpAny (model pw w) A (allTrue (rM q) (x::xs) env) Q E' s:=by
 cases q with
 |true=>exact PySem.wpAny_allTrue_And_cons (gE h (λy s p=>by cases y with
   |true=>exact p
   |false=>exact p) λZ Z f=>f)
 |false=>exact PySem.wpAny_allTrue_Or_cons (gE h (λy s p=>by cases y with
   |true=>exact p
   |false=>exact p) λZ Z f=>f)
theorem PN {A:Around} {q:Bool} {env:PySem.Env} {Q:Bool->Shared->Prop} {E':Value->Shared->Prop} {s:Shared} (h:Q q s):wpAny (model pw w) A (allTrue (rM q) [] env) Q E' s:=by
 cases q with
 |true=>exact wpAny_allTrue_And_nil h
 |false=>exact wpAny_allTrue_Or_nil h
def ww.b9 {isAnd:Bool} {e:Ex} {x:Expr} (h1:ST w d F sc e x):ww w d F sc isAnd [e] [x]:=λenv E A ρ μ s v t μ' eR T hA h ht=>
 AK (fN (h1 env E A ρ μ s v t μ' eR T hA h ht) λy s₂ ρ₂ a' b' c' r'=>by
  have go:fV w ρ s μ' (λZ Z u=>u=t) y s₂:=⟨ρ₂,a',b',c',r'⟩;clear h ht eR;split
  .rename_i e;rw[e]at go;exact PN go
  .exact go)
def ww.aR {isAnd:Bool} {e e2:Ex} {x:Expr} {es:List Ex} {xs:List Expr} (h1:ST w d F sc e x) (h2:ww w d F sc isAnd (e2::es) xs):ww w d F sc isAnd (e::e2::es) (x::xs):=λenv E A ρ μ s v t μ' eR T hA h=>
 iA h λa μ1 v1 h=>iK h λt1 ht1 h=>iU h
  (λhq h ht=>AK (fN (h1 env E A ρ μ s _ t1 μ1 eR T hA v1 ht1) λy s₂ ρ₂ a' b' c' r'=>by
    rw[if_pos<|r'.trans<|eq_of_beq hq];exact lx a' c'<|h2 env E A ρ₂ μ1 s₂ _ _ _ (eR.bn a') b' hA h ht))
  λhq h=>iS h λht=>AK (fN (h1 env E A ρ μ s _ t1 μ1 eR T hA v1 ht1) λy s₂ ρ₂ a' b' c' r'=>by
    rw[if_neg λe=>by rw[<-r',e]at hq;simp at hq];exact⟨ρ₂,a',b',c',r'.trans<|Option.some.inj<|ht1.symm.trans ht⟩)
def ST.dA (h:ww w d F sc isAnd es xs):ST w d F sc (.Y isAnd es) (.BoolOp (rM isAnd) xs pos):=λenv E A ρ μ s v t μ' eR T hA hv ht=>by
 exact wpAny_isTrue_BoolOp<|h env E A ρ μ s v t μ' eR T hA hv ht
end
end
section
open PySem PySem.W PyProof.Rows
def KF (P:Params):Frag:=pk OL [(205,205),(6,212),(6,219),(6,226),(6,233),(4,238),(15,254),(6,261),(6,268),(6,275),(6,282),(6,289),(6,296),(6,303),(6,310),(6,317),(6,324),(6,331),(6,338),(6,345),(6,352),(6,359),(6,366),(6,373),(15,389),(6,396),(6,403),(0,404),(0,405),(0,406),(0,407),(0,408),(8,417),(6,424),(6,431),(6,438),(6,445),(6,452),(13,466),(13,480),(6,487),(6,494),(27,522),(6,529),(6,536),(0,537),(0,538),(0,539),(0,540),(0,541),(15,557),(6,564),(6,571),(6,578),(0,579),(0,580),(0,581),(0,582),(0,583),(15,599),(6,606),(0,607),(0,608),(0,609),(0,610),(0,611),(15,627),(0,628),(0,629),(0,630),(0,631),(0,632),(15,648),(0,649),(0,650),(0,651),(0,652),(0,653),(15,669),(0,670),(0,671),(0,672),(0,673),(0,674),(8,683),(6,690),(13,704),(6,711),(6,718),(6,725),(6,732),(6,739),(13,753),(6,760),(4,765),(6,772),(6,779),(7,787),(11,799),(6,806),(6,813),(6,820),(6,827),(6,834),(6,841),(13,855),(6,862),(6,869),(6,876),(6,883),(6,890),(6,897),(6,904),(6,911),(6,918),(6,925),(6,932),(6,939),(6,946),(6,953),(6,960),(6,967),(4,972),(4,977),(6,984),(4,989)] P
noncomputable def PO:List Addr:=[205,212,219,226,233,238,254,261,268,275,282,289,296,303,310,317,324,331,338,345,352,359,366,373,389,396,403,404,405,406,407,408,417,424,431,438,445,452,466,480,487,494,522,529,536,537,538,539,540,541,557,564,571,578,579,580,581,582,583,599,606,607,608,609,610,611,627,628,629,630,631,632,648,649,650,651,652,653,669,670,671,672,673,674,683,690,704,711,718,725,732,739,753,760,765,772,779,787,799,806,813,820,827,834,841,855,862,869,876,883,890,897,904,911,918,925,932,939,946,953,960,967,972,977,984,989]
def Th (P:Params):KF P=PO.map λi=>(i,((HF P).get? i).getD ⟨.none,none,.plain,#[]⟩):=eV
def LZ (P:Params):PO.all (λi=>((HF P).get? i).isSome):=eV
theorem wx {α:Type} {f:Addr->α}:∀{l:List Addr} {a:Addr} {o:α},(l.map λi=>(i,f i)).lookup a=some o->a∈l/\o=f a
 |i::l,a,o,h=>by
  rw[hW,List.lookup_cons]at h;cases hb:a==i with
  |true=>rw[hb]at h;cases h;have:=beq_iff_eq.mp hb;subst this;exact⟨fA,rfl⟩
  |false=>rw[hb]at h;have:=wx h;exact⟨gj _ this.1,this.2⟩
def Ti (P:Params):(KF P).In (HF P):=λa o h=>by
 rw[Th]at h;obtain⟨h1,h2⟩:=wx h;have:=kZ.mp (LZ P) a h1;obtain⟨x,hx⟩:=Option.isSome_iff_exists.mp this;rw[hx]at h2;rw[h2];exact hx
def Ku (P:Params) (C:CD):Bool:=hasDictIn (KF P) C.addr&&(findIn (KF P) (.ref C.addr) "__getattribute__"==some (some<|.builtin "object.__getattribute__"))&&(findIn (KF P) (.ref C.addr) "__setattr__"==some (some<|.builtin "object.__setattr__"))&&plainOver (KF P) C.addr&&makesIn (KF P) C.addr&&(findIn (KF P) (.ref C.addr) "__getattr__"==some none)
def PQ (P:Params) (C:CD):Bool:=iy.all λx=>match km C.ms x with
 |some _=>true
 |none=>findIn (KF P) (.ref C.addr) (nm x)==some none
def F2 (P:Params):aj.all (Ku P):=eV
def Ec (P:Params):aj.all (PQ P):=eV
theorem ni:∀{l:List CD} {c C},hU l c=some C->C∈l
 |_::_,0,_,h=>by cases h;exact fA
 |_::r,c+1,_,h=>gj _<|ni (l:=r) h
structure X8 (P:Params) (C:CD):Prop where
 dict:hasDictIn (KF P) C.addr=true
 get:findIn (KF P) (.ref C.addr) "__getattribute__"=some (some (.builtin "object.__getattribute__"))
 set:findIn (KF P) (.ref C.addr) "__setattr__"=some (some (.builtin "object.__setattr__"))
 over:plainOver (KF P) C.addr=true
 makes:makesIn (KF P) C.addr=true
 getx:findIn (KF P) (.ref C.addr) "__getattr__"=some none
 attr:∀x∈iy,km C.ms x=none->findIn (KF P) (.ref C.addr) (nm x)=some none
def AL (P:Params) (h:hU aj c=some C):X8 P C:=by
 have h1:=kZ.mp (F2 P) C<|ni h;have h2:=kZ.mp (Ec P) C<|ni h;unfold Ku at h1;simp[jd,beq_iff_eq]at h1;obtain⟨⟨⟨⟨⟨a,b⟩,c⟩,d⟩,e⟩,f⟩:=h1;refine⟨a,b,c,d,e,f,λx hx hm=>?_⟩;have:=kZ.mp h2 x hx;rw[hm]at this;simpa using this
def AM (P:Params) (C:CD):Bool:=(C.ms.all λp=>iy.contains p.1&&match ga eU p.2 with
 |some fd=>findIn (KF P) (.ref C.addr) (nm p.1)==some (some<|.ref fd.addr)&&typeIn (KF P) (.ref fd.addr)==some (.type "function")
 |none=>false)&&(match ga eU C.init with
 |some fd=>findIn (KF P) (.ref C.addr) "__init__"==some (some<|.ref fd.addr)&&typeIn (KF P) (.ref fd.addr)==some (.type "function")
 |none=>false)&&keepIn (KF P) (.ref C.addr)
def wy (P:Params):aj.all (AM P):=eV
def X9 (P:Params) (fd:FD):Bool:=keepIn (KF P)<|.ref fd.addr
def H0 (P:Params):eU.all (X9 P):=eV
theorem AN:∀{l:List FD} {c C},ga l c=some C->C∈l
 |_::_,0,_,h=>by cases h;exact fA
 |_::r,c+1,_,h=>gj _<|AN (l:=r) h
def CO (P:Params) (h:ga eU f=some fd):keepIn (KF P) (.ref fd.addr):=kZ.mp (H0 P) fd<|AN h
theorem tu:∀{l:List (Nat×Nat)} {m f},km l m=some f->(m,f)∈l
 |(y,g)::r,m,f,h=>by
  have h:(match Nat.beq y m with|true=>some g|false=>km r m)=some f:=h;cases hb:Nat.beq y m with
  |true=>rw[hb]at h;cases h;have:=mW hb;subst this;exact fA
  |false=>rw[hb]at h;exact gj _<|tu h
set_option tactic.hygienic true in
def L7 (P:Params) (h:hU aj c=some C) (hm:km C.ms m=some f):m∈iy/\∃fd,ga eU f=some fd/\findIn (KF P) (.ref C.addr) (nm m)=some (some<|.ref fd.addr)/\typeIn (KF P) (.ref fd.addr)=some (.type "function"):=by
 have h1:=kZ.mp (wy P) C<|ni h;unfold AM at h1;rw[jd,jd]at h1;have h2:=kZ.mp h1.1.1 _<|tu hm;simp only[jd]at h2;refine⟨by simpa using h2.1,?_⟩;have h3:=h2.2;split at h3
 .rename_i fd hf;simp only[jd,beq_iff_eq,beq_iff_eq]at h3;exact⟨fd,hf,h3.1,h3.2⟩
 .first|exact fe h3|exact nomatch h3
set_option tactic.hygienic true in
def CP (P:Params) (h:hU aj c=some C):keepIn (KF P) (.ref C.addr)/\∃fd,ga eU C.init=some fd/\findIn (KF P) (.ref C.addr) "__init__"=some (some<|.ref fd.addr)/\typeIn (KF P) (.ref fd.addr)=some (.type "function"):=by
 have h1:=kZ.mp (wy P) C<|ni h;unfold AM at h1;rw[jd,jd]at h1;refine⟨h1.2,?_⟩;have h3:=h1.1.2;split at h3
 .rename_i fd hf;simp only[jd,beq_iff_eq,beq_iff_eq]at h3;exact⟨fd,hf,h3.1,h3.2⟩
 .first|exact fe h3|exact nomatch h3
end
section
open PySem PySem.W PyProof.Rows PySem.SeqAt
def H1:(iy.all λn=>iy.all λx=>(nm n==nm x)==Nat.beq n x):=eV
def F3 (hn:n∈iy) (hx:x∈iy):(nm n==nm x)=Nat.beq n x:=by
 have:=kZ.mp (kZ.mp H1 n hn) x hx;simpa using this
section
variable{w:World} {ρ:f8} {h:Heap}
def vG {k:Value} (hk:k.isStr n):∃t,k=.str n t:=by
 cases k<;>simp_all [Value.isStr]
def tz (x n:Str) (t:Tok):(Value.str x t).isStr n=(x==n):=rfl
theorem F4 {l:List (Nat×V)} {v:V} {n x:Nat} {b:Bool} (h:Nat.beq n x=b):ci ((n,v)::l) x=match(generalizing:=false) b with|true=>some v|false=>ci l x:=by cases h;rfl
def xF (hx:x∈iy):∀{fs:List (Nat×V)} {es:List DictEntry},jR w ρ h fs es->match ci fs x with
  |some v=>∃u,getL (nm x) es=some (some u)/\eW w ρ h v u
  |none=>getL (nm x) es=some none:=by
 intro fs es r;have noref:∀{fs es},jR w ρ h fs es->es.any (·.refKey)=false:=by
  intro fs es r
  induction r with
  |aS=>rfl
  |aR _ a _ _ ih=>
   obtain⟨t,ht⟩:=vG a;simp only[List.any_cons,ih];simp[DictEntry.refKey,ht]
 have key:∀{fs:List _} {es:List DictEntry},jR w ρ h fs es->match ci fs x with
   |some v=>∃e,es.find? (·.key.isStr (nm x))=some e/\eW w ρ h v e.val
   |none=>es.find? (·.key.isStr (nm x))=none:=by
  intro fs es r
  induction r with
  |aS=>rfl
  | @aR n v l e es i a b _ ih=>
   obtain⟨t,ht⟩:=vG a;have hk:e.key.isStr (nm x)=Nat.beq n x:=by simp only[ht,tz];exact F3 i hx
   cases hb:Nat.beq n x with
   |true=>rw[show ci ((n,v)::l) x=some v from F4 hb,List.find?_cons_of_pos (p:=λy:DictEntry=>y.key.isStr (nm x)) (hk.trans hb)];exact⟨e,rfl,b⟩
   |false=>rw[show ci ((n,v)::l) x=ci l x from F4 hb,List.find?_cons_of_neg (p:=λy:DictEntry=>y.key.isStr (nm x)) (by rw[hk,hb];exact Bool.false_ne_true)];exact ih
 have:=key r;unfold getL;cases ha:ci fs x with
 |some v=>
  rw[ha]at this;refine e8 this λe h1 h2=>?_
  simp only[h1];exact⟨_,rfl,h2⟩
 |none=>
  rw[ha]at this;simp only[this,noref r];rfl
end
section
variable{w:World} {d:Nat} {F:fb} {sc:Scope} {k:Nat} {pos:Pos}
def mE (T:e9 w ρ μ s):(KF w.params).In s.heap:=λa o h=>T.base a o<|Ti _ a o h
def PT (r:eW w ρ h v u):handedIn u:=by cases r<;>rfl
def xG (T:e9 w ρ μ s) (hr:eW w ρ s.heap (.g k) v) (hg:d' μ k=some (.U c fs)):
  ∃a dx C es n,v=.ref a/\ρ[k]?=some (a,dx)/\hU aj c=some C/\InstAt s.heap a ⟨.ref C.addr,some dx,.plain,#[]⟩ C.addr (some<|dictOf es n)/\jR w ρ s.heap fs es/\¬kL ρ a:=by
 refine xA hr λZ e=>?_
 have:=T.obj _ _ _ hg e;cases this with
  |bJ h1 h2 h3 h4 h5=>exact⟨_,_,_,_,_,rfl,e,h1,⟨h2,rfl,rfl,h4⟩,h5,h3⟩
noncomputable def lW (x:Expr):Bool:=if h:x.ctorIdx=16 then Expr.Call.elim (motive_1:=λZ=>Bool) x h λf as kw Z=>!(Nat.beq f.ctorIdx 23&&as.isEmpty&&kw.isEmpty) else true
set_option tactic.hygienic true in
def rN (h:lW o):attributeBase o attr env whole=whole:=by
 cases o<;>first
  |rfl
  |(rename_i f as kw p;cases f<;>first
    |rfl
    |(cases as<;>cases kw<;>first|rfl|exact ng h))
def SV.attr {e:Ex} {x1:Expr} {x:Nat} (hx:x∈iy) (h1:SV w d F sc e x1) (hb:lW x1):SV w d F sc (.attr e x) (.Attribute x1 (nm x) pos):=λenv E A ρ μ s v μ' eR T hA h=>by
 refine ia λG kk=>iE h λk1 μ1 v1 h=>iG h λc fs hg h=>iC h λv0 ha h=>iJ h λC hC h=>iP h λhm h=>?_
 apply kk;refine iS h ?_;rw[arm_eval_Attribute,rN hb];refine eX<|fN (h1 env E A ρ μ s _ _ eR T hA v1) λu s₁ ρ₁ a b c r=>eX<|PySem.wpAny_standAt<|eX<|mf ?_
 refine ia λG kk=>?_
 obtain⟨ad,dx,C',es,n,rfl,e1,e2,I,rf,_⟩:=xG b r hg;rw[hC]at e2;cases e2;have R:=AL w.params hC;have:=xF hx rf;rw[ha]at this;refine e8 this λy hy ry=>?_
 apply kk;exact get_value (K:=KF w.params) (mE b) I R.get (findObj_own R.dict (R.attr x hx hm) rfl (by simp only[lookIn_dict];exact hy)) (PT ry)<|eX (wpAny_letTemporaryGo (fD ((fV.bD b _ ry).bj a c)))
theorem pd {E:Env}:∀{es:List Ex} {μ vs μ'},evs aj F E es μ=some (vs,μ')->vs.length=es.length
 |[],_,_,_,h=>by refine iS h ?_;rfl
 |e::es,_,_,_,h=>by
  refine iA h λZ Z Z h=>iB h λZ Z h2 h=>iS h ?_
  simp[pd h2]
def SV.bF {es:List Ex} {xs:List Expr} (h1:hY w d F sc es xs) (hz:es.length<=1000):SV w d F sc (.v es) (.Tuple xs k pos):=λenv E A ρ μ s v μ' eR T hA h=>by
 refine iB h λvs μ1 v1 h=>iS h<|wpAny_Tuple<|fN (h1 env E A ρ μ s _ _ pos eR T hA v1) λus s₁ ρ₁ a b c r=>⟨?_,?_⟩
 .simp only[<-r.aV,pd v1,kE];lia
 .exact(vD b (vs:=us.toArray) (by simpa using r) s₁.toks).bj a c
def SV.bo {es:List Ex} {xs:List Expr} (h1:hY w d F sc es xs) (hz:es.length<=1000):SV w d F sc (.w es) (.List xs pos):=λenv E A ρ μ s v μ' eR T hA h=>by
 refine iB h λvs μ1 v1 h=>iS h<|wpAny_List<|fN (h1 env E A ρ μ s _ _ pos eR T hA v1) λus s₁ ρ₁ a b c r=>⟨?_,?_⟩
 .simp only[<-r.aV,pd v1,kE];lia
 .exact(tj b (vs:=us.toArray) (by simpa using r) s₁.toks).bj a c
def ug (T:e9 w ρ μ s) (t:Nat) (hn:fM [] ρ s.heap (ρ++[(s.heap.objs.size,s.heap.objs.size)]) (s.heap.push ob)->lu w (ρ++[(s.heap.objs.size,s.heap.objs.size)]) (s.heap.push ob) o (s.heap.objs.size,s.heap.objs.size)):
  PV w ρ s (.g μ.length) (μ++[o]) (.ref s.heap.objs.size) {s with heap:=s.heap.push ob,toks:=t}:=by
 have:=e9.cj (s':={s with heap:=s.heap.push ob,toks:=t}) T (λZ Z e=>iV _ e) fF rfl (fX _) (fX _) hn;refine⟨_,iI this.1 this.2 rfl ?_⟩;exact eW.cv (p:=(s.heap.objs.size,s.heap.objs.size)) (by rw[nz (by rw[T.len];lia),T.len,Nat.sub_self];rfl)
def SV.cy {es:List Ex} {xs:List Expr} (h1:hY w d F sc es xs) (hz:es.length<=1000):SV w d F sc (.N es) (.List xs pos):=λenv E A ρ μ s v μ' eR T hA h=>by
 refine iB h λvs μ1 v1 h=>iS h<|wpAny_List<|fN (h1 env E A ρ μ s _ _ pos eR T hA v1) λus s₁ ρ₁ a b c r=>⟨?_,?_⟩
 .simp only[<-r.aV,pd v1,kE];lia
 .exact(ug b s₁.toks λx=>.bh ⟨_,jQ _ rfl,rfl,_,rfl⟩ ⟨_,jQ _ rfl,rfl⟩ (by simpa using r.aU x (.aS ..))).bj a c
def SV.cV:SV w d F sc .X (.Dict [] [] pos):=λenv E A ρ μ s v μ' eR T hA h=>by
 exact iS h<|wpAny_Dict_empty<|ug T s.toks λx=>.bu (kvs:=[]) ⟨_,#[],0,Cv (jQ _ rfl) ⟨rfl,rfl,rfl⟩ rfl (λe he=>by simp at he) .nil pW⟩ .aS
end
section
variable{w:World} {d:Nat} {F:fb} {sc:Scope} {k:Nat} {pos:Pos}
theorem nj {env:PySem.Env}:∀{xs:List Expr},xs.all f7->(backTo pos<|starEach xs env).any (·.1)=false
 |[],_=>rfl
 |e::xs,h=>by
  rw[kC,jd]at h;rw[ja h.1];show(false||(backTo pos<|starEach xs env).any (·.1))=false;rw[nj h.2];rfl
def Ed
  (hk:keepIn (KF w.params) (.ref a)) (h1:hY w d F sc es xs) (hp:xs.all f7) (eR:f6 w sc env E ρ s.heap) (T:e9 w ρ μ s) (hA:jE d A) (v1:evs aj F E es μ=some (vs,μ1))
  (h:∀us s₁ ρ₁,fM [] ρ s.heap ρ₁ s₁.heap->e9 w ρ₁ μ1 s₁->s₁.os=s.os->RelVs w ρ₁ s₁.heap vs us->wpAny (model pw w) A (call (.ref a)<|first++us) Q E' s₁):
  wpAny (model pw w) A (callWith pos (.ref a) first (backTo pos<|starEach xs env) []) Q E' s:=by
 have g:=h1 env E A ρ μ s vs μ1 pos eR T hA v1;cases xs with
 |nil=>
  refine callWith_K0 (mE T) hk ?_;have g':=g;cases es with
  |nil=>
   obtain⟨rfl,rfl⟩:=v1;exact h [] s ρ (.aZ ..) T rfl .aS
  |cons e es=>
   have g2:=eX<|fN g' λus s₁ ρ₁ x y z r=>h us s₁ ρ₁ x y z r
   exact g2
 |cons e xs=>
  rw[kC,jd]at hp;exact callWith_K (mE T) hk (fN g λus s₁ ρ₁ x y z r=>⟨mE y,h us s₁ ρ₁ x y z r⟩) (ja hp.1)<|nj hp.2
def SV.cn (hgf:oA f) (hF:FS w d F) (hf:ga eU f=some fd) (hk:sc.names.lookup n=some .globalImplicit) (hd:(n==("__debug__":Str))=false)
  (hg:globalOf (HF w.params) n=some (.ref fd.addr)) (h1:hY w d F sc es xs) (hp:xs.all f7):SV w d F sc (.A f es) (.Call (.Name n np) xs [] pos):=λenv E A ρ μ s v μ' eR T hA h=>by
 refine iB h λvs μ1 v1 h=>PySem.wpAny_Call_ofName<|qg eR T hk hd hg ?_
 exact Ed (CO _ hf) h1 hp eR T hA v1 λus s₁ ρ₁ x y z r=>lx x z<|Ps<|hF f vs μ1 v μ' hgf h fd hf A ρ₁ s₁ us y r hA.cn
def F5 (C:Addr) (us:List Value):(Code.builtin "type.__call__" ⟨.ref C::us,[]⟩).weight=1:=eV
def H2 (C:Addr) (us:List Value):(Code.builtin "type.__call__" ⟨.ref C::us,[]⟩).cUnits=1:=eV
def wz (h:jE d A):rJ d (A.under<|.builtin "type.__call__" ⟨.ref C::us,[]⟩):=by
 refine oq h λh1 h2 h3=>⟨h1,?_,?_⟩
 .show A.depth+Code.weight _+3*d+3<_;rw[F5];lia
 .show A.units+Code.cUnits _+10*d+193<_;rw[H2];lia
noncomputable abbrev xH (C:CD) (h:Heap):Heap:=(h.push emptyDict).push<|instObj C.addr h.objs.size
def AO {c:Nat} {C:CD} {ρ:f8} {μ:H} {s:Shared} (hC:hU aj c=some C) (y:e9 w ρ μ s):fM [] ρ s.heap (ρ++[(s.heap.objs.size+1,s.heap.objs.size)]) (xH C s.heap)/\
  e9 w (ρ++[(s.heap.objs.size+1,s.heap.objs.size)]) (μ++[.U c []]) {s with heap:=xH C s.heap}/\eW w (ρ++[(s.heap.objs.size+1,s.heap.objs.size)]) (xH C s.heap) (.g μ.length) (.ref<|s.heap.objs.size+1):=
 have hx:(xH C s.heap).get? (s.heap.objs.size+1)=some (instObj C.addr s.heap.objs.size):=by
  have:=jQ (s.heap.push emptyDict) (o:=instObj C.addr s.heap.objs.size) rfl;rwa [tZ]at this
 have al:=e9.cj (s':={s with heap:=xH C s.heap}) y (p:=(s.heap.objs.size+1,s.heap.objs.size)) (o:=.U c []) (λZ Z e=>iV _<|iV _ e)
  (show s.heap.objs.size<=(xH C s.heap).objs.size by rw[tZ,tZ];exact gV _ 2) rfl (kj _) (fX _) λZ=>.bJ (es:=[]) (n:=0) hC hx (λ⟨p,hp,q⟩=>(fL.mp hp).elim (λhp=>y.bI (b:=s.heap.objs.size+1) (kj _) ⟨p,hp,q⟩) λhp=>by
   rw[gw.mp hp]at q;exact absurd q<|jq<|Nat.lt_succ_self _) (iV _<|jQ _ rfl) .aS
 ⟨al.1,al.2,eW.cv (p:=(s.heap.objs.size+1,s.heap.objs.size)) (by rw[nz (la y.len),y.len,Nat.sub_self];rfl)⟩
def SV.new (hF:FS w d F) (hC:hU aj c=some C) (hgf:oA C.init) (hk:sc.names.lookup n=some .globalImplicit) (hd:(n==("__debug__":Str))=false)
  (hg:globalOf (HF w.params) n=some (.ref C.addr)) (h1:hY w d F sc es xs) (hp:xs.all f7):SV w d F sc (.new c es) (.Call (.Name n np) xs [] pos):=λenv E A ρ μ s v μ' eR T hA h=>CF h hC λvs μ1 μ2 v1 v2=>by
 obtain⟨kp,fd,hf,hi,ht⟩:=CP w.params hC;refine PySem.wpAny_Call_ofName<|qg eR T hk hd hg<|Ed kp h1 hp eR T hA v1 λus s₁ ρ₁ x y z r=>?_
 have X:=mE y;have al:=AO hC y;obtain⟨hh,g,dr,t,os⟩:=s₁;refine wpAny_call<|make_core (makes_of X (AL w.params hC).makes) (looks_findIn X hi) (λself=>bind_fn X self ht) (.inl rfl) ?_;refine codeAny_mono (hF _ _ _ _ _ hgf v2 fd hf (A.under<|.builtin "type.__call__" ⟨.ref C.addr::us,[]⟩) _ _ _ al.2.1 (.aR al.2.2<|r.aU al.1<|.aS ..)<|wz hA) λr' s' q=>?_
 obtain e|(v|_|_|_):=r'<;>first|exact q.elim|skip
 exact nD q λρ₂ q1 q2 q3 q4=>rH q4<|⟨rfl,ρ₂,x.aT<|al.1.aT q1,q2,q3.trans z,al.2.2.aU q1<|.aS ..⟩
def Ee:(aj.all λC=>C.ms.all λp=>Nat.beq p.1 213||oA p.2):=eV
def F6 (h:hU aj c=some C) (hm:km C.ms m=some f) (h0:Nat.beq m 213=false):oA f:=by
 have h1:=kZ.mp (kZ.mp Ee C<|ni h) _<|tu hm;rw[h0]at h1;exact h1
theorem rO {env:PySem.Env} {pos:Pos}:∀{xs:List Expr},xs.all f7->(backTo pos<|starEach xs env).all (!·.1)=true
 |[],_=>rfl
 |e::xs,h=>by
  rw[kC,jd]at h;rw[ja h.1];show(!false&&(backTo pos<|starEach xs env).all (!·.1))=true;rw[rO h.2];rfl
def SV.dh {m:Nat} (hF:FS w d F) (hm213:Nat.beq m 213=false) (h0:SV w d F sc e x1) (hb:lW x1) (h1:hY w d F sc es xs) (hp:xs.all f7) (hn:xs.length<30) (hpos:(apos.endLine==pos.line)):
  SV w d F sc (.Q e m es) (.Call (.Attribute x1 (nm m) apos) xs [] pos):=λenv E A ρ μ s v μ' eR T hA h=>by
 refine ia λG kk=>iE h λk1 μ1 v1 h=>iG h λc fs hg h=>iQ h λhfs h=>iJ h λC hC h=>iO h λf hm h=>iB h λvs μ2 v2 h=>?_
 apply kk;rw[arm_eval_Call,rN hb];refine eX<|fN (h0 env E A ρ μ s _ _ eR T hA v1) λu s₁ ρ₁ a b c' r=>eX<|PySem.wpAny_standAt ?_
 refine ia λG kk=>?_
 obtain⟨ad,dx,C',es',n,rfl,e1,e2,I,rf,_⟩:=xG b r hg;rw[hC]at e2;cases e2;obtain⟨hx,fd,hf,hi,ht⟩:=L7 w.params hC hm;have R:=AL w.params hC;have gl:=xF hx rf;rw[hfs]at gl;have hform:methodCallForm (xs.length+([]:List Keyword).length) (backTo pos<|starEach xs env) (backToKw pos<|keywordEach [] env):=by
  unfold methodCallForm;rw[rO hp];show(true&&true&&decide (xs.length+0+0<30))=true;simpa using hn
 apply kk;unfold methodCall;rw[hform];refine eX<|mf ?_;refine method_fn (mE b) I R.get R.getx hi ht (by show(lookIn _ _).map _=some false;simp only[lookIn_dict,gl];rfl) ?_;have hmp:methodCallPos true x1 env apos pos=pure pos:=by
  unfold methodCallPos;rw[hpos];rfl
 rw[hmp];exact Ed (CO _ hf) h1 hp (eR.bn a) b hA v2 λus s₂ ρ₂ x y z r2=>lx (a.aT x) (z.trans c')<|Ps<|hF _ _ _ _ _ (F6 hC hm hm213) h fd hf A ρ₂ s₂ _ y (.aR (r.aU x<|.aS ..) r2) hA.cn
end
def F7:Wm.length=214:=eV
def F8:((List.range 214).all λx=>!(nm x==(⟨#[]⟩:Str))&&(List.range 214).all λy=>(nm y==nm x)==Nat.beq y x):=eV
def uh (hx:x<214) (h:nm y=nm x):y=x:=by
 have h1:=kZ.mp F8 x<|List.mem_range.mpr hx;simp only[jd]at h1;by_cases hy:y<214
 .have h2:=kZ.mp h1.2 y<|List.mem_range.mpr hy;rw[h]at h2;simp only[beq_self_eq_true,beq_iff_eq]at h2;exact mW h2.symm
 .have:nm y=(⟨#[]⟩:Str):=by
   unfold nm;rw[List.getD_eq_getElem?_getD,List.getElem?_eq_none (by rw[F7];lia)];rfl
  rw[<-h,this]at h1;simp at h1
def jF (E:Env) (x y:Nat) (v:V):ci (eP E x v) y=if y=x then some v else ci E y:=by
 by_cases h:y=x
 .subst h;rw[if_pos rfl];show(match Nat.beq y y with|true=>some v|false=>ci E y)=_;rw[Nat.beq_refl]
 .rw[if_neg h];show(match Nat.beq x y with|true=>some v|false=>ci E y)=_;rw[pU.mpr λq=>h (mW q).symm]
noncomputable abbrev own (env:PySem.Env):List Addr:=env.locals::env.cells.map (·.2)
section
variable{w:World} {d:Nat} {F:fb} {sc:Scope} {k:Nat} {pos:Pos} {env:PySem.Env} {E:Env} {A:Around} {ρ:f8} {μ:H} {s:Shared}
def oD (x:Heap.SameBut a h h') (l:∃o,h'.get? a=some o) (W:List Addr) (ha:a∈W) (ρ:f8):fM W ρ h ρ h':=
 ⟨⟨[],fF,fF⟩,λb o e Z hw=>x.extBut b o (λq=>hw<|q▸ha) e,qL λb o e=>by
  by_cases q:b=a
  .rw[q];exact l
  .exact⟨o,x.extBut b o q e⟩⟩
def X' {o:Obj} {es ep} (h:o.data=.dict es ep) (vs n):o.data≠.seq vs n:=λq=>nomatch h.symm.trans q
def Ya {o:Obj} {f} (h:o.data=.cell f) (vs n):o.data≠.seq vs n:=λq=>nomatch h.symm.trans q
def dtN {o o':Obj} {es ep f} (e:some o=some o') (h:o.data=.dict es ep) (h':o'.data=.cell f):False:=by cases e;exact nomatch h.symm.trans h'
def PU {h:Heap} {c a v m} (hc:h.IsCell c v) (hm:h.Ns a m):c≠a:=λq=>ou hm λo es ep ho hd Z=>e8 hc λo' ho' hd'=>dtN (ho.symm.trans<|q▸ho') hd hd'
def PW {W ρ} {h h':Heap} {z} (f:hZ W ρ h) (hs:Heap.SameBut z h h') (hz:∃o,h'.get? z=some o/\∀vs n,o.data≠.seq vs n):hZ W ρ h':=⟨λb hb=>⟨(f.cls b hb).1,by
  by_cases q:b=z
  .rw[q];exact hz
  .exact e8 (f.cls b hb).2 λo ho h2=>⟨o,(hs.2 b q).trans ho,h2⟩⟩,f.rho⟩
def Kv {v'} (h:ci (eP E x v) y=some v') {G:Prop} (k:y=x->v=v'->G) (k':y≠x->ci E y=some v'->G):G:=by
 rw[jF]at h;by_cases q:y=x
 .rw[fv q]at h;exact k q<|Option.some.inj h
 .rw[ff q]at h;exact k' q h
def kdN {n:Str} {sc:Scope} (h:sc.names.lookup n=some .local) (h':sc.names.lookup n=some .cell\/sc.names.lookup n=some .free) {G:Prop}:G:=h'.elim (λq=>nomatch h.symm.trans q) λq=>nomatch h.symm.trans q
def kdM {n:Str} {sc:Scope} (h:sc.names.lookup n=some .local) (h':sc.names.lookup n=some .cell) {G:Prop}:G:=nomatch h.symm.trans h'
def PX (eR:f6 w sc env E ρ s.heap) (b) (hb:b∈own env):¬kL ρ b:=λ⟨p,hp,q⟩=>(eR.off.rho b hb p hp).2 q
def kin (eR:f6 w sc env E ρ h) (n):env.kindOf n=sc.names.lookup n:=by unfold Env.kindOf;rw[eR.names]
def L8 {h'} {m} (hx:x<214) (hl:sc.names.lookup (nm x)=some .local) (eR:f6 w sc env E ρ s.heap) (r:eW w ρ s.heap v u) (hm:s.heap.Ns env.locals m) (hr:∀x v,ci E x=some v->sc.names.lookup (nm x)=some .local->∃u,m (nm x)=some u/\eW w ρ s.heap v u)
  (hn':h'.Ns env.locals λn=>if n=nm x then some u else m n) (hs':Heap.SameBut env.locals s.heap h') (x1:fM (own env) ρ s.heap ρ h'):f6 w sc env (eP E x v) ρ h':=
 ⟨eR.kind,eR.names,eR.glob,eR.blt,⟨_,hn',λy v' hy hyl=>Kv hy (λq e=>⟨u,by rw[q];exact fv rfl,e▸r.aU x1 eR.off⟩) λq hy=>e8 (hr y v' hy hyl) λu' hu' r'=>⟨u',(ff λe=>q<|uh hx e).trans hu',r'.aU x1 eR.off⟩⟩,
  λy v' hy hyk=>Kv hy (λq Z=>kdN (q▸hl) hyk) λq hy=>kF (eR.cell y v' hy hyk) λc u' h1 h2 h3=>⟨c,u',h1,h2.sameBut hs'<|PU h2 hm,h3.aU x1 eR.off⟩,
  λn hn=>ot (eR.cells n hn) λc u' h1 h2=>⟨c,u',h1,h2.sameBut hs'<|PU h2 hm⟩,eR.apart,PW eR.off hs'<|ou hn' λo es ep ho hd Z=>⟨o,ho,X' hd⟩⟩
def L9 {h' c m} (hx:x<214) (hl:sc.names.lookup (nm x)=some .cell) (eR:f6 w sc env E ρ s.heap) (r:eW w ρ s.heap v u) (hm:s.heap.Ns env.locals m) (hr:∀x v,ci E x=some v->sc.names.lookup (nm x)=some .local->∃u,m (nm x)=some u/\eW w ρ s.heap v u)
  (hc:env.cells.lookup (nm x)=some c) (hi:s.heap.IsCell c u0) (hi':h'.IsCell c (some u)) (hs':Heap.SameBut c s.heap h') (x1:fM (own env) ρ s.heap ρ h'):f6 w sc env (eP E x v) ρ h':=
 ⟨eR.kind,eR.names,eR.glob,eR.blt,⟨m,hm.sameBut hs' (PU hi hm).symm,λy v' hy hyl=>Kv hy (λq Z=>kdM (q▸hyl) hl) λZ hy=>e8 (hr y v' hy hyl) λu' hu' r'=>⟨u',hu',r'.aU x1 eR.off⟩⟩,
  λy v' hy hyk=>Kv hy (λq e=>⟨c,u,q▸hc,hi',e▸r.aU x1 eR.off⟩) λq hy=>kF (eR.cell y v' hy hyk) λc' u' h1 h2 h3=>⟨c',u',h1,h2.sameBut hs' λe=>q<|uh hx<|name_of_addr eR.apart (mem_of_lookup h1)<|e▸mem_of_lookup hc,h3.aU x1 eR.off⟩,
  λn hn=>ot (eR.cells n hn) λc' u' h1 h2=>by
   by_cases q:c'=c
   .exact⟨c',_,h1,q▸hi'⟩
   .exact⟨c',u',h1,h2.sameBut hs' q⟩,eR.apart,PW eR.off hs'<|e8 hi' λo ho hd=>⟨o,ho,Ya hd⟩⟩
def nZ (hx:x<214) (hk:sc.names.lookup (nm x)=some .local\/sc.names.lookup (nm x)=some .cell) (eR:f6 w sc env E ρ s.heap) (T:e9 w ρ μ s) (r:eW w ρ s.heap v u)
  (k:∀s',fM (own env) ρ s.heap ρ s'.heap->e9 w ρ μ s'->s'.os=s.os->f6 w sc env (eP E x v) ρ s'.heap->Q () s'):wpAny (model pw w) A (storeName env (nm x) u) Q E' s:=
 e8 eR.ns λm hm hr=>hk.elim (λhl=>wpAny_storeName_local ((kin eR _).trans hl) hm (λh' hn' hs'=>
   have x1:fM (own env) ρ s.heap ρ h':=oD hs' (CK hn') _ fA ρ
   k _ x1 (T.ch x1 eR.off (λb o mb hb=>hs'.extBut b o (λq=>PX eR _ fA<|q▸mb) hb) rfl) rfl (L8 hx hl eR r hm hr hn' hs' x1)) (by rw[eR.kind];rfl))
  λhl=>ot (eR.cells _ hl) λc u0 hc hi=>wpAny_storeName_cell eR.kind ((kin eR _).trans hl) hc hi λh' hi' hs'=>
   have cm:c∈own env:=gj _ (fW.mpr ⟨_,mem_of_lookup hc,rfl⟩);have x1:=oD hs' (yk hi') _ cm ρ
   k _ x1 (T.ch x1 eR.off (λb o mb hb=>hs'.extBut b o (λq=>PX eR _ cm (q▸mb)) hb) rfl) rfl (L9 hx hl eR r hm hr hc hi hi' hs' x1)
end
inductive rP (w:World) (ρ:f8) (h:Heap):Flow->PySem.Flow->Prop
 |C:rP w ρ h .C .next
 |af:rP w ρ h .af .cont
 |L {v u}:eW w ρ h v u->rP w ρ h (.L v) (.ret u)
def PS (w:World) (sc:Scope) (env:PySem.Env) (ρ:f8) (s:Shared) (fl:Flow) (E':Env) (μ':H):PySem.Flow->Shared->Prop:=
 λf s'=>∃ρ',fM (own env) ρ s.heap ρ' s'.heap/\e9 w ρ' μ' s'/\s'.os=s.os/\f6 w sc env E' ρ' s'.heap/\rP w ρ' s'.heap fl f
def SX (w:World) (d:Nat) (F:fb) (sc:Scope) (st:St) (x:Stmt):Prop:=∀(env:PySem.Env) (E:Env) (A:Around) (ρ:f8) (μ:H) (s:Shared) fl E' μ',f6 w sc env E ρ s.heap->e9 w ρ μ s->jE d A->
 exec aj F st E μ=some (fl,(E',μ'))->wpAny (model pw w) A (PySem.exec x env) (PS w sc env ρ s fl E' μ') fH s
def o7 (w:World) (d:Nat) (F:fb) (sc:Scope) (st:List St) (x:List Stmt):Prop:=∀(env:PySem.Env) (E:Env) (A:Around) (ρ:f8) (μ:H) (s:Shared) fl E' μ',f6 w sc env E ρ s.heap->e9 w ρ μ s->jE d A->
 execs aj F st E μ=some (fl,(E',μ'))->wpAny (model pw w) A (PySem.execs x env) (PS w sc env ρ s fl E' μ') fH s
section
variable{w:World} {d:Nat} {F:fb} {sc:Scope} {k:Nat} {pos pos':Pos}
def PS.bj (x:fM (own env) ρ s.heap ρ' s'.heap) (o:s'.os=s.os) (p:PS w sc env ρ' s' fl E' μ' f s₂):PS w sc env ρ s fl E' μ' f s₂:=
 my p λρ'' a b c e f=>⟨ρ'',jj (x.aT a) b (c.trans o) e f⟩
def AP (x:fM (own env) ρ s.heap ρ' s'.heap) (o:s'.os=s.os) (h:wpAny (model pw w) A t (PS w sc env ρ' s' fl E1 μ') fH s'):
  wpAny (model pw w) A t (PS w sc env ρ s fl E1 μ') E' s':=gE h (λZ Z p=>p.bj x o) λZ Z f=>f.elim
def fM.own (x:fM [] ρ h ρ' h'):fM (own env) ρ h ρ' h':=x.bC fF
def o7.aS:o7 w d F sc [] []:=λenv E A ρ μ s fl E' μ' eR T hA h=>by
 exact qG h<|PySem.wpAny_execs_nil ⟨ρ,jj (.aZ ..) T rfl eR .C⟩
set_option tactic.hygienic true in
def o7.aR {st:St} (h1:SX w d F sc st x) (h2:o7 w d F sc sts xs):o7 w d F sc (st::sts) (x::xs):=λenv E A ρ μ s fl E' μ' eR T hA h=>by
 simp[i7]at h;refine wpAny_execs_cons ?_;split at h
 .rename_i E1 μ1 v1;refine gE (h1 env E A ρ μ s _ _ _ eR T hA v1) (λf s₁ p=>?_) λZ Z f=>f.elim
  refine my p λρ₁ a b c e r=>?_
  cases r;exact AP a c<|h2 env E1 A ρ₁ μ1 s₁ _ _ _ e b hA h
 .rename_i hno;refine gE (h1 env E A ρ μ s _ _ _ eR T hA h) (λf s₁ p=>?_) λZ Z f=>f.elim
  refine my p λρ₁ a b c e r=>?_
  cases r with
  |C=>exact absurd h<|hno _ _
  |af=>exact⟨ρ₁,jj a b c e .af⟩
  |L q=>exact⟨ρ₁,jj a b c e<|.L q⟩
def SX.eK {e:Ex} {x:Expr} (h1:SV w d F sc e x):SX w d F sc (.L e) (.Return (some x) pos):=λenv E A ρ μ s fl E' μ' eR T hA h=>by
 exact iA h λv μ1 v1 h=>qG h<|wpAny_Return_some<|fN (h1 env E A ρ μ s _ _ eR T hA v1) λu s₁ ρ₁ a b c r=>⟨ρ₁,jj a.own b c (eR.bn a)<|.L r⟩
def SX.d4:SX w d F sc .af (.Continue pos):=λenv E A ρ μ s fl E' μ' eR T hA h=>by
 exact qG h<|wpAny_Continue ⟨ρ,jj (.aZ ..) T rfl eR .af⟩
def SX.eO (hc:ST w d F sc c xc) (h1:o7 w d F sc a xa) (h2:o7 w d F sc b xb):SX w d F sc (.M c a b) (.If xc xa xb pos):=λenv E A ρ μ s fl E' μ' eR T hA h=>by
 refine wpAny_If<|iA h λv μ1 v1 h=>iT h (λht h=>?_) λht h=>?_
 .refine fN (hc env E A ρ μ s _ _ _ eR T hA v1 ht) λu s₁ ρ₁ a b c r=>?_
  subst r;exact AP a.own c<|h1 env E A ρ₁ μ1 s₁ _ _ _ (eR.bn a) b hA h
 .refine fN (hc env E A ρ μ s _ _ _ eR T hA v1 ht) λu s₁ ρ₁ a b c r=>?_
  subst r;exact AP a.own c<|h2 env E A ρ₁ μ1 s₁ _ _ _ (eR.bn a) b hA h
noncomputable def mR (x:Expr):Bool:=!(Nat.ble 8 x.ctorIdx&&Nat.ble x.ctorIdx 10)
def oJ (h:mR v) (t:Option Expr) (l:Nat) (env:PySem.Env):swapsWith v t l env=pure false:=by
 cases v<;>first|rfl|exact ng h
def Ma (h:Q .next s):wpAny (model pw w) A (dropValue e pos v) Q E' s:=wpAny_dropValue h
def SX.d6 {e:Ex} {y:Expr} (h1:SV w d F sc e y) (hc:mR y):SX w d F sc (.H e) (.Expr y pos):=λenv E A ρ μ s fl E' μ' eR T hA h=>by
 refine iA h λv μ1 v1 h=>qG h ?_
 rw[exec_Expr env y pos (by unfold interactive;rw[eR.kind];rfl)<|oJ hc _ _ _];exact eX<|PySem.wpAny_standAt<|eX<|fN (h1 env E A ρ μ s _ _ eR T hA v1) λu s₁ ρ₁ a b c r=>Ma ⟨ρ₁,jj a.own b c (eR.bn a) .C⟩
end
theorem Ef {n:Str} {ns:List Str}:∀{vs:List Value},ns.length=vs.length->n∈ns->((ns.zip vs).lookup n).isNone=false:=by
 induction ns with
 |nil=>exact λZ h=>nomatch h
 |cons m ns ih=>
  exact λ{vs} hl h=>by
   cases vs with
   |nil=>first|exact fe hl|exact nomatch hl
   |cons v vs=>
    show Option.isNone (match n==m with|true=>some v|false=>(ns.zip vs).lookup n)=_;cases hb:n==m with
    |true=>rfl
    |false=>
     cases h with
     |head=>exact absurd (beq_self_eq_true n)<|pU.mp hb
     |tail _ h=>exact ih (Nat.succ.inj hl) h
theorem Yb {f g:Str->Option (Str×Value)} {l:List Str}:(∀n∈l,f n=g n)->l.filterMap f=l.filterMap g:=by
 induction l with
 |nil=>exact λZ=>rfl
 |cons x l ih=>exact λh=>by rw[List.filterMap_cons,List.filterMap_cons,h x fA,ih λn m=>h n<|gj _ m]
theorem PY {ns:List Str}:∀{vs:List Value},ns.length=vs.length->ns.Nodup->ns.filterMap (λn=>((ns.zip vs).lookup n).map (n,·))=ns.zip vs:=by
 induction ns with
 |nil=>exact λZ Z=>rfl
 |cons m ns ih=>
  exact λ{vs} hl hn=>by
   cases vs with
   |nil=>first|exact fe hl|exact nomatch hl
   |cons v vs=>
    rw[kh]at hn;rw[List.zip_cons_cons,List.filterMap_cons,List.lookup_cons,beq_self_eq_true];refine congrArg _<|(Yb λn hm=>?_).trans<|ih (Nat.succ.inj hl) hn.2;rw[List.lookup_cons,show (n==m)=false from beq_eq_false_iff_ne.mpr λe=>hn.1<|e▸hm]
noncomputable def pfd (fd:FuncData):FuncData:={fd with defaults:=.none,params:={fd.params with posonlyargs:=[],vararg:=none,kwonlyargs:=[],kwarg:=none}}
def PZ {p:Arguments} (h1:p.posonlyargs=[]) (h3:p.vararg=none) (h4:p.kwonlyargs=[]) (h5:p.kwarg=none):p={p with posonlyargs:=[],vararg:=none,kwonlyargs:=[],kwarg:=none}:=by
 obtain⟨_,_,_,_,_,_,_⟩:=p;cases h1;cases h3;cases h4;cases h5;rfl
def P0 {fd:FuncData} (h1:fd.params=p) (h6:fd.defaults=.none):fd={fd with defaults:=.none,params:=p}:=by
 rw[<-h1,<-h6]
def F9 {fd:FuncData} (hn:(fd.params.args.map (·.arg)).Nodup) (hl:(fd.params.args.map (·.arg)).length=vals.length):bindArgs (pfd fd) ⟨vals,[]⟩=pure ((fd.params.args.map (·.arg)).zip vals):=by
 show (if (decide (vals.length>(fd.params.args.map (·.arg)).length)&&true)=true then _ else _)=_;refine (ff λh=>?_).trans ?_
 .have h:decide (vals.length>(fd.params.args.map (·.arg)).length):=(Bool.and_true _).symm.trans h;exact Nat.lt_irrefl _<|hl▸of_decide_eq_true h
 have z:List.filter (λn=>(((fd.params.args.map (·.arg)).zip vals).lookup n).isNone) ((fd.params.args.map (·.arg)).take ((fd.params.args.map (·.arg)).length-0))=[]:=by
  rw[Nat.sub_zero,List.take_length];exact List.filter_eq_nil_iff.mpr λn hm=>by rw[Ef hl hm];exact Bool.false_ne_true
 rw[show ∀n,((none:Option (Array Value)).getD #[]).toList.drop n=[] from λZ=>List.drop_nil];refine (ff λh=>?_).trans ?_
 .have h:(!(List.filter (λn=>(((fd.params.args.map (·.arg)).zip vals).lookup n).isNone) ((fd.params.args.map (·.arg)).take ((fd.params.args.map (·.arg)).length-0))).isEmpty):=h;rw[z]at h;first|exact fe h|exact nomatch h
 rw[List.zip_nil_right];show (pure (List.filterMap _ ((fd.params.args.map (·.arg))++[])):Sem _)=_;rw[gk];exact congrArg pure<|PY hl hn
def wA (h1:fd.params.posonlyargs=[]) (h2:fd.params.args.map (·.arg)=ns) (h3:fd.params.vararg=none) (h4:fd.params.kwonlyargs=[]) (h5:fd.params.kwarg=none) (h6:fd.defaults=.none)
  (hn:ns.Nodup) (hl:ns.length=vals.length):bindArgs fd ⟨vals,[]⟩=pure (ns.zip vals):=by
 rw[P0 (PZ h1 h3 h4 h5) h6,<-h2];exact F9 (h2▸hn)<|h2▸hl
theorem jl {n:Str}:∀(names:List (Str×NameKind)) (k:Nat) (acc:List (Str×Addr)),names.lookup n=some .cell\/(acc.lookup n).isSome->((cellsFrom k names acc).lookup n).isSome=true
 |[],_,_,h=>by rcases h with h|h;contradiction;exact h
 |(m,kd)::r,k,acc,h=>by
  unfold cellsFrom;cases hb:n==m with
  |true=>
   have:=beq_iff_eq.mp hb;subst this;rcases h with h|h
   .rw[List.lookup_cons,hb]at h;simp only[pb]at h;subst h;rw[fv (by rfl)];exact jl r _ _<|.inr fF
   .split
    .exact jl r _ _ (.inr fF)
    .exact jl r _ _ (.inr h)
  |false=>
   have h':r.lookup n=some .cell\/(acc.lookup n).isSome:=by
    rcases h with h|h
    .rw[List.lookup_cons,hb]at h;exact .inl h
    .exact .inr h
   split
   .refine jl r _ _ (h'.imp id λq=>?_);simp only[List.lookup_cons,hb];exact q
   .exact jl r _ _ h'
def Mb {ns:List Str} {us:List Value} (h:n∈(ns.zip us).map (·.1)):n∈ns:=by
 obtain⟨p,hp,rfl⟩:=fW.mp h;exact(List.of_mem_zip hp).1
section
variable{w:World} {ρ:f8} {h:Heap}
theorem zN {vs:List V} {E:Env} {Q:List V->Env->Prop} (h:l9 [] vs=some E) (k:Q [] []):Q vs E:=by
 cases vs with
 |nil=>exact Option.some.inj h▸k
 |cons _ _=>first|exact fe h|exact nomatch h
theorem zC {x:Nat} {xs:List Nat} {vs:List V} {E:Env} {Q:List V->Env->Prop} (h:l9 (x::xs) vs=some E) (k:∀v l r,l9 xs l=some r->Q (v::l) ((x,v)::r)):Q vs E:=by
 cases vs with
 |nil=>first|exact fe h|exact nomatch h
 |cons v l=>
  have h:(match l9 xs l with
   |some r=>some ((x,v)::r)
   |none=>none)=some E:=h
  cases e:l9 xs l with
  |none=>rw[e]at h;first|exact fe h|exact nomatch h
  |some r=>rw[e]at h;exact Option.some.inj h▸k v l r e
section
variable{f:List (Str×Value)->(Str->Option Value)->Str->Option Value} {c:Str->Prop} (f0:∀m,f [] m=m) (f1:∀n v r m,c n->f ((n,v)::r) m=f r λy=>if y=n then some v else m y) (f2:∀n v r m,¬c n->f ((n,v)::r) m=f r m)
include f0 f1 f2
theorem Yc {n:Str} {bs:List (Str×Value)}:∀m,n∉bs.map (·.1)->f bs m n=m n:=by
 induction bs with
 |nil=>intro m _;rw[f0]
 |cons p r ih=>
  intro m h;rw[hW,gC,not_or]at h;by_cases q:c p.1
  .exact(congrFun (f1 p.1 p.2 r m q) n).trans<|(ih _ h.2).trans<|ff h.1
  .exact(congrFun (f2 p.1 p.2 r m q) n).trans<|ih _ h.2
theorem bound1 {ps:List Nat}:∀{vs:List V} {us:List Value} {E:Env},l9 ps vs=some E->RelVs w ρ h vs us->(ps.map nm).Nodup->∀m x v,ci E x=some v->c (nm x)->∃u,f ((ps.map nm).zip us) m (nm x)=some u/\eW w ρ h v u:=by
 induction ps with
 |nil=>intro vs us E hz;exact zN (Q:=λvs E=>RelVs w ρ h vs us->_->∀m x v,ci E x=some v->c (nm x)->∃u,f (([].map nm).zip us) m (nm x)=some u/\eW w ρ h v u) hz λr Z m x v hv=>nomatch hv
 |cons p ps ih=>
  intro vs us E hz;refine zC (Q:=λvs E=>RelVs w ρ h vs us->((p::ps).map nm).Nodup->∀m x v,ci E x=some v->c (nm x)->∃u,f (((p::ps).map nm).zip us) m (nm x)=some u/\eW w ρ h v u) hz λv0 vs E0 h0 r=>kq (Q:=λus=>((p::ps).map nm).Nodup->∀m x v,ci ((p,v0)::E0) x=some v->c (nm x)->∃u,f (((p::ps).map nm).zip us) m (nm x)=some u/\eW w ρ h v u) r λu0 us r1 r2 hn m x v hv hc=>?_
  rw[hW,kh]at hn;show∃u,f ((nm p,u0)::(ps.map nm).zip us) m (nm x)=some u/\_;rw[ci]at hv;cases hb:Nat.beq p x with
  |true=>
   have e:=mW hb;subst e;rw[hb]at hv;exact⟨u0,by rw[f1 _ _ _ _ hc,Yc f0 f1 f2 _ λq=>hn.1<|Mb q];exact fv rfl,Option.some.inj hv▸r1⟩
  |false=>
   rw[hb]at hv;by_cases q:c (nm p)
   .rw[f1 _ _ _ _ q];exact ih h0 r2 hn.2 _ x v hv hc
   .rw[f2 _ _ _ _ q];exact ih h0 r2 hn.2 _ x v hv hc
end
def bound {kf:Str->Option NameKind} {ps:List Nat} {vs:List V} {us:List Value} {E:Env} (hz:l9 ps vs=some E) (r:RelVs w ρ h vs us) (hn:(ps.map nm).Nodup) (_:∀x∈ps,x<214) (m:Str->Option Value) (x:Nat) (v:V) (hv:ci E x=some v):
  (kf (nm x)=some .local->∃u,bindL kf ((ps.map nm).zip us) m (nm x)=some u/\eW w ρ h v u)/\(kf (nm x)≠some .local->∃u,bindC kf ((ps.map nm).zip us) m (nm x)=some u/\eW w ρ h v u):=
 ⟨bound1 (f:=bindL kf) (c:=λn=>kf n=some .local) (λZ=>rfl) (λn v r m h=>congrArg (bindL kf r)<|fv h) (λn v r m h=>congrArg (bindL kf r)<|ff h) hz r hn m x v hv,
 bound1 (f:=bindC kf) (c:=λn=>kf n≠some .local) (λZ=>rfl) (λn v r m h=>congrArg (bindC kf r)<|ff h) (λn v r m h=>congrArg (bindC kf r)<|fv<|Decidable.not_not.mp h) hz r hn m x v hv⟩
end
structure FnH (w:World) (fd:FD) (t:FuncData) (b:List Stmt):Prop where
 obj:∃o,(HF w.params).get? fd.addr=some o/\o.data=.func t
 clo:t.closure=[]
 glob:t.globals=3
 blt:t.builtins=0
 dfl:t.defaults=.none
 po:t.params.posonlyargs=[]
 ar:t.params.args.map (·.arg)=fd.ps.map nm
 va:t.params.vararg=none
 ko:t.params.kwonlyargs=[]
 kw:t.params.kwarg=none
 nd:(fd.ps.map nm).Nodup
 lt:∀x∈fd.ps,x<214
 kind:t.scope.kind=.function
 co:t.scope.isCoroutine=false
 gen:t.scope.isGenerator=false
 code:(HF w.params).CodeRec t.code t.qualname
 body:t.body=.stmts b
 free:∀n,t.scope.names.lookup n≠some .free
 nodup:(t.scope.names.map (·.1)).Nodup
 par:∀x∈fd.ps,t.scope.names.lookup (nm x)=some .local\/t.scope.names.lookup (nm x)=some .cell
structure Wu (w:World) (d:Nat) (F:fb) (fd:FD) (t:FuncData) (b:List Stmt):Prop extends FnH w fd t b where
 ok:o7 w d F t.scope fd.body b
def CQ (P:Params):(HF P).NoLimit:=⟨_,Heap.Ns.of_isNs<|SU P,eV⟩
theorem wB {n:Str} {c:Addr}:∀{l:List (Str×Addr)},(l.map (·.1)).Nodup->(n,c)∈l->l.lookup n=some c
 |(m,a)::r,hn,h=>by
  simp only[hW,kh]at hn;rw[List.lookup_cons];rcases gC.mp h with e|h
  .cases e;simp
  .have:(n==m)=false:=beq_eq_false_iff_ne.mpr λe=>hn.1<|e▸fW.mpr ⟨_,h,rfl⟩
   rw[this];exact wB hn.2 h
theorem n0:∀(names:List (Str×NameKind)) (k:Nat) (acc:List (Str×Addr)),(names.map (·.1)).Nodup->(acc.map (·.1)).Nodup->(∀n∈names.map (·.1),n∉acc.map (·.1))->((cellsFrom k names acc).map (·.1)).Nodup
 |[],_,_,_,h,_=>h
 |(m,kd)::r,k,acc,hn,ha,hd=>by
  rw[hW,kh]at hn;unfold cellsFrom;split
  .refine n0 r _ _ hn.2 ?_ λn hm=>?_
   .simp only[hW,kh];exact⟨hd m fF,ha⟩
   .rw[hW,gC,not_or];exact⟨λe=>hn.1<|e▸hm,hd n<|gj _ hm⟩
  .exact n0 r _ _ hn.2 ha λn hm=>hd n<|gj _ hm
theorem AQ:∀{ps:List Nat} {vs:List V} {E:Env},l9 ps vs=some E->ps.length=vs.length
 |[],[],_,_=>rfl
 |[],_::_,_,h=>fe h
 |_::_,[],_,h=>fe h
 |p::ps,v::vs,E,h=>by
  refine iR h λE0 h0 h=>?_
  simp[AQ h0]
def F' (R:FnH w fd t b) {us:List Value} {k:Nat}:∀x∈(fd.ps.map nm).zip us,t.scope.names.lookup x.1=some .local\/(t.scope.names.lookup x.1=some .cell/\((cellsFrom k t.scope.names []).lookup x.1).isSome):=λx hx=>
 e8 (fW.mp (List.of_mem_zip hx).1) λy hy e=>e▸(R.par y hy).imp id λq=>⟨q,jl _ _ _<|.inl q⟩
def CS (T:e9 w ρ μ s):∀q∈ρ,q.1<s.heap.objs.size/\q.2<s.heap.objs.size:=λq hq=>
 kF (T.cR hq) λZ Z Z Z z=>z.cw.elim λZ z1=>e8 z.bw λZ z2 Z=>⟨jp z1,jp z2⟩
def Tj {h:Heap} {b} {o:Obj} {es ep} (g1:h.get? b=some o) (g2:o.data=.dict es ep):∃o,h.get? b=some o/\∀vs n,o.data≠.seq vs n:=⟨o,g1,λvs n e=>nomatch g2.symm.trans e⟩
def Tk {h:Heap} {b} {v} (x:h.IsCell b v):∃o,h.get? b=some o/\∀vs n,o.data≠.seq vs n:=e8 x λo g1 g2=>⟨o,g1,λvs n e=>nomatch g2.symm.trans e⟩
def CT {env} (hA:rJ (d+1) A):jE d (A.deeper env):=⟨hA.1,by have:=hA.2.1;show A.depth+1+3*d+5<_;lia,by have:=hA.2.2;show A.units+3+10*d+200<_;lia⟩
def Ga (hA:rJ (d+1) A):A.depth<recursionLimit:=by have:=hA.2.1;lia
theorem CU {v:V} (h:aP aj eU (d+1) f vs μ=some (v,μ')) (hf:ga eU f=some fd) {G:Prop} (k:∀E fl E1,l9 fd.ps vs=some E->execs aj (aP aj eU d) fd.body E μ=some (fl,(E1,μ'))->
 (∀{ρ:f8} {h:Heap} {f},rP w ρ h fl f->eW w ρ h v (match f with
  |.ret v=>v
  |_=>.none))->G):G:=by
 have h:(match l9 fd.ps vs with
  |none=>none
  |some E=>match execs aj (aP aj eU d) fd.body E μ with
   |some (.L v,(_,μ))=>some (v,μ)
   |some (.C,(_,μ))=>some (.B,μ)
   |_=>none)=some (v,μ'):=by rw[HS,hf]at h;exact h
 cases hE:l9 fd.ps vs with
 |none=>rw[hE]at h;exact fe h
 |some E=>
 rw[hE]at h;dsimp only at h;cases e:execs aj (aP aj eU d) fd.body E μ with
 |none=>rw[e]at h;exact fe h
 |some p=>
  rw[e]at h;obtain⟨fl,E1,μ1⟩:=p;cases fl with
  |L v=>cases h;exact k E _ E1 hE e λr=>by cases r with |L q=>exact q
  |C=>cases h;exact k E _ E1 hE e λr=>by cases r;exact .bv
  |_=>exact fe h
def Gb (R:FnH w fd t b) (T:e9 w ρ μ s) (hE:l9 fd.ps vs=some E) (r:RelVs w ρ s.heap vs us)
 (x:InCallC s (callEnvC t s.heap.objs.size fd.addr).locals (bindL (callEnvC t s.heap.objs.size fd.addr).kindOf ((fd.ps.map nm).zip us) λZ=>none) (callEnvC t s.heap.objs.size fd.addr).cells (bindC (callEnvC t s.heap.objs.size fd.addr).kindOf ((fd.ps.map nm).zip us) λZ=>none) s₁) {G:Prop}
 (k:e9 w ρ μ s₁->f6 w t.scope (callEnvC t s.heap.objs.size fd.addr) E ρ s₁.heap->(∀{fl E1 μ1 f s'},PS w t.scope (callEnvC t s.heap.objs.size fd.addr) ρ s₁ fl E1 μ1 f s'->∃ρ',fM [] ρ s.heap ρ' s'.heap/\e9 w ρ' μ1 s'/\s'.os=s.os/\rP w ρ' s'.heap fl f)->G):G:=by
 obtain⟨h1,tk,rfl⟩:=x.toInCall.same;have keep:=x.toInCall.keep;have x0:fM [] ρ s.heap ρ h1:=.aY keep;have bd:=λm=>bound (kf:=(callEnvC t s.heap.objs.size fd.addr).kindOf) hE (r.aU x0<|.aS ..) R.nd R.lt m
 have ge:∀b∈own (callEnvC t s.heap.objs.size fd.addr),s.heap.objs.size<=b:=λb hb=>by
  obtain rfl|hb:=gC.mp hb
  .exact fX _
  .obtain⟨⟨n,c⟩,hm,rfl⟩:=fW.mp hb;exact iz<|x.above n c hm
 refine k (T.bi keep rfl) ⟨R.kind,rfl,R.glob,R.blt,⟨_,x.toInCall.ns,λy v' hy hk=>(bd _ y v' hy).1 hk⟩,λy v' hy hk=>?_,λn hn=>?_,x.apart,λb hb=>⟨al_81 T.cE<|ge b hb,?_⟩,λb hb q hq=>?_⟩ (λp=>my p λρ' a1 a2 a3 a4 a5=>⟨ρ',iI (((x0.own).aT a1).cH λb hb Z=>pj (ge b hb)) a2 a3 a5⟩)
 .have hk:=hk.resolve_right (R.free _);exact e8 ((bd (λZ=>none) y v' hy).2 (by show t.scope.names.lookup _≠_;rw[hk];decide)) λu hu ru=>(Option.isSome_iff_exists.mp (jl t.scope.names (s.heap.objs.size+1) [] (.inl hk))).elim λc hc=>⟨c,u,hc,hu▸x.cell _ c hc,ru⟩
 .exact(Option.isSome_iff_exists.mp (jl t.scope.names (s.heap.objs.size+1) [] (.inl hn))).elim λc hc=>⟨c,_,hc,x.cell _ c hc⟩
 .obtain rfl|hb:=gC.mp hb
  .exact ou x.toInCall.ns λZ Z Z g1 g2 Z=>Tj g1 g2
  .obtain⟨⟨n,c⟩,hm,rfl⟩:=fW.mp hb;exact Tk (x.cell n c (wB (n0 t.scope.names (s.heap.objs.size+1) [] R.nodup pW fF) hm))
 .exact⟨λe=>mx.mpr (ge b hb) (e▸(CS T q hq).1),λe=>mx.mpr (ge b hb) (e▸(CS T q hq).2)⟩
def Gc {fd:FD} {vs:List V} {E:Env} {h:Heap} (hE:l9 fd.ps vs=some E) (r:RelVs w ρ h vs us):(fd.ps.map nm).length=us.length:=(fk ..).trans<|(AQ hE).trans r.aV
def Mc (H:∀f fd,oA f->ga eU f=some fd->∃t b,Wu w d (aP aj eU d) fd t b):FS w (d+1) (aP aj eU<|d+1):=λf vs μ v μ' hgf hv fd hf A ρ s us T r hA=>
 (H f fd hgf hf).elim λt z=>z.elim λb R=>CU hv hf λE fl E1 hE e fin=>e8 R.obj λo ho hd=>
  codeAny_call_cells (Ga hA) (T.base _ _ ho) hd ((CQ w.params).keeps T.base) (R.code.keeps T.base) R.body (wA R.po R.ar R.va R.ko R.kw R.dfl R.nd<|Gc hE r) R.clo (F' R.toFnH)
   (λs₁ x=>Gb R.toFnH T hE r x λT1 eR dr=>gE (R.ok _ E _ ρ μ _ _ _ _ eR T1 (CT hA) e) (λf s' p=>nD (dr p) λρ' b1 b2 b3 b4=>⟨ρ',iI b1 b2 b3<|fin b4⟩) λZ Z f=>f.elim) R.co R.gen R.kind
theorem Gd {l:List (Nat×V)} {u:V} {b:Bool} (h:Nat.beq n x=b):sP ((n,u)::l) x v=match(generalizing:=false) b with|true=>(n,v)::l|false=>(n,u)::sP l x v:=by cases h;rfl
theorem Yd {α:Type} {o:Option V} {K:Int->Option α} {r:α} {P:Prop} (h:(match o with|some (.a i)=>K i|_=>none)=some r) (k:∀i,o=some (.a i)->K i=some r->P):P:=by
 cases o with
 |none=>exact fe h
 |some v=>cases v<;>first|exact fe h|exact k _ rfl h
def Md (hx:x∈iy) {hsh:Int} (r:eW w ρ h v u):∀{fs:List (Nat×V)} {es:List DictEntry},jR w ρ h fs es->jR w ρ h (sP fs x v) (putL (nm x) hsh (.str (nm x) t) u es):=by
 intro fs es q
 induction q with
 |aS=>exact .aR hx (by simp only[tz];simp) r .aS
 | @aR n v0 l e es i a b q ih=>
  obtain⟨t0,ht⟩:=vG a;have hk:e.key.isStr (nm x)=Nat.beq n x:=by simp only[ht,tz];exact F3 i hx
  cases hb:Nat.beq n x with
  |true=>rw[show sP ((n,v0)::l) x v=(n,v)::l from Gd hb,show putL (nm x) hsh (.str (nm x) t) u (e::es)=⟨e.hash,e.key,u⟩::es from if_pos (hk.trans hb)];exact .aR i a r q
  |false=>rw[show sP ((n,v0)::l) x v=(n,v0)::sP l x v from Gd hb,show putL (nm x) hsh (.str (nm x) t) u (e::es)=e::putL (nm x) hsh (.str (nm x) t) u es from if_neg (by rw[hk,hb];exact Bool.false_ne_true)];exact .aR i a b ih
theorem AR (name:Str) (hsh:Int) (key v:Value):∀es:List DictEntry,(putL name hsh key v es).length<=es.length+1
 |[]=>fX _
 |e::r=>by
  simp only[putL];split
  .simp
  .simp only[kg];exact lf<|AR name hsh key v r
section
variable{w:World} {d:Nat} {F:fb} {sc:Scope} {k:Nat} {pos pos':Pos}
set_option tactic.hygienic true in
def Tl {es:List DictEntry} {x:Str} {y} (hy:getL x es=some y):(!es.toArray.any (·.key.isStr x)&&es.toArray.any (·.refKey))=false:=by
 unfold getL at hy;rw[<-Array.any_toList,<-Array.any_toList];split at hy
 .rename_i en he;rw[List.any_eq_true.mpr ⟨en,List.mem_of_find?_eq_some he,List.find?_some he⟩];rfl
 .split at hy
  .exact fe hy
  .rename_i z;simp only[Bool.not_eq_true]at z;rw[z,Bool.and_false]
theorem Me {h:Heap} {fs} {es} (hx:x∈iy) (rf:jR w ρ h fs es):∃y,getL (nm x) es=some y:=by
 have gl:=xF hx rf;cases q:ci fs x with
 |some v=>rw[q]at gl;exact e8 gl λu g Z=>⟨_,g⟩
 |none=>rw[q]at gl;exact⟨_,gl⟩
def P1 {n:Str} {hh t u} {es:List DictEntry} (h2:l=es.length) (hb:Nat.ble l 500):(putL n hh t u es).length<=1000:=by
 have h1:=AR n hh t u es;have h3:=iw hb;lia
def Mf {n:Str} {hh t u k} {es:List DictEntry} (h2:l=es.length) (hb:Nat.ble l 500):(dictOf (putL n hh t u es) k).data.pastItsLine=Option.none:=pastItsLine_dict (by rw[List.size_toArray,kE];have:=P1 (n:=n) (hh:=hh) (t:=t) (u:=u) h2 hb;lia)
def AS {h:Heap} {n:Str} {hh t u es k} {dx:Addr} (D:h.get? dx=some (dictOf es k)):(h.update dx<|Obj.putName n hh t u).get? dx=some (dictOf (putL n hh t u es)<|putN n es k):=by
 have:=pV (Obj.putName n hh t u) D (by rw[putName_dict];rfl);rwa [putName_dict]at this
def Kw {μ'} (up:fM [] ρ s.heap ρ s'.heap/\e9 w ρ μ' s') (ho:s'.os=s.os):fV w ρ s μ' (λZ Z Z=>True) () s':=⟨ρ,iI up.1 up.2 ho trivial⟩
def wC (hx:x∈iy) (T:e9 w ρ μ s) (ro:eW w ρ s.heap (.g k) uo) (r:eW w ρ s.heap v u) (h:DW aj μ k x v=some μ'):
  wpAny (model pw w) A (setAttr uo (nm x) u) (fV w ρ s μ' λZ Z Z=>True) fH s:=by
 unfold DW at h;refine iG h λci fs hg h=>iU h (λhb h=>?_) λZ h=>fe h
 refine iJ h λC hC h=>iP h λhm h=>?_
 cases h;obtain⟨ad,dx,C',es,n,rfl,e1,e2,I,rf,nm1⟩:=xG T ro hg;rw[hC]at e2;cases e2;have R:=AL w.params hC;have X:=mE T;have ht:takerIn (KF w.params) C.addr (nm x)=some none:=by unfold takerIn;rw[R.attr x hx hm];rfl
 refine set_plain X I R.set<|osa_open X I R.over ht λb=>e8 (any_some R.dict) λcd hc hd'=>?_
 obtain⟨hx1,hcl,hn,D⟩:=I;have LC:Looks (model pw w) ({s with toks:=s.toks+1}:Shared).heap _ cd:=looks_clsIn X hc;refine eX<|fD<|eX<|eX<|wpAny_loadPart hx1<|eX<|LC.here ?_;rw[hd'];refine fD<|eX<|fD<|eX ?_;refine eX<|eX<|wpAny_askSetting<|fD<|eX<|wpAny_mkText<|eX<|wpAny_loadPart D ?_;dsimp only;rw[aRefKeyMayBeTheName_at,(Me hx rf).elim λZ g=>Tl g];refine wpAny_updatePart D<|eX<|wpAny_lookBehind (AS D) (Mf rf.aV hb)<|fD ?_;exact Kw (e9.cL (s':={s with heap:=s.heap.update dx _,toks:=s.toks+1+1}) T e1 (λb o hb ho=>(Heap.get?_update_other s.heap _<|Ne.symm hb).trans ho) ⟨_,AS D⟩ rfl λx1 Z=>.bJ hC (x1.keep _ _ hx1 nm1 fF) nm1 (AS D)<|Md hx (r.aU x1<|.aS ..)<|rf.aU x1<|.aS ..) rfl
def SX.db {o e:Ex} {xo y:Expr} {x:Nat} (hx:x∈iy) (h0:SV w d F sc o xo) (h1:SV w d F sc e y) (hc:mR y):SX w d F sc (.P o x e) (.Assign [.Attribute xo (nm x) pos'] y pos):=λenv E A ρ μ s fl E' μ' eR T hA h=>by
 refine iA h λv μ1 v1 h=>iE h λk1 μ2 v2 h=>iL h λμ3 hs h=>qG h<|plainObj_wpAny_Assign_Attribute (AH h1 h0 eR T hA v1 v2 λu uo s₂ ρ₂ a b c ru ro=>?_)<|oJ hc _ _ _
 exact fN (wC hx b ro ru hs) λZ s₃ ρ₃ a3 b3 c3 Z=>⟨ρ₃,jj ((a.aT a3).own) b3 (c3.trans c) (eR.bn<|a.aT a3) .C⟩
set_option tactic.hygienic true in
def SX.d8 (hx:x<214) (hk:sc.names.lookup (nm x)=some .local\/sc.names.lookup (nm x)=some .cell) (hc':(nm x==("__debug__":Str))=false) (h1:SV w d F sc e y):SX w d F sc (.az x .R e) (.AugAssign (.Name (nm x) pos') .Add y pos):=λenv E A ρ μ s fl E' μ' eR T hA h=>by
 refine Yd h λi hi h=>iF h λj μ1 v1 h=>qG h ?_
 have go:∀{u:Value},eW w ρ s.heap (.a i) u->wpAny _ A _ (λv s₂=>wpAny (model pw w) A (inplaceOp .Add u v)
   (λr s₃=>wpAny _ A (storeName env _ r) (λZ=>PS w sc env ρ s .C _ μ1 .next) fH s₃) fH s₂) fH s:=λ{u} ru=>by
  refine fN (h1 env E A ρ μ s _ _ eR T hA v1) λv s₁ ρ₁ a b c r=>ia λG kk=>?_
  cases ru;cases r;apply kk;refine iadd_int ?_;have b':e9 w ρ₁ μ1 {s₁ with toks:=s₁.toks+1}:=b.dB _;exact nZ hx hk (s:={s₁ with toks:=s₁.toks+1}) (eR.bn a) b' (.bY _ _) λs' x1 x2 x3 x4=>⟨ρ₁,jj (a.own.aT x1) x2 (x3.trans c) x4 .C⟩
 refine wpAny_AugAssign_Name ?_;have kin:∀n,env.kindOf n=sc.names.lookup n:=λn=>by unfold Env.kindOf;rw[eR.names]
 obtain hl|hl:=hk
 .exact e8 eR.ns λm hm hr=>e8 (hr x _ hi hl) λu hu r=>wpAny_loadName_local eR.kind ((kin _).trans hl) hm hu<|go r
 .exact kF (eR.cell x _ hi<|.inl hl) λc u q1 q2 r=>wpAny_loadName_cell eR.kind ((kin _).trans hl) q1 q2 (go r)
end
section
variable{w:World} {ρ:f8} {h:Heap}
def Cn {K:Type} [DecidableEq K] (y:K) (u:Value) (r:List (K×Value)) (k:K) (v:Value) (hn:(((y,u)::r).map (·.1)).Nodup):stored ((y,u)::r) k v=if y=k then(y,v)::r else(y,u)::stored r k v:=by
 rw[hW,kh]at hn;unfold stored;by_cases hy:y=k
 .subst hy;simp only[List.any_cons,decide_true,Bool.true_or,if_true,hW];rw[map_store_of_not_mem r y v hn.1]
 .simp only[List.any_cons,hy,decide_false,Bool.false_or,if_false,hW];split<;>simp
theorem Kx {k:Int} {v:V} {x:Value} (rv:eW w ρ h v x) {kvs:List (Int×Value)}:∀{l:List (PyData×V)},(kvs.map (·.1)).Nodup->gW w ρ h l (kvs.map λp=>(PyData.int p.1,p.2))->gW w ρ h (jn (.int k) v l) ((stored kvs k x).map λp=>(PyData.int p.1,p.2)):=by
 induction kvs with
 |nil=>exact λZ r=>eN (Q:=λl=>gW w ρ h (jn (.int k) v l) [(.int k,x)]) r<|.aR rv .aS
 |cons p kvs ih=>
  refine λhn r=>eC (Q:=λl=>gW w ρ h (jn (.int k) v l)<|(stored (p::kvs) k x).map λp=>(PyData.int p.1,p.2)) r λu l r1 r2=>?_
  obtain⟨pk,px⟩:=p;rw[Cn _ _ _ _ _ hn];simp only[Fx,Pv];by_cases hk:pk=k
  .rw[fu hk,fv hk];exact .aR rv r2
  .rw[fz hk,ff hk];rw[hW,kh]at hn;exact .aR r1<|ih hn.2 r2
def AT (y:PyData) (b:Addr) (u:Value) (r:List (PyData×Addr×Value)) (k:PyData) (a:Addr) (v:Value) (hn:(((y,b,u)::r).map (·.1)).Nodup):storedH ((y,b,u)::r) k a v=if y=k then(y,b,v)::r else(y,b,u)::storedH r k a v:=by
 rw[hW,kh]at hn;unfold storedH;by_cases hy:y=k
 .subst hy;have:atKey ((y,b,u)::r) y=some (b,u):=by simp[atKey]
  rw[fv rfl,this,fv (by rfl),hW,map_putAt_of_not_mem r y v hn.1];simp[putAt]
 .have:atKey ((y,b,u)::r) k=atKey r k:=by simp[atKey,hy]
  rw[this,ff hy,hW];split
  .simp[putAt,hy]
  .simp
theorem Tm {k:PyData} (hk:fg 6 k) {a:Addr} {v:V} {x:Value} (rv:eW w ρ h v x) {xs:List (PyData×Addr×Value)}:∀{l:List (PyData×V)},(∀x∈xs,fg 6 x.1)->(xs.map (·.1)).Nodup->gW w ρ h l (xs.map λx=>(x.1,x.2.2))->gW w ρ h (jn k v l) ((storedH xs k a x).map λx=>(x.1,x.2.2)):=by
 induction xs with
 |nil=>exact λZ Z r=>eN (Q:=λl=>gW w ρ h (jn k v l) [(k,x)]) r<|.aR rv .aS
 |cons p xs ih=>
  refine λho hn r=>eC (Q:=λl=>gW w ρ h (jn k v l)<|(storedH (p::xs) k a x).map λx=>(x.1,x.2.2)) r λu l r1 r2=>?_
  have hy:=ho p fA;obtain⟨pk,pa,px⟩:=p;rw[AT _ _ _ _ _ _ _ hn];simp only[Fx,ue 6 _ _ hy hk];by_cases hq:pk=k
  .rw[fu hq,fv hq];exact .aR rv r2
  .rw[fz hq,ff hq];rw[hW,kh]at hn;exact .aR r1<|ih (λx hm=>ho x<|gj _ hm) hn.2 r2
end
def u6 (o:Obj) (f):(o.mapSeq f).dict=o.dict:=by
 obtain⟨c,d,dt,sl⟩:=o;cases dt<;>rfl
def zB {items:Array Value} {k:Int} (hl:s.heap.IsList l items) (nd:th s.heap l)
  (h0:0<=k) (hfit:k<2^63) (hn:k<items.size)
  (hQ:∀h',h'.IsList l (items.setIfInBounds k.toNat v)->th h' l->Heap.SameBut l s.heap h'->Q () {s with heap:=h'}):
  wpAny (model pw w) A (setItem (.ref l) (.int k t) v) Q E s:=by
 refine ia λG kk=>?_
 obtain⟨o,ho,hc,ne,hd⟩:=id hl;refine e8 nd λo2 ho2 hnd=>?_
 rw[ho]at ho2;cases ho2;apply kk;unfold setItem
 try with_reducible refine mf ?_
 refine eX<|wpAny_sequenceKey hl.typeIs ay ?_;refine eX (PySem.wpAny_callSpecial?_slot hl.typeIs slot_list_setitem
  (PySem.wpAny_call_entry slot_list_setitem hl.typeIs entry_list_setitem ?_<|args_list_setitem _ _ _))
 show wpAny _ _ (Builtin.List.listSubscript? (.int k t)>>=_) _ _ s;refine eX<|wpAny_listSubscript_int (fitsIndex_of h0 hfit) ?_;obtain⟨j,rfl⟩:=Int.eq_ofNat_of_zero_le h0;have hj:j<items.size:=eZ;have hx':=Array.getElem?_eq_getElem hj;refine eX<|eX<|wpAny_seqItemAt ho hd<|fD ?_;rw[hx'];obtain⟨n',hd'⟩:=Obj.data_mapSeq hd _;have hfin:(s.heap.update l (Obj.mapSeq (·.setIfInBounds j v))).IsList l _:=
  ⟨_,pV _ ho<|PySem.Obj.isFreed_of_seq hd',(Obj.cls_mapSeq ..).trans hc,n',hd'⟩
 have hnd':th (s.heap.update l (Obj.mapSeq (·.setIfInBounds j v))) l:=⟨_,pV _ ho<|PySem.Obj.isFreed_of_seq hd',(u6 ..).trans hnd⟩;refine eX<|wpAny_setSeqItemAt ho hd ?_
 first
  |exact eX (fD (fD ⟨.none,rfl,fD (hQ _ hfin hnd' (rp ..))⟩))
  |exact fD ⟨.none,rfl,fD (hQ _ hfin hnd' (rp ..))⟩
theorem RelVs.set {w:World} {ρ:f8} {h:Heap} {v:V} {u:Value} (r:eW w ρ h v u) {l}:∀{us} (j:Nat),RelVs w ρ h l us->RelVs w ρ h (l.set j v) (us.set j u):=by
 induction l with
 |nil=>exact λ{us} j r=>nH (Q:=λus=>RelVs w ρ h []<|us.set j u) r .aS
 |cons x l ih=>
  refine λ{us} j r1=>kq (Q:=λus=>RelVs w ρ h ((x::l).set j v)<|us.set j u) r1 λy ys a b=>?_
  cases j with
  |zero=>exact .aR r b
  |succ j=>exact .aR a<|ih j b
section
variable{w:World} {d:Nat} {F:fb} {sc:Scope} {k:Nat} {pos pos':Pos}
theorem ssc {P:V->V->H->Prop} (h:mg μ o i v=some μ') (kl:∀k l (i:Int),d' μ k=some (.j l)->(decide (0<=i)&&decide (i<l.length)&&i3 i)->P (.g k) (.a i) (fc μ k<|.j<|xz l i.toNat v))
 (kd:∀k l d,d' μ k=some (.dict l)->gq μ i l=some d->l.length<=gH->P (.g k) i (fc μ k<|.dict<|jn d v l)):P o i μ':=by
 cases o with
 |g k=>exact FW h (λl g h=>oB h λi e h=>pF (P:=λa=>P _ a μ') e<|iU h (λhc h=>Option.some.inj h▸kl k l i g hc) λZ h=>fe h) λl g h=>oB h λd e h=>iU h (λhc h=>Option.some.inj h▸kd k l d g e (iw hc)) λZ h=>fe h
 |_=>exact fe h
def Tn {i:Int} {n:Nat} (h:(decide (0<=i)&&decide (i<n)&&i3 i)) {G:Prop} (k:0<=i->i<n->i<2^63->G):G:=
 have q:=Bool.and_eq_true_iff.1 h;have q1:=Bool.and_eq_true_iff.1 q.1
 k (jA q1.1) (jA q1.2) (PJ<|jA (Bool.and_eq_true_iff.1 q.2).2)
def H3 {α:Type} {h:Heap} {l} {xs:List α} {f} (g:gW w ρ h l (xs.map f)) (hb:l.length<=gH):xs.length<=sizeLine:=
 al_81 (la (by have:=g.aV;rw[fk]at this;exact this.symm)) (al_81 hb ay)
def Wv {h:Heap} {x} {kvs:List (Int×Value)} (g:h.DictOf (intKind pw w) x kvs):(kvs.map (·.1)).Nodup:=pY g λZ Z Z Z Z Z Z Z z=>z
def ndT {h:Heap} {x} {kvs:List (PyData×Addr×Value)} (g:h.DictOfH (nI w) x kvs):(kvs.map (·.1)).Nodup:=pY g λZ Z Z Z Z Z Z Z z=>z
def Ge (hu:A.units+100<cLine) (T:e9 w ρ μ s) (ro:eW w ρ s.heap o uo) (ri:eW w ρ s.heap i ui) (r:eW w ρ s.heap v u) (h:mg μ o i v=some μ'):
  wpAny (model pw w) A (setItem uo ui u) (fV w ρ s μ' λZ Z Z=>True) fH s:=
 ssc (P:=λo i μ'=>eW w ρ s.heap o uo->eW w ρ s.heap i ui->wpAny (model pw w) A (setItem uo ui u) (fV w ρ s μ' λZ Z Z=>True) fH s) h
  (λZ l i hg hc ro ri=>jD ri λZ=>mi (P:=λv=>wpAny (model pw w) A (setItem v _ u) _ fH s) T ro hg λx xs e1 b1 b3=>Tn hc λh0 h1 h2=>
   zB b1 (AB T e1 hg) h0 h2 (by rw[<-j6 (xs:=xs),<-b3.aV];exact h1) λh' hl' hn' hs'=>
    Kw (e9.cL (s':={s with heap:=h'}) (o':=.j (xz l i.toNat v)) T e1 (λb o hb ho=>hs'.extBut b o hb ho) (yk hl') rfl
     (λx1 Z=>.bh hl' hn' (by simp only[LT,Array.toList_setIfInBounds];exact RelVs.set (r.aU x1 (.aS ..)) _ (b3.aU x1 (.aS ..))))) rfl)
  (λZ l Z hg he hb ro ri=>Eb (P:=λa b e=>wpAny (model pw w) A (setItem a b u) (fV w ρ s (fc μ _ (.dict (jn e v l))) λZ Z Z=>True) fH s) T ro hg he ri
   (λZ i Z Z hx Z g1 g2=>wpAny_setItem_pairs (k:=i) (by simp[intKind,Value.isInt]) g1 (λh' hd' hs'=>
     Kw (e9.cL (s':={s with heap:=h',toks:=s.toks+1}) T hx (λb o hb ho=>hs'.extBut b o hb ho) (CK hd') rfl
      (λx1 Z=>.bu hd' (Kx (r.aU x1 (.aS ..)) (Wv g1) (g2.aU x1 (.aS ..))))) rfl) (H3 g2 hb))
   (λZ Z e Z hx Z hk g1 g2=>wpAny_setItem_heap (Kq hu) hk g1 (λh' hd' hs'=>
     Kw (e9.cL (s':={s with heap:=h',toks:=s.toks+(nI w).draws e}) T hx (λb o hb ho=>hs'.extBut b o hb ho) (CK hd') rfl
      (λx1 Z=>.bz hd' (Tm hk.2.1 (r.aU x1 (.aS ..)) (zQ g1) (ndT g1) (g2.aU x1 (.aS ..))))) rfl) (H3 g2 hb))) ro ri
end
section
variable{w:World} {d:Nat} {F:fb} {sc:Scope} {k:Nat} {pos pos':Pos}
def SX.dY {o i e:Ex} {xo xi y:Expr} (h0:SV w d F sc o xo) (h2:SV w d F sc i xi) (h1:SV w d F sc e y) (hc:mR y):SX w d F sc (.ae o i e) (.Assign [.Subscript xo xi pos'] y pos):=λenv E A ρ μ s fl E' μ' eR T hA h=>by
 refine iA h λv μ1 v1 h=>iA h λa μ2 v2 h=>iA h λj μ3 v3 h=>iL h λμ4 hs h=>qG h<|wpAny_Assign_Subscript (fN (h1 env E A ρ μ s _ _ eR T hA v1) λu s₁ ρ₁ a b c r=>?_)<|oJ hc _ _ _
 exact AH h0 h2 (eR.bn a) b hA v2 v3 λuo ui s₂ ρ₂ a' b' c' ro ri=>fN (Ge (by have:=hA.2.2;lia) b' ro ri (r.aU a'<|.aS ..) hs) λZ s₃ ρ₃ a3 b3 c3 Z=>⟨ρ₃,jj (((a.aT a').aT a3).own) b3 (c3.trans<|c'.trans c) (eR.bn<|(a.aT a').aT a3) .C⟩
end
inductive TN (sc:Scope):List Nat->List Expr->Prop
 |aS:TN sc [] []
 |aR {x p xs es}:x<214->(sc.names.lookup (nm x)=some .local\/sc.names.lookup (nm x)=some .cell)->TN sc xs es->TN sc (x::xs) (.Name (nm x) p::es)
section
variable{w:World} {d:Nat} {F:fb} {sc:Scope} {k:Nat} {pos pos':Pos} {env:PySem.Env}
def TN.cq (t:TN sc xs es):(assignEach es env).length=xs.length/\(assignEach es env).findIdx? (·.1)=none:=by
 induction t with
 |aS=>exact⟨rfl,rfl⟩
 | @aR x p xs es _ _ _ ih=>
  have:assignEach (.Name (nm x) p::es) env=_::assignEach es env:=rfl;rw[this];refine⟨by simp[ih.1],?_⟩;rw[List.findIdx?_cons,ih.2];rfl
theorem P2 {E E1:Env} {vs:List V} {Q:List V->Env->Prop} (h:lM E [] vs=some E1) (k:Q [] E):Q vs E1:=by
 cases vs with
 |nil=>exact Option.some.inj h▸k
 |cons _ _=>first|exact fe h|exact nomatch h
theorem P3 {E E1:Env} {x:Nat} {xs:List Nat} {vs:List V} {Q:List V->Prop} (h:lM E (x::xs) vs=some E1) (k:∀v l,lM (eP E x v) xs l=some E1->Q (v::l)):Q vs:=by
 cases vs with
 |nil=>first|exact fe h|exact nomatch h
 |cons v l=>exact k v l h
theorem Gf {xs:List Nat}:∀{l:List V} {E E1:Env},lM E xs l=some E1->xs.length=l.length:=by
 induction xs with
 |nil=>exact λh=>P2 (Q:=λl Z=>0=l.length) h rfl
 |cons x xs ih=>exact λh=>P3 (Q:=λl=>xs.length+1=l.length) h λv l h=>congrArg (·+1)<|ih h
theorem H4 {A:Around} {ρ:f8} {μ:H} {E':Value->Shared->Prop} {xs:List Nat} {es:List Expr} (t:TN sc xs es):∀{E E1:Env} {vs:List V} {us:List Value} {s:Shared} {Q:Unit->Shared->Prop},f6 w sc env E ρ s.heap->e9 w ρ μ s->RelVs w ρ s.heap vs us->lM E xs vs=some E1->
  (∀s',fM (own env) ρ s.heap ρ s'.heap->e9 w ρ μ s'->s'.os=s.os->f6 w sc env E1 ρ s'.heap->Q () s')->wpAny (model pw w) A (assignInOrder ((assignEach es env).map (·.2)) us) Q E' s:=by
 induction t with
 |aS=>
  intro E E1 vs us s Q eR T r hb;refine P2 (Q:=λvs E1=>RelVs w ρ s.heap vs us->(∀s',fM (own env) ρ s.heap ρ s'.heap->e9 w ρ μ s'->s'.os=s.os->f6 w sc env E1 ρ s'.heap->Q () s')->wpAny (model pw w) A (assignInOrder ((assignEach [] env).map (·.2)) us) Q E' s) hb (λr k=>?_) r;exact nH (Q:=λus=>wpAny _ _ (assignInOrder _ us) _ _ _) r<|fD<|k s (.aZ ..) T rfl eR
 | @aR x p xs es hx hk t ih=>
  intro E E1 vs us s Q eR T r hb k;refine P3 (Q:=λvs=>RelVs w ρ s.heap vs us->wpAny (model pw w) A (assignInOrder ((assignEach (.Name (nm x) p::es) env).map (·.2)) us) Q E' s) hb (λv l hb r=>?_) r;refine kq (Q:=λus=>wpAny _ _ (assignInOrder _ us) _ _ _) r λu us r1 r2=>?_
  show wpAny _ A (do holding us (assign (.Name (nm x) p) env u);assignInOrder ((assignEach es env).map (·.2)) us) Q E' s;exact eX<|mf<|PySem.wpAny_assign_Name<|nZ hx hk eR T r1 λs' x1 x2 x3 x4=>ih x4 x2 (r2.aU x1 eR.off) hb λs'' y1 y2 y3 y4=>k s'' (x1.aT y1) y2 (y3.trans x3) y4
def u7 (x:Heap.ExtBut h.objs.size h h'):ti h h':=λb o e=>x b o (jq<|jp e) e
def yt (t:TN sc xs es) (hh:A.handled=none) (eR:f6 w sc env E ρ s.heap) (T:e9 w ρ μ s)
  (r:eW w ρ s.heap (.v l) u) (hb:lM E xs l=some E1) (k:∀s',fM (own env) ρ s.heap ρ s'.heap->e9 w ρ μ s'->s'.os=s.os->f6 w sc env E1 ρ s'.heap->Q () s'):
  wpAny (model pw w) A (assign (.Tuple es k1 pos) env u) Q E' s:=by
 refine ia λG kk=>?_
 cases r with
 | @bF a _ us h1 h2 h3=>
  apply kk;refine wpAny_assign_Tuple hh h1 (by simp only[t.cq.1,Gf hb,h3.aV,j6]) t.cq.2 λh' hk=>?_
  have kp:=u7 hk;have x0:fM [] ρ s.heap ρ h':=.aY kp;exact H4 t (eR.bn x0) (T.bi kp rfl) (h3.aU x0<|.aS ..) hb λs' y1 y2 y3 y4=>k s' (x0.own.aT y1) y2 y3 y4
noncomputable def AU (x:Expr):Bool:=!Nat.beq x.ctorIdx 25
def Gg (h:AU v) (ts:List Expr) (k:Nat) (p:Pos) (env:PySem.Env):swappedStores [.Tuple ts k p] v env=pure none:=by
 cases v<;>first|rfl|exact ng h
def SX.dm {xs:List Nat} {es:List Expr} {e:Ex} {y:Expr} (t:TN sc xs es) (h1:SV w d F sc e y) (hc:mR y) (hw:AU y) (hx:xs.length≠1\/True):SX w d F sc (.ak xs e) (.Assign [.Tuple es k pos'] y pos):=λenv E A ρ μ s fl E' μ' eR T hA h=>by
 refine iA h λv μ1 v1 h=>iR h λE1 hb h=>qG h<|Assign_Tuple (fN (h1 env E A ρ μ s _ _ eR T hA v1) λu s₁ ρ₁ a b c r=>?_) (by show swapsWith y (some<|.Tuple es k pos') pos.line env=_;exact oJ hc _ _ _)<|Gg hw _ _ _ _
 refine ia λG kk=>?_
 simp only[fi]at hb;split at hb
 .apply kk;exact yt t hA.1 (eR.bn a) b r hb λs' x1 x2 x3 x4=>⟨ρ₁,jj (a.own.aT x1) x2 (x3.trans c) x4 .C⟩
 .first|exact fe (by assumption)|contradiction
end
end
section
open PySem PySem.W PyProof.Rows PySem.SeqAt
open AutoSeq1 (wpAny_loadPart')
def Mg {α:Type} {prog:Program} {w:World} {A:Around} {x:α} {Q:α->Shared->Prop} {E:Value->Shared->Prop} {s:Shared} (h:∀b,Q b s):wpAny (model prog w) A (pure x) Q E s:=fD<|h x
def rQ (l:Addr) (items:Array Value) (n:Nat) (dct:Option Addr) (sl:Array (Option Value)):
  Meets (Builtin.«enumerate.__new__» ⟨[.type "enumerate",.ref l],[]⟩) (λZ R s=>s.heap.get? l=some {cls:=.type "tuple",dict:=dct,data:=.seq items n,slots:=sl}/\
   R (.ok<|.ret<|.ref (s.heap.push {cls:=.type "tuple_iterator",data:=.fields #[.ref l,.int 0 0]}).objs.size)
    {s with heap:=(s.heap.push {cls:=.type "tuple_iterator",data:=.fields #[.ref l,.int 0 0]}).push {cls:=.type "enumerate",data:=.fields #[.none,.bool false,.ref s.heap.objs.size,rawInt 0,.none,.none]}}):=
 .of_wp λprog w A R s h=>by
  obtain⟨hp,g,d,tk,os⟩:=s;obtain⟨hl,h⟩:=h;have hsub:=sub_enumerate;have hL:Heap.IsTuple (Shared.heap ⟨hp,g,d,tk,os⟩) l items:=⟨_,hl,rfl,n,rfl⟩;wp_walk using wpAny_loadPart' hl;refine wpAny_stack_any λst=>Mg λb=>?_
  cases b
  .wp_walk using wpAny_loadPart' hl,PySem.wpAny_pyIter_tuple hL;exact⟨_,rfl,h⟩
  .wp_walk using wpAny_loadPart' hl,PySem.wpAny_pyIter_tuple hL;exact⟨_,rfl,h⟩
section
variable{w:World} {A:Around} {E:Value->Shared->Prop} {s:Shared}
def rR {items:Array Value} (hL:s.heap.IsTuple l items)
  (h:∀h',IsEnum h' (s.heap.objs.size+1) s.heap.objs.size 0 .none->h'.IsTupleIter s.heap.objs.size l 0->h'.objs.size=s.heap.objs.size+2->
   (∀b o,s.heap.get? b=some o->h'.get? b=some o)->Q (.ref<|s.heap.objs.size+1) {s with heap:=h'}):
  wpAny (model pw w) A (call (.type "enumerate") [.ref l]) Q E s:=by
 refine ia λG kk=>?_
 obtain⟨⟨c,dct,dt,sl⟩,hl,hc,n,hd⟩:=hL;subst hc hd;apply kk;refine callType_new F.called_enumerate ay (F.typeCall_enumerate_1 _) (F.newCall_enumerate_1 _) (λobj=>F.args_object_init_2 obj _) F.entry_enumerate_new
  (rQ l items n dct sl) ⟨hl,?_⟩
 have hz:(s.heap.push {cls:=.type "tuple_iterator",data:=.fields #[.ref l,.int 0 0]}).objs.size=s.heap.objs.size+1:=tZ ..;rw[hz];have he:IsEnum ((s.heap.push {cls:=.type "tuple_iterator",data:=.fields #[.ref l,.int 0 0]}).push
   {cls:=.type "enumerate",data:=.fields #[.none,.bool false,.ref s.heap.objs.size,rawInt 0,.none,.none]}) (s.heap.objs.size+1) s.heap.objs.size 0 .none:=by
  have:=jQ (s.heap.push {cls:=.type "tuple_iterator",data:=.fields #[.ref l,.int 0 0]})
   (o:={cls:=.type "enumerate",data:=.fields #[.none,.bool false,.ref s.heap.objs.size,rawInt 0,.none,.none]}) rfl
  rw[hz]at this;exact this
 exact⟨⟨_,he,rfl⟩,h _ he ⟨_,iV _<|jQ _ rfl,rfl,rfl⟩ fF λb o x=>iV _<|iV _ x⟩
def pT {items} (hit:s.heap.IsTupleIter it l i)
  (hl:s.heap.IsTuple l items) (hx:items[i]?=some x)
  (hQ:∀h',h'.IsTupleIter it l (i+1)->Heap.SameBut it s.heap h'->Q x {s with heap:=h'}):
  wpAny (model pw w) A (Builtin.SmallTypes.nextOf<|.ref it) Q E s:=by
 refine gT (id hit) λo ho hc hd=>?_
 obtain⟨ol,hol,_,nl,hdl⟩:=hl;refine eX (PySem.wpAny_callSpecial?_slot hit.typeIs F.slot_tuple_iterator_next
  (PySem.wpAny_call_entry F.slot_tuple_iterator_next hit.typeIs F.entry_tuple_iterator_next ?_<|F.args_tuple_iterator_next_1 _))
 show wpAny _ _ (field _ 0>>=_) _ _ s;refine eX<|PySem.wpAny_field ho hd rfl ?_;refine eX<|PySem.wpAny_field ho hd rfl ?_;refine eX<|wpAny_seqItems hol hdl ?_;simp[Int.toNat_natCast,hx];refine eX<|wpAny_setField ho hd fF<|fD ⟨x,rfl,fD<|hQ _ ?_<|rp ..⟩;exact⟨_,pV _ ho<|Obj.isFreed_of_fields<|Obj.data_mapFields hd _,(Obj.cls_mapFields ..).trans hc,by
  rw[Obj.data_mapFields hd];simp[rawInt]⟩
def qA {items} (hh:A.handled=none)
  (hit:s.heap.IsTupleIter it l i) (hl:s.heap.IsTuple l items) (hx:items[i]?=none)
  (hE:∀h' e,Heap.ExtBut it s.heap h'->(∃o,h'.get? e=some o/\o.cls=.type "StopIteration")->E (.ref e) {s with heap:=h'}):
  wpAny (model pw w) A (Builtin.SmallTypes.nextOf<|.ref it) Q E s:=by
 refine gT (id hit) λo ho hc hd=>?_
 obtain⟨ol,hol,_,nl,hdl⟩:=hl;refine eX (PySem.wpAny_callSpecial?_slot hit.typeIs F.slot_tuple_iterator_next
  (PySem.wpAny_call_entry F.slot_tuple_iterator_next hit.typeIs F.entry_tuple_iterator_next ?_<|F.args_tuple_iterator_next_1 _))
 show wpAny _ _ (field _ 0>>=_) _ _ s;refine eX<|PySem.wpAny_field ho hd rfl ?_;refine eX<|PySem.wpAny_field ho hd rfl ?_;refine eX<|wpAny_seqItems hol hdl ?_;simp[Int.toNat_natCast,hx];refine eX<|wpAny_rule<|eX<|wpAny_setField ho hd fF ?_;refine eX<|eX (m:=firstArgMember _ _)<|mQ rfl ?_;refine wpAny_newObj_type ?_ (by size_fits);refine eX (wpAny_handled ?_)
 first|rw[show A.in1.handled=none from hh]|rw[hh]
 refine eX (fD (wpAny_throw ?_));exact hE _ _ (((rp ..).extBut.push _).push _) ⟨_,jQ _ rfl,rfl⟩
end
def wD (hh:A.handled=none) (it l:Addr) (hne:l≠it) (items:Array Value):
  Draws pw w A it [it,l] items.size (λi v=>items[i]?=some v) (λi h=>h.IsTupleIter it l i/\h.IsTuple l items)where
 live:=λZ Z st=>yk st.1
 frame:=λZ Z Z st hk=>⟨st.1.at λo e=>hk it fF o e,st.2.at λo e=>hk l fF o e⟩
 item:=λi s Q E hi st hQ=>by
  exact pT st.1 st.2 (x:=items[i]) (by simp) λh' hit' hs'=>hQ _ h' s.toks (by simp) ⟨hit',st.2.extBut hs'.extBut hne⟩ hs'
 done:=λs Q E st hE=>qA hh st.1 st.2 fF λh' e he' hx=>hE h' e he' hx
end
section
open PySem PySem.W PyProof.Rows PySem.SeqAt
def j8 (wr:List Addr) (h h':Heap):Prop:=∀b o,b∉wr->h.get? b=some o->h'.get? b=some o
def j8.aZ (wr h):j8 wr h h:=λZ Z Z e=>e
def j8.aT (x:j8 wr h h') (y:j8 wr h' h''):j8 wr h h'':=λb o n e=>y b o n<|x b o n e
def j8.be (x:Heap.ExtBut a h h') (ha:a∈wr):j8 wr h h':=λb o n e=>x b o (λq=>n<|q▸ha) e
def j8.bq (x:Heap.SameBut a h h') (ha:a∈wr):j8 wr h h':=.be x.extBut ha
section
variable{w:World} {wr:List Addr} {ρ:f8} {μ:H} {s s':Shared} {h h':Heap}
def j8.bn (k:j8 wr h h') (f:hZ wr ρ h'):fM wr ρ h ρ h':=⟨⟨[],fF,fF⟩,λb o e Z hw=>k b o hw e,λb e=>by
 cases q:h.get? b with
 |none=>rfl
 |some o=>
  by_cases hb:b∈wr
  .obtain⟨_,o',ho',_⟩:=f.cls b hb;rw[e]at ho';cases ho'
  .rw[k b o hb q]at e;cases e⟩
def CV (f:hZ wr ρ h) (ho:h.get? a=some o) (hd:o.data=.seq vs n):a∉wr:=λq=>by
 obtain⟨-,o',ho',hn⟩:=f.cls _ q;rw[ho]at ho';cases ho';exact hn _ _ hd
def eW.br (k:j8 wr h h') (f:hZ wr ρ h) {v:V} {u:Value} (r:eW w ρ h v u):eW w ρ h' v u:=
 r.cA (λg hd m=>⟨k _ _ (CV f g hd) g,m⟩) (λl g m=>⟨k _ _ (λq=>absurd (f.cls _ q).1<|Nat.not_le.mpr l) g,m⟩) id
def RelVs.br (k:j8 wr h h') (f:hZ wr ρ h) {l:List V} {us:List Value} (r:RelVs w ρ h l us):RelVs w ρ h' l us:=r.c9<|eW.br k f
def gW.br (k:j8 wr h h') (f:hZ wr ρ h) (r:gW w ρ h l us):gW w ρ h' l us:=by
 induction r with
 |aS=>exact .aS
 |aR a _ ih=>exact .aR (a.br k f) ih
def jR.br (k:j8 wr h h') (f:hZ wr ρ h) (r:jR w ρ h l us):jR w ρ h' l us:=by
 induction r with
 |aS=>exact .aS
 |aR i a b _ ih=>exact .aR i a (b.br k f) ih
def e9.br (R:e9 w ρ μ s) (k:j8 wr s.heap s'.heap) (f:hZ wr ρ s.heap) (hg:s'.gens=s.gens):e9 w ρ μ s' where
 base:=λb o e=>by
  have hb:b<990:=by have:=jp e;exact this
  exact k b o (λq=>absurd (f.cls b q).1<|Nat.not_le.mpr hb)<|R.base b o e
 gens:=hg.trans R.gens
 len:=R.len
 fresh:=R.fresh
 obj:=λi o p ho hp=>by
  have hp':=lL hp;have k2:=λob=>k _ ob λq=>(f.rho _ q p hp').2 rfl
  have t:qN s.heap s'.heap:=λb o ho hc ⟨vs,n,hd⟩=>k b o (CV f ho hd) ho
  have r:=R.obj i o p ho hp;cases r with
  |bh a n b=>exact .bh (yl a k2) (FU n k2)<|b.br k f
  |bu a b=>exact .bu (ym a k2)<|b.br k f
  |bz a b=>exact .bz (wt a t k2)<|b.br k f
  |bJ a b c d e=>exact .bJ a (k _ _ (λq=>(f.rho _ q _ hp').1 rfl) b) c (k2 _ d)<|e.br k f
  |bK a b=>exact .bK (k2 _ a) b
 inj:=R.inj
end
mutual
theorem H5:∀{a b:V},jI a b->a=b
 |.B,b,h=>by cases b<;>first|rfl|exact ng h
 |.O a,b,h=>by cases b<;>first|exact congrArg _ (eq_of_beq h)|exact ng h
 |.a a,b,h=>by cases b<;>first|exact congrArg _ (of_decide_eq_true h)|exact ng h
 |.z a,b,h=>by cases b<;>first|exact congrArg _ (of_decide_eq_true h)|exact ng h
 |.ah,b,h=>by cases b<;>first|rfl|exact ng h
 |.v a,b,h=>by cases b<;>first|exact congrArg _ (vsames_eq h)|exact ng h
 |.w a,b,h=>by cases b<;>first|exact congrArg _ (vsames_eq h)|exact ng h
 |.g a,b,h=>by cases b<;>first|exact congrArg _ (mW h)|exact ng h
 |.ac _,_,h=>ng h
theorem vsames_eq:∀{a b:List V},vsames a b->a=b
 |[],[],_=>rfl
 |x::xs,y::ys,h=>by
  have h:(match jI x y with
   |true=>vsames xs ys
   |false=>false)=true:=h
  cases q:jI x y with
  |true=>rw[q]at h;rw[H5 q,vsames_eq h]
  |false=>rw[q]at h;exact ng h
end
structure Wk (w:World) (A:Around) (target:Expr) (I:Addr) (wr:List Addr) (l:List V) (ok:H->Bool) (St:Nat->f8->Heap->Prop):Prop where
 move:∀{i ρ h ρ' h' W},St i ρ h->fM W ρ h ρ' h'->hZ W ρ h->hZ wr ρ h->(∀b∈wr,b∉W)->St i ρ' h'
 item:∀{i v ρ μ s} {Q:Value->Shared->Prop} {E:Value->Shared->Prop},l[i]?=some v->St i ρ s.heap->hZ wr ρ s.heap->e9 w ρ μ s->ok μ->
  (∀u h' tk,j8 wr s.heap h'->hZ wr ρ h'->eW w ρ h' v u->St (i+1) ρ h'->Q u {s with heap:=h',toks:=tk})->
  wpAny (model pw w) A (pyNext (.ref I)) (λr s₁=>∃u,r=some u/\wpAny (model pw w) A (letOwnedTupleGo target (.ref I) u) (λZ s₂=>Q u s₂) E s₁) E s
 done:∀{ρ μ s} {Q:Option Value->Shared->Prop} {E:Value->Shared->Prop},St l.length ρ s.heap->hZ wr ρ s.heap->e9 w ρ μ s->ok μ->(∀h',j8 wr s.heap h'->Q none {s with heap:=h'})->
  wpAny (model pw w) A (pyNext (.ref I)) Q E s
 self:∀{i ρ s} {Q:Value->Shared->Prop} {E:Value->Shared->Prop},St i ρ s.heap->Q (.ref I) s->wpAny (model pw w) A (pyIter (.ref I)) Q E s
def pG (ho:s.heap.get? I=some o) (hc:o.cls=.type n) (hd:o.data=.fields vs)
  (hn:["enumerate","zip","dict_itemiterator","dict_reverseitemiterator","odict_iterator","itertools.zip_longest","itertools.pairwise"].contains n=false) (h:Q () s):
  wpAny (model pw w) A (letOwnedTupleGo target (.ref I) v) Q E s:=by
 cases target<;>first
  |exact fD h
  |(cases v<;>first
    |exact fD h
    |(refine eX (wpAny_load ho ?_)
      rw[hc,hd];dsimp only;rw[hn];exact fD h))
set_option tactic.hygienic true in
theorem Ye {α:Type} {o:Option O} {K:List V->Option α} {r:α} {P:Prop} (h:(match o with|some (.j l)=>K l|_=>none)=some r) (k:∀l,o=some (.j l)->K l=some r->P):P:=by
 cases o with
 |none=>exact fe h
 |some v=>cases v<;>first|exact fe h|exact k _ rfl h
theorem mLb {o:Option O} {K:List V->Bool} {P:Prop} (h:(match o with|some (.j l)=>K l|_=>false)=true) (k:∀l,o=some (.j l)->K l=true->P):P:=by
 cases o with
 |none=>exact ng h
 |some v=>cases v<;>first|exact ng h|exact k _ rfl h
def rS (T:e9 w ρ μ s) (hi:items μ0 x=some l) (nt:∀l,x≠.v l) (hok:fZ 0 x (src μ0 x) μ) (r:eW w ρ s.heap x (.ref ax)):
  ∃us,s.heap.IsList ax us/\RelVs w ρ s.heap l us.toList:=by
 cases x with
 |w l'=>cases Option.some.inj hi;cases r with|bo a _ b=>exact⟨_,a,b⟩
 |v l'=>exact absurd rfl<|nt _
 |g k=>
  refine Ye hi λl0 h0 e0=>?_;cases Option.some.inj e0;have e:src μ0 (.g k)=l:=by show(match d' μ0 k with|some (.j l)=>l|_=>[])=_;rw[h0]
  rw[e]at hok;refine mLb hok λl' h' q=>?_;cases vsames_eq q;refine DB (ud T r h') λy xs e Z b1 b3=>?_;cases e;exact⟨xs,b1,b3⟩
 |_=>exact fe hi
def uk (r:eW w ρ h (.v l) (.ref ax)):∃us,h.IsTuple ax us/\RelVs w ρ h l us.toList:=by
 cases r with|bF a _ b=>exact⟨_,a,b⟩
def CW {a b c:Addr} (h:a≠b) (h':a≠c):a∉[b,c]:=by simp[h,h']
def n6 (x:fM W ρ h ρ' h') (fw:hZ wr ρ h) (hd:∀b∈wr,b∉W) (hb:b∈wr) (e:h.get? b=some o):h'.get? b=some o:=
 x.keep b o e (λ⟨p,hp,q⟩=>(fw.rho b hb p hp).2 q) (hd b hb)
def qh (T:e9 w ρ μ s) {b:Addr} (hb:s.heap.objs.size<=b):∀p∈ρ,p.1≠b/\p.2≠b:=λp hp=>by
 refine kF (T.cR hp) λZ Z Z Z z=>?_
 obtain⟨_,z1⟩:=z.cw;refine e8 z.bw λZ z2 Z=>?_
 have l1:=jp z1;have l2:=jp z2;exact⟨jq<|fB l1 hb,jq<|fB l2 hb⟩
def Wk.bh (hh:A.handled=none) (hne:ax≠I) (hi:items μ0 x=some l) (nt:∀l,x≠.v l):
  Wk w A target I [I] l (fZ 0 x<|src μ0 x) (λi ρ h=>h.IsListIter I ax i/\eW w ρ h x (.ref ax))where
 move:=λst x f fw hd=>⟨st.1.at λo e=>n6 x fw hd fA e,st.2.aU x f⟩
 item:=λ{i v ρ μ s Q E} hv st fw T hok hQ=>by
  refine e8 (rS T hi nt hok st.2) λus hl hr=>e8 (hr.get _ hv) λy hy ry=>?_
  rw[Array.getElem?_toList]at hy;refine wpAny_pyNext_list_item st.1 hl hy λh' hit' hs'=>⟨y,rfl,?_⟩
  have k:j8 [I] _ h':=.bq hs' fA;refine gT (id hit') λo ho hc hd=>pG ho hc hd ay<|hQ y h' _ k ⟨λb hb=>?_,fw.rho⟩ (ry.br k fw) ⟨hit',st.2.br k fw⟩
  rw[gw.mp hb];exact⟨(fw.cls I fA).1,o,ho,λvs n e=>by rw[hd]at e;cases e⟩
 done:=λst fw T hok hQ=>by
  exact e8 (rS T hi nt hok st.2) λus hl hr=>wpAny_pyNext_list_end hh st.1 hl (by simp only[hr.aV,j6];simp) λh' he=>hQ h'<|.be he fA
 self:=λst hQ=>wpAny_pyIter_listiter st.1 hQ
def Wk.cP (hh:A.handled=none) (hne:ax≠I):
  Wk w A target I [I] l ok (λi ρ h=>h.IsTupleIter I ax i/\eW w ρ h (.v l) (.ref ax))where
 move:=λst x f fw hd=>⟨st.1.at λo e=>n6 x fw hd fA e,st.2.aU x f⟩
 item:=λ{i v ρ μ s Q E} hv st fw T hok hQ=>by
  refine e8 (uk st.2) λus hl hr=>e8 (hr.get _ hv) λy hy ry=>?_
  rw[Array.getElem?_toList]at hy;refine wpAny_pyNext_tuple_item st.1 hl hy λh' hit' hs'=>⟨y,rfl,?_⟩
  have k:j8 [I] _ h':=.bq hs' fA;refine gT (id hit') λo ho hc hd=>pG ho hc hd ay<|hQ y h' _ k ⟨λb hb=>?_,fw.rho⟩ (ry.br k fw) ⟨hit',st.2.br k fw⟩
  rw[gw.mp hb];exact⟨(fw.cls I fA).1,o,ho,λvs n e=>by rw[hd]at e;cases e⟩
 done:=λst fw T hok hQ=>by
  exact e8 (uk st.2) λus hl hr=>wpAny_pyNext_tuple_end hh st.1 hl (by simp only[hr.aV,j6];simp) λh' he=>hQ h'<|.be he fA
 self:=λst hQ=>wpAny_pyIter_tupleiter st.1 hQ
theorem wE:∀(n:Nat) (a:Int) (i:Nat) {v:V},(gZ a n)[i]?=some v->i<n/\v=.a (a+i)
 |0,_,_,_,h=>fe h
 |n+1,a,0,v,h=>⟨j5 _,by rw[<-Option.some.inj h,Int.natCast_zero,Int.add_zero]⟩
 |n+1,a,i+1,v,h=>by
  obtain⟨h1,h2⟩:=wE n (a+1) i h;exact⟨Nat.succ_lt_succ h1,by rw[h2];congr 1;push_cast;lia⟩
theorem wF:∀(n:Nat) (a:Int),(gZ a n).length=n
 |0,_=>rfl
 |n+1,_=>congrArg Nat.succ (wF n _)
def Wk.cQ (hh:A.handled=none):
  Wk w A target I [I] (gZ a n) ok (λi ρ h=>IsRangeIter h I (a+i) ((n:Int)-i) 1)where
 move:=λst x f fw hd=>n6 x fw hd fA st
 item:=λ{i v ρ μ s Q E} hv st fw T hok hQ=>by
  obtain⟨hi,rfl⟩:=wE _ _ _ hv;refine wpAny_pyNext_range_item st eZ λh' hit' hs'=>⟨_,rfl,?_⟩
  have k:j8 [I] _ h':=.bq hs' fA;refine pG hit' rfl rfl ay<|hQ _ h' _ k ⟨λb hb=>?_,fw.rho⟩ (.bY _ _) ?_
  .rw[gw.mp hb];exact⟨(fw.cls I fA).1,_,hit',λvs n e=>by cases e⟩
  .have e1:a+((i+1:Nat):Int)=a+(i:Nat)+1:=by push_cast;rw[Int.add_assoc]
   have e2:(n:Int)-((i+1:Nat):Int)=(n:Int)-(i:Nat)-1:=by push_cast;lia
   simp only[e1,e2];exact hit'
 done:=λst fw T hok hQ=>by
  rw[wF]at st;exact wpAny_pyNext_range_end hh st eZ λh' he=>hQ h'<|.be he fA
 self:=λst hQ=>wpAny_pyIter_rangeiter st hQ
theorem vH:∀(l:List V) (a:Int) (i:Nat) {v:V},(jV a l)[i]?=some v->∃u,l[i]?=some u/\v=.v [.a<|a+i,u]
 |[],_,_,_,h=>fe h
 |x::l,a,0,v,h=>⟨x,rfl,by rw[<-Option.some.inj h,Int.natCast_zero,Int.add_zero]⟩
 |x::l,a,i+1,v,h=>by
  exact e8 (vH l (a+1) i h) λu h1 h2=>⟨u,by simpa using h1,by rw[h2];congr 2;push_cast;congr 1;lia⟩
theorem vJ:∀(l:List V) (a:Int),(jV a l).length=l.length
 |[],_=>rfl
 |_::l,_=>congrArg Nat.succ (vJ l _)
def yu {i:Nat} {Q:Value->Shared->Prop}
  (D:Draws pw w A.in1 it fp n P S) (he:IsEnum s.heap e it i old) (hst:S i s.heap) (hlt:i<n) (hne:e≠it) (hef:e∉fp) (fw:hZ [e,it] ρ s.heap) (T:e9 w ρ μ s)
  (hP:∀x,P i x->eW w ρ s.heap u x)
  (hit:∀h,S (i+1) h->∃o,h.get? it=some o/\∀vs n,o.data≠.seq vs n)
  (hQ:∀y h' tk,j8 [e,it] s.heap h'->hZ [e,it] ρ h'->eW w ρ h' (.v [.a i,u]) y->(∃old,IsEnum h' e it ((i+1:Nat):Int) old)->S (i+1) h'->Q y {s with heap:=h',toks:=tk}):
  wpAny (model pw w) A (pyNext<|.ref e) (λr s₁=>∃u,r=some u/\wpAny (model pw w) A (letOwnedTupleGo (.Tuple elts k pos) (.ref e) u) (λZ s₂=>Q u s₂) E s₁) E s:=by
 refine wpAny_pyNext_enum_itemD D he hst hlt hne hef λx h' tk hPx ho hS hT hz hk=>⟨_,rfl,?_⟩
 refine wpAny_letOwnedTupleGo_enum ho λh'' he'' hs''=>?_
 have k1:j8 [e,it] s.heap h':=λb o hb y=>hk b o (λq=>hb (by simp_all)) (λq=>hb (by simp[q])) y
 have k:=k1.aT (.bq hs'' fA);have hS'':=D.frame _ _ _ hS λb hb o y=>(hs''.2 b λq=>hef (q▸hb)).trans y
 have f'':hZ _ ρ h'':=⟨λb hb=>⟨(fw.cls b hb).1,by
  obtain rfl|hb:=gC.mp hb
  .exact⟨_,he'',λvs n q=>by cases q⟩
  .rw[gw.mp hb];exact hit _ hS''⟩,fw.rho⟩
 have helt:=jp he;have hT'':=(hs''.2 _ (Nat.ne_of_gt helt)).trans hT;refine hQ _ h'' _ k f'' ?_ ⟨x,by simpa using he''⟩ hS'';exact .bF ⟨_,hT'',rfl,_,rfl⟩ (T.bI (fX _)) (.aR (.bY _ _) (.aR ((hP x hPx).br k fw) .aS))
def Wk.cT (hh:A.handled=none) (hei:e≠it) (hae:ax≠e) (hai:ax≠it) (hi:items μ0 x=some l) (nt:∀l,x≠.v l):
  Wk w A (.Tuple elts k pos) e [e,it] (jV 0 l) (fZ 1 x<|src μ0 x) (λi ρ h=>(∃old,IsEnum h e it i old)/\h.IsListIter it ax i/\eW w ρ h x (.ref ax))where
 move:=λst x f fw hd=>⟨st.1.elim λold q=>⟨old,n6 x fw hd fA q⟩,st.2.1.at λo y=>n6 x fw hd fF y,st.2.2.aU x f⟩
 item:=λ{i v ρ μ s Q E} hv st fw T hok hQ=>by
  refine oq st λz0z hit rx=>?_;obtain⟨old,he⟩:=z0z
  refine e8 (rS T hi nt ‹_› rx) λus hl hr=>?_
  obtain⟨u,hu,rfl⟩:=vH _ _ _ hv;have hlen:=hr.aV.trans j6;have hlt:i<us.size:=by rw[<-hlen];exact(ke.mp hu).1
  refine yu (Draws.list (A:=A.in1) hh it ax hai us) he ⟨hit,hl⟩ hlt hei (CW hei<|Ne.symm hae) fw T (λy hy=>?_) (λh st=>?_) λy h' tk b c d e f=>hQ y h' tk b c (by simpa using d) ⟨e,f.1,rx.br b fw⟩
  .refine e8 (hr.get _ hu) λz hz rz=>?_
   rw[Array.getElem?_toList]at hz;rw[hy]at hz;cases hz;exact rz
  .exact gT st.1 λo ho hc hd=>⟨o,ho,λvs n q=>by rw[hd]at q;cases q⟩
 done:=λ{ρ μ s Q E} st fw T hok hQ=>by
  obtain⟨⟨old,he⟩,hit,rx⟩:=st;refine e8 (rS T hi nt (by cases x<;>first|rfl|exact hok) rx) λus hl hr=>?_
  have hlen:=hr.aV.trans j6;simp only[vJ,hlen]at he hit;exact wpAny_pyNext_enum_endD (Draws.list (A:=A.in1) hh it ax hai us) he ⟨hit,hl⟩ λh' hx=>hQ h'<|.be hx fF
 self:=λst hQ=>st.1.elim λZ he=>PySem.wpAny_pyIter_enum he hQ
def Wk.cU (hh:A.handled=none) (hei:e≠it) (hae:ax≠e) (hai:ax≠it):
  Wk w A (.Tuple elts k pos) e [e,it] (jV 0 l) ok (λi ρ h=>(∃old,IsEnum h e it i old)/\h.IsTupleIter it ax i/\eW w ρ h (.v l) (.ref ax))where
 move:=λst x f fw hd=>⟨st.1.elim λold q=>⟨old,n6 x fw hd fA q⟩,st.2.1.at λo y=>n6 x fw hd fF y,st.2.2.aU x f⟩
 item:=λ{i v ρ μ s Q E} hv st fw T hok hQ=>by
  refine oq st λz0z hit rx=>?_;obtain⟨old,he⟩:=z0z
  refine e8 (uk rx) λus hl hr=>?_
  obtain⟨u,hu,rfl⟩:=vH _ _ _ hv;have hlen:=hr.aV.trans j6;have hlt:i<us.size:=by rw[<-hlen];exact(ke.mp hu).1
  refine yu (wD (A:=A.in1) hh it ax hai us) he ⟨hit,hl⟩ hlt hei (CW hei<|Ne.symm hae) fw T (λy hy=>?_) (λh st=>?_) λy h' tk b c d e f=>hQ y h' tk b c (by simpa using d) ⟨e,f.1,rx.br b fw⟩
  .refine e8 (hr.get _ hu) λz hz rz=>?_
   rw[Array.getElem?_toList]at hz;rw[hy]at hz;cases hz;exact rz
  .exact gT st.1 λo ho hc hd=>⟨o,ho,λvs n q=>by rw[hd]at q;cases q⟩
 done:=λ{ρ μ s Q E} st fw T hok hQ=>by
  refine oq st λz0z hit rx=>?_;obtain⟨old,he⟩:=z0z
  refine e8 (uk rx) λus hl hr=>?_
  have hlen:=hr.aV.trans j6;simp only[vJ,hlen]at he hit;exact wpAny_pyNext_enum_endD (wD (A:=A.in1) hh it ax hai us) he ⟨hit,hl⟩ λh' hx=>hQ h'<|.be hx fF
 self:=λst hQ=>st.1.elim λZ he=>PySem.wpAny_pyIter_enum he hQ
section
variable{w:World} {d:Nat} {F:fb} {sc:Scope} {k:Nat} {pos pos':Pos}
structure jS (w:World) (n:Str) (u:Value):Prop where
 no:globalOf (HF w.params) n=none
 yes:builtinOf (HF w.params) n=some u
def vK (eR:f6 w sc env E ρ s.heap) (T:e9 w ρ μ s) (hk:sc.names.lookup n=some .globalImplicit) (hd:(n==("__debug__":Str))=false)
  (hg:jS w n u) (h:Q u s):wpAny (model pw w) A (eval (.Name n pos) env) Q E' s:=by
 refine Calls.Name_function_global eR.kind (by unfold Env.kindOf;rw[eR.names];exact hk) ?_ hd;refine Calls.loadGlobal_builtin (by rw[eR.glob];exact CN T) ?_ (by rw[eR.blt];exact Cl T) ?_ h
 .rw[<-PySem.Pin.globalOf_eq (t9 w.params)];exact hg.no
 .rw[<-Pin.builtinOf_eq (zH w.params)];exact hg.yes
def wG
  (hk:sc.names.lookup n=some .globalImplicit) (hd:(n==("__debug__":Str))=false) (hg:jS w n (.type ty)) (h1:hY w d F sc es (x0::xs)) (hp:(x0::xs).all f7) (eR:f6 w sc env E ρ s.heap) (T:e9 w ρ μ s) (hA:jE d A) (v1:evs aj F E es μ=some (vs,μ1))
  (h:∀us s₁ ρ₁,fM [] ρ s.heap ρ₁ s₁.heap->e9 w ρ₁ μ1 s₁->s₁.os=s.os->RelVs w ρ₁ s₁.heap vs us->wpAny (model pw w) A (call (.type ty) us) Q E' s₁):
  wpAny (model pw w) A (eval (.Call (.Name n np) (x0::xs) [] pos) env) Q E' s:=by
 refine PySem.wpAny_Call_ofName<|vK eR T hk hd hg ?_;have g:=h1 env E A ρ μ s vs μ1 pos eR T hA v1;have hp0:f7 x0:=by rw[kC,jd]at hp;exact hp.1
 have pa:=nj (pos:=pos) (env:=env) hp;rw[ja hp0]at pa g⊢;exact PyProof.Rows.callWith_type pa<|PySem.Calls.evalArgs_plain<|fN g λus s₁ ρ₁ x y z r=>h us s₁ ρ₁ x y z r
def Eg {id:String}
  (hk:sc.names.lookup n=some .globalImplicit) (hd:(n==("__debug__":Str))=false) (hg:jS w n (.builtin id)) (h1:hY w d F sc es (x0::xs)) (hp:(x0::xs).all f7) (eR:f6 w sc env E ρ s.heap) (T:e9 w ρ μ s) (hA:jE d A) (v1:evs aj F E es μ=some (vs,μ1))
  (h:∀us s₁ ρ₁,fM [] ρ s.heap ρ₁ s₁.heap->e9 w ρ₁ μ1 s₁->s₁.os=s.os->RelVs w ρ₁ s₁.heap vs us->wpAny (model pw w) A (call (.builtin id) us) Q E' s₁):
  wpAny (model pw w) A (eval (.Call (.Name n np) (x0::xs) [] pos) env) Q E' s:=by
 refine PySem.wpAny_Call_ofName<|vK eR T hk hd hg ?_;have g:=h1 env E A ρ μ s vs μ1 pos eR T hA v1;have hp0:f7 x0:=by rw[kC,jd]at hp;exact hp.1
 have pa:=nj (pos:=pos) (env:=env) hp;rw[ja hp0]at pa g⊢;exact Calls.callWith_builtin pa<|PySem.Calls.evalArgs_plain<|fN g λus s₁ ρ₁ x y z r=>h us s₁ ρ₁ x y z r
def rT (h:ev aj F E e μ=some (v,μ1)):evs aj F E [e] μ=some ([v],μ1):=by simp[lU,pi,h]
def Eh (h:ev aj F E e μ=some (v,μ1)) (h2:ev aj F E e2 μ1=some (v2,μ2)):evs aj F E [e,e2] μ=some ([v,v2],μ2):=by simp[lU,pi,h,h2]
def wH (w:World) (A:Around) (target:Expr) (ρ:f8) (s:Shared) (μ2:H) (l:List V) (ok:H->Bool) (it:Value) (s₂:Shared):Prop:=∃I wr St ρ₂,it=.ref I/\Wk w A target I wr l ok St/\fM [] ρ s.heap ρ₂ s₂.heap/\e9 w ρ₂ μ2 s₂/\s₂.os=s.os/\
  St 0 ρ₂ s₂.heap/\hZ wr ρ₂ s₂.heap/\∀b∈wr,s.heap.get? b=none
def wH.mk {I wr St ρ₂} {target:Expr} {l ok} {s₂:Shared} (a:Wk w A target I wr l ok St) (b:fM [] ρ s.heap ρ₂ s₂.heap) (c:e9 w ρ₂ μ2 s₂) (e:s₂.os=s.os) (f:St 0 ρ₂ s₂.heap) (g:hZ wr ρ₂ s₂.heap) (h:∀b∈wr,s.heap.get? b=none):wH w A target ρ s μ2 l ok (.ref I) s₂:=⟨I,wr,St,ρ₂,rfl,a,b,c,e,f,g,h⟩
def SI (w:World) (d:Nat) (F:fb) (sc:Scope) (k:Nat) (a b:Ex) (target iter:Expr):Prop:=∀(env:PySem.Env) (E:Env) (A:Around) (ρ:f8) (μ:H) (s:Shared) x y μ1 μ2 l,f6 w sc env E ρ s.heap->e9 w ρ μ s->jE d A->
 ev aj F E a μ=some (x,μ1)->ev aj F E b μ1=some (y,μ2)->im μ2 k x y=some l->
 wpAny (model pw w) A (eval iter env) (λxv s₁=>wpAny (model pw w) A (pyIter xv) (wH w A target ρ s μ2 l λμ=>fZ k x (src μ2 x) μ) fH s₁) fH s
theorem itm_c {P:V->Prop} (h:items μ x=some l) (kt:P (.v l)) (kl:P (.w l)) (kr:∀k,d' μ k=some (.j l)->P (.g k)):P x:=by
 cases x with
 |v l'=>cases h;exact kt
 |w l'=>cases h;exact kl
 |g k=>
  refine iH (o:=d' μ k) (k:=some) h λl' g h=>?_
  cases h;exact kr k g
 |_=>exact fe h
def AV (T:e9 w ρ μ s) (hi:items μ x=some l) (r:eW w ρ s.heap x u) {P:V->Value->Prop} (kt:∀ax vs,s.heap.IsTuple ax vs->ax<s.heap.objs.size->eW w ρ s.heap (.v l) (.ref ax)->P (.v l) (.ref ax)) (kl:∀x ax us,items μ x=some l->(∀l,x≠.v l)->s.heap.IsList ax us->ax<s.heap.objs.size->eW w ρ s.heap x (.ref ax)->RelVs w ρ s.heap l us.toList->P x (.ref ax)):P x u:=
 itm_c (P:=λx=>items μ x=some l->eW w ρ s.heap x u->P x u) hi
  (λZ r=>qz (P:=λu=>eW w ρ s.heap (.v l) u->P (.v l) u) r (λZ Z h1 Z Z r=>kt _ _ h1 ((yk h1).elim λZ e=>jp e) r) r)
  (λhi r=>mh (P:=λu=>eW w ρ s.heap (.w l) u->P (.w l) u) r (λZ Z h1 Z h3 r=>kl _ _ _ hi (λZ e=>nomatch e) h1 ((yk h1).elim λZ e=>jp e) r h3) r)
  (λk g hi r=>mi (P:=λu=>eW w ρ s.heap (.g k) u->P (.g k) u) T r g (λZ Z Z h1 h3 r=>kl _ _ _ hi (λZ e=>nomatch e) h1 ((yk h1).elim λZ e=>jp e) r h3) r) hi r
def H6 {I:Addr} (T:e9 w ρ μ s) (hI:s.heap.objs.size<=I) (hl:∃o,h'.get? I=some o/\∀vs n,o.data≠.seq vs n):hZ [I] ρ h':=
 ⟨λb hb=>by rw[gw.mp hb];exact⟨al_81 T.cE hI,hl⟩,λb hb=>by rw[gw.mp hb];exact qh T hI⟩
def off2 {I J:Addr} (T:e9 w ρ μ s) (hI:s.heap.objs.size<=I) (hJ:s.heap.objs.size<=J) (hl:∃o,h'.get? I=some o/\∀vs n,o.data≠.seq vs n) (hl':∃o,h'.get? J=some o/\∀vs n,o.data≠.seq vs n):hZ [I,J] ρ h':=
 ⟨λb hb=>by
  obtain rfl|hb:=gC.mp hb
  .exact⟨al_81 T.cE hI,hl⟩
  .rw[gw.mp hb];exact⟨al_81 T.cE hJ,hl'⟩,λb hb=>by
  obtain rfl|hb:=gC.mp hb
  .exact qh T hI
  .rw[gw.mp hb];exact qh T hJ⟩
def vL {s s₁:Shared} {b:Addr} (x:fM [] ρ s.heap ρ₁ s₁.heap) (hb:s₁.heap.objs.size<=b):s.heap.get? b=none:=x.live b<|pj hb
def vM {o:Obj} {f} (h:o.data=.fields f) (vs n):o.data≠.seq vs n:=λq=>nomatch h.symm.trans q
def Ej {s s₁:Shared} {b z:Addr} (x:fM [] ρ s.heap ρ₁ s₁.heap) (hb:s₁.heap.objs.size<=b) (hz:z∈[b]):s.heap.get? z=none:=gw.mp hz▸vL x hb
def P4 {s s₁:Shared} {b c z:Addr} (x:fM [] ρ s.heap ρ₁ s₁.heap) (hb:s₁.heap.objs.size<=b) (hc:s₁.heap.objs.size<=c) (hz:z∈[b,c]):s.heap.get? z=none:=(gC.mp hz).elim (λe=>e▸vL x hb)<|Ej x hc
def SI.cX {a:Ex} {target iter:Expr} (h1:SV w d F sc a iter):SI w d F sc 0 a (.y .B) target iter:=λenv E A ρ μ s x y μ1 μ2 l eR T hA v1 v2 hi=>by
 obtain⟨-,rfl⟩:=Prod.mk.inj<|Option.some.inj v2;exact fN (h1 env E A ρ μ s _ _ eR T hA v1) λu s₁ ρ₁ a b c r=>AV (P:=λx u=>wpAny (model pw w) A (pyIter u) (wH w A target ρ s μ1 l λμ=>fZ 0 x (src μ1 x) μ) fH s₁) b hi r
  (λax Z t1 hlt r=>PySem.wpAny_pyIter_tuple t1 (
   have hI:(s₁.heap.push {cls:=.type "tuple_iterator",data:=.fields #[.ref ax,.int 0 0]}).get? s₁.heap.objs.size=some {cls:=.type "tuple_iterator",data:=.fields #[.ref ax,.int 0 0]}:=jQ _ rfl
   .mk (Wk.cP hA.1<|jq hlt) (a.aT<|e9.bg _) (b.bi (s':={s₁ with heap:=_}) (λZ Z e=>iV _ e) rfl) c ⟨⟨_,hI,rfl,rfl⟩,r.aU (W:=[]) (e9.bg _)<|.aS ..⟩ (H6 b (fX _) ⟨_,hI,vM rfl⟩) λz hz=>Ej a (fX _) hz))
  (λx ax us hi nt t1 hlt r Z=>wpAny_pyIter_list t1 (
   have hI:(s₁.heap.push {cls:=.type "list_iterator",data:=.fields #[.ref ax,.int 0 0]}).get? s₁.heap.objs.size=some {cls:=.type "list_iterator",data:=.fields #[.ref ax,.int 0 0]}:=jQ _ rfl
   .mk (Wk.bh hA.1 (jq hlt) hi nt) (a.aT<|e9.bg _) (b.bi (s':={s₁ with heap:=_}) (λZ Z e=>iV _ e) rfl) c ⟨⟨_,hI,rfl,rfl⟩,r.aU (W:=[]) (e9.bg _)<|.aS ..⟩ (H6 b (fX _) ⟨_,hI,vM rfl⟩) λz hz=>Ej a (fX _) hz))
def lz (k:∀b o,h.get? b=some o->h'.get? b=some o):fM W ρ h ρ h':=.aY k
def SI.dM {a:Ex} {elts:List Expr} {kx:Nat} {tp:Pos} {e:Expr} {np:Pos} (hk:sc.names.lookup ("enumerate":Str)=some .globalImplicit) (hg:jS w "enumerate" (.type "enumerate")) (h1:SV w d F sc a e) (hp:f7 e):
  SI w d F sc 1 a (.y .B) (.Tuple elts kx tp) (.Call (.Name ("enumerate":Str) np) [e] [] pos):=λenv E A ρ μ s x y μ1 μ2 l eR T hA v1 v2 hi=>by
 obtain⟨-,rfl⟩:=Prod.mk.inj<|Option.some.inj v2;exact AG (P:=λl=>wpAny (model pw w) A (eval (.Call (.Name ("enumerate":Str) np) [e] [] pos) env) (λxv s₁=>wpAny (model pw w) A (pyIter xv) (wH w A (.Tuple elts kx tp) ρ s μ1 l λμ=>fZ 1 x (src μ1 x) μ) fH s₁) fH s) hi λl0 hi0=>wG hk ay hg (hY.aR hp h1 hY.aS) (by rw[kC,hp];rfl) eR T hA (rT v1) λus s₁ ρ₁ a b c r=>pE r λu r=>
  AV (P:=λx u=>wpAny (model pw w) A (PySem.call (.type "enumerate") [u]) (λxv s₁=>wpAny (model pw w) A (pyIter xv) (wH w A (.Tuple elts kx tp) ρ s μ1 (jV 0 l0) λμ=>fZ 1 x (src μ1 x) μ) fH s₁) fH s₁) b hi0 r
   (λax Z t1 hlt r=>rR t1 λh' he hit hz hk=>PySem.wpAny_pyIter_enum he
    (.mk (Wk.cU hA.1 (Nat.succ_ne_self _) (jq<|Nat.lt_succ_of_lt hlt)<|jq hlt) (a.aT<|lz hk) (b.bi (s':={s₁ with heap:=h'}) hk rfl) c ⟨⟨_,he⟩,hit,r.aU (W:=[]) (lz hk)<|.aS ..⟩ (off2 b (kj _) (fX _) ⟨_,he,vM rfl⟩<|gT hit λo ho Z hd=>⟨o,ho,vM hd⟩) λz hz=>P4 a (kj _) (fX _) hz))
   (λx ax us hi nt t1 hlt r Z=>call_enumerate_list t1 λh' he hit hz hk=>PySem.wpAny_pyIter_enum he
    (.mk (Wk.cT hA.1 (Nat.succ_ne_self _) (jq<|Nat.lt_succ_of_lt hlt) (jq hlt) hi nt) (a.aT<|lz hk) (b.bi (s':={s₁ with heap:=h'}) hk rfl) c ⟨⟨_,he⟩,hit,r.aU (W:=[]) (lz hk)<|.aS ..⟩ (off2 b (kj _) (fX _) ⟨_,he,vM rfl⟩<|gT hit λo ho Z hd=>⟨o,ho,vM hd⟩) λz hz=>P4 a (kj _) (fX _) hz))
def P5 (h:iX i): -(2^62)<=i/\i<2^62:=by
 unfold iX at h;simp[jd,kD]at h;lia
def wI {s s₁:Shared} (hh:A.handled=none) (x:fM [] ρ s.heap ρ₁ s₁.heap) (T:e9 w ρ₁ μ1 s₁) (c:s₁.os=s.os) (ha:iX a) (hb:iX b):
  wpAny (model pw w) A (pyIter<|.ref s₁.heap.objs.size) (wH w A target ρ s μ1 (gZ a (b-a).toNat) ok) fH
   {s₁ with heap:=s₁.heap.push {cls:=.type "range",data:=.fields #[.int a t,.int b u,.int 1 v]},toks:=tk}:=by
 have a':=P5 ha;have b':=P5 hb;refine wpAny_pyIter_range (IsRange.new _ a b 1 t u v) (small_one a'.1 a'.2 b'.1 b'.2) ?_;have hsz:Builtin.Range.rangeSize a b 1=((b-a).toNat:Int):=by rw[rangeSize_one];split<;>lia
 have hkp:∀z o,s₁.heap.get? z=some o->((s₁.heap.push {cls:=.type "range",data:=.fields #[.int a t,.int b u,.int 1 v]}).push {cls:=.type "range_iterator",data:=.fields #[rawInt a,rawInt<|Builtin.Range.rangeSize a b 1,rawInt 1]}).get? z=some o:=
  λz o e=>iV _<|iV _ e
 have hs1:(s₁.heap.push {cls:=.type "range",data:=.fields #[.int a t,.int b u,.int 1 v]}).objs.size=s₁.heap.objs.size+1:=tZ ..;have hI:IsRangeIter ((s₁.heap.push {cls:=.type "range",data:=.fields #[.int a t,.int b u,.int 1 v]}).push {cls:=.type "range_iterator",data:=.fields #[rawInt a,rawInt<|Builtin.Range.rangeSize a b 1,rawInt 1]}) (s₁.heap.objs.size+1) (a+((0:Nat):Int)) ((((b-a).toNat:Nat):Int)-((0:Nat):Int)) 1:=by
  have:=jQ (s₁.heap.push {cls:=.type "range",data:=.fields #[.int a t,.int b u,.int 1 v]}) (o:={cls:=.type "range_iterator",data:=.fields #[rawInt a,rawInt<|Builtin.Range.rangeSize a b 1,rawInt 1]}) rfl;rw[hs1]at this;show Heap.get? _ _=_;rw[this,hsz];simp
 simp only[hs1];exact .mk (Wk.cQ hh) (x.aT<|lz hkp) (T.bi hkp rfl) c hI (H6 T (kj _) ⟨_,hI,vM rfl⟩) λz hz=>Ej x (kj _) hz
theorem To {n:V} {P:V->List V->Prop} (h:im μ 2 n y=some l) (k:∀n:Int,iX n->P (.a n) (gZ 0 (n-0).toNat)):P n l:=by
 cases n with
 |a n=>
  refine iU h (λhn h=>?_) λZ h=>fe h
  cases h;have:=k n (Bool.and_eq_true_iff.1 hn).1;rwa[Int.sub_zero]at this
 |_=>exact fe h
theorem Tp {m n:V} {P:V->V->List V->Prop} (h:im μ 3 m n=some l) (k:∀m n:Int,iX m->iX n->P (.a m) (.a n) (gZ m (n-m).toNat)):P m n l:=by
 cases m with
 |a m=>
  cases n with
  |a n=>
   refine iU h (λhn h=>?_) λZ h=>fe h
   cases h;have q:=Bool.and_eq_true_iff.1 (Bool.and_eq_true_iff.1 hn).1;exact k m n q.1 q.2
  |_=>exact fe h
 |_=>exact fe h
def SI.cF {a:Ex} {target e:Expr} {np:Pos} (hk:sc.names.lookup ("range":Str)=some .globalImplicit) (hg:jS w "range" (.type "range")) (h1:SV w d F sc a e) (hp:f7 e):
  SI w d F sc 2 a (.y .B) target (.Call (.Name ("range":Str) np) [e] [] pos):=λenv E A ρ μ s x y μ1 μ2 l eR T hA v1 v2 hi=>by
 obtain⟨-,rfl⟩:=Prod.mk.inj<|Option.some.inj v2;exact wG hk ay hg (hY.aR hp h1 hY.aS) (by rw[kC,hp];rfl) eR T hA (rT v1) λus s₁ ρ₁ a b c r=>pE r λu r=>
  To (P:=λx l=>eW w ρ₁ s₁.heap x u->wpAny (model pw w) A (PySem.call (.type "range") [u]) (λxv s₁=>wpAny (model pw w) A (pyIter xv) (wH w A target ρ s μ1 l λμ=>fZ 2 x (src μ1 x) μ) fH s₁) fH s₁) hi
   (λn hn r=>jD r λZ=>call_range_1<|wI (target:=target) (ok:=λμ=>fZ 2 (.a n) (MP.src μ1<|.a n) μ) (tk:=s₁.toks+1+1) hA.1 a b c ay hn) r
def SI.cG {a b:Ex} {target e e2:Expr} {np:Pos} (hk:sc.names.lookup ("range":Str)=some .globalImplicit) (hg:jS w "range" (.type "range")) (h1:SV w d F sc a e) (h2:SV w d F sc b e2) (hp:f7 e) (hp2:f7 e2):
  SI w d F sc 3 a b target (.Call (.Name ("range":Str) np) [e,e2] [] pos):=λenv E A ρ μ s x y μ1 μ2 l eR T hA v1 v2 hi=>
 wG hk ay hg (hY.aR hp h1<|hY.aR hp2 h2 hY.aS) (by rw[kC,hp,kC,hp2];rfl) eR T hA (Eh v1 v2) λus s₁ ρ₁ a b c r=>kq r λu Z r rn=>pE rn λu' r'=>
  Tp (P:=λx y l=>eW w ρ₁ s₁.heap x u->eW w ρ₁ s₁.heap y u'->wpAny (model pw w) A (PySem.call (.type "range") [u,u']) (λxv s₁=>wpAny (model pw w) A (pyIter xv) (wH w A target ρ s μ2 l λμ=>fZ 3 x (src μ2 x) μ) fH s₁) fH s₁) hi
   (λm n hm hn r r'=>jD (P:=λu=>wpAny (model pw w) A (PySem.call (.type "range") [u,u']) _ fH s₁) r λZ=>jD r' λZ=>call_range_2<|wI (target:=target) (ok:=λμ=>fZ 3 (.a m) (MP.src μ2<|.a m) μ) (tk:=s₁.toks+1) hA.1 a b c hm hn) r r'
end
section
variable{w:World} {sc:Scope} {env:PySem.Env} {E:Env} {ρ:f8} {h h':Heap}
def f6.br (e:f6 w sc env E ρ h) (k:j8 wr h h') (f:hZ wr ρ h) (hd:∀b∈own env,b∉wr):f6 w sc env E ρ h':=by
 have ow:=λb hb o ho=>k b o (hd b hb) ho
 have cm:∀{n c},env.cells.lookup n=some c->c∈own env:=λhc=>gj _<|fW.mpr ⟨_,mem_of_lookup hc,rfl⟩
 refine⟨e.kind,e.names,e.glob,e.blt,?_,λy v hy hk=>?_,λn hn=>?_,e.apart,⟨λb hb=>⟨(e.off.cls b hb).1,?_⟩,e.off.rho⟩⟩
 .exact e8 e.ns λm hm hr=>⟨m,D9 hm<|ow _ fA,λy v hy hk=>e8 (hr y v hy hk) λu hu r=>⟨u,hu,r.br k f⟩⟩
 .exact kF (e.cell y v hy hk) λc u hc hi r=>⟨c,u,hc,qf hi<|ow _<|cm hc,r.br k f⟩
 .exact ot (e.cells n hn) λc u hc hi=>⟨c,u,hc,qf hi<|ow _<|cm hc⟩
 .obtain⟨_,o,ho,hn⟩:=e.off.cls b hb;exact⟨o,ow b hb o ho,hn⟩
end
inductive wJ (sc:Scope):Bool->List Nat->Expr->Prop
 |aQ {x p}:x<214->(sc.names.lookup (nm x)=some .local\/sc.names.lookup (nm x)=some .cell)->wJ sc true [x] (.Name (nm x) p)
 |v {xs es k p}:TN sc xs es->wJ sc false xs (.Tuple es k p)
section
variable{w:World} {d:Nat} {F:fb} {sc:Scope} {k:Nat} {pos pos':Pos} {env:PySem.Env}
def H7 (t:wJ sc single xs target) (hh:A.handled=none) (eR:f6 w sc env E ρ s.heap) (T:e9 w ρ μ s)
  (r:eW w ρ s.heap v u) (hb:fi E single xs v=some E1) (k:∀s',fM (own env) ρ s.heap ρ s'.heap->e9 w ρ μ s'->s'.os=s.os->f6 w sc env E1 ρ s'.heap->Q () s'):
  wpAny (model pw w) A (assign target env u) Q E' s:=by
 refine ia λG kk=>?_
 cases t with
 |aQ hx hk=>
  simp[fi,pb]at hb;subst hb;apply kk;exact PySem.wpAny_assign_Name<|nZ hx hk eR T r k
 |v t=>
  simp[fi]at hb;split at hb
  .apply kk;exact yt t hh eR T r hb k
  .first|exact fe (by assumption)|contradiction
def fM.bB (x:fM (W++wr) ρ h ρ' h₁) (k:j8 wr h₁ h₂) (hf:∀b∈wr,h.get? b=none):fM W ρ h ρ' h₂:=
 ⟨x.pre,λb o e m hw=>k b o (λq=>by rw[hf b q]at e;cases e) (x.keep b o e m λq=>(fL.mp q).elim hw λq=>by rw[hf b q]at e;cases e),λb e=>by
  by_cases hb:b∈wr
  .exact hf b hb
  .refine x.live b ?_;cases q:h₁.get? b with
   |none=>rfl
   |some o=>rw[k b o hb q]at e;cases e⟩
def zS (F:fb) (single:Bool) (t:List Nat) (body:List St) (v:V) (s:Sg):Option (Flow×Sg):=match fi s.1 single t v with
 |none=>none
 |some E'=>execs aj F body E' s.2
structure yv (w:World) (sc:Scope) (env:PySem.Env) (wr:List Addr) (S:Nat->f8->Heap->Prop) (ρ:f8) (s:Shared) (E:Env) (i:Nat) (μi:H) (ρi:f8) (s':Shared):Prop where
 x:fM (own env++wr) ρ s.heap ρi s'.heap
 t:e9 w ρi μi s'
 o:s'.os=s.os
 e:f6 w sc env E ρi s'.heap
 f:hZ wr ρi s'.heap
 st:S i ρi s'.heap
def Gh (w:World) (F:fb) (sc:Scope) (env:PySem.Env) (single:Bool) (t:List Nat) (body:List St) (ok:H->Bool) (wr:List Addr) (l:List V) (S:Nat->f8->Heap->Prop) (ρ:f8) (s:Shared) (res:Flow×Sg) (n:Nat) (s':Shared):Prop:=
 ∃i Ei μi ρi,n=l.length+1-i/\i<=l.length/\fS (λs:Sg=>ok s.2) (zS F single t body) (l.drop i) (Ei,μi)=some res/\yv w sc env wr S ρ s Ei i μi ρi s'
def wK {res:Flow×σ} (h:fS ok turn (v::r) s=some res):
  ok s/\∃fl s',turn v s=some (fl,s')/\((∃u,fl=.L u/\res=(.L u,s'))\/((fl=.C\/fl=.af)/\fS ok turn r s'=some res)):=by
 have h:(match ok s with
  |true=>match turn v s with
   |none=>none
   |some (.L u,s')=>some (.L u,s')
   |some (_,s')=>fS ok turn r s'
  |false=>none)=some res:=h
 cases hok:ok s with
 |false=>rw[hok]at h;first|exact fe h|exact nomatch h
 |true=>
  rw[hok]at h;cases e:turn v s with
  |none=>rw[e]at h;first|exact fe h|exact nomatch h
  |some p=>
   obtain⟨fl,s'⟩:=p;rw[e]at h;cases fl with
   |L u=>exact⟨rfl,_,_,rfl,.inl ⟨u,rfl,(Option.some.inj h).symm⟩⟩
   |C=>exact⟨rfl,_,_,rfl,.inr ⟨.inl rfl,h⟩⟩
   |af=>exact⟨rfl,_,_,rfl,.inr ⟨.inr rfl,h⟩⟩
def yw {res:Flow×σ} (h:fS ok turn [] s=some res):ok s/\res=(.C,s):=by
 have h:(match ok s with
  |true=>some (.C,s)
  |false=>none)=some res:=h
 cases hok:ok s with
 |false=>rw[hok]at h;first|exact fe h|exact nomatch h
 |true=>rw[hok]at h;exact⟨rfl,(Option.some.inj h).symm⟩
def CX {i n:Nat} (h:i<n):n+1-(i+1)<n+1-i:=Nat.sub_lt_sub_left (Nat.lt_succ_of_lt h)<|Nat.lt_succ_self i
def CY {l:List V} (hv:l[i]?=some v):l.drop i=v::l.drop (i+1):=by
 obtain⟨h1,h2⟩:=ke.mp hv;rw[<-h2];exact List.drop_eq_getElem_cons h1
def Mh {fl:Flow} {v:V} {σ:Type} {res:Flow×σ} {s':σ} {A:Prop} (q:fl=.L v) (h:(∃u,fl=.L u/\res=(.L u,s'))\/((fl=.C\/fl=.af)/\A)):res=(.L v,s'):=by
 subst q;obtain⟨u,z,z'⟩|⟨z,_⟩:=h
 .cases z;exact z'
 .exact z.elim nofun nofun
def AW {fl:Flow} {σ:Type} {res:Flow×σ} {s':σ} {A:Prop} (q:fl=.C\/fl=.af) (h:(∃u,fl=.L u/\res=(.L u,s'))\/((fl=.C\/fl=.af)/\A)):A:=h.elim (λ⟨_,z,_⟩=>by subst z;exact q.elim nofun nofun) λz=>z.2
@[elab_as_elim] theorem Ww {ρ:f8} {h:Heap} {fl:Flow} {f:PySem.Flow} {P:PySem.Flow->Prop} (r:rP w ρ h fl f) (n:fl=.C->P .next) (c:fl=.af->P .cont) (t:∀v u,fl=.L v->eW w ρ h v u->P (.ret u)):P f:=by
 cases r with
 |C=>exact n rfl
 |af=>exact c rfl
 |L q=>exact t _ _ rfl q
theorem Gi {single:Bool} {t:List Nat} {body:List St} {v:V} {s:Sg} {r:Flow×Sg} {G:Prop} (h:zS F single t body v s=some r) (k:∀E',fi s.1 single t v=some E'->execs aj F body E' s.2=some r->G):G:=by
 unfold zS at h;cases e:fi s.1 single t v with
 |none=>rw[e]at h;first|exact fe h|exact nomatch h
 |some E'=>rw[e]at h;exact k _ e h
def Wx {q:Option Value} {R:Prop} {P:Value->Prop}:(∃u,q=some u/\P u)->match q with|none=>R|some v=>P v:=λ⟨_,h,k⟩=>h▸k
section
variable{wr:List Addr} {S:Nat->f8->Heap->Prop} {ρ ρi ρ2:f8} {s s' s2:Shared} {E E1:Env} {i:Nat} {μi μ2:H} {A:Around} {target:Expr} {I:Addr} {l:List V} {ok:H->Bool}
def yv.bQ (L:yv w sc env wr S ρ s E i μi ρi s') (W:Wk w A target I wr l ok S) (hd:∀b∈own env,b∉wr) (x:fM (own env) ρi s'.heap ρ2 s2.heap) (T:e9 w ρ2 μ2 s2) (o:s2.os=s'.os) (e:f6 w sc env E1 ρ2 s2.heap):yv w sc env wr S ρ s E1 i μ2 ρ2 s2:=
 ⟨L.x.aT<|x.bC λb hb=>List.mem_append_left _ hb,T,o.trans L.o,e,L.f.aU x λb hb q=>absurd hb<|hd b q,W.move L.st x L.e.off L.f λb hb q=>hd b q hb⟩
def yv.bE (L:yv w sc env wr S ρ s E i μi ρi s') (hd:∀b∈own env,b∉wr) {h':Heap} {tk:Nat} (k:j8 wr s'.heap h') (f':hZ wr ρi h') (st:S (i+1) ρi h'):yv w sc env wr S ρ s E (i+1) μi ρi {s' with heap:=h',toks:=tk}:=
 ⟨L.x.aT<|(k.bn f').bC λb hb=>List.mem_append_right _ hb,L.t.br (s':={s' with heap:=h',toks:=tk}) k L.f rfl,L.o,L.e.br k L.f hd,f',st⟩
end
def Mi {wr:List Addr} {S:Nat->f8->Heap->Prop} {ρ ρ₂:f8} {s s₂:Shared} {E:Env} {μ2:H} {A:Around} {target:Expr} {I:Addr} {l:List V} {ok:H->Bool} {single:Bool} {t:List Nat} {body:List St} {bodyx:List Stmt} {res:Flow×Sg}
  (tg:wJ sc single t target) (hb:o7 w d F sc body bodyx) (W:Wk w A target I wr l ok S) (hA:jE d A) (hd:∀b∈own env,b∉wr) (L:yv w sc env wr S ρ s E 0 μ2 ρ₂ s₂) (hf:∀b∈wr,s.heap.get? b=none)
  (h:fS (λs:Sg=>ok s.2) (zS F single t body) l (E,μ2)=some res):
  codeAny (model pw w) A (.forLoop target (.ref I) bodyx [] env) (λr s'=>match r with|.ok f=>PS w sc env ρ s res.1 res.2.1 res.2.2 f s'|.error e=>cameBackBy (model pw w) A env E' e s') s₂:=by
 refine codeAny_forLoop_any (Gh w F sc env single t body ok wr l S ρ s res) ?_ _ ⟨0,E,μ2,ρ₂,rfl,ji _,h,L⟩;intro n s' hI;refine ia λG kk=>?_
 obtain⟨i,Ei,μi,ρi,hn,hi,hg,L⟩:=hI;cases hv:l[i]? with
 |none=>
  have hil:=Nat.le_antisymm hi (by simpa using hv);rw[hil,List.drop_length]at hg;obtain⟨hok,q⟩:=yw hg;exact kk<|W.done (hil▸L.st) L.f L.t hok λh' k=>PySem.wpAny_execs_nil<|q▸⟨ρi,jj (L.x.bB k hf) (L.t.br (s':={s' with heap:=h'}) k L.f rfl) L.o (L.e.br k L.f hd) .C⟩
 |some v=>
  have hlt:=(ke.mp hv).1;rw[CY hv]at hg;obtain⟨hok,fl1,s2,e1,hgo⟩:=wK hg;refine Gi e1 λE3 hb3 e1=>kk (gE (W.item hv L.st L.f L.t hok λu h' tk k f' r st'=>?_) (λr s₁ h=>Wx h) λZ Z e=>e)
  have L1:=L.bE (tk:=tk) hd k f' st';refine H7 tg hA.1 L1.e L1.t r hb3 λs'' y1 y2 y3 y4=>?_
  have L2:=L1.bQ W hd y1 y2 y3 y4;refine gE (hb env E3 A ρi μi s'' _ _ _ y4 y2 hA e1) (λf s₃ p=>my p λρ₃ p1 p2 p3 p4 p5=>?_) λZ Z f=>f.elim
  have L3:=L2.bQ W hd p1 p2 p3 p4;have nx:(fl1=.C\/fl1=.af)->∃m,m<n/\Gh w F sc env single t body ok wr l S ρ s res m s₃:=λq=>⟨l.length+1-(i+1),hn▸CX hlt,i+1,s2.1,s2.2,ρ₃,iI rfl hlt (AW q hgo) L3⟩
  exact Ww p5 (λq=>nx (.inl q)) (λq=>nx (.inr q)) λv u q r=>by
   rw[Mh q hgo];exact⟨ρ₃,jj (L3.x.bB (j8.aZ _ _) hf) p2 L3.o p4 (.L r)⟩
def u8 (h:ly iter) (x:Value):foldedSetIterable iter env x=pure x:=by cases iter<;>first|rfl|exact ng h
def SX.dH (tg:wJ sc single t target) (hI:SI w d F sc k a b target iter) (hb:o7 w d F sc body bodyx) (hs:ly iter):
  SX w d F sc (.J single t k a b body) (.For target iter bodyx [] pos):=λenv E A ρ μ s fl E' μ' eR T hA h=>iA h λx μ1 v1 h=>iA h λy μ2 v2 h=>iM h λl hl h=>
 wpAny_For (gE (hI env E A ρ μ s x y μ1 μ2 l eR T hA v1 v2 hl) (λxv s₁ h₁=>gE h₁ (λit s₂ h₂=>by
  obtain⟨I,wr,St,ρ₂,rfl,W,x1,x2,x3,x4,x5,x6⟩:=h₂;exact Mi tg hb W hA (λb hb q=>by
   obtain⟨_,o,e,_⟩:=eR.off.cls b hb;rw[x6 b q]at e;first|exact fe e|exact nomatch e) ⟨x1.bC fF,x2,x3,eR.bn x1,x5,x4⟩ x6 h) λZ Z f=>f.elim) λZ Z f=>f.elim) (u8 hs)
end
section
variable{w:World} {d:Nat} {F:fb} {sc:Scope} {k:Nat} {pos pos':Pos}
def CZ {c:Ex} {E:Env} {μ μ':H} {b:Bool} {G:Prop} (h:evC aj F E (some c) μ=some (b,μ')) (k:∀v,ev aj F E c μ=some (v,μ')->ix μ' v=some b->G):G:=
 iA h λv μ1 e h=>iK h λt ht h=>by cases h;exact k v e ht
theorem gw1 {o:Option (Bool×H)} {k0 k1:H->Option (Flow×Sg)} {r:Flow×Sg} {G:Prop} (h:(match o with
  |none=>none
  |some (false,μ)=>k0 μ
  |some (true,μ)=>k1 μ)=some r) (c0:∀μ,o=some (false,μ)->k0 μ=some r->G) (c1:∀μ,o=some (true,μ)->k1 μ=some r->G):G:=by
 cases o with
 |none=>exact fe h
 |some p=>
  obtain⟨b,μ⟩:=p;cases b with
  |false=>exact c0 μ rfl h
  |true=>exact c1 μ rfl h
theorem gw2 {o:Option (Flow×Sg)} {k:Sg->Option (Flow×Sg)} {r:Flow×Sg} {G:Prop} (h:(match o with
  |none=>none
  |some (.L u,s')=>some (.L u,s')
  |some (_,s')=>k s')=some r) (c:∀fl s',o=some (fl,s')->(∀u,fl=.L u->(fl,s')=r)->((∀u,fl=.L u->False)->k s'=some r)->G):G:=by
 cases o with
 |none=>exact fe h
 |some p=>
  obtain⟨fl,s'⟩:=p;cases fl with
  |L u=>exact c _ s' rfl (λZ Z=>Option.some.inj h) λz=>(z u rfl).elim
  |_=>exact c _ s' rfl (λZ e=>nomatch e) λZ=>h
theorem Co {test:Sg->Option (Bool×H)} {turn:Sg->Option (Flow×Sg)} {r:Flow×Sg} {G:Prop} {n:Nat} {s:Sg} (h:j4 test turn n s=some r)
  (k0:∀μ,test s=some (false,μ)->(.C,(s.1,μ))=r->G) (k1:∀m μ fl s',n=m+1->test s=some (true,μ)->turn (s.1,μ)=some (fl,s')->(∀u,fl=.L u->(fl,s')=r)->((∀u,fl=.L u->False)->j4 test turn m s'=some r)->G):G:=by
 cases n with
 |zero=>exact fe h
 |succ n=>exact gw1 h (λμ e h=>k0 μ e<|Option.some.inj h) λμ e h=>gw2 h λfl s' q kr kn=>k1 n μ fl s' rfl e q kr kn
def WI (w:World) (sc:Scope) (F:fb) (env:PySem.Env) (ρ:f8) (s:Shared) (c:Ex) (body:List St) (r:Flow×Sg) (n:Nat) (s':Shared):Prop:=
 ∃Ei μi ρi,j4 (λs:Sg=>evC aj F s.1 (some c) s.2) (λs:Sg=>execs aj F body s.1 s.2) n (Ei,μi)=some r/\fM (own env) ρ s.heap ρi s'.heap/\e9 w ρi μi s'/\s'.os=s.os/\f6 w sc env Ei ρi s'.heap
def ifT {u:Bool} (r:u) {X Y:Prop} (h:X):if u then X else Y:=by subst r;exact h
def ifF {u:Bool} (r:u=false) {X Y:Prop} (h:Y):if u then X else Y:=by subst r;exact h
def Wy {fl fl':Flow} {p:Sg} {E':Env} {μ':H} {P:Flow->Env->H->Prop} (h:(fl',p)=(fl,(E',μ'))) (k:P fl' p.1 p.2):P fl E' μ':=by cases h;exact k
def Yf {fl:Flow} (e:fl=.C) (u:V) (h:fl=.L u):False:=nomatch e.symm.trans h
def fl2 {fl:Flow} (e:fl=.af) (u:V) (h:fl=.L u):False:=nomatch e.symm.trans h
def SX.cJ {c:Ex} {xc:Expr} {body:List St} {bodyx:List Stmt} (hc:ST w d F sc c xc) (hb:o7 w d F sc body bodyx):SX w d F sc (.ao c body) (.While xc bodyx [] pos):=λenv E A ρ μ s fl E' μ' eR T hA h=>
 wpAny_While (codeAny_whileLoop (WI w sc F env ρ s c body (fl,(E',μ'))) (λn s' hI=>hI.elim λEi hI=>hI.elim λμi hI=>hI.elim λρi hI=>Co hI.1
  (λμ1 t e=>CZ t λv v1 hv=>fN (hc env _ A ρi μi s' _ _ _ hI.2.2.2.2 hI.2.2.1 hA v1 hv) λu s₁ ρ₁ x1 x2 x3 r=>ifF r<|PySem.wpAny_execs_nil<|Wy (P:=λfl E' μ'=>PS w sc env ρ s fl E' μ' .next s₁) e ⟨ρ₁,jj (hI.2.1.aT x1.own) x2 (x3.trans hI.2.2.2.1) (hI.2.2.2.2.bn x1) .C⟩)
  λm μ1 fl1 p hn t q kr kn=>CZ t λv v1 hv=>fN (hc env _ A ρi μi s' _ _ _ hI.2.2.2.2 hI.2.2.1 hA v1 hv) λu s₁ ρ₁ x1 x2 x3 r=>ifT r
   (gE (hb env _ A ρ₁ _ s₁ _ _ _ (hI.2.2.2.2.bn x1) x2 hA q) (λf s₃ y=>my y λρ₃ p1 p2 p3 p4 p5=>
    have nx:=λz=>⟨m,hn▸Nat.lt_succ_self _,p.1,p.2,ρ₃,jj (kn z) ((hI.2.1.aT x1.own).aT p1) p2 (p3.trans<|x3.trans hI.2.2.2.1) p4⟩
    Ww p5 (λe=>nx<|Yf e) (λe=>nx<|fl2 e) λv u e rr=>Wy (P:=λfl E' μ'=>PS w sc env ρ s fl E' μ' (.ret u) s₃) (kr v e) ⟨ρ₃,jj ((hI.2.1.aT x1.own).aT p1) p2 (p3.trans<|x3.trans hI.2.2.2.1) p4<|e▸.L rr⟩)
    λZ Z f=>f.elim)) 80 ⟨E,μ,ρ,jj h (.aZ ..) T rfl eR⟩)
def SX.dZ (hb:o7 w d F sc body bodyx):SX w d F sc (.aG body) (.Try bodyx (h₀::hs) [] [] pos):=λenv E A ρ μ s fl E' μ' eR T hA h=>by
 refine wpAny_Try_except<|gE (hb env E A ρ μ s _ _ _ eR T hA h) (λf s₁ p=>?_) λZ Z f=>f.elim
 cases f with
 |next=>exact PySem.wpAny_execs_nil p
 |_=>exact p
end
section
variable{w:World} {d:Nat} {F:fb} {sc:Scope} {k:Nat} {pos pos':Pos}
def um (h:n<=gH):((n:Nat):Int)<2^63:=by unfold gH at h;lia
def yx {l:List (PyData×V)} (h:jJ l):oC l:=λy v r e=>by
 subst e;cases y<;>first|exact⟨_,rfl⟩|cases h
def rU {n m:Nat} (a:fM [] ρ s.heap ρ₁ s₁.heap) (b:e9 w ρ₁ μ1 s₁) (c:s₁.os=s.os) (e:n=m):PV w ρ s (.a n) μ1 (.int m<|s₁.toks+1) {s₁ with toks:=s₁.toks+1+1}:=by
 subst e;exact(fV.bD b _<|.bY _ _).bj a c
theorem Tq {P:V->V->H->Prop} {x v:V} (h:(match x with
    |.v l=>match Nat.ble l.length gH with
     |true=>some (V.a l.length,μ)
     |false=>none
    |.w l=>match Nat.ble l.length gH with
     |true=>some (.a l.length,μ)
     |false=>none
    |.g k=>match d' μ k with
     |some (.j l)=>match Nat.ble l.length gH with
      |true=>some (.a l.length,μ)
      |false=>none
     |some (.dict l)=>match jJ l&&Nat.ble l.length gH with
      |true=>some (.a l.length,μ)
      |false=>none
     |_=>none
    |_=>none)=some (v,μ')) (kt:∀l,l.length<=gH->P (.v l) (.a l.length) μ) (kl:∀l,l.length<=gH->P (.w l) (.a l.length) μ) (kr:∀k l,d' μ k=some (.j l)->l.length<=gH->P (.g k) (.a l.length) μ)
  (kd:∀k l,d' μ k=some (.dict l)->oC l->l.length<=gH->P (.g k) (.a l.length) μ):P x v μ':=by
 cases x with
 |v l=>exact iU h (λhb h=>iS (P:=λv μ'=>P _ v μ') h<|kt l<|iw hb) λZ h=>fe h
 |w l=>exact iU h (λhb h=>iS (P:=λv μ'=>P _ v μ') h<|kl l<|iw hb) λZ h=>fe h
 |g k=>exact FW h (λl g h=>iU h (λhb h=>iS (P:=λv μ'=>P _ v μ') h<|kr k l g<|iw hb) λZ h=>fe h) λl g h=>iU h (λhb h=>iS (P:=λv μ'=>P _ v μ') h<|kd k l g (yx (Bool.and_eq_true_iff.1 hb).1)<|iw (Bool.and_eq_true_iff.1 hb).2) λZ h=>fe h
 |_=>exact fe h
def SV.len {a:Ex} {e:Expr} {np:Pos} (hk:sc.names.lookup ("len":Str)=some .globalImplicit) (hg:jS w "len" (.builtin "len")) (h1:SV w d F sc a e) (hp:f7 e):
  SV w d F sc (.len a) (.Call (.Name ("len":Str) np) [e] [] pos):=λenv E A ρ μ s v μ' eR T hA h=>
 iA h λx μ1 v1 h=>Eg hk ay hg (hY.aR hp h1 hY.aS) (by rw[kC,hp];rfl) eR T hA (rT v1) λus s₁ ρ₁ a b c r=>pE r λu r=>
  Tq (P:=λx v μ'=>eW w ρ₁ s₁.heap x u->wpAny (model pw w) A (PySem.call (.builtin "len") [u]) (PV w ρ s v μ') fH s₁) h
   (λZ hb r=>qz r λZ Z t1 Z t3=>have e:=t3.aV.trans j6;PyProof.Rows.len_tuple t1 (by rw[<-e];exact um hb) (rU a b c e))
   (λZ hb r=>mh r λZ Z t1 Z t3=>have e:=t3.aV.trans j6;Calls.call_len_list t1 (by rw[<-e];exact um hb) (rU a b c e))
   (λZ Z hl hb r=>mi (P:=λu=>wpAny (model pw w) A (PySem.call (.builtin "len") [u]) _ fH s₁) b r hl λZ Z Z t1 t3=>have e:=t3.aV.trans j6;Calls.call_len_list t1 (by rw[<-e];exact um hb) (rU a b c e))
   (λZ Z hl hI hb r=>dI (P:=λu=>wpAny (model pw w) A (PySem.call (.builtin "len") [u]) _ fH s₁) b r hl hI λZ Z Z hs g1 g2=>have e:=g2.aV.trans<|fk ..;call_len_dict (knd:=intKind pw w) hs g1 (by rw[<-e];exact um hb) (rU a b c e)) r
def SV.eG {a:Ex} {e:Expr} {np:Pos} (hk:sc.names.lookup ("chr":Str)=some .globalImplicit) (hg:jS w "chr" (.builtin "chr")) (h1:SV w d F sc a e) (hp:f7 e):
  SV w d F sc (.aM a) (.Call (.Name ("chr":Str) np) [e] [] pos):=λenv E A ρ μ s v μ' eR T hA h=>by
 refine iF h λi μ1 v1 h=>iU h (λhc h=>?_) λZ h=>?_
 .refine iS h ?_;refine Eg hk ay hg (hY.aR hp h1 hY.aS) (by simp[hp]) eR T hA (rT v1) λus s₁ ρ₁ a b c r=>?_
  cases r with
  | @aR _ u _ us r rn=>
  refine nH rn ?_;cases r;unfold Kg at hc;simp only[jd,kD]at hc;exact P.chr_of_int (by simp only[Bool.or_eq_false_iff,decide_eq_false_iff_not];constructor<;>lia) ((fV.bD b _<|.ck _ _).bj a c)
 .first|exact fe (by assumption)|contradiction
def Gj:∀{i:Int},zI i->(Str.ofString<|toString i)=⟨⟨[48+i.toNat]⟩⟩:=by
 intro i h;unfold zI at h;simp[jd,kD]at h;obtain⟨n,rfl⟩:=Int.eq_ofNat_of_zero_le h.1;have hn:n<10:=eZ;exact nf (P:=λn=>Str.ofString (toString (n:Int))=⟨⟨[48+(n:Int).toNat]⟩⟩) ay (nf ay<|nf ay<|nf ay<|nf ay<|nf ay<|nf ay<|nf ay<|nf ay<|nf ay Nm) n hn
def SV.dV {a:Ex} {e:Expr} {np:Pos} (hk:sc.names.lookup ("str":Str)=some .globalImplicit) (hg:jS w "str" (.type "str")) (h1:SV w d F sc a e) (hp:f7 e):
  SV w d F sc (.aJ a) (.Call (.Name ("str":Str) np) [e] [] pos):=λenv E A ρ μ s v μ' eR T hA h=>by
 refine iF h λi μ1 v1 h=>iU h (λhc h=>?_) λZ h=>?_
 .refine iS h ?_;refine wG hk ay hg (hY.aR hp h1 hY.aS) (by simp[hp]) eR T hA (rT v1) λus s₁ ρ₁ a b c r=>?_
  cases r with
  | @aR _ u _ us r rn=>
  refine nH rn ?_;cases r;have hd:=hc;unfold zI at hc;simp only[jd,kD]at hc;refine P.str_of_int ?_ ?_
  .have hn:i.natAbs<10:=eZ;by_cases h0:i.natAbs=0
   .rw[h0];decide
   .have:=(Nat.log2_lt (k:=4) h0).mpr<|nA ‹_› ay;lia
  .rw[Gj hd];exact(fV.bD b _<|.ck _ _).bj a c
 .first|exact fe (by assumption)|contradiction
def Tr {n m:Nat} (e:n=m) (hb:Nat.ble n gH):m<=sizeLine:=e▸al_81 (iw hb) ay
def SV.dW {a:Ex} {e:Expr} {np:Pos} (hk:sc.names.lookup ("tuple":Str)=some .globalImplicit) (hg:jS w "tuple" (.type "tuple")) (h1:SV w d F sc a e) (hp:f7 e):
  SV w d F sc (.aA a) (.Call (.Name ("tuple":Str) np) [e] [] pos):=λenv E A ρ μ s v μ' eR T hA h=>
 iA h λx μ1 v1 h=>iM h λl hi h=>iU h (λhb h=>iS h (wG hk ay hg (hY.aR hp h1 hY.aS) (by rw[kC,hp];rfl) eR T hA (rT v1) λus s₁ ρ₁ a b c r=>pE r λu r=>
  AV (P:=λZ u=>wpAny (model pw w) A (PySem.call (.type "tuple") [u]) (PV w ρ s (.v l) μ1) fH s₁) b hi r
   (λZ Z t1 Z r=>call_tuple_same t1<|(fV.aW b r).bj a c)
   (λZ Z us Z Z t1 Z Z t3=>call_tuple_list t1 (λh' hk'=>fV.bj (s':={s₁ with heap:=h'}) (a.aT<|lz hk') c<|vD (b.bi (s':={s₁ with heap:=h'}) hk' rfl) (t3.aU (W:=[]) (lz hk')<|.aS ..) s₁.toks)<|Tr (t3.aV.trans j6) hb))) λZ h=>fe h
end
section
variable{w:World} {d:Nat} {F:fb} {sc:Scope} {k:Nat} {pos pos':Pos}
def rV {ty id:String}
  (pa:PlainAttrs ty) (slot:Slot ty name id) (hty:typeOf (.builtin id)=pure (.type "method_descriptor")) (h0:SV w d F sc o xo) (hb:lW xo=true) (h1:hY w d F sc es (y::ys)) (hp:(y::ys).all f7=true) (hn:(y::ys).length<30) (hpos:(apos.endLine==pos.line)=true)
  (eR:f6 w sc env E ρ s.heap) (T:e9 w ρ μ s) (hA:jE d A) (v0:ev aj F E o μ=some (x,μ1)) (v1:evs aj F E es μ1=some (vs,μ2))
  (hT:∀u s₁ ρ₁,e9 w ρ₁ μ1 s₁->eW w ρ₁ s₁.heap x u->s₁.TypeIs u ty/\∀a,u=.ref a->∃ob,s₁.heap.get? a=some ob/\ob.dict=none)
  (h:∀u us s₂ ρ₂,fM [] ρ s.heap ρ₂ s₂.heap->e9 w ρ₂ μ2 s₂->s₂.os=s.os->eW w ρ₂ s₂.heap x u->RelVs w ρ₂ s₂.heap vs us->wpAny (model pw w) A (call (.builtin id) (u::us)) Q E' s₂):
  wpAny (model pw w) A (eval (.Call (.Attribute xo name apos) (y::ys) [] pos) env) Q E' s:=by
 have hp0:f7 y=true:=by simp only[kC,jd]at hp;exact hp.1
 refine wpAny_Call_method (rN hb) ?_ hpos pa slot hty (fN (h0 env E A ρ μ s _ _ eR T hA v0) λu s₁ ρ₁ a b c r=>⟨(hT u s₁ ρ₁ b r).1,(hT u s₁ ρ₁ b r).2,?_⟩)
 .rw[rO hp]
  show(true&&true&&decide _)=true
  simpa using hn
 .have g:=h1 env E A ρ₁ μ1 s₁ vs μ2 pos (eR.bn a) b hA v1
  have pa':=nj (pos:=pos) (env:=env) hp
  rw[ja hp0]at pa' g⊢
  exact Calls.callWith_builtin pa' (PySem.Calls.evalArgs_plain (fN g λus s₂ ρ₂ x1 y1 z1 r1=>h u us s₂ ρ₂ (a.aT x1) y1 (z1.trans c) (r.aU x1 (.aS ..)) r1))
def AX {items:Array Value} (hl:s.heap.IsList l items) (nd:th s.heap l)
  (hQ:∀h',h'.IsList l (items.push x)->th h' l->Heap.SameBut l s.heap h'->Q .none {s with heap:=h'}) (hsz:items.size<=sizeLine):
  wpAny (model pw w) A (call (.builtin "list.append") [.ref l,x]) Q E s:=by
 refine ia λG kk=>?_
 obtain⟨o,ho,hc,n,hd⟩:=id hl
 refine e8 nd λo2 ho2 hnd=>?_
 apply kk
 rw[ho]at ho2;cases ho2
 obtain⟨n',hd'⟩:=Obj.data_mapSeq hd _
 refine PySem.wpAny_call_entry slot_list_append hl.typeIs entry_list_append ?_ (args_list_append _ _)
 show wpAny _ _ (updateSeq l _>>=λZ=>ret .none) _ _ s
 refine eX ?_
 refine wpAny_updateSeq ho hd (fD ⟨.none,rfl,hQ _ ?_ ?_ (rp ..)⟩)
 .exact⟨_,pV _ ho (PySem.Obj.isFreed_of_seq hd'),(Obj.cls_mapSeq ..).trans hc,n',hd'⟩
 .exact⟨_,pV _ ho (PySem.Obj.isFreed_of_seq hd'),(u6 ..).trans hnd⟩
def P6 (h:wg μ k=true):∃l,d' μ k=some (.j l):=by
 unfold wg at h
 split at h
 .exact⟨_,by assumption⟩
 .first|exact fe (by assumption)|contradiction
def yy {A:Around} {ρ:f8} {μ μ':H} {s:Shared} {q:Nat} {x:V} {u z:Value} (T:e9 w ρ μ s) (r:eW w ρ s.heap (.g q) u) (rz:eW w ρ s.heap x z) (h:kG μ q x=some μ'):
  wpAny (model pw w) A (call (.builtin "list.append") [u,z]) (PV w ρ s .B μ') fH s:=iH h λl hl h=>iD h λhb h=>by
 obtain rfl:=Option.some.inj h
 refine DB (ud T r hl) λy xs e e1 t1 t3=>?_
 subst e
 have e:=t3.aV.trans j6
 refine AX t1 (AB T e1 hl) (λh' hl' hn' hs'=>?_) (e▸al_81 (iw hb) ay)
 have up:=e9.cL (s':={s with heap:=h'}) (o':=.j (l++[x])) T e1 (λb o hb ho=>hs'.extBut b o hb ho) (yk hl') rfl
  λx1 Z=>.bh hl' hn' ((show (xs.push z).toList=xs.toList++[z] from Array.toList_push ..).symm▸(t3.aU x1 (.aS ..)).b0 (.aR (rz.aU x1 (.aS ..)) .aS))
 exact⟨ρ,iI up.1 up.2 rfl .bv⟩
def SV.ba {o a:Ex} {xo e:Expr} {apos:Pos} (h0:SV w d F sc o xo) (hb:lW xo=true) (h1:SV w d F sc a e) (hp:f7 e=true) (hpos:(apos.endLine==pos.line)=true):
  SV w d F sc (.Z o a) (.Call (.Attribute xo ("append":Str) apos) [e] [] pos):=λenv E A ρ μ s v μ' eR T hA h=>
 iE h λq μ1 v0 h=>iD h λhL h=>iA h λx μ2 v1 h=>iL h λμ3 ha h=>iS h (rV PySem.F.plainAttrs_list PySem.F.slot_list_append PySem.F.type_list_append h0 hb (hY.aR hp h1 hY.aS) (by simp[hp]) fF hpos eR T hA v0 (rT v1)
  (λu s₁ ρ₁ b r=>by
   obtain⟨l,hl⟩:=P6 hL
   obtain⟨y,xs,rfl,e1,t1,_⟩:=ud b r hl
   exact⟨t1.typeIs,(AB b e1 hl).eE⟩)
  λu us s₂ ρ₂ a2 b2 c2 r rs=>pE rs λz rz=>lx a2 c2 (yy b2 r rz ha))
def rW (f:lO w ρ h x y) (r:eW w ρ h u z):eW w ρ h (x.getD u) (y.getD z):=by
 cases x<;>cases y<;>first|exact r|exact f|exact f.elim
theorem iDb {o:Option O} (h:(match o with
  |some (.dict _)=>true
  |_=>false)=true) {G:Prop} (k:∀l,o=some (.dict l)->G):G:=by
 cases o with
 |none=>cases h
 |some o=>
  cases o with
  |dict l=>exact k l rfl
  |_=>cases h
theorem isDc {P:V->Prop} (h:sS μ x=true) (kc:∀l,P (.ac l)) (kr:∀k l,d' μ k=some (.dict l)->P (.g k)):P x:=by
 cases x with
 |ac l=>exact kc l
 |g k=>exact iDb h (kr k)
 |_=>exact nomatch (show false=true from h)
def tC (T:e9 w ρ μ s) (hD:sS μ x=true) (r:eW w ρ s.heap x u):s.TypeIs u "dict"/\∀a,u=.ref a->∃ob,s.heap.get? a=some ob/\ob.dict=none:=
 isDc (P:=λx=>eW w ρ s.heap x u->s.TypeIs u "dict"/\∀a,u=.ref a->∃ob,s.heap.get? a=some ob/\ob.dict=none) hD (λZ r=>wo r λZ Z Z Z h1 Z Z=>⟨h1.typeIs,h1.mapOf.noDict⟩)
  (λZ Z hl r=>xA r λp e=>Pw (Px (T.obj _ _ _ hl e)▸T.obj _ _ _ hl e) (λZ g1 Z=>⟨g1.typeIs,g1.mapOf.noDict⟩) λZ g1 Z=>⟨g1.typeIs,dictOfH_noDict g1⟩) r
theorem dgc {P:V->V->V->H->Prop} {o j z v:V} (h:(match(generalizing:=false) o with
   |.ac l=>match(generalizing:=false) j with
    |.a i=>some ((mc i l).getD z,μ)
    |_=>none
   |.g a=>match d' μ a with
    |some (.dict l)=>match gq μ j l with
     |some d=>some ((gf d l).getD z,μ)
     |none=>none
    |_=>none
   |_=>none)=some (v,μ')) (kc:∀l i,P (.ac l) (.a i) ((mc i l).getD z) μ) (kd:∀k l d,d' μ k=some (.dict l)->gq μ j l=some d->P (.g k) j ((gf d l).getD z) μ):P o j v μ':=by
 cases o with
 |ac l=>
  cases j with
  |a i=>exact iS (P:=λv μ'=>P _ _ v μ') h (kc l i)
  |_=>exact fe h
 |g k=>exact Wq h λl g h=>iN h λd q h=>iS (P:=λv μ'=>P _ _ v μ') h (kd k l d g q)
 |_=>exact fe h
def Mj {A:Around} {ρ:f8} {μ:H} {s:Shared} {o j z v:V} {uo uj uz:Value} (hu:A.units+100<cLine) (T:e9 w ρ μ s) (ro:eW w ρ s.heap o uo) (rj:eW w ρ s.heap j uj) (rz:eW w ρ s.heap z uz)
  (h:(match(generalizing:=false) o with
   |.ac l=>match(generalizing:=false) j with
    |.a i=>some ((mc i l).getD z,μ)
    |_=>none
   |.g a=>match d' μ a with
    |some (.dict l)=>match gq μ j l with
     |some d=>some ((gf d l).getD z,μ)
     |none=>none
    |_=>none
   |_=>none)=some (v,μ')):wpAny (model pw w) A (call (.builtin "dict.get") [uo,uj,uz]) (PV w ρ s v μ') fH s:=
 dgc (P:=λo j v μ'=>eW w ρ s.heap o uo->eW w ρ s.heap j uj->wpAny (model pw w) A (call (.builtin "dict.get") [uo,uj,uz]) (PV w ρ s v μ') fH s) h
  (λZ i ro rj=>jD (P:=λuj=>wpAny (model pw w) A (call (.builtin "dict.get") [uo,uj,uz]) _ fH s) rj λZ=>wo (P:=λuo=>wpAny (model pw w) A (call (.builtin "dict.get") [uo,_,uz]) _ fH s) ro λx Z Z h00 h1 Z h3=>
   call_meetsIn PySem.F.slot_dict_get h1.typeIs PySem.F.entry_dict_get (PySem.F.args_dict_get_3 _ _ _) (meets_dict_get_default (intKind pw w) x (k:=i) (by simp[intKind,Value.isInt]) (PF h00) uz) ⟨_,h1.mapOf,fV.bD T _ (rW (AE (k:=i) h3) rz)⟩)
  (λZ l Z hg he ro rj=>Eb (P:=λuo uj e=>wpAny (model pw w) A (call (.builtin "dict.get") [uo,uj,uz]) (PV w ρ s ((gf e l).getD z) μ) fH s) T ro hg he rj
   (λx i Z Z Z hs g1 g2=>call_meetsIn PySem.F.slot_dict_get g1.typeIs PySem.F.entry_dict_get (PySem.F.args_dict_get_3 _ _ _) (meets_dict_get_default (intKind pw w) x (k:=i) (by simp[intKind,Value.isInt]) hs uz) ⟨_,g1.mapOf,fV.bD T _ (rW (tl (k:=i) g2) rz)⟩)
   (λx y e xs Z hs hk g1 g2=>call_meetsIn PySem.F.slot_dict_get g1.typeIs PySem.F.entry_dict_get (PySem.F.args_dict_get_3 _ _ _) (meetsH_dict_get_default (nI w) x y hs uz) ⟨Kq hu,e,xs,hk,g1,fV.bD T _ (rW (AF hk.2.1 (zQ g1) g2) rz)⟩)) ro rj
def SV.dL {o a z:Ex} {xo e e2:Expr} {apos:Pos} (h0:SV w d F sc o xo) (hb:lW xo=true) (h1:SV w d F sc a e) (h2:SV w d F sc z e2) (hp:f7 e=true) (hp2:f7 e2=true) (hpos:(apos.endLine==pos.line)=true):
  SV w d F sc (.av o a z) (.Call (.Attribute xo ("get":Str) apos) [e,e2] [] pos):=λenv E A ρ μ s v μ' eR T hA h=>by
 refine ia λG kk=>?_
 refine iA h λx μ1 v0 h=>?_
 refine iU h (λhD h=>?_) λZ h=>?_
 .refine iA h λj μ2 v1 h=>?_
  refine iA h λu μ3 v2 h=>?_
  apply kk
  refine rV PySem.F.plainAttrs_dict PySem.F.slot_dict_get PySem.F.type_dict_get h0 hb (hY.aR hp h1 (hY.aR hp2 h2 hY.aS)) (by simp[hp,hp2]) fF hpos eR T hA v0 (Eh v1 v2) (λu s₁ ρ₁ b r=>tC b hD r) λu us s₂ ρ₂ a2 b2 c2 r rs=>?_
  cases rs with
  | @aR _ z1 _ us r1 rs=>
  cases rs with
  | @aR _ z2 _ us r2 rs=>
  refine nH rs ?_
  exact lx a2 c2 (Mj (nY hA) b2 r r1 r2 h)
 .first|exact fe (by assumption)|contradiction
end
section
variable{K:Type} [DecidableEq K] {w:World} {knd:KeyKind pw w K} {A:Around} {E:Value->Shared->Prop} {s:Shared}
def rY {key dflt v:Value} (hkey:knd.is k key) (hm:s.heap.DictOf knd d kvs) (hv:valueAt kvs k=some v)
  (hQ:Q v {s with toks:=s.toks+1}):wpAny (model pw w) A (dictSetDefault d key dflt) Q E s:=by
 refine pY hm λo es ep ho hc hd hk hp hn=>?_
 unfold dictSetDefault
 try with_reducible refine mf ?_
 refine eX<|knd.pyHash hkey ?_;refine eX<|wpAny_dictFind_of hkey ho hd hk ?_;have hf:findBy knd.is es k=some v:=by
  have:=hp.find k;simp only[hv]at this;unfold findBy;rw[<-Array.find?_toList];exact this
 cases hi:es.findIdx? λe=>knd.is k e.key with
 |some i=>
  have hfk:findBy knd.is es k=(es[i]?).map (·.val):=by rw[findBy_of_findIdx?,hi]
  refine eX<|wpAny_dictEntries ho hd ?_;cases he:es[i]? with
  |none=>
   rw[he,hf]at hfk
   first|exact fe hfk|exact nomatch hfk
  |some e=>
   simp only[he,hf]at hfk;simp[Option.map_some,pb]at hfk;exact eX<|wpAny_rule<|fD<|hfk▸hQ
 |none=>
  have hfk:findBy knd.is es k=none:=by rw[findBy_of_findIdx?,hi]
  rw[hf]at hfk;first|exact fe hfk|exact nomatch hfk
def qi {key dflt:Value} (hT:s.TypeIs (.ref d) "dict") (hd:(d==sysModules)=false) (h:wpAny (model pw w) A.in1 (dictSetDefault d key dflt) Q E s):
  wpAny (model pw w) A (call (.builtin "dict.setdefault") [.ref d,key,dflt]) Q E s:=by
 refine PySem.wpAny_call_entry PySem.F.slot_dict_setdefault hT PySem.F.entry_dict_setdefault ?_<|PySem.F.args_dict_setdefault_3 _ _ _;refine eX<|eX<|wpAny_notOrdered_dict hT ?_;refine fD ?_;show wpAny _ _ (if _=true then _ else _) _ _ s;rw[ff (by simp_all)];exact eX (gE h (λv s' hq=>fD ⟨v,rfl,hq⟩) λZ Z e=>e)
end
def H8 (h:a<μ.length):fc (μ++[x]) a o=fc μ a o++[x]:=by
 simp only[uc,uc,List.set_append_left _ _ h]
def C0 (h:d' μ a=some o):a<μ.length:=by
 rw[mD]at h;exact(ke.mp h).1
def H9 (h:d' μ a=some o):d' (μ++[x]) a=some o:=by
 rw[mD,nw<|C0 h,<-mD];exact h
section
variable{w:World} {d:Nat} {F:fb} {sc:Scope} {k:Nat} {pos pos':Pos}
set_option tactic.hygienic true in
def P7 (q:Nat) (μ2:H) (i:Int) (l:List (PyData×V)):Option (V×H):=match gf (.int i) l with
 |some v=>some (v,μ2)
 |none=>match Nat.ble l.length gH with
  |true=>some (.g μ2.length,fc μ2 q (.dict<|jn (.int i) (.g μ2.length) l)++[.j []])
  |false=>none
def sdl_c {G:Prop} (h:ev aj F E (.aF o a) μ=some (v,μ')) (k:∀q μ1 i μ2 l,ev aj F E o μ=some (.g q,μ1)->sS μ1 (.g q)->ev aj F E a μ1=some (.a i,μ2)->d' μ2 q=some (.dict l)->oC l->P7 q μ2 i l=some (v,μ')->G):G:=
 iE h λq μ1 v0 h=>iD h λhD h=>iA h λj μ2 v1 h=>Wq h λl hg h=>by
  cases j with
  |a i=>exact iD h λhI h=>k q μ1 i μ2 l v0 hD v1 hg (yx hI) h
  |_=>exact fe h
theorem Ts {P:V->H->Prop} (h:P7 q μ2 i l=some (v,μ')) (k:∀v,gf (.int i) l=some v->P v μ2) (k':gf (.int i) l=none->l.length<=gH->P (.g μ2.length) (fc μ2 q (.dict<|jn (.int i) (.g μ2.length) l)++[.j []])):P v μ':=by
 unfold P7 at h;cases f:gf (.int i) l with
 |some x=>rw[f]at h;exact iS h<|k x f
 |none=>
  rw[f]at h;exact iU h (λhb h=>iS h<|k' f<|iw hb) λZ h=>fe h
theorem fnN {h:Heap} {o:Option V} {p:Option Value} (f:lO w ρ h o p) (e:o=Option.none):p=Option.none:=by
 subst e;cases p with
 |none=>rfl
 |some y=>exact f.elim
def sdm {j:Int} {l:List (PyData×V)} {kvs:List (Int×Value)} {q x:Nat} {z} {h' tk} (a2:fM [] ρ s.heap ρ₂ s₂.heap) (b2:e9 w ρ₂ (μ2++[.j []]) s₂) (c2:s₂.os=s.os) (hg:d' μ2 q=some (.dict l)) (hx:ρ₂[q]?=some (x,x)) (g1:s₂.heap.DictOf (intKind pw w) x kvs) (g2:gW w ρ₂ s₂.heap l (kvs.map λp=>(.int p.1,p.2)))
  (r2:eW w ρ₂ s₂.heap (.g μ2.length) z) (hd':h'.DictOf (intKind pw w) x (stored kvs j z)) (hs':Heap.SameBut x s₂.heap h'):
  PV w ρ s (.g μ2.length) (fc μ2 q (.dict<|jn (.int j) (.g μ2.length) l)++[.j []]) z {s₂ with heap:=h',toks:=tk}:=
 have up:=e9.cL (s':={s₂ with heap:=h',toks:=tk}) (o':=.dict<|jn (.int j) (.g μ2.length) l) b2 hx (λb o hb ho=>hs'.extBut b o hb ho) (CK hd') rfl
  (λx1 Z=>.bu hd'<|Kx (r2.aU x1<|.aS ..) (Wv g1)<|g2.aU x1<|.aS ..)
 ⟨ρ₂,iI (a2.aT up.1) (H8 (C0 hg)▸up.2) c2<|r2.aU up.1<|.aS ..⟩
def SV.d9 {o a:Ex} {xo e:Expr} {apos lpos:Pos} (h0:SV w d F sc o xo) (hb:lW xo) (h1:SV w d F sc a e) (hp:f7 e) (hpos:(apos.endLine==pos.line)):
  SV w d F sc (.aF o a) (.Call (.Attribute xo ("setdefault":Str) apos) [e,.List [] lpos] [] pos):=λenv E A ρ μ s v μ' eR T hA h=>
 sdl_c h λq μ1 i μ2 l v0 hD v1 hg hI h=>Ts (P:=λv μ'=>wpAny (model pw w) A (eval (.Call (.Attribute xo ("setdefault":Str) apos) [e,.List [] lpos] [] pos) env) (PV w ρ s v μ') fH s) h
  (λv hf=>have hl:ev aj F E (.w []) μ2=some (.w [],μ2):=rfl
   rV PySem.F.plainAttrs_dict PySem.F.slot_dict_setdefault PySem.F.type_dict_setdefault h0 hb (hY.aR hp h1<|hY.aR rfl (SV.bo (pos:=lpos) hY.aS fF) hY.aS) (by rw[kC,hp];rfl) fF hpos eR T hA v0 (Eh v1 hl) (λu s₁ ρ₁ b r=>tC b hD r) λu us s₂ ρ₂ a2 b2 c2 r rs=>
   kq rs λz1 us r1 rs=>pE rs λz2 r2=>jD r1 λZ=>dI (P:=λu=>wpAny (model pw w) A (PySem.call (.builtin "dict.setdefault") [u,_,z2]) _ fH s₂) b2 r hg hI λx kvs Z hs g1 g2=>
   PL (tl (k:=i) g2) hf λy hv f=>qi g1.typeIs hs<|rY (knd:=intKind pw w) (k:=i) (by simp[intKind,Value.isInt]) g1 hv<|(fV.bD b2 _ f).bj a2 c2)
  (λhf hbg=>have hl:ev aj F E (.N []) μ2=some (.g μ2.length,μ2++[.j []]):=rfl
   rV PySem.F.plainAttrs_dict PySem.F.slot_dict_setdefault PySem.F.type_dict_setdefault h0 hb (hY.aR hp h1<|hY.aR rfl (SV.cy (pos:=lpos) hY.aS fF) hY.aS) (by rw[kC,hp];rfl) fF hpos eR T hA v0 (Eh v1 hl) (λu s₁ ρ₁ b r=>tC b hD r) λu us s₂ ρ₂ a2 b2 c2 r rs=>
   kq rs λz1 us r1 rs=>pE rs λz2 r2=>jD r1 λZ=>dI (P:=λu=>wpAny (model pw w) A (PySem.call (.builtin "dict.setdefault") [u,_,z2]) _ fH s₂) b2 r (H9 hg) hI λx kvs hx hs g1 g2=>
   qi g1.typeIs hs (kt_dictSetDefault_pairs (knd:=intKind pw w) (k:=i) (by simp[intKind,Value.isInt]) g1 (λZ e=>fe<|(fnN (tl (k:=i) g2) hf).symm.trans e) (λZ h' hd' hs'=>sdm a2 b2 c2 hg hx g1 g2 r2 hd' hs')<|H3 g2 hbg))
end
section
variable{w:World} {d:Nat} {F:fb} {sc:Scope} {k:Nat} {pos pos':Pos}
theorem RelVs.cH {ρ:f8} {h:Heap}:∀(n:Nat) {l us},RelVs w ρ h l us->RelVs w ρ h (l.drop n) (us.drop n)
 |0,_,_,r=>r
 |n+1,_,_,.aS=>.aS
 |n+1,_,_,.aR _ r=>RelVs.cH n r
theorem RelVs.cB {ρ:f8} {h:Heap}:∀(n:Nat) {l us},RelVs w ρ h l us->RelVs w ρ h (l.take n) (us.take n)
 |0,_,_,_=>.aS
 |n+1,_,_,.aS=>.aS
 |n+1,_,_,.aR a r=>.aR a (RelVs.cB n r)
def C1 (hp:part n v=some a) (r:eW w ρ h v u):∃lo,IsPart u lo/\((lo=none/\a=n)\/lo=some (a:Int)):=by
 cases v with
 |B=>refine rH r ?_;simp[part,pb]at hp;exact⟨none,.none,.inl ⟨rfl,hp.symm⟩⟩
 |a i=>
  cases r
  simp[part]at hp
  split at hp
  .rename_i h0
   cases hp
   have:=jA h0
   exact⟨some i,.int i _,.inr (by grind)⟩
  .first|exact fe (by assumption)|contradiction
 |_=>simp[part]at hp
theorem P8 {α:Type} (l:List α) (a b:Nat):(l.drop (min a l.length)).take (min b l.length-min a l.length)=(l.take b).drop a:=by
 rw[List.take_eq_take_min (l:=l) (i:=b),List.drop_take]
 by_cases h:a<=l.length
 .rw[Nat.min_eq_left h]
 .rw[Nat.min_eq_right (Nat.le_of_not_le h),List.drop_length,List.drop_eq_nil_of_le (Nat.le_of_not_le h),List.take_nil,List.take_nil]
def Mk {lo hi:Option Int} {a b:Nat} (h1:(lo=none/\a=0)\/lo=some (a:Int)) (h2:(hi=none/\b=us.size)\/hi=some (b:Int)):slicePick us lo hi none=((us.toList.take b).drop a).toArray:=by
 rw[slicePick_plain,<-P8]
 have e1:lo.elim 0 (clipAt us.size)=min a us.size:=by
  obtain⟨rfl,rfl⟩|rfl:=h1
  .simp
  .exact clipAt_nat _ _
 have e2:hi.elim us.size (clipAt us.size)=min b us.size:=by
  obtain⟨rfl,rfl⟩|rfl:=h2
  .simp
  .exact clipAt_nat _ _
 rw[e1,e2,j6]
inductive SP (w:World) (d:Nat) (F:fb) (sc:Scope):Ex->Option Expr->Prop
 |dU:SP w d F sc (.y .B) none
 |cI {e x}:SV w d F sc e x->SP w d F sc e (some x)
def SP.run {e:Ex} {x:Option Expr} (h:SP w d F sc e x) {env:PySem.Env} {E:Env} {A:Around} {ρ:f8} {μ:H} {s:Shared} {v:V} {μ':H} (eR:f6 w sc env E ρ s.heap) (T:e9 w ρ μ s) (hA:jE d A) (hv:ev aj F E e μ=.some (v,μ')):
  wpAny (model pw w) A (evalPart x env) (PV w ρ s v μ') fH s:=by
 cases h with
 |dU=>
  obtain⟨rfl,rfl⟩:=Prod.mk.inj (Option.some.inj hv)
  exact wpAny_evalPart_none (fV.aW T .bv)
 |cI h=>exact wpAny_evalPart_some (h env E A ρ μ s v μ' eR T hA hv)
def H' (l u:Option Expr) (p:Pos) (o i:Value):subscripted (.Slice l u none p) false o i=operate [i,o] (getItem o i):=rfl
set_option tactic.hygienic true in
def Gk {lo hi r:V} (T:e9 w ρ μ s) (hl:s.heap.IsList ax us) (hr:RelVs w ρ s.heap l us.toList) (rl:eW w ρ s.heap lo ul) (rh:eW w ρ s.heap hi uu) (h:rB l lo hi=some r):
  wpAny (model pw w) A (subscriptTail value (.Slice lower upper none p) (.ref ax) (.ref s.heap.objs.size)) (PV w ρ s r μ) fH {s with heap:=s.heap.push {cls:=.type "slice",data:=.fields #[ul,uu,.none]}}:=by
 refine ia λG kk=>?_
 unfold rB at h
 split at h
 .first|exact fe h|exact nomatch h
 .rename_i a ha
  split at h
  .first|exact fe h|exact nomatch h
  .rename_i b hb
   refine iU h (λhbg h=>?_) λZ h=>?_
   .cases h
    refine e8 (C1 ha rl) λxlo pl hlo=>?_
    refine e8 (C1 hb rh) λxhi pu hhi=>?_
    have e:=hr.aV.trans j6
    rw[e]at hhi
    have hl':=hl.push {cls:=.type "slice",data:=.fields #[ul,uu,.none]}
    apply kk
    refine tail_any (Heap.IsList.typeIs hl') list_getitem_lookup
     (wpAny_getItem_list_slice hl' (Heap.IsSliceOf.new ..) pl pu .none fF ?_ (by simp only[<-e,kE];have:=iw hbg;unfold gH at this;lia)) (H' ..)
    rw[Mk hlo hhi]
    have T':e9 w ρ μ {s with heap:=s.heap.push {cls:=.type "slice",data:=.fields #[ul,uu,.none]}}:=T.bi (λZ Z q=>iV _ q) rfl
    exact fV.bj (s':={s with heap:=s.heap.push {cls:=.type "slice",data:=.fields #[ul,uu,.none]}}) (e9.bg _) rfl (tj T' (by simpa using((hr.aU (e9.bg _) (.aS ..)).cB b).cH a) _)
   .cases h
theorem Tt {o y z r:V} (h:qF μ o y z=some r) {P:V->Prop} (kl:∀l,rB l y z=some r->P (.w l)) (kr:∀k l,d' μ k=some (.j l)->rB l y z=some r->P (.g k)):P o:=by
 cases o with
 |w l=>exact kl l h
 |g k=>exact iH h λl g h=>kr k l g h
 |_=>exact fe h
def SV.cY {a lo hi:Ex} (h0:SV w d F sc a value) (h1:SP w d F sc lo lower) (h2:SP w d F sc hi upper):
  SV w d F sc (.aq a lo hi) (.Subscript value (.Slice lower upper Option.none p) pos):=λenv E A ρ μ s v μ' eR T hA h=>
 iA h λx μ1 v0 h=>iA h λy μ2 v1 h=>iA h λz μ3 v2 h=>iC h λr hs h=>iS h (Subscript_ (fN (h0 env E A ρ μ s _ _ eR T hA v0) λo s₁ ρ₁ a1 b1 c1 r1=>wpAny_Slice (
  fN (h1.run (eR.bn a1) b1 hA v1) λul s₂ ρ₂ a2 b2 c2 r2=>fN (h2.run ((eR.bn a1).bn a2) b2 hA v2) λuu s₃ ρ₃ a3 b3 c3 r3=>fD (
  gE (Tt (P:=λx=>eW w ρ₃ s₃.heap x o->wpAny (model pw w) A (subscriptTail value (.Slice lower upper Option.none p) o (.ref s₃.heap.objs.size)) (PV w ρ₃ s₃ r μ3) fH {s₃ with heap:=s₃.heap.push {cls:=.type "slice",data:=.fields #[ul,uu,.none]}}) hs
   (λZ hc ro=>mh ro λZ Z t1 Z t3=>Gk b3 t1 t3 (r2.aU a3 (.aS ..)) r3 hc)
   (λZ Z hg hc ro=>mi (P:=λo=>wpAny (model pw w) A (subscriptTail value (.Slice lower upper Option.none p) o _) _ fH _) b3 ro hg λZ Z Z t1 t3=>Gk b3 t1 t3 (r2.aU a3 (.aS ..)) r3 hc) ((r1.aU a2 (.aS ..)).aU a3 (.aS ..)))
   (λZ Z p=>p.bj ((a1.aT a2).aT a3) (c3.trans (c2.trans c1))) λZ Z f=>f))))
end
theorem AY (u:Value):∀(n:Nat) (acc:Array Value),List.foldl (λx1 x2=>x1++x2) acc (List.replicate n #[u])=acc++(List.replicate n u).toArray
 |0,acc=>fF
 |n+1,acc=>by
  simp only[List.replicate_succ,List.foldl_cons,AY u n,List.replicate_succ];apply Array.toList_inj.mp;simp
def RelVs.eI (r:eW w ρ h v u):∀n,RelVs w ρ h (List.replicate n v)<|List.replicate n u
 |0=>.aS
 |n+1=>.aR r<|RelVs.eI r n
section
variable{w:World} {d:Nat} {F:fb} {sc:Scope} {k:Nat} {pos pos':Pos}
def Yg {h:Heap} {x xs} (h1:h.IsList x xs) {G:Prop} (k:∀dd sl n,h.get? x=some {cls:=.type "list",dict:=dd,data:=.seq xs n,slots:=sl}->G):G:=by
 obtain⟨⟨cls,dd,data,sl⟩,ho,hc,n,hd⟩:=h1;cases hc;cases hd;exact k dd sl n ho
def Yh {h:Heap} {a:V} {us:Array Value} (r:RelVs w ρ h [a] us.toList) {P:Array Value->Prop} (k:∀z,eW w ρ h a z->P #[z]):P us:=by
 obtain⟨ul⟩:=us;exact pE (Q:=λul=>P ⟨ul⟩) r k
def mrL {z:Value} {i:Nat}:List.foldl (λx1 x2=>x1++x2) #[] (List.replicate (if(#[z]:Array Value).isEmpty=true then 0 else i) #[z])=(List.replicate i z).toArray:=by
 rw[ff fF,AY];simp
def Tu {z:Value} {i:Int} {t} (T2:e9 w ρ₂ μ2 s₂) (h0:0<=i) (h9:i<=1000) (ho:s₂.heap.get? ax=some {cls:=.type "list",dict:=dd,data:=.seq #[z] nn,slots:=sl}) (rz:eW w ρ₂ s₂.heap a z):
  wpAny (model pw w) A (binaryOp .Mult (.ref ax)<|.int i t) (PV w ρ₂ s₂ (.g μ2.length)<|μ2++[.j<|List.replicate i.toNat a]) fH s₂:=
 wpAny_binaryOp_repeat_ref (T:="list") (U:="int") ay ⟨_,ho,rfl⟩ (λs'=>typeIs_int s' i _) noFill_list_mul PySem.F.fills_int_mul PySem.F.slot_int_rmul repeat_list PySem.F.slot_int_index.lookup
  (PySem.call_meets PySem.F.slot_int_rmul (typeIs_int s₂ i _) PySem.F.entry_int_rmul (PySem.F.args_int_rmul_2 _ _) (lm_int_rmul_list_any i _ ax #[z] nn dd sl)
   ⟨ho,rfl,⟨_,ho,rfl⟩,PySem.call_meets PySem.F.slot_list_mul ⟨_,ho,rfl⟩ PySem.F.entry_list_mul (PySem.F.args_list_mul_2 _ _)
    (lm_list_mul_any ax #[z] nn dd sl i _ (by simp[Builtin.List.listFitsIndex];lia) (by simp;lia) (by simp[Builtin.List.listTooLong,sizeLine];lia)) ⟨ho,mrL.symm▸
     ug T2 s₂.toks λx=>.bh ⟨_,jQ _ rfl,rfl,_,rfl⟩ ⟨_,jQ _ rfl,rfl⟩ (by simpa using(RelVs.eI rz i.toNat).aU x (.aS ..))⟩⟩)
def SV.d0 {e n:Ex} {x y:Expr} {lpos:Pos} (h1:SV w d F sc e x) (hp:f7 x) (h2:SV w d F sc n y):SV w d F sc (.aK e n) (.BinOp (.List [x] lpos) .Mult y pos):=λenv E A ρ μ s v μ' eR T hA h=>
 iA h λa μ1 v1 h=>iF h λi μ2 v2 h=>iU h (λhb h=>iS h (
  have hl:ev aj F E (.w [e]) μ=some (.w [a],μ1):=by
   rw[ph,rT v1]
  wpAny_BinOp (AH (SV.bo (pos:=lpos) (hY.aR hp h1 hY.aS) fF) h2 eR T hA hl v2 λul un s₂ ρ₂ x1 T2 o2 r1 r2=>jD (P:=λun=>wpAny (model pw w) A (binaryOp .Mult ul un) _ fH s₂) r2 λt=>mh (P:=λul=>wpAny (model pw w) A (binaryOp .Mult ul _) _ fH s₂) r1 λax us t1 Z t3=>
   Yh (P:=λus=>s₂.heap.IsList ax us->_) t3 (λz rz t1=>Yg t1 λdd sl nn ho=>lx x1 o2<|Tu T2 (jA (Bool.and_eq_true_iff.1 hb).1) (jA (Bool.and_eq_true_iff.1 hb).2) ho rz) t1))) λZ h=>fe h
end
noncomputable def lR (env:PySem.Env):List (Str×NameKind)->List (Str×Addr)->List (Str×Addr)
 |[],acc=>acc
 |(n,k)::r,acc=>lR env r (if(k==.free)=true then(n,(env.cells.lookup n).getD 0)::acc else acc)
def Ml (h:∀x∈scope.names,x.2=.free->(env.cells.lookup x.1).isSome):closureFor scope env=pure (lR env scope.names []):=by
 have key:∀l acc,(∀x∈l,x.2=.free->(env.cells.lookup x.1).isSome)->
   (forIn l acc λ(x:Str×NameKind) (cs:List _)=>(if(x.2==.free)=true then do
     let a <-cellOf env x.1
     pure (ForInStep.yield ((x.1,a)::cs))else pure (ForInStep.yield cs):Sem _))=pure (lR env l acc):=by
  intro l
  induction l with
  |nil=>intro acc _;rfl
  |cons x l ih=>
   intro acc hx;obtain⟨n,k⟩:=x;simp only[List.forIn_cons];show _=pure (lR env l (if (k==NameKind.free)=true then(n,(env.cells.lookup n).getD 0)::acc else acc));by_cases hk:(k==NameKind.free)=true
   .have hk':k=.free:=by simpa using hk
    have hs:=hx _ fA hk';obtain⟨c,hc⟩:=Option.isSome_iff_exists.mp hs;simp only[hk,if_true];unfold cellOf;rw[hc];exact ih _ λy hy=>hx y<|gj _ hy
   .simp only[hk];exact ih _ λy hy=>hx y<|gj _ hy
 exact Eq.trans (by
  show(forIn scope.names [] _>>=λr=>pure r)=_;rw[bind_pure])<|key scope.names [] h
theorem yz {env:PySem.Env} {x:Str×Addr}:∀(l:List (Str×NameKind)) (acc:List (Str×Addr)),x∈lR env l acc->x∈acc\/((x.1,NameKind.free)∈l/\x.2=(env.cells.lookup x.1).getD 0)
 |[],_,h=>.inl h
 |(n,k)::r,acc,h=>by
  have h:x∈lR env r (if (k==NameKind.free)=true then(n,(env.cells.lookup n).getD 0)::acc else acc):=h;rcases yz r _ h with h|⟨h1,h2⟩
  .split at h
   .rename_i hk;rcases gC.mp h with rfl|h
    .have hk':k=.free:=by simpa using hk
     subst hk';exact .inr ⟨fA,rfl⟩
    .exact .inl h
   .exact .inl h
  .exact .inr ⟨gj _ h1,h2⟩
theorem yA {env:PySem.Env} {n:Str}:∀(l:List (Str×NameKind)) (acc:List (Str×Addr)),(n,NameKind.free)∈l\/acc.lookup n=some ((env.cells.lookup n).getD 0)->(lR env l acc).lookup n=some ((env.cells.lookup n).getD 0)
 |[],_,h=>by rcases h with h|h;contradiction;exact h
 |(m,k)::r,acc,h=>by
  refine yA r _ ?_;rcases h with h|h
  .rcases gC.mp h with e|h
   .cases e;right;rw[fv (by rfl),List.lookup_cons,beq_self_eq_true]
   .exact .inl h
  .right;split
   .rw[List.lookup_cons];cases hb:n==m with
    |true=>have:=beq_iff_eq.mp hb;subst this;rfl
    |false=>exact h
   .exact h
theorem l7 (p:Nat->Bool):∀(E:Env) (x:Nat),ci (E.filter λq=>p q.1) x=if p x=true then ci E x else none
 |[],x=>by simp[ci]
 |(y,v)::E,x=>by
  rw[List.filter_cons];simp only[ci];cases hy:Nat.beq y x with
  |true=>
   have:=mW hy;subst this;by_cases hp:p y=true
   .simp[hp,ci]
   .simp only[ff hp,l7 p E y,ff hp,ff hp]
  |false=>
   by_cases hp:p y=true
   .simp only[hp,if_true,ci,hy];exact l7 p E x
   .rw[ff hp];exact l7 p E x
theorem yB:∀{xs:List Nat} {vs:List V} {E E1:Env},lM E xs vs=some E1->∀x,x∉xs->ci E1 x=ci E x
 |[],[],_,_,h=>λx Z=>by cases h;rfl
 |[],_::_,_,_,h=>fe h
 |_::_,[],_,_,h=>fe h
 |y::xs,v::vs,E,E1,h=>λx hx=>by
  have h:lM (eP E y v) xs vs=some E1:=h;rw[gC,not_or]at hx;rw[yB h x hx.2,jF,ff hx.1]
theorem AZ:∀{xs:List Nat} {vs:List V} {E E1 E':Env},lM E xs vs=some E1->∃E1',lM E' xs vs=some E1'/\∀x,(ci E' x=ci E x\/x∈xs)->ci E1' x=ci E1 x
 |[],[],E,E1,E',h=>by
  cases h;exact⟨E',rfl,λx hx=>hx.resolve_right fF⟩
 |[],_::_,_,_,_,h=>fe h
 |_::_,[],_,_,_,h=>fe h
 |y::xs,v::vs,E,E1,E',h=>by
  have h:lM (eP E y v) xs vs=some E1:=h;refine e8 (AZ (E':=eP E' y v) h) λE1' h1 h2=>⟨E1',h1,λx hx=>h2 x ?_⟩
  by_cases hy:x=y
  .left;rw[jF,jF,fv hy,fv hy]
  .rcases hx with hx|hx
   .left;simp only[jF,jF,ff hy,ff hy];exact hx
   .right;exact(gC.mp hx).resolve_left hy
def u9 (h:fi E single xs v=some E1):(∃y,single/\xs=[y]/\E1=eP E y v)\/∃l,single=false/\v=.v l/\lM E xs l=some E1:=by
 cases single with
 |true=>
  match xs,h with
  |[y],h=>simp[fi,pb]at h;exact .inl ⟨y,rfl,rfl,h.symm⟩
  |[],h=>simp[fi]at h
  |_::_::_,h=>simp[fi]at h
 |false=>
  cases v with
  |v l=>simp[fi]at h;exact .inr ⟨l,rfl,rfl,h⟩
  |_=>simp[fi]at h
def Gl (h:fi E single xs v=some E1) (x:Nat) (hx:x∉xs):ci E1 x=ci E x:=by
 obtain⟨y,rfl,rfl,rfl⟩|⟨l,rfl,rfl,h⟩:=u9 h
 .rw[jF,ff (by simp_all)]
 .exact yB h x hx
def Ia (h:fi E single xs v=some E1):∃E1',fi E' single xs v=some E1'/\∀x,(ci E' x=ci E x\/x∈xs)->ci E1' x=ci E1 x:=by
 obtain⟨y,rfl,rfl,rfl⟩|⟨l,rfl,rfl,h⟩:=u9 h
 .refine⟨eP E' y v,rfl,λx hx=>?_⟩;simp only[jF,jF];by_cases hy:x=y
  .rw[fv hy,fv hy]
  .rw[ff hy,ff hy];exact hx.resolve_right (by simp_all)
 .obtain⟨E1',h1,h2⟩:=AZ h;exact⟨E1',h1,h2⟩
inductive qO (sc:Scope):List Nat->List Expr->Prop
 |aS:qO sc [] []
 |aR {x p xs es}:x<214->sc.names.lookup (nm x)=some .local->qO sc xs es->qO sc (x::xs) (.Name (nm x) p::es)
inductive n7 (sc:Scope):Bool->List Nat->Expr->Prop
 |b9 {x p}:x<214->sc.names.lookup (nm x)=some .local->n7 sc true [x] (.Name (nm x) p)
 |bF {xs es k p}:qO sc xs es->n7 sc false xs (.Tuple es k p)
section
variable{w:World} {d:Nat} {F:fb} {sc:Scope} {k:Nat} {pos pos':Pos} {env:PySem.Env} {E:Env} {A:Around} {ρ:f8} {μ:H} {s:Shared}
def f6.ce {E2:Env} (e:f6 w sc env E ρ h) (hw:∀x v,ci E2 x=some v->(sc.names.lookup (nm x)=some .local\/sc.names.lookup (nm x)=some .cell\/sc.names.lookup (nm x)=some .free)->ci E x=some v):f6 w sc env E2 ρ h:=
 ⟨e.kind,e.names,e.glob,e.blt,e.ns.elim λm q=>⟨m,q.1,λx v hx hl=>q.2 x v (hw x v hx<|.inl hl) hl⟩,λx v hx hl=>e.cell x v (hw x v hx<|.inr hl) hl,e.cells,e.apart,e.off⟩
def yC (hx:x<214) (hl:sc.names.lookup (nm x)=some .local) (eR:f6 w sc env E ρ s.heap) (T:e9 w ρ μ s) (r:eW w ρ s.heap v u)
  (k:∀s',fM [env.locals] ρ s.heap ρ s'.heap->e9 w ρ μ s'->s'.os=s.os->f6 w sc env (eP E x v) ρ s'.heap->Q () s'):wpAny (model pw w) A (storeName env (nm x) u) Q E' s:=by
 have kin:∀n,env.kindOf n=sc.names.lookup n:=λn=>by unfold Env.kindOf;rw[eR.names]
 refine e8 eR.ns λm hm hr=>?_
 have mutOut:∀b∈own env,¬kL ρ b:=λb hb ⟨p,hp,q⟩=>(eR.off.rho b hb p hp).2 q
 refine wpAny_storeName_local ((kin _).trans hl) hm (λh' hn' hs'=>?_) (by rw[eR.kind];rfl);have x1:fM (own env) ρ s.heap ρ h':=oD hs' (CK hn') _ fA ρ;have x2:fM [env.locals] ρ s.heap ρ h':=oD hs' (CK hn') _ fA ρ;have hLcls:∃o,h'.get? env.locals=some o/\∀vs n,o.data≠.seq vs n:=by
  exact ou hn' λo es ep ho hd Z=>⟨o,ho,λvs n e=>by rw[hd]at e;cases e⟩
 have cne:∀{c v},s.heap.IsCell c v->c≠env.locals:=λ{c v} hc q=>by
  subst q;refine ou hm λo es ep ho hd Z=>e8 hc λo' ho' hd'=>?_
  rw[ho]at ho';cases ho';rw[hd]at hd';cases hd'
 have off':hZ _ ρ h':=⟨λb hb=>⟨(eR.off.cls b hb).1,by
  by_cases q:b=env.locals
  .subst q;exact hLcls
  .obtain⟨_,o,ho,h2⟩:=eR.off.cls b hb;exact⟨o,(hs'.2 b q).trans ho,h2⟩⟩,eR.off.rho⟩
 refine k _ x2 (T.ch x1 eR.off (λb o mb hb=>hs'.extBut b o (λq=>mutOut _ fA<|q▸mb) hb) rfl) rfl ⟨eR.kind,eR.names,eR.glob,eR.blt,⟨_,hn',λy v' hy hyl=>?_⟩,λy v' hy hyk=>?_,λn hn=>?_,eR.apart,off'⟩
 .rw[jF]at hy;by_cases q:y=x
  .subst q;rw[fv rfl]at hy;cases hy;exact⟨u,fF,r.aU x1 eR.off⟩
  .rw[ff q]at hy;exact e8 (hr y v' hy hyl) λu' hu' r'=>⟨u',by rw[ff λe=>q (uh hx e)];exact hu',r'.aU x1 eR.off⟩
 .rw[jF]at hy;have q:y≠x:=λq=>by subst q;rw[hl]at hyk;obtain e|e:=hyk<;>contradiction
  rw[ff q]at hy;exact kF (eR.cell y v' hy hyk) λc u' h1 h2 h3=>⟨c,u',h1,h2.sameBut hs' (cne h2),h3.aU x1 eR.off⟩
 .exact ot (eR.cells n hn) λc u' h1 h2=>⟨c,u',h1,h2.sameBut hs' (cne h2)⟩
def qO.tn (t:qO sc xs es):TN sc xs es:=by
 induction t with
 |aS=>exact .aS
 |aR a b _ ih=>exact .aR a (.inl b) ih
def qO.loc (t:qO sc xs es):∀x∈xs,sc.names.lookup (nm x)=some .local:=by
 induction t with
 |aS=>simp
 |aR a b _ ih=>intro x hx;obtain rfl|hx:=gC.mp hx;exact b;exact ih x hx
def n7.loc (t:n7 sc single xs es):∀x∈xs,sc.names.lookup (nm x)=some .local:=by
 cases t with
 |b9 a b=>intro x hx;rw[gw.mp hx];exact b
 |bF t=>exact t.loc
theorem Gm {E':Value->Shared->Prop} {xs:List Nat} {es:List Expr} (t:qO sc xs es):∀{E E1:Env} {vs:List V} {us:List Value} {s:Shared} {Q:Unit->Shared->Prop},f6 w sc env E ρ s.heap->e9 w ρ μ s->RelVs w ρ s.heap vs us->lM E xs vs=some E1->
  (∀s',fM [env.locals] ρ s.heap ρ s'.heap->e9 w ρ μ s'->s'.os=s.os->f6 w sc env E1 ρ s'.heap->Q () s')->wpAny (model pw w) A (assignInOrder ((assignEach es env).map (·.2)) us) Q E' s:=by
 induction t with
 |aS=>
  intro E E1 vs us s Q eR T r hb;refine P2 (Q:=λvs E1=>RelVs w ρ s.heap vs us->(∀s',fM [env.locals] ρ s.heap ρ s'.heap->e9 w ρ μ s'->s'.os=s.os->f6 w sc env E1 ρ s'.heap->Q () s')->wpAny (model pw w) A (assignInOrder ((assignEach [] env).map (·.2)) us) Q E' s) hb (λr k=>?_) r;exact nH (Q:=λus=>wpAny _ _ (assignInOrder _ us) _ _ _) r<|fD (k s (.aZ ..) T rfl eR)
 | @aR x p xs es hx hk t ih=>
  intro E E1 vs us s Q eR T r hb k;refine P3 (Q:=λvs=>RelVs w ρ s.heap vs us->wpAny (model pw w) A (assignInOrder ((assignEach (.Name (nm x) p::es) env).map (·.2)) us) Q E' s) hb (λv l hb r=>?_) r;refine kq (Q:=λus=>wpAny _ _ (assignInOrder _ us) _ _ _) r λu us r1 r2=>?_
  show wpAny _ _ (do holding us (assign (.Name (nm x) p) env u);assignInOrder ((assignEach es env).map (·.2)) us) Q E' s;have f:hZ [env.locals] ρ s.heap:=⟨λb hb=>eR.off.cls b (by rw[gw.mp hb];exact fA),λb hb=>eR.off.rho b (by rw[gw.mp hb];exact fA)⟩;exact eX (mf (PySem.wpAny_assign_Name (yC hx hk eR T r1 λs' x1 x2 x3 x4=>ih x4 x2 (r2.aU x1 f) hb λs'' y1 y2 y3 y4=>k s'' (x1.aT y1) y2 (y3.trans x3) y4)))
def Ib (t:n7 sc single xs target) (hh:A.handled=none) (eR:f6 w sc env E ρ s.heap) (T:e9 w ρ μ s)
  (r:eW w ρ s.heap v u) (hb:fi E single xs v=some E1) (k:∀s',fM [env.locals] ρ s.heap ρ s'.heap->e9 w ρ μ s'->s'.os=s.os->f6 w sc env E1 ρ s'.heap->Q () s'):
  wpAny (model pw w) A (assign target env u) Q E' s:=by
 refine ia λG kk=>?_
 cases t with
 |b9 hx hk=>
  simp[fi,pb]at hb;subst hb;apply kk;exact PySem.wpAny_assign_Name<|yC hx hk eR T r k
 |bF t=>
  simp[fi]at hb;split at hb
  .rename_i l;cases r with
   | @bF a _ us h1 h2 h3=>
    apply kk;refine wpAny_assign_Tuple hh h1 (by simp only[t.tn.cq.1,Gf hb,h3.aV,j6]) t.tn.cq.2 λh' hk=>?_
    have kp:=u7 hk;have x0:fM [] ρ s.heap ρ h':=.aY kp;exact Gm t (eR.bn x0) (T.bi kp rfl) (h3.aU x0<|.aS ..) hb λs' y1 y2 y3 y4=>k s' ((x0.bC fF).aT y1) y2 y3 y4
  .first|exact fe (by assumption)|contradiction
end
noncomputable def hG (scope sc:Scope):Scope:={scope with names:=scope.names.map λ(n,k)=>if(k==.free&&sc.names.lookup n==some .cell)=true then(n,.cell)else(n,k)}
def vb (scope sc:Scope) (n:Str):(hG scope sc).names.lookup n=(scope.names.lookup n).map λk=>if(k==.free&&sc.names.lookup n==some .cell)=true then .cell else k:=by
 unfold hG;dsimp only
 induction scope.names with
 |nil=>rfl
 |cons x l ih=>
  obtain⟨m,k⟩:=x;simp only[hW];by_cases hb:n=m
  .subst hb;by_cases hc:(k==NameKind.free&&sc.names.lookup n==some .cell)=true
   .rw[fv hc,List.lookup_cons,List.lookup_cons,beq_self_eq_true];simp only[Option.map_some];rw[fv hc]
   .rw[ff hc,List.lookup_cons,List.lookup_cons,beq_self_eq_true];simp only[Option.map_some];rw[ff hc]
  .have hf:=beq_eq_false_iff_ne.mpr hb;rw[List.lookup_cons (b:=k),hf];rw[<-ih];split<;>(simp only[List.lookup_cons,hf])
def Ek (e:f6 w sc env E ρ h):relabel scope env=hG scope sc:=by
 unfold relabel hG;congr 1;apply List.map_congr_left
 rintro⟨n,k⟩ _
 have:env.kindOf n=sc.names.lookup n:=by unfold Env.kindOf;rw[e.names]
 dsimp only;simp only[this,e.kind];cases hk:(k==NameKind.free)<;>simp
structure oV (scope sc:Scope) (t:List Nat):Prop where
 kind:scope.kind=.function
 nocell:∀x∈scope.names,x.2≠.cell
 free:∀x∈scope.names,x.2=.free->sc.names.lookup x.1=some .cell
 nodup:(scope.names.map (·.1)).Nodup
 loc:∀x,scope.names.lookup (nm x)=some .local->x∈t
theorem wL {n:Str} {k:NameKind}:∀{l:List (Str×NameKind)},(l.map (·.1)).Nodup->(n,k)∈l->l.lookup n=some k
 |(m,a)::r,hn,h=>by
  simp only[hW,kh]at hn;rw[List.lookup_cons];rcases gC.mp h with e|h
  .cases e;simp
  .have:(n==m)=false:=beq_eq_false_iff_ne.mpr λe=>hn.1<|e▸fW.mpr ⟨_,h,rfl⟩
   rw[this];exact wL hn.2 h
def oV.bH (o:oV scope sc t) (h:(hG scope sc).names.lookup n=some .cell\/(hG scope sc).names.lookup n=some .free):scope.names.lookup n=some .free/\sc.names.lookup n=some .cell:=by
 rw[vb]at h;cases hl:scope.names.lookup n with
 |none=>rw[hl]at h;simp at h
 |some k=>
  have hm:=mem_of_lookup hl;rw[hl]at h;cases k with
  |free=>exact⟨rfl,o.free _ hm rfl⟩
  |cell=>exact absurd rfl<|o.nocell _ hm
  |_=>simp at h
def oV.cC {scope sc:Scope} {t:List Nat} (o:oV scope sc t) {n:Str} (h:(hG scope sc).names.lookup n=some .local):scope.names.lookup n=some .local:=by
 rw[vb]at h;cases hl:scope.names.lookup n with
 |none=>simp only[hl]at h;simp at h
 |some k=>
  simp only[hl]at h;simp only[Option.map_some,pb]at h;split at h
  .first|exact fe h|exact nomatch h
  .rw[h]
def Tv (w:World) (A:Around) (env:PySem.Env) (target elt:Expr) (ifs:List Expr) (acc:Value) (N:Shared->Prop) (v:Value) (s:Shared):Prop:=wpAny (model pw w) A (assign target env v) (λZ s₂=>
     wpAny (model pw w) A (forIn ifs true λc r=>if r=true then do let ok <-isTrue c env (eval c env);pure (ForInStep.yield ok)else pure (ForInStep.yield r)) (λok s₃=>
      if ok=true then wpAny (model pw w) A (eval elt env) (λx s₄=>
       wpAny (model pw w) A (call (.builtin "list.append") [acc,x]) (λZ=>N) fH s₄) fH s₃
      else N s₃) fH s₂) fH s
def A' (I:Nat->Shared->Prop)
  (turn:∀n s,I n s->wpAny (model pw w) A (pyNext it) (λr s₁=>match r with
   |none=>R (.ok .next) s₁
   |some v=>wpAny (model pw w) A (letOwnedTupleGo target it v) (λZ=>Tv w A env target elt ifs acc (λs₅=>∃m,m<n/\I m s₅) v) fH s₁) fH s)
  (n:Nat) (h:I n s):
  codeAny (model pw w) A (.compLoop (.ListComp elt [⟨target,iter,ifs,0⟩] scope pos) 0 it acc env) R s:=by
 refine codeAny_loop rfl I (λn s hI=>?_) n h;refine wpAny_noted<|eX<|PySem.wpAny_standAt<|eX<|gE (turn n s hI) (λr s₁ h₁=>?_) λZ Z h'=>h'.elim
 cases r with
 |none=>exact fD h₁
 |some v=>
  refine eX<|gE h₁ (λZ s₁' h₁'=>eX<|gE h₁' (λZ s₂ h₂=>eX<|gE h₂ (λok s₃ h₃=>?_) λZ Z h'=>h'.elim) λZ Z h'=>h'.elim) λZ Z h'=>h'.elim
  cases ok with
  |false=>exact fD ⟨rfl,h₃⟩
  |true=>exact eX<|eX<|gE h₃ (λx s₄ h₄=>eX<|gE h₄ (λZ s₅ h₅=>fD<|fD ⟨rfl,h₅⟩) λZ Z h'=>h'.elim) λZ Z h'=>h'.elim
inductive qj (w:World) (d:Nat) (F:fb) (sc:Scope):Option Ex->List Expr->Prop
 |bv:qj w d F sc none []
 |b9 {c x}:ST w d F sc c x->qj w d F sc (some c) [x]
def qj.run {w:World} {d:Nat} {F:fb} {sc:Scope} {c:Option Ex} {xs:List Expr} (h:qj w d F sc c xs) {env:PySem.Env} {E:Env} {A:Around} {ρ:f8} {μ μ':H} {s:Shared} {b:Bool} (eR:f6 w sc env E ρ s.heap) (T:e9 w ρ μ s) (hA:jE d A) (hv:evC aj F E c μ=some (b,μ')):
  wpAny (model pw w) A (forIn xs true λc r=>if r=true then do let ok <-isTrue c env (eval c env);pure (ForInStep.yield ok)else pure (ForInStep.yield r)) (fV w ρ s μ' λZ Z u=>u=b) fH s:=by
 cases h with
 |bv=>exact iS hv<|wpAny_tests_nil<|fV.aW T rfl
 |b9 h=>exact iA hv λv μ1 v1 hv=>iK hv λb' hb hv=>iS hv<|wpAny_tests_one<|h env E A ρ μ s _ _ _ eR T hA v1 hb
def uq (F:fb) (E:Env) (single:Bool) (t:List Nat) (c:Option Ex) (e:Ex) (r:Nat) (v:V) (s:H):Option (Flow×H):=match fi E single t v with
 |none=>none
 |some E'=>match evC aj F E' c s with
  |none=>none
  |some (false,ν)=>some (.C,ν)
  |some (true,ν)=>match ev aj F E' e ν with
   |none=>none
   |some (u,ν)=>match kG ν r u with
    |some ν=>some (.C,ν)
    |none=>none
section
variable{F:fb} {E E':Env} {single:Bool} {t:List Nat} {c:Option Ex} {e:Ex} {r:Nat} {v:V} {s ν':H} {fl:Flow} {G:Prop}
def El (F:fb) (c:Option Ex) (e:Ex) (r:Nat) (E':Env) (s:H):Option (Flow×H):=match evC aj F E' c s with
  |none=>none
  |some (false,ν)=>some (.C,ν)
  |some (true,ν)=>match ev aj F E' e ν with
   |none=>none
   |some (u,ν)=>match kG ν r u with
    |some ν=>some (.C,ν)
    |none=>none
theorem Em (h:uq F E single t c e r v s=some (fl,ν')) (k:∀E',fi E single t v=some E'->El F c e r E' s=some (fl,ν')->G):G:=by
 unfold uq at h;cases hb:fi E single t v with
 |none=>rw[hb]at h;first|exact fe h|exact nomatch h
 |some E'=>rw[hb]at h;exact k _ hb h
theorem Gn (h:El F c e r E' s=some (fl,ν')) (k0:∀ν,evC aj F E' c s=some (false,ν)->fl=.C->ν'=ν->G)
  (k1:∀ν u ν3 ν4,evC aj F E' c s=some (true,ν)->ev aj F E' e ν=some (u,ν3)->kG ν3 r u=some ν4->fl=.C->ν'=ν4->G):G:=by
 unfold El at h;cases hc:evC aj F E' c s with
 |none=>rw[hc]at h;first|exact fe h|exact nomatch h
 |some p=>
  obtain⟨b,ν⟩:=p;rw[hc]at h;cases b with
  |false=>exact k0 ν hc (Prod.mk.inj<|Option.some.inj h).1.symm (Prod.mk.inj<|Option.some.inj h).2.symm
  |true=>
   dsimp only at h;cases he:ev aj F E' e ν with
   |none=>rw[he]at h;first|exact fe h|exact nomatch h
   |some p=>
    obtain⟨u,ν3⟩:=p;rw[he]at h;exact iL h λν4 ha h=>k1 ν u ν3 ν4 hc he ha (Prod.mk.inj<|Option.some.inj h).1.symm (Prod.mk.inj<|Option.some.inj h).2.symm
end
section
variable{w:World} {d:Nat} {F:fb} {sc scope:Scope} {k:Nat} {pos:Pos} {env:PySem.Env}
def pe (scope sc:Scope) (E:Env):Env:=E.filter λq=>!((hG scope sc).names.lookup (nm q.1)==some .local)
structure LI (w:World) (sc:Scope) (cenv:PySem.Env) (wr:List Addr) (S:Nat->f8->Heap->Prop) (D:Addr) (r:Nat) (ρ:f8) (s:Shared) (E:Env) (i:Nat) (ν:H) (ρi:f8) (s':Shared):Prop where
 x:fM (cenv.locals::wr) ρ s.heap ρi s'.heap
 t:e9 w ρi ν s'
 o:s'.os=s.os
 e:f6 w sc cenv E ρi s'.heap
 f:hZ wr ρi s'.heap
 st:S i ρi s'.heap
 r:ρi[r]?=some (D,D)
section
variable{cenv:PySem.Env} {wr:List Addr} {S:Nat->f8->Heap->Prop} {D:Addr} {r i:Nat} {ρ ρi ρ2:f8} {s s' s2:Shared} {E E1:Env} {ν ν2:H} {A:Around} {target elt iter:Expr} {I:Addr} {l:List V} {ok:H->Bool} {single:Bool} {t:List Nat} {c:Option Ex} {e:Ex} {ifs:List Expr} {fl:Flow} {ν':H} {R:Result->Shared->Prop}
def LI.bQ (L:LI w sc cenv wr S D r ρ s E i ν ρi s') (W:Wk w A target I wr l ok S) (x:fM [] ρi s'.heap ρ2 s2.heap) (T:e9 w ρ2 ν2 s2) (o:s2.os=s'.os):LI w sc cenv wr S D r ρ s E i ν2 ρ2 s2:=
 ⟨L.x.aT<|x.bC fF,T,o.trans L.o,L.e.bn x,L.f.aU x λb hb q=>absurd q fF,W.move L.st x (.aS ..) L.f fF,x.get L.r⟩
def LI.bE (L:LI w sc cenv wr S D r ρ s E i ν ρi s') (W:Wk w A target I wr l ok S) (hdis:∀b∈own cenv,b∉wr) {h':Heap} (k:j8 wr s'.heap h') (f':hZ wr ρi h') (st:S (i+1) ρi h') (x:fM [cenv.locals] ρi h' ρi s2.heap) (T:e9 w ρi ν s2) (o:s2.os=s'.os) (e:f6 w sc cenv E1 ρi s2.heap):LI w sc cenv wr S D r ρ s E1 (i+1) ν ρi s2:=
 have dj:∀b∈wr,b∉[cenv.locals]:=λb hb q=>hdis b (gw.mp q▸fA) hb
 have e':=L.e.br k L.f hdis;have fC:hZ [cenv.locals] ρi h':=⟨λb hb=>e'.off.cls b<|gw.mp hb▸fA,λb hb=>e'.off.rho b<|gw.mp hb▸fA⟩
 ⟨(L.x.aT<|(k.bn f').bC λb hb=>gj _ hb).aT<|x.bC λb hb=>gw.mp hb▸fA,T,o.trans L.o,e,f'.aU x λb hb q=>absurd q<|dj b hb,W.move st x fC f' dj,L.r⟩
def yD (y:Nat) (h:¬(hG scope sc).names.lookup (nm y)=some .local):ci (pe scope sc E) y=ci E y:=by
 unfold pe;rw[l7 λq=>!((hG scope sc).names.lookup (nm q)==some .local),fv (by simp[h])]
def CI (w:World) (F:fb) (scope sc:Scope) (cenv:PySem.Env) (wr:List Addr) (S:Nat->f8->Heap->Prop) (D:Addr) (r:Nat) (ρ:f8) (s:Shared) (E:Env) (l:List V) (ok:H->Bool) (single:Bool) (t:List Nat) (c:Option Ex) (e:Ex) (res:Flow×H) (n:Nat) (s':Shared):Prop:=
 ∃i ν ρi,n=l.length+1-i/\i<=l.length/\fS ok (uq F E single t c e r) (l.drop i) ν=some res/\LI w (hG scope sc) cenv wr S D r ρ s (pe scope sc E) i ν ρi s'
def Go {s₂:Shared}
  (so:oV scope sc t) (tg:n7 (hG scope sc) single t target) (hc:qj w d F (hG scope sc) c ifs) (he:SV w d F (hG scope sc) e elt) (W:Wk w A target I wr l ok S) (hA:jE d A)
  (L:LI w (hG scope sc) cenv wr S D r ρ s (pe scope sc E) 0 ν ρ2 s₂) (hf:∀b∈cenv.locals::wr,s.heap.get? b=none) (hdis:∀b∈own cenv,b∉wr)
  (h:fS ok (uq F E single t c e r) l ν=some (fl,ν'))
  (fin:∀s' ρn,fM [] ρ s.heap ρn s'.heap->e9 w ρn ν' s'->s'.os=s.os->eW w ρn s'.heap (.g r) (.ref D)->(∃m,s'.heap.Ns cenv.locals m)->hZ [cenv.locals] ρn s'.heap->R (.ok .next) s'):
  codeAny (model pw w) A (.compLoop (.ListComp elt [⟨target,iter,ifs,0⟩] scope pos) 0 (.ref I) (.ref D) cenv) R s₂:=by
 refine A' (CI w F scope sc cenv wr S D r ρ s E l ok single t c e (fl,ν')) ?_ (l.length+1) ⟨0,ν,ρ2,iI rfl (ji _) h L⟩;intro n s' hI;refine ia λG kk=>?_
 obtain⟨i,ν,ρi,hn,hi,hg,L⟩:=hI;cases hv:l[i]? with
 |none=>
  have hil:=Nat.le_antisymm hi (by simpa using hv);rw[hil,List.drop_length]at hg;obtain⟨hok,q⟩:=yw hg;refine kk (W.done (hil▸L.st) L.f L.t hok λh' k=>?_);have e':=L.e.br k L.f hdis;rw[(Prod.mk.inj q).2]at fin;exact fin {s' with heap:=h'} ρi (fM.bB (W:=[]) (wr:=cenv.locals::wr) L.x (λb o hb q=>k b o (λz=>hb (gj _ z)) q) hf) (L.t.br (s':={s' with heap:=h'}) k L.f rfl) L.o (.cv (p:=(D,D)) L.r) (yk e'.ns) ⟨λb hb=>e'.off.cls b (gw.mp hb▸fA),λb hb=>e'.off.rho b (gw.mp hb▸fA)⟩
 |some v=>
  have hlt:=(ke.mp hv).1;rw[CY hv]at hg;obtain⟨hok,fl1,ν1,e1,hgo⟩:=wK hg;refine Em e1 λE1 hb e1=>?_
  have next:∀{ν2 s₃ ρ₃},fl1=.C->ν1=ν2->LI w (hG scope sc) cenv wr S D r ρ s E1 (i+1) ν2 ρ₃ s₃->∃m,m<n/\CI w F scope sc cenv wr S D r ρ s E l ok single t c e (fl,ν') m s₃:=
   λ{ν2 s₃ ρ₃} q1 q2 L=>⟨l.length+1-(i+1),hn▸CX hlt,i+1,ν2,ρ₃,iI rfl hlt (q2▸AW (.inl q1) hgo) ⟨L.x,L.t,L.o,L.e.ce λy u hy hl=>by
    by_cases hm:(hG scope sc).names.lookup (nm y)=some .local
    .unfold pe at hy;rw[l7 (λq=>!((hG scope sc).names.lookup (nm q)==some .local)),ff (by simp[hm])]at hy
     first|exact fe hy|exact nomatch hy
    .rw[yD y hm]at hy;rw[Gl hb y λh=>hm (tg.loc y h)];exact hy,L.f,L.st,L.r⟩⟩
  refine kk (gE (W.item (E:=fH) hv L.st L.f L.t hok λu h' tk k f' rv st'=>?_) (λq s₁ h=>Wx h) λZ Z z=>z);have e':=L.e.br k L.f hdis;refine e8 (Ia (E':=pe scope sc E) hb) λEf hbf hsame=>Ib tg hA.1 (s:={s' with heap:=h',toks:=tk}) e' (L.t.br (s':={s' with heap:=h',toks:=tk}) k L.f rfl) rv hbf λs'' y1 y2 y3 y4=>?_
  have L2:=L.bE (s2:=s'') W hdis k f' st' y1 y2 y3 (y4.ce (E2:=E1) λy u hy hl=>by
   rw[hsame y ?_];exact hy;by_cases hm:y∈t
   .exact .inr hm
   .exact .inl (yD y λq=>hm (so.loc y (so.cC q))))
  exact Gn e1 (λν2 h1 q1 q2=>fN (hc.run L2.e L2.t hA h1) λb s₃ ρ₃ a1 a2 a3 a4=>by
   subst a4;exact next q1 q2 (L2.bQ W a1 a2 a3))
   λν2 u ν3 ν4 h1 h2 h3 q1 q2=>fN (hc.run L2.e L2.t hA h1) λb s₃ ρ₃ a1 a2 a3 a4=>by
    subst a4;have L3:=L2.bQ W a1 a2 a3;exact fN (he cenv E1 A ρ₃ ν2 s₃ _ _ L3.e L3.t hA h2) λz s₄ ρ₄ b1 b2 b3 b4=>
     have L4:=L3.bQ W b1 b2 b3
     fN (yy L4.t (.cv (p:=(D,D)) L4.r) b4 h3) λZ s₅ ρ₅ c1 c2 c3 Z=>next q1 q2 (L4.bQ W c1 c2 c3)
end
end
def Ic (r:eW w ρ h (.g k) v):∃p,ρ[k]?=some p/\v=.ref p.1:=by
 exact xA r λZ e=>⟨_,e,rfl⟩
theorem rZ {env:PySem.Env}:∀(l:List (Str×NameKind)) (acc:List (Str×Addr)),(l.map (·.1)).Nodup->(acc.map (·.1)).Nodup->(∀n∈l.map (·.1),n∉acc.map (·.1))->((lR env l acc).map (·.1)).Nodup
 |[],_,_,h,_=>h
 |(m,k)::r,acc,hn,ha,hd=>by
  rw[hW,kh]at hn;unfold lR;split
  .refine rZ r _ hn.2 ?_ λn hm=>?_
   .rw[hW,kh];exact⟨hd m fF,ha⟩
   .rw[hW,gC,not_or];exact⟨λe=>hn.1<|e▸hm,hd n<|gj _ hm⟩
  .exact rZ r _ hn.2 ha λn hm=>hd n<|gj _ hm
section
variable{w:World} {d:Nat} {F:fb} {sc scope:Scope} {k:Nat} {pos:Pos} {env:PySem.Env}
def f6.bS (eR:f6 w sc env E ρ h) (so:oV scope sc t):∀x∈lR env scope.names [],x∈env.cells:=λx hx=>by
 obtain hx|⟨h1,h2⟩:=yz _ _ hx
 .cases hx
 .refine ot (eR.cells x.1<|so.free _ h1 rfl) λc u hc Z=>?_
  rw[hc]at h2;subst h2;exact mem_of_lookup hc
def Id (eR:f6 w sc env E ρ h) (so:oV scope sc t) (X:fM [] ρ h ρ₃ h₁) (hC:990<=C) (hC':∀p∈ρ₃,p.1≠C/\p.2≠C) (hns:h₁.Ns C λZ=>none):
  f6 w (hG scope sc) (compEnvC scope (lR env scope.names []) C env) (pe scope sc E) ρ₃ h₁:=by
 have e1:=eR.bn X;have cm:=eR.bS so;have enter:∀x v,ci (pe scope sc E) x=some v->ci E x=some v/\¬(hG scope sc).names.lookup _=some .local:=λx v hx=>by
  unfold pe at hx;rw[l7 λq=>!((hG scope sc).names.lookup _==some .local)]at hx;split at hx
  .rename_i hp;exact⟨hx,by simpa using hp⟩
  .first|exact fe hx|exact nomatch hx
 have look:∀n,_∈scope.names->∀c,env.cells.lookup n=some c->(lR env scope.names []).lookup n=some c:=λn hn c hc=>by
  rw[yA scope.names []<|.inl hn,hc];rfl
 refine⟨so.kind,by show(relabel scope env).names=_;rw[Ek eR],eR.glob,eR.blt,⟨_,hns,λx v hx hl=>absurd hl (enter x v hx).2⟩,λx v hx hk=>?_,λn hn=>?_,?_,⟨λb hb=>?_,λb hb=>?_⟩⟩
 .obtain⟨h1,h2⟩:=so.bH hk;exact kF (e1.cell x v (enter x v hx).1<|.inl h2) λc u q1 q2 q3=>⟨c,u,look _ (mem_of_lookup h1) c q1,q2,q3⟩
 .obtain⟨h1,h2⟩:=so.bH<|.inl hn;exact ot (e1.cells n h2) λc u q1 q2=>⟨c,u,look _ (mem_of_lookup h1) c q1,q2⟩
 .have nd:=rZ (env:=env) scope.names [] so.nodup pW fF;have pw:=List.pairwise_map.mp nd;exact pw.imp_of_mem λ{x y} hx hy hne e=>hne (name_of_addr eR.apart (cm x hx) (by
   have:=cm y hy;obtain⟨yn,ya⟩:=y;simp only[e];exact this))
 .obtain rfl|hb:=gC.mp hb
  .exact ou hns λo es ep ho hd Z=>⟨hC,o,ho,λvs n e=>by rw[hd]at e;cases e⟩
  .obtain⟨x,hx,rfl⟩:=fW.mp hb;exact e1.off.cls _<|gj _<|fW.mpr ⟨x,cm x hx,rfl⟩
 .obtain rfl|hb:=gC.mp hb
  .exact hC'
  .obtain⟨x,hx,rfl⟩:=fW.mp hb;exact e1.off.rho _<|gj _<|fW.mpr ⟨x,cm x hx,rfl⟩
def rOl {l p} {h:Heap} (r:lu w ρ h (.j l) p):p=(p.1,p.1):=by cases r;rfl
def P9 {ρ} {μ:H} {D:Addr} {s:Shared} {h} (T:e9 w ρ (μ++[O.j []]) s) (r:eW w ρ h (.g μ.length) (.ref D)):ρ[μ.length]?=some (D,D):=
 e8 (Ic r) λp q e=>by
  have ho:d' (μ++[O.j []]) μ.length=some (O.j []):=by rw[mD,nz<|fX _,Nat.sub_self];rfl
  have e2:=rOl<|T.obj _ _ _ ho q;injection e with e
  rw[q,e2,e]
def P' {wr:List Addr} {env:PySem.Env} {E:Env} {ρ:f8} {s:Shared} (eR:f6 w sc env E ρ s.heap) (so:oV scope sc t) (x6:∀b∈wr,s.heap.get? b=none) {z} (hz:z∈(lR env scope.names []).map (·.2)) (q:z∈wr):False:=by
 obtain⟨v,hv,rfl⟩:=fW.mp hz;refine e8 (eR.off.cls v.2<|gj _<|fW.mpr ⟨v,eR.bS so v hv,rfl⟩).2 λo ho Z=>?_
 rw[x6 _ q]at ho;exact fe ho
def yE
  (so:oV scope sc t) (tg:n7 (hG scope sc) single t target) (hI:SI w d F sc k a b target iter) (hc:qj w d F (hG scope sc) c ifs) (he:SV w d F (hG scope sc) e elt) (hs:ly iter) (eR:f6 w sc env E ρ s.heap) (T:e9 w ρ μ s) (hA:jE d A)
  (v1:ev aj F E a μ=some (x,μ1)) (v2:ev aj F E b μ1=some (y,μ2)) (hl:im μ2 k x y=some l) (h:fS (λs=>fZ k x (MP.src μ2 x) s) (uq F E single t c e μ2.length) l (μ2++[.j []])=some (fl,ν'))
  (fin:∀C D s' ρn,s.heap.get? C=none->fM [] ρ s.heap ρn s'.heap->e9 w ρn ν' s'->s'.os=s.os->eW w ρn s'.heap (.g μ2.length) (.ref D)->(∃m,s'.heap.Ns C m)->hZ [C] ρn s'.heap->compPost (model pw w) A fH use Q (.ref D) C (.ok .next) s'):
  wpAny (model pw w) A (comprehension (.ListComp elt [⟨target,iter,ifs,0⟩] scope pos) scope env cpos (newList []) false (eval iter env) use) Q fH s:=by
 refine wpAny_comprehension_free rfl (u8 hs) (Ml λz hz hk=>?_) so.kind (λz hz hk=>?_)
  (gE (hI env E A ρ μ s x y μ1 μ2 l eR T hA v1 v2 hl) (λxv s₁ h₁=>gE h₁ (λit s₂ h₂=>?_) λZ Z f=>f) λZ Z f=>f)
 .refine ot (eR.cells z.1<|so.free z hz hk) λc u hc Z=>?_
  rw[hc];rfl
 .obtain⟨n,kd⟩:=z;subst hk;exact wL so.nodup hz
 refine ia λG kk=>?_
 obtain⟨I,wr,S,ρ₂,rfl,W,x1,x2,x3,x4,x5,x6⟩:=h₂;apply kk;refine wpAny_newObj_type<|wpAny_newFunctionEnv so.nocell (by intro z hz;simp at hz) (λh₁ hns hsb=>?_) so.kind;have hsz:(s₂.heap.push {cls:=.type "list",data:=.seq ([]:List Value).toArray}).objs.size=s₂.heap.objs.size+1:=tZ ..;rw[hsz]at hns hsb;have hlist:=jQ s₂.heap (o:=({cls:=.type "list",data:=.seq ([]:List Value).toArray}:Obj)) rfl;refine nD (ug x2 s₂.toks λZ=>.bh ⟨_,hlist,rfl,_,rfl⟩ ⟨_,hlist,rfl⟩ .aS) λρ₃ n1 n2 n3 n4=>?_
 have kp:=λz o q=>hsb.extBut z o (by
  have:=jp q;rw[hsz]at this;exact jq this)<|iV _ q
 have T3:e9 w ρ₃ _ {s₂ with heap:=h₁,toks:=s₂.toks+([]:List (Str×Value)).length}:=n2.bi kp rfl;have X2:=n1.aT<|.aY kp;have X:=x1.aT X2;have hr:ρ₃[μ2.length]?=some (s₂.heap.objs.size,s₂.heap.objs.size):=by
  exact P9 n2 n4
 have hns':=hns;have live3:=λp hp=>by
  have:=qh n2 (by show(s₂.heap.push _).objs.size<=_;rw[hsz];exact fX _) p hp;exact this
 have eC:=Id eR so X (al_81 x2.cE<|kj _) live3 hns';have ow3:=x5.aU X2 λz hz q=>absurd q fF
 have st3:=W.move x4 X2 (.aS ..) x5 fF;have hf:∀z∈(s₂.heap.objs.size+1)::wr,s.heap.get? z=none:=λz hz=>by
  obtain rfl|hz:=gC.mp hz
  .exact vL x1 (kj _)
  .exact x6 z hz
 have hdis:∀z∈own (compEnvC scope (lR env scope.names []) (s₂.heap.objs.size+1) env),z∉wr:=λz hz q=>(gC.mp hz).elim (λe=>by
  rw[show z=s₂.heap.objs.size+1 from e]at q;exact absurd (jp (x5.cls _ q).2.choose_spec.1)<|mx.mpr<|kj _) λhz=>P' eR so x6 hz q
 have loop:codeAny _ A (.compLoop (.ListComp elt [⟨target,iter,ifs,0⟩] scope pos) 0 (.ref I) (.ref s₂.heap.objs.size)<|compEnvC scope (lR env scope.names []) (s₂.heap.objs.size+1) env)
   _ {s₂ with heap:=h₁,toks:=s₂.toks+([]:List (Str×Value)).length}:=
  Go so tg hc he W hA ⟨X.bC fF,T3,x3,eC,ow3,st3,hr⟩ hf hdis h λs' ρn y1 y2 y3 y4 y5 y6=>fin _ _ s' ρn (hf _ fA) y1 y2 y3 y4 y5 y6
 rw[hsz];exact codeAny_compStart_list loop<|W.self st3 loop
@[elab_as_elim] theorem Ba {single:Bool} {t:List Nat} {a b e:Ex} {c:Option Ex} {E:Env} {μ μ':H} {v:V} {P:V->H->Prop} (h:ev aj F E (.ai single t k a b c e) μ=some (v,μ'))
  (K:∀x μ1 y μ2 l fl ν,ev aj F E a μ=some (x,μ1)->ev aj F E b μ1=some (y,μ2)->im μ2 k x y=some l->fS (λs=>fZ k x (MP.src μ2 x) s) (uq F E single t c e μ2.length) l (μ2++[.j []])=some (fl,ν)->P (.g μ2.length) ν):P v μ':=
 iA h λx μ1 v1 h=>iA h λy μ2 v2 h=>iM h λl hl h=>by
  split at h
  .rename_i hg;exact iS h<|K _ _ _ _ _ _ _ v1 v2 hl hg
  .first|exact fe h|exact nomatch h
def SV.dR {t:List Nat} {single:Bool} {target elt iter:Expr} {ifs:List Expr} {c:Option Ex} {a b e:Ex}
  (so:oV scope sc t) (tg:n7 (hG scope sc) single t target) (hI:SI w d F sc k a b target iter) (hc:qj w d F (hG scope sc) c ifs) (he:SV w d F (hG scope sc) e elt) (hs:ly iter):
  SV w d F sc (.ai single t k a b c e) (.ListComp elt [⟨target,iter,ifs,0⟩] scope pos):=λenv E A ρ μ s v μ' eR T hA h=>Ba h λx μ1 y μ2 l fl ν v1 v2 hl hg=>by
 rw[eval_ListComp];exact yE so tg hI hc he hs eR T hA v1 v2 hl hg λC D s' ρn y0 y1 y2 y3 y4 ⟨m,hm⟩ y6=>⟨m,hm,λh' hs'=>
  have kb:j8 [C] s'.heap h':=.bq hs' fA
  ⟨ρn,fM.bB (W:=[]) (y1.bC fF) kb (by simpa using y0),y2.br (s':={s' with heap:=h'}) kb y6 rfl,y3,y4.br kb y6⟩⟩
def SX.dS {t:List Nat} {single:Bool} {target elt iter:Expr} {ifs:List Expr} {c:Option Ex} {a b e:Ex} {z:Nat} {npos spos:Pos} (hz:z<214) (hk:sc.names.lookup (nm z)=some .local\/sc.names.lookup (nm z)=some .cell)
  (so:oV scope sc t) (tg:n7 (hG scope sc) single t target) (hI:SI w d F sc k a b target iter) (hc:qj w d F (hG scope sc) c ifs) (he:SV w d F (hG scope sc) e elt) (hs:ly iter)
  (hsw:∀env E ρ h,f6 w sc env E ρ h->swapsWith (.ListComp elt [⟨target,iter,ifs,0⟩] scope pos) (some<|.Name (nm z) npos) spos.line env=pure true):
  SX w d F sc (.G z<|.ai single t k a b c e) (.Assign [.Name (nm z) npos] (.ListComp elt [⟨target,iter,ifs,0⟩] scope pos) spos):=λenv E A ρ μ s fl1 E' μ' eR T hA h=>iA h λv μ9 hv h=>qG h (Ba hv λx μ1 y μ2 l fl ν v1 v2 hl hg=>by
 rw[exec_Assign_Name_used _ _ _ _<|hsw env E ρ s.heap eR];refine eX<|PySem.wpAny_standAt<|eX<|eX<|gE (yE so tg hI hc he hs eR T hA v1 v2 hl hg λC D s' ρn y0 y1 y2 y3 y4 ⟨m,hm⟩ y6=>?_) (λZ s' hq=>fD<|fD hq) λZ Z e=>e
 have hCe:∀b∈own env,b∉[C]:=λb hb q=>by
  obtain⟨_,o,ho,_⟩:=eR.off.cls b hb;rw[gw.mp q,y0]at ho;first|exact fe ho|exact nomatch ho
 refine PySem.wpAny_assign_Name (nZ hz hk (eR.bn y1) y2 y4 λs'' z1 z2 z3 z4=>?_);have off2:=y6.aU z1 λb hb q=>absurd hb (hCe b q)
 exact⟨m,D9 hm λo q=>z1.keep C o q (λ⟨p,hp,q⟩=>(y6.rho C fA p hp).2 q) λq=>hCe C q fA,λh' hs'=>
  have kb:j8 [C] s''.heap h':=.bq hs' fA
  ⟨ρn,jj (fM.bB ((y1.own.aT z1).bC λb hb=>List.mem_append_left _ hb) kb (by simp_all)) (z2.br kb off2 rfl) (z3.trans y3) (z4.br kb off2 hCe) .C⟩⟩)
end
section
variable{w:World} {A:Around} {E:Value->Shared->Prop} {s:Shared}
def Gp (hx:s.heap.IsTuple x #[.int a t]) (hy:s.heap.IsTuple y #[.int b u]) (hne:a≠b) (hu:A.units<cLine) (h:Q (.bool<|decide<|a<b) s):
  wpAny (model pw w) A (compareOp .Lt (.ref x)<|.ref y) Q E s:=by
 refine wpAny_richCompare_same_or (op:=.Lt) hx.typeIs hy.typeIs PySem.F.slot_tuple_lt (PySem.wpAny_call_entry PySem.F.slot_tuple_lt hx.typeIs PySem.F.entry_tuple_lt ?_<|PySem.F.args_tuple_lt_2 _ _)<|.inr hu;refine ia λG kk=>?_
 obtain⟨ox,hox,hcx,nx,hdx⟩:=id hx;obtain⟨oy,hoy,hcy,ny,hdy⟩:=id hy;apply kk;show wpAny _ _ (isInstance _ _>>=_) _ _ s;refine eX<|wpAny_isInstance hy.typeIs isSubtype_tuple_tuple ?_;refine eX<|wpAny_tupleItemsOf hox hdx ?_;refine eX<|wpAny_tupleItemsOf hoy hdy ?_;refine eX ?_;show wpAny _ _ _ _ _ s;have hab:(a==b)=false:=by simpa using hne
 refine eX<|eX<|wpAny_eqBool_int ?_;simp only[hab,Bool.not_false];refine eX<|wpAny_rule ?_;refine eX<|show wpAny _ _ _ _ _ s from lt_int ?_
 refine eX<|fD<|fD<|fD<|fD ?_;exact⟨_,Jf rfl fF h⟩
end
theorem vc {α:Type} {f:Nat->Nat->Option Bool} {cmp:Nat->Nat->(Bool->Shared->Prop)->Shared->Prop} {Inv:Shared->Prop} (hcmp:∀i j b s C,Inv s->f i j=some b->(∀s',Inv s'->C b s')->cmp i j C s):∀(t:KasT α) {a:α} {s:Shared} {Q:α->Shared->Prop},sT f t=some a->Inv s->(∀s',Inv s'->Q a s')->t.kasWp cmp Q s
 |.ret a,_,s,Q,h,hi,hQ=>by
  cases h;exact hQ s hi
 |.ask i j k,x,s,Q,h,hi,hQ=>by
  rw[Fy]at h;cases hb:f i j with
  |none=>rw[hb]at h;exact fe h
  |some b=>
   rw[hb]at h;exact hcmp i j b s _ hi hb λs' hi'=>vc hcmp (k b) h hi' hQ
structure qP (w:World) (A:Around) (vs out:List Value) (h:Heap) (s:Shared):Prop where
 short:vs.length<2->out=vs
 run:2<=vs.length->∃f p,sT f (kas_sort vs.length)=some p/\out=p.toList.map (λi=>vs.getD i Value.none)/\∀h' tk,(∀b o,h.get? b=some o->h'.get? b=some o)->
  wpAny (model pw w) A (keyKind' vs.toArray) (λκ s'=>s'={s with heap:=h',toks:=tk}/\∀i j b (tk:Nat) (C:Bool->Shared->Prop),f i j=some b->(∀tk',C b {s with heap:=h',toks:=tk'})->kas_ask pw w A κ vs i j C {s with heap:=h',toks:=tk}) (λZ Z=>False) {s with heap:=h',toks:=tk}
section
variable{w:World} {A:Around} {E:Value->Shared->Prop} {s:Shared} {h:Heap}
def Gq (ho:s.heap.get? a=some (seqObj "list" vs.toArray n)) (h64:vs.length<64) (hk:∀b o,h.get? b=some o->b≠a/\s.heap.get? b=some o) (S:qP w A vs out h s)
  (hP:∀h' tk,(∀b o,b≠a->s.heap.get? b=some o->h'.get? b=some o)->h'.IsList a out.toArray->P (.done<|.ret .none) {s with heap:=h',toks:=tk}):
  wpAny (model pw w) A (Builtin.«list.sort» ⟨[.ref a],[]⟩) P E s:=by
 have s1:=rp s.heap a<|Obj.mapSeq λZ=>(#[]:Array Value)
 obtain⟨e1,ho1⟩:∃e1,(s.heap.update a (Obj.mapSeq λZ=>(#[]:Array Value))).get? a=some _:=⟨_,get?_update_seq ho λZ=>#[]⟩;generalize hH:((s.heap.update a<|Obj.mapSeq λZ=>(#[]:Array Value)).push<|seqObj "tuple" vs.toArray 0).push (seqObj "list" #[] 0)=H;have hoH:H.get? a=some (seqObj "list" #[] e1):=by rw[<-hH];exact iV _<|iV _ ho1
 have kH:∀b o,b≠a->s.heap.get? b=some o->H.get? b=some o:=λb o hb q=>by rw[<-hH];exact iV _<|iV _<|s1.extBut b o hb q
 rw[list_sort_plain];refine eX<|listItems_at ho rfl ?_;refine eX (listUpdate_at ho rfl ?_ (by rw[List.size_toArray,kE];lia) (ji _));refine eX (seqEpoch_at ho1 rfl ?_);refine eX (wpAny_newTuple ?_ (by show vs.length<=_;rw[kE];lia));refine eX (wpAny_newList ?_ (ji _));refine mf ?_;rw[hH];dsimp only;have fin:∀ys tk,ys=out.toArray->P _ {s with heap:=H.update a (Obj.mapSeq λZ=>ys),toks:=tk}:=λys tk e=>by
  subst e;refine hP _ tk (λb o hb q=>(rp ..).extBut b o hb (kH b o hb q)) ⟨_,get?_update_seq hoH _,rfl,_,rfl⟩
 by_cases h2:vs.toArray.size<2
 .rw[fv h2,fv h2];refine eX (fD ?_);refine eX (fD ?_);refine eX (seqEpoch_at hoH rfl ?_);refine eX (listUpdate_at hoH rfl ?_ (ji _) (by rw[Array.size_map];show(pairsOf vs).size<=_;rw[pairsOf_size,kE];lia));simp only[bne_self_eq_false,Bool.false_eq_true];refine fD ?_;have:=fin ((arrOf (SortSt.mk' general' (vs.toArray.zip vs.toArray) #[] 7 none)).map (·.2)) s.toks (by
   have hs:=S.short (by simpa using h2);rw[hs];show(pairsOf vs).map _=vs.toArray;apply Array.ext
   .simp[pairsOf]
   .intro i h1 h2;simp[pairsOf])
  exact this
 .rw[ff h2,ff h2];have h2':2<=vs.length:=by simpa using h2
  refine kF (S.run h2') λf p hask hout hrun=>eX (gE (hrun H s.toks λb o q=>kH b o (hk b o q).1 (hk b o q).2) (λκ s0 hk'=>?_) λZ Z x=>x.elim)
  obtain⟨rfl,hcmp⟩:=hk';have hkas:(kas_sort vs.length).kasWp (kas_ask pw w A κ vs) (λp' s''=>p'=p/\∃tk,s''={s with heap:=H,toks:=tk}) {s with heap:=H,toks:=s.toks}:=
   vc (λi j b s1 C hi hf hC=>by
    obtain⟨tk,rfl⟩:=hi;exact hcmp i j b tk C hf λtk'=>hC _ ⟨tk',rfl⟩) _ hask ⟨_,rfl⟩ λs' hi=>⟨rfl,hi⟩
  refine eX (gE (kat_run (Q:=λst' s'=>∃p':Array Nat,p'.size=vs.length/\arrOf st'=p'.map (kas_item (vs.toArray.zip vs.toArray))/\failedOf st'=none/\p'=p/\∃tk,s'={s with heap:=H,toks:=tk})
   rfl h2' h64 (λp' st' s' a1 a2 a3 a4=>⟨p',iI a1 a2 a3 a4⟩) hkas) ?_ λZ Z e=>e)
  rintro⟨⟨⟩,st'⟩ s' ⟨p',hp,har,hf,rfl,tk,rfl⟩
  have hout':=kat_snds rfl har;have hsz:(List.toArray (p'.toList.map λi=>vs.getD i Value.none)).size=vs.length:=by simp only[List.size_toArray,fk,j6,hp]
  rw[hout'];refine eX (seqEpoch_at hoH rfl ?_);refine eX (listUpdate_at hoH rfl ?_ (ji _) (al_81 (la hsz) (by rw[kE];lia)));rw[hf];simp only[bne_self_eq_false,Bool.false_eq_true];exact fD (fin _ tk (by rw[hout]))
end
theorem wM {α β:Type} {f:α->Option β} {l:List α}:∀{ds:List β},fY f l=some ds->∀(i:Nat) (d:β),ds[i]?=some d->∃x,l[i]?=some x/\f x=some d:=by
 induction l with
 |nil=>intro ds h i d hd;rw[<-Option.some.inj h]at hd;first|exact fe hd|exact nomatch hd
 |cons v r ih=>
  intro ds h i d hd;refine kU h λe es a b c=>?_
  rw[c]at hd;cases i with
  |zero=>exact⟨v,rfl,a.trans hd⟩
  |succ i=>exact ih b i d hd
section
variable{w:World} {ρ:f8} {h:Heap}
def RelVs.df (r:RelVs w ρ h l us) (i:Nat):eW w ρ h (l.getD i .B) (us.getD i .none):=by
 simp only[List.getD_eq_getElem?_getD,List.getD_eq_getElem?_getD];cases hl:l[i]? with
 |some x=>
  refine e8 (r.get i hl) λy hy ry=>?_
  rw[hy];exact ry
 |none=>
  have:us[i]?=none:=by
   rw[List.getElem?_eq_none_iff]at hl⊢;rw[<-r.aV];exact hl
  rw[this];exact .bv
theorem RelVs.dg {l:List V} {us:List Value} (r:RelVs w ρ h l us):∀ps:List Nat,RelVs w ρ h (ps.map λi=>l.getD i .B)<|ps.map λi=>us.getD i .none
 |[]=>.aS
 |p::ps=>.aR (r.df p)<|RelVs.dg r ps
theorem Mm {α:Type} {f:V->Option α} {l:List V}:∀{us:List Value} {ds:List α},RelVs w ρ h l us->fY f l=some ds->∀u∈us,∃x d,f x=some d/\eW w ρ h x u:=by
 induction l with
 |nil=>intro us ds r _ u hu;exact(nH (Q:=λus=>u∈us->False) r (λq=>(jw q).elim) hu).elim
 |cons v l ih=>
  intro us ds r hn u;exact kU hn λe es a b Z=>kq (Q:=λus=>u∈us->_) r λx xs p q hu=>(gC.mp hu).elim (λz=>⟨v,e,a,z▸p⟩)<|ih q b u
end
def Bb (w:World) (A:Around) (us:List Value) (f:Nat->Nat->Option Bool) (s:Shared):Prop:=
 wpAny (model pw w) A (keyKind' us.toArray) (λκ s'=>s'=s/\∀i j b (tk:Nat) (C:Bool->Shared->Prop),f i j=some b->(∀tk',C b {s with toks:=tk'})->kas_ask pw w A κ us i j C {s with toks:=tk}) (λZ Z=>False) s
section
variable{w:World} {A:Around} {ρ:f8} {s:Shared}
def Ky {α:Type} {f:V->Option α} {cmp:α->α->Option Bool} {l:List V} {us:List Value} {ds:List α} {i j:Nat} {b:Bool} (r:RelVs w ρ s.heap l us) (hn:fY f l=some ds) (hf:((ds[i]?).bind λa=>(ds[j]?).bind λb=>cmp a b)=some b) {G:Prop} (k:∀p q x y u v,cmp p q=some b->f x=some p->f y=some q->eW w ρ s.heap x u->eW w ρ s.heap y v->us.getD i .none=u->us.getD j .none=v->G):G:=
 oB hf λp hp hf=>oB hf λq hq hf=>(wM hn i p hp).elim λx hx=>(wM hn j q hq).elim λy hy=>(r.get i hx.1).elim λu hu=>(r.get j hy.1).elim λv hv=>k p q x y u v hf hx.2 hy.2 hu.2 hv.2 (by rw[List.getD_eq_getElem?_getD,hu.1];rfl) (by rw[List.getD_eq_getElem?_getD,hv.1];rfl)
theorem tD {x:V} {u:Value} {d:Int} {h:Heap} {P:Value->Prop} (e:mX x=some d) (r:eW w ρ h x u) (k:∀t,P<|.int d t):P u:=by
 cases x with
 |a i=>rw[<-Option.some.inj e]at k;exact jD r k
 |_=>first|exact fe e|exact nomatch e
theorem Qa {x:V} {l:List V} {Q:V->Prop} (e:DU x=some l) (k:Q (.v l)):Q x:=by
 cases x with
 |v i=>rw[<-Option.some.inj e]at k;exact k
 |_=>first|exact fe e|exact nomatch e
theorem Qb {α:Type} {l:List α} {x:α} {Q:List α->Prop} (e:l.head?=some x) (k:∀r,l.tail=r->Q (x::r)):Q l:=by
 cases l with
 |nil=>first|exact fe e|exact nomatch e
 |cons y r=>rw[<-Option.some.inj e]at k;exact k r rfl
def En {g:V->Option Int} {v:V} {p:Int×Int} {u:Value} (h:oz g v=some p) (r:eW w ρ s.heap v u) {G:Prop} (k:∀a o us n x x' t r',g x=some p.1->eW w ρ s.heap x x'->u=.ref a->s.heap.get? a=some o->o.cls=.type "tuple"->o.data=.seq us n->us.toList=x'::.int p.2 t::r'->G):G:=by
 refine oB h λl e h=>oB h λx e1 h=>oB h λy e2 h=>oB h λa e3 h=>oB h λi e4 h=>?_
 have hp:=Option.some.inj h;subst hp;refine Qa (Q:=λv=>eW w ρ s.heap v u->G) e (λr=>?_) r;refine qz (P:=λu'=>u=u'->G) r (λb us ht Z q eu=>?_) rfl;refine ht.elim λo ht=>ht.2.2.elim λn hd=>Qb (Q:=λl=>RelVs w ρ s.heap l us.toList->G) e1 (λl1 el q=>?_) q
 rw[el]at e2;refine kq (Q:=λL=>us.toList=L->G) q (λx' xs rx q eL=>?_) rfl;refine Qb (Q:=λl=>RelVs w ρ s.heap l xs->G) e2 (λl2 Z q=>?_) q;refine kq (Q:=λL=>us.toList=x'::L->G) q (λy' ys ry Z eL=>?_) eL;refine tD (P:=λy'=>us.toList=x'::y'::ys->G) e4 ry (λt eL=>?_) eL;exact k b o us n x x' t ys e3 rx eu ht.1 ht.2.1 hd eL
def Gr (r:RelVs w ρ s.heap l us) (hn:fY mX l=some ns) (h2:2<=us.length):Bb w A us (rC ns) s:=by
 refine kas_kind (T:=.type "int") h2 (λv hv=>(Mm r hn v hv).elim λx h=>h.elim λd h=>tD (P:=λv=>Looks (model pw w) s.heap (typeOf v) _) h.1 h.2 λt=>Looks.of_pure rfl) ay ay ⟨rfl,λi j b tk C hf hC=>?_⟩;refine Ky (cmp:=λa b=>some<|decide<|a<b) r hn hf λp q x y u v e ex ey rx ry eu ev=>?_
 rw[<-Option.some.inj e]at hC;unfold kas_ask;rw[eu,ev];refine tD (P:=λu=>wpAny _ _ (keyLt' _ u v) _ _ _) ex rx λt1=>tD (P:=λv=>wpAny _ _ (keyLt' _ _ v) _ _ _) ey ry λt2=>?_
 rw[keyLt'_oneType];exact oneLt_int<|hC _
theorem Yi {g:V->Option Int} {l:List V}:∀{us:List Value} {ps:List (Int×Int)},RelVs w ρ s.heap l us->fY (oz g) l=some ps->∃fs,KatTups s.heap us fs/\fs.length=us.length/\∀z∈fs,∃x p,g x=some p/\eW w ρ s.heap x z:=by
 induction l with
 |nil=>intro us ps r _;exact nH (Q:=λus=>∃fs,KatTups s.heap us fs/\fs.length=us.length/\∀z∈fs,∃x p,g x=some p/\eW w ρ s.heap x z) r ⟨[],KatTups.nil,rfl,λz hz=>(jw hz).elim⟩
 |cons v l ih=>
  intro us ps r hn;refine kU hn λe es a b Z=>kq (Q:=λus=>∃fs,KatTups s.heap us fs/\fs.length=us.length/\∀z∈fs,∃x p,g x=some p/\eW w ρ s.heap x z) r λu us p q=>(ih q b).elim λfs hf=>En a p λa' o xs n x x' t r' hg rx eu ho hc hd hl=>?_
  rw[eu];exact⟨x'::fs,KatTups.cons ho hc hd (by rw[<-Array.getElem?_toList,hl];rfl) hf.1,congrArg (·+1) hf.2.1,λz hz=>(gC.mp hz).elim (λq=>⟨x,e.1,hg,q▸rx⟩)<|hf.2.2 z⟩
def Gs {p q:Int×Int} {b:Bool} (h:sU p q=some b) {Q:Bool->Prop} (k1:p.1≠q.1->Q (decide<|p.1<q.1)) (k2:p.1=q.1->p.2≠q.2->Q (decide<|p.2<q.2)):Q b:=by
 unfold sU at h;by_cases e:p.1=q.1
 .rw[fu e]at h;by_cases e':p.2=q.2
  .rw[fu e']at h;first|exact fe h|exact nomatch h
  .rw[fz e']at h;exact Option.some.inj h▸k2 e e'
 .rw[fz e]at h;exact Option.some.inj h▸k1 e
def Bc (hne:a≠c) (h:Q (decide<|a<c) s):KatLex pw w A b fin Q ((Value.int a t,Value.int c u)::r) i s:=by
 refine kat_cons<|wpAny_eqBool_int ?_;have:(a==c)=false:=by simpa using hne
 simp only[this];refine kat_no ?_;cases hb:(b&&i==0)with
 |true=>exact oneLt_int h
 |false=>exact kat_one _ _<|lt_int h
def Ie (h:KatLex pw w A b fin Q r (i+1) s):KatLex pw w A b fin Q ((Value.int a t,Value.int a u)::r) i s:=by
 refine kat_cons<|wpAny_eqBool_int ?_;simp only[beq_self_eq_true];exact kat_yes h
def Gu {g:V->Option Int} {T:Value} (hT:(T==T)) (r:RelVs w ρ s.heap l us) (hn:fY (oz g) l=some ps) (h2:2<=us.length) (hL:∀x p u,g x=some p->eW w ρ s.heap x u->Looks (model pw w) s.heap (typeOf u) T)
  (hlex:∀{x y:V} {p q:Int} {u v:Value} {fin:Bool} {R:Bool->Shared->Prop} {r:List (Value×Value)} {tk:Nat},g x=some p->g y=some q->eW w ρ s.heap x u->eW w ρ s.heap y v->(p≠q->R (decide<|p<q) {s with toks:=tk}->KatLex pw w A (T !=Value.type "tuple") fin R ((u,v)::r) 0 {s with toks:=tk})/\(p=q->KatLex pw w A (T !=Value.type "tuple") fin R r 1 {s with toks:=tk}->KatLex pw w A (T !=Value.type "tuple") fin R ((u,v)::r) 0 {s with toks:=tk})):Bb w A us (jC ps) s:=
 (Yi r hn).elim λfs t=>kat_kind (T:=T) t.1 (by rw[t.2.1];exact fB ay h2) (λv hv=>(t.2.2 v hv).elim λx h=>h.elim λp h=>hL x p v h.1 h.2) hT ⟨rfl,λi j b tk C hf hC=>by
  refine Ky r hn hf λp q x y u v e ex ey rx ry eu ev=>En ex rx λax ox xs nx x1 x2 t1 r1 g1 rx1 ea hox Z hdx hlx=>En ey ry λay oy ys ny y1 y2 t2 r2 g2 ry1 eb hoy Z hdy hly=>?_
  unfold kas_ask;rw[eu,ev,ea,eb];refine kat_lt hox hdx hoy hdy ?_;rw[hlx,hly];have L:=hlex (tk:=tk) (fin:=decide<|xs.size<ys.size) (R:=C) (r:=(Value.int p.2 t1,Value.int q.2 t2)::r1.zip r2) g1 g2 rx1 ry1;exact Gs (Q:=λb=>(∀tk',C b {s with toks:=tk'})->_) e (λz hC=>L.1 z<|hC tk) (λz z' hC=>L.2 z<|Bc z'<|hC tk) hC⟩
def Qc (r:RelVs w ρ s.heap l us) (hn:fY (oz mX) l=some ps) (h2:2<=us.length):Bb w A us (jC ps) s:=
 Gu (T:=.type "int") ay r hn h2 (λx p u e r=>tD (P:=λu=>Looks (model pw w) s.heap (typeOf u) _) e r λt=>Looks.of_pure rfl) λ{x y p q u v fin R r tk} ex ey rx ry=>tD (P:=λu=>(_->_->KatLex _ _ _ _ _ _ ((u,v)::_) _ _)/\(_->_->KatLex _ _ _ _ _ _ ((u,v)::_) _ _)) ex rx λt1=>tD (P:=λv=>(_->_->KatLex _ _ _ _ _ _ ((_,v)::_) _ _)/\(_->_->KatLex _ _ _ _ _ _ ((_,v)::_) _ _)) ey ry λt2=>⟨λz h=>Bc z h,λz h=>by subst z;exact Ie h⟩
theorem Ig {x:V} {u:Value} {d:Int} (e:DV x=some d) (r:eW w ρ s.heap x u) {G:Prop} (k:∀a t,u=.ref a->s.heap.IsTuple a #[.int d t]->G):G:=by
 refine oB e λl e1 h=>oB h λy e2 h=>Qa (Q:=λv=>eW w ρ s.heap v u->G) e1 (λr=>?_) r
 refine qz (P:=λu'=>u=u'->G) r (λb us ht Z q eu=>?_) rfl;refine Qb (Q:=λl=>RelVs w ρ s.heap l us.toList->G) e2 (λl1 el q=>?_) q;rw[el]at h;cases l1 with
 |cons _ _=>first|exact fe h|exact nomatch h
 |nil=>
  refine pE (Q:=λL=>us.toList=L->G) q (λx' rx eL=>?_) rfl;refine tD (P:=λx'=>us.toList=[x']->G) h rx (λt eL=>?_) eL;exact k b t eu<|(Array.toList_inj.mp eL:us=#[.int d t])▸ht
def Qd (hu:A.units+10<cLine) (r:RelVs w ρ s.heap l us) (hn:fY (oz DV) l=some ps) (h2:2<=us.length):Bb w A us (jC ps) s:=
 Gu (T:=.type "tuple") ay r hn h2 (λx p u e r=>Ig e r λa t eu g=>by
  rw[eu];refine g.elim λo g=>?_
  have:Looks (model pw w) s.heap (typeOf<|.ref a) o.cls:=(Looks.ld g.1).andThen .now;rwa [g.2.1]at this) λ{x y p q u v fin R r tk} ex ey rx ry=>Ig ex rx λa t1 eu gx=>Ig ey ry λb t2 ev gy=>by
  have read:∀{z:Addr} {a:Int} {t:Tok},s.heap.IsTuple z #[.int a t]->∃as,Reads s.heap (.ref z) (.tuple [.int a]) as:=λ{z a t} g=>g.elim λo g=>g.2.2.elim λn hd=>⟨_,.tuple g.1 g.2.1 hd<|.cons (.int a t) .nil⟩
  refine (read gx).elim λas ra=>(read gy).elim λbs rb=>?_
  have eq:=eqAt_reads _ _ A {s with toks:=tk} _ _ _ _ ra rb rfl rfl<|fq (ik (al_81 (Nat.min_le_left _ _)<|show 1<=10 from ay) _) hu;rw[show PyData.eqv (.tuple [.int p]) (.tuple [.int q])=decide (p=q)by
   simp only[PyData.eqv,PyData.eqvAll,Bool.and_true];by_cases g:p=q<;>simp[g]]at eq
  rw[eu,ev];refine⟨λz h=>kat_cons<|eq _ _ _ _ ?_,λz h=>kat_cons<|eq _ _ _ _ ?_⟩
  .rw[fz z];show wpAny _ _ _ _ _ _;exact kat_one _ _<|Gp (A:=A) (s:={s with toks:=tk}) gx gy z (fq (gV _ _) hu) h
  .rw[fu z];exact kat_yes h
end
section
variable{w:World} {A:Around} {E:Value->Shared->Prop} {s:Shared} {ρ:f8}
def r7 (hs:lg l f=some out):l.length<64:=by
 unfold lg at hs;split at hs
 .rename_i h1;have h1:=iw h1;lia
 .split at hs
  .first|exact fe (by assumption)|contradiction
  .rename_i h2;have h2:=iw h2;lia
def yF (hs:jx l=some out):l.length<64:=by
 unfold jx at hs;split at hs
 .exact r7 hs
 .split at hs
  .exact r7 hs
  .split at hs
   .exact r7 hs
   .first|exact fe (by assumption)|contradiction
def tE (r:RelVs w ρ h0 l us) (hs:lg l f=some out) (key:∀s:Shared,2<=us.length->∀h' tk,(∀b o,h0.get? b=some o->h'.get? b=some o)->Bb w A us f {s with heap:=h',toks:=tk}):
  ∃outv,(∀s,qP w A us outv h0 s)/\RelVs w ρ h0 out outv:=by
 refine ia λG kk=>?_
 unfold lg at hs;split at hs
 .rename_i h1;cases hs;have h1:=iw h1;rw[r.aV]at h1;apply kk;exact⟨us,λs=>⟨λZ=>rfl,λh2=>absurd h2 eZ⟩,r⟩
 .rename_i h1;split at hs
  .first|exact fe (by assumption)|contradiction
  .split at hs
   .first|exact fe (by assumption)|contradiction
   .rename_i p hp;cases hs;have hlen:2<=us.length:=by
     rw[<-r.aV];have h1:¬l.length<=1:=λq=>by rw[Nat.ble_eq.mpr q]at h1;first|exact fe h1|exact nomatch h1
     lia
    rw[r.aV]at hp;apply kk;exact⟨p.toList.map λi=>us.getD i .none,λs=>⟨λq=>absurd hlen eZ,λZ=>⟨f,p,hp,rfl,λh' tk hk=>key s hlen h' tk hk⟩⟩,r.dg _⟩
set_option tactic.hygienic true in
def yG (hu:A.units+10<cLine) (r:RelVs w ρ h0 l us) (hs:jx l=some out):∃outv,(∀s,qP w A us outv h0 s)/\RelVs w ρ h0 out outv:=by
 refine ia λG kk=>?_
 unfold jx at hs;split at hs
 .rename_i ns hn;apply kk;exact tE r hs λs h2 h' tk hk=>Gr (r.aU (lz hk)<|.aS ..) hn h2
 .split at hs
  .rename_i ps hn;apply kk;exact tE r hs λs h2 h' tk hk=>Qc (r.aU (lz hk)<|.aS ..) hn h2
  .split at hs
   .rename_i ps hn;apply kk;exact tE r hs λs h2 h' tk hk=>Qd hu (r.aU (lz hk)<|.aS ..) hn h2
   .first|exact fe hs|exact nomatch hs
def Bd {Q:Value->Shared->Prop} (kp:∀b o,h0.get? b=some o->s.heap.get? b=some o) (h64:us.length<64) (S:∀s,qP w A.in1 us outv h0 s)
  (hQ:∀D h' tk,(∀b o,h0.get? b=some o->h'.get? b=some o)->h0.get? D=none->h'.IsList D outv.toArray->Q (.ref D) {s with heap:=h',toks:=tk}):
  wpAny (model pw w) A (newList us) (λl s₁=>wpAny (model pw w) A (call (.builtin "list.sort") [l]) (λZ s₂=>Q l s₂) E s₁) E s:=by
 refine wpAny_newList ?_ (by rw[kE];lia);have hD:=jQ s.heap (o:=seqObj "list" us.toArray 0) rfl;have hn:h0.get? s.heap.objs.size=none:=by
  cases e:h0.get? s.heap.objs.size with
  |none=>rfl
  |some o=>exact absurd (jp<|kp _ _ e)<|Nat.lt_irrefl _
 refine PySem.wpAny_call_entry slot_list_sort ⟨_,hD,rfl⟩ entry_list_sort ?_ (args_list_sort _);exact Gq hD h64 (λb o e=>⟨λq=>by simp_all,iV _ (kp b o e)⟩) (S _) λh' tk hk hl=>⟨_,rfl,hQ _ h' tk (λb o e=>hk b o (λq=>by simp only[q,hn]at e;cases e) (iV _ (kp b o e))) hn hl⟩
def Cp (hl:s.heap.IsList l us.toArray) (h64:us.length<64) (S:∀s',qP w A.in1.in1 us outv s.heap s')
  (hQ:∀D h' tk,(∀b o,s.heap.get? b=some o->h'.get? b=some o)->s.heap.get? D=none->h'.IsList D outv.toArray->Q (.ref D) {s with heap:=h',toks:=tk}):
  wpAny (model pw w) A (call (.builtin "sorted") [.ref l]) Q E s:=by
 refine Calls.call_function_entry kind_sorted plain_sorted entry_sorted (args_sorted1 _)<|eX<|fD ?_;refine eX<|collect_list hl ?_ (by rw[kE];lia);have kp:∀b o,s.heap.get? b=some o->((s.heap.push (seqObj "list" #[] 0)).update s.heap.objs.size (Obj.mapSeq (·++us.toArray))).get? b=some o:=λb o q=>by
  have hlt:=jp q;rw[Heap.get?_update_ne _ _ _ _ (jq hlt)];exact iV _ q
 refine eX (gE (Bd kp h64 S λD h' tk a b c=>hQ D h' tk a b c) (λv s₁ h₁=>?_) λZ Z e=>e);exact eX (mf (gE h₁ (λZ s₂ h₂=>fD ⟨_,rfl,h₂⟩) λZ Z e=>e))
def Cq (hh:A.handled=none) (hd:(d==sysModules)=false) (hm:s.heap.DictOf (intKind pw w) d kvs) (hlen:kvs.length<64)
  (hQ:∀us:List Value,us.length=kvs.length->(∀(i:Nat) (u:Value),us[i]?=some u->∃k x,kvs[i]?=some (k,x)/\(intKind pw w).is k u)->∃outv,(∀s',qP w A.in1.in1 us outv s.heap s')/\
   ∀D h' tk,(∀b o,s.heap.get? b=some o->h'.get? b=some o)->s.heap.get? D=none->h'.IsList D outv.toArray->Q (.ref D) {s with heap:=h',toks:=tk}):
  wpAny (model pw w) A (call (.builtin "sorted") [.ref d]) Q E s:=by
 obtain⟨ep,hat⟩:=hm.dictAt;refine Calls.call_function_entry kind_sorted plain_sorted entry_sorted (args_sorted1 _)<|eX<|fD ?_;refine eX (kdu_collect (kdl_dict hd) hh hat (by rw[kE];lia) λh' tk acc hk hacc=>?_);have hl:acc.toList.length=kvs.length:=by rw[j6];exact hacc.1
 refine e8 (hQ acc.toList hl λi u hu=>hacc.2 i u (by simp_all)) λoutv S q=>eX (gE (Bd hk eZ S λD h' tk a b c=>q D h' tk a b c) (λv s₁ h₁=>?_) λZ Z e=>e)
 exact eX (mf (gE h₁ (λZ s₂ h₂=>fD ⟨_,rfl,h₂⟩) λZ Z e=>e))
end
section
variable{w:World} {d:Nat} {F:fb} {sc:Scope} {k:Nat} {pos pos':Pos}
theorem Eo {α β:Type} {f:α->Option β} {l:List α}:∀{ds:List β},fY f l=some ds->ds.length=l.length:=by
 induction l with
 |nil=>intro ds h;cases h;rfl
 |cons v r ih=>intro ds h;exact kU h λe es Z hs q=>q▸congrArg Nat.succ (ih hs)
def Tw {u:Value} {k:Int} (h:u.isInt k) {P:Value->Prop} (kk:∀t,P<|.int k t):P u:=by
 cases u<;>simp[Value.isInt]at h
 subst h;exact kk _
theorem kdr {ρ:f8} {h:Heap} {kvs:List (Int×Value)}:∀{l:List (PyData×V)} {vs us},fY (λp=>rA p.1) l=some vs->gW w ρ h l (kvs.map λp=>(.int p.1,p.2))->us.length=kvs.length->(∀(i:Nat) u,us[i]?=some u->∃k x,kvs[i]?=some (k,x)/\(intKind pw w).is k u)->RelVs w ρ h vs us:=by
 induction kvs with
 |nil=>
  intro l vs us h r hl _;refine eN (Q:=λl=>fY (λp:PyData×V=>rA p.1) l=some vs->RelVs w _ _ vs us) r (λh=>?_) h;cases h;cases List.length_eq_zero_iff.1 hl;exact .aS
 |cons p kvs ih=>
  intro l vs us h r hl hu;refine eC (Q:=λl=>fY (λp:PyData×V=>rA p.1) l=some vs->RelVs w _ _ vs us) r (λv l r1 r2 h=>kU h λe es he hs q=>?_) h;cases us with
  |nil=>exact nomatch hl
  |cons u us=>
   cases he;rw[q];exact ot (hu 0 u rfl) λk x e hk=>Tw (k:=p.1) (P:=λu=>RelVs w _ _ _ (u::us)) (by cases e;simpa[intKind]using hk) λt=>.aR (.bY _ t)<|ih hs r2 (Nat.succ.inj hl) λi=>hu<|i+1
def Ih {l:List (PyData×V)} (h:fY (λp=>rA p.1) l=some vs):oC l:=λy v r e=>by
 subst e;refine kU h λe es he Z Z=>?_
 cases y<;>first|exact⟨_,rfl⟩|cases he
theorem oG {o:Option (List V)} {k:List V->Option V} {r:V} (h:(match o with
  |some v=>k v
  |none=>none)=some r) {G:Prop} (c:∀v,o=some v->k v=some r->G):G:=by
 cases o with
 |none=>exact fe h
 |some v=>exact c v rfl h
theorem Tx {P:V->V->Prop} (h:mA μ x=some r) (kl:∀l out,jx l=some out->P (.w l) (.w out)) (kr:∀k l out,d' μ k=some (.j l)->jx l=some out->P (.g k) (.w out))
 (kd:∀k l vs out,d' μ k=some (.dict l)->fY (λp=>rA p.1) l=some vs->jx vs=some out->P (.g k) (.w out)):P x r:=by
 cases x with
 |w l=>exact AG (P:=λr=>P _ r) h λout=>kl l out
 |g k=>exact FW h (λl g h=>AG (P:=λr=>P _ r) h λout=>kr k l out g) λl g h=>oG (k:=λl=>(jx l).map V.w) h λvs q h=>AG (P:=λr=>P _ r) h λout=>kd k l vs out g q
 |_=>exact fe h
def Qe {out:List V} {outv:List Value} {D:Addr} {h' tk} (a:fM [] ρ s.heap ρ₁ s₁.heap) (b:e9 w ρ₁ μ1 s₁) (c:s₁.os=s.os) (ro:RelVs w ρ₁ s₁.heap out outv) (hk:∀b o,s₁.heap.get? b=some o->h'.get? b=some o) (hD:s₁.heap.get? D=none) (hl:h'.IsList D outv.toArray):
  PV w ρ s (.w out) μ1 (.ref D) {s₁ with heap:=h',toks:=tk}:=
 (fV.cz (s₂:={s₁ with heap:=h',toks:=tk}) b hk rfl rfl<|.bo hl (λ⟨p,hp,q⟩=>kF (b.cR hp) λZ Z Z Z z=>e8 z.bw λZ z2 Z=>by rw[q,hD]at z2;exact fe z2) (by simpa using ro.aU (lz hk) (.aS ..))).bj a c
def Wz {A:Around} (h:A.units+100<cLine):A.in1.in1.units+10<cLine:=by show A.units+1+1+10<cLine;lia
def Qf {l out:List V} {ax:Addr} {us:Array Value} (hu:A.units+100<cLine) (a:fM [] ρ s.heap ρ₁ s₁.heap) (b:e9 w ρ₁ μ1 s₁) (c:s₁.os=s.os) (hl:s₁.heap.IsList ax us) (hrl:RelVs w ρ₁ s₁.heap l us.toList) (hs:jx l=some out):
  wpAny (model pw w) A (PySem.call (.builtin "sorted") [.ref ax]) (PV w ρ s (.w out) μ1) fH s₁:=
 e8 (yG (Wz hu) hrl hs) λoutv S ro=>Cp (by simpa using hl) (by rw[<-hrl.aV];exact yF hs) S λD h' tk hk hD hl=>Qe a b c ro hk hD hl
def SV.cD (hk:sc.names.lookup ("sorted":Str)=some .globalImplicit) (hg:jS w "sorted" (.builtin "sorted")) (h1:SV w d F sc a e) (hp:f7 e):
  SV w d F sc (.am a) (.Call (.Name ("sorted":Str) np) [e] [] pos):=λenv E A ρ μ s v μ' eR T hA h=>
 iA h λx μ1 v1 h=>iC h λr hr h=>iS h (Eg hk ay hg (hY.aR hp h1 hY.aS) (by rw[kC,hp];rfl) eR T hA (rT v1) λus s₁ ρ₁ a b c rr=>pE rr λu ru=>
  Tx (P:=λx r=>eW w ρ₁ s₁.heap x u->wpAny (model pw w) A (PySem.call (.builtin "sorted") [u]) (PV w ρ s r μ1) fH s₁) hr
   (λZ Z hs ru=>mh ru λZ Z t1 Z t3=>Qf (nY hA) a b c t1 t3 hs)
   (λZ Z Z hl hs ru=>mi (P:=λu=>wpAny (model pw w) A (PySem.call (.builtin "sorted") [u]) _ fH s₁) b ru hl λZ Z Z t1 t3=>Qf (nY hA) a b c t1 t3 hs)
   (λZ l vs Z hl hvs hs ru=>dI (P:=λu=>wpAny (model pw w) A (PySem.call (.builtin "sorted") [u]) _ fH s₁) b ru hl (Ih hvs) λZ kvs Z hs' g1 g2=>
    Cq hA.1 hs' g1 (by rw[<-(g2.aV.trans<|fk ..),<-Eo hvs];exact yF hs) λus hlen hus=>
     e8 (yG (Wz<|nY hA) (kdr hvs g2 hlen hus) hs) λoutv S ro=>⟨outv,S,λD h' tk hk hD hl=>Qe a b c ro hk hD hl⟩) ru)
end
structure Ok (P:Prop):Type where
 b:Bool
 h:b->P
section
variable{P Q R S T U X Y Z:Prop}
noncomputable def gb:Ok P:=⟨false,nofun⟩
noncomputable def jW (h:P):Ok P:=⟨true,λZ=>h⟩
def Gv {a b:Bool} (e:(a&&b)):a/\b:=by simpa using e
noncomputable def jm (p:Ok P) (f:P->R):Ok R:=⟨p.b,λe=>f<|p.h e⟩
noncomputable def Ok.ap (f:Ok (P->Q)) (p:Ok P):Ok Q:=⟨f.b&&p.b,λe=>f.h (Gv e).1<|p.h (Gv e).2⟩
def kO (p:Ok P) (q:Ok Q) (f:P->Q->R):Ok R:=(jm p f).ap q
def sE (p:Ok P) (q:Ok Q) (s:Ok S) (f:P->Q->S->R):Ok R:=(kO p q f).ap s
def ql (p:Ok P) (q:Ok Q) (s:Ok S) (t:Ok T) (f:P->Q->S->T->R):Ok R:=(sE p q s f).ap t
def Gw (p:Ok P) (q:Ok Q) (s:Ok S) (t:Ok T) (u:Ok U) (f:P->Q->S->T->U->R):Ok R:=(ql p q s t f).ap u
def yH (p:Ok P) (q:Ok Q) (s:Ok S) (t:Ok T) (u:Ok U) (x:Ok X) (f:P->Q->S->T->U->X->R):Ok R:=(Gw p q s t u f).ap x
def Gx (p:Ok P) (q:Ok Q) (s:Ok S) (t:Ok T) (u:Ok U) (x:Ok X) (y:Ok Y) (f:P->Q->S->T->U->X->Y->R):Ok R:=(yH p q s t u x f).ap y
noncomputable def oox (p q:Ok P):Ok P:=⟨p.b||q.b,λe=>by
 cases h:p.b with
 |true=>exact p.h h
 |false=>rw[h] at e;exact q.h e⟩
noncomputable def iu (b:Bool):Ok (b):=⟨b,id⟩
noncomputable def gU {α:Type} [BEq α] [LawfulBEq α] (a b:α):Ok (a=b):=⟨a==b,eq_of_beq⟩
noncomputable def lX (P:Prop) [Decidable P]:Ok P:=⟨decide P,of_decide_eq_true⟩
def Be {α:Type} {P:α->Prop} (f:∀x,Ok<|P x):(l:List α)->Ok (∀x∈l,P x)
 |[]=>jW λZ h=>(List.not_mem_nil h).elim
 |x::r=>kO (f x) (Be f r) λh g y hy=>by rcases List.mem_cons.mp hy with rfl|hy;exact h;exact g y hy
end
section
variable{P:Expr->Prop}
def jy (x:Expr) (k:∀n p,Ok<|P<|.Name n p):Ok (P x):=if h:x.ctorIdx=23 then Expr.Name.elim (motive_1:=λx=>Ok<|P x) x h k else gb
def Yj (x:Expr) (k:∀v k p,Ok<|P<|.Constant v k p):Ok (P x):=if h:x.ctorIdx=19 then Expr.Constant.elim (motive_1:=λx=>Ok<|P x) x h k else gb
def r8 (x:Expr) (k:∀x n p,Ok<|P<|.Attribute x n p):Ok (P x):=if h:x.ctorIdx=20 then Expr.Attribute.elim (motive_1:=λx=>Ok<|P x) x h k else gb
def Ii (x:Expr) (k:∀x y p,Ok<|P<|.Subscript x y p):Ok (P x):=if h:x.ctorIdx=21 then Expr.Subscript.elim (motive_1:=λx=>Ok<|P x) x h k else gb
def xSl (x:Expr) (k:∀l u t p,Ok<|P<|.Slice l u t p):Ok (P x):=if h:x.ctorIdx=26 then Expr.Slice.elim (motive_1:=λx=>Ok<|P x) x h k else gb
def Ty (x:Expr) (k:∀f as kw p,Ok<|P<|.Call f as kw p):Ok (P x):=if h:x.ctorIdx=16 then Expr.Call.elim (motive_1:=λx=>Ok<|P x) x h k else gb
def WA (x:Expr) (k:∀o x p,Ok<|P<|.UnaryOp o x p):Ok (P x):=if h:x.ctorIdx=3 then Expr.UnaryOp.elim (motive_1:=λx=>Ok<|P x) x h k else gb
def Yk (x:Expr) (k:∀l os rs p,Ok<|P<|.Compare l os rs p):Ok (P x):=if h:x.ctorIdx=15 then Expr.Compare.elim (motive_1:=λx=>Ok<|P x) x h k else gb
def Yl (x:Expr) (k:∀o xs p,Ok<|P<|.BoolOp o xs p):Ok (P x):=if h:x.ctorIdx=0 then Expr.BoolOp.elim (motive_1:=λx=>Ok<|P x) x h k else gb
def xIf (x:Expr) (k:∀c l r p,Ok<|P<|.IfExp c l r p):Ok (P x):=if h:x.ctorIdx=5 then Expr.IfExp.elim (motive_1:=λx=>Ok<|P x) x h k else gb
def Bf (x:Expr) (k:∀xs k p,Ok<|P<|.Tuple xs k p):Ok (P x):=if h:x.ctorIdx=25 then Expr.Tuple.elim (motive_1:=λx=>Ok<|P x) x h k else gb
def zT (x:Expr) (k:∀xs p,Ok<|P<|.List xs p):Ok (P x):=if h:x.ctorIdx=24 then Expr.List.elim (motive_1:=λx=>Ok<|P x) x h k else gb
def Tz (x:Expr) (k:∀ks vs p,Ok<|P<|.Dict ks vs p):Ok (P x):=if h:x.ctorIdx=6 then Expr.Dict.elim (motive_1:=λx=>Ok<|P x) x h k else gb
def Kz (x:Expr) (k:∀x gs sc p,Ok<|P<|.ListComp x gs sc p):Ok (P x):=if h:x.ctorIdx=8 then Expr.ListComp.elim (motive_1:=λx=>Ok<|P x) x h k else gb
def Qg (x:Expr) (k:∀l o r p,Ok<|P<|.BinOp l o r p):Ok (P x):=if h:x.ctorIdx=2 then Expr.BinOp.elim (motive_1:=λx=>Ok<|P x) x h k else gb
end
section
variable{α:Type} {P:List α->Prop}
def pH (k:Ok (P [])):(l:List α)->Ok (P l)
 |[]=>k
 |_::_=>gb
def Gy (l:List α) (k:∀a r,Ok<|P (a::r)):Ok (P l):=match l with
 |[]=>gb
 |a::r=>k a r
def qQ (l:List α) (k:∀a,Ok<|P [a]):Ok (P l):=Gy l λa r=>pH (P:=λr=>P (a::r)) (k a) r
def lx2 (l:List α) (k:∀a b,Ok<|P [a,b]):Ok (P l):=Gy l λa r=>qQ (P:=λr=>P (a::r)) r<|k a
end
section
variable{P:Expr->Prop}
def pI (x:Expr) (k:∀c xs p,Ok<|P<|.Call c xs [] p):Ok (P x):=Ty x λc xs kw p=>pH (P:=λkw=>P<|.Call c xs kw p) (k c xs p) kw
def oK (x:Expr) (k:∀c y p,Ok<|P<|.Call c [y] [] p):Ok (P x):=pI x λc xs p=>qQ (P:=λxs=>P<|.Call c xs [] p) xs λy=>k c y p
def Bg (x:Expr) (k:∀c y z p,Ok<|P<|.Call c [y,z] [] p):Ok (P x):=pI x λc xs p=>lx2 (P:=λxs=>P<|.Call c xs [] p) xs λy z=>k c y z p
def TA (x:Expr) (k:∀l o r p,Ok<|P<|.Compare l [o] [r] p):Ok (P x):=Yk x λl os rs p=>qQ (P:=λos=>P<|.Compare l os rs p) os λo=>qQ (P:=λrs=>P<|.Compare l [o] rs p) rs λr=>k l o r p
def Qh (x:Expr) (k:∀p,Ok<|P<|.Dict [] [] p):Ok (P x):=Tz x λks vs p=>pH (P:=λks=>P<|.Dict ks vs p) (pH (P:=λvs=>P<|.Dict [] vs p) (k p) vs) ks
def Qi (x:Expr) (k:∀p,Ok<|P<|.List [] p):Ok (P x):=zT x λxs p=>pH (P:=λxs=>P<|.List xs p) (k p) xs
def Qj (x:Expr) (k:∀y p,Ok<|P<|.List [y] p):Ok (P x):=zT x λxs p=>qQ (P:=λxs=>P<|.List xs p) xs λy=>k y p
def Gz (x:Expr) (k:∀e g sc p,Ok<|P<|.ListComp e [g] sc p):Ok (P x):=Kz x λe gs sc p=>qQ (P:=λgs=>P<|.ListComp e gs sc p) gs λg=>k e g sc p
end
def zU {P:V->Prop} (v:V) (k:Ok (P .B)):Ok (P v):=if h:v.ctorIdx=0 then V.B.elim (motive_1:=λx=>Ok<|P x) v h k else gb
def zV {P:Ex->Prop} (a:∀v,Ok<|P<|.y v) (b:∀s t k a b c x,Ok<|P<|.ai s t k a b c x) (c:∀c es,Ok<|P<|.new c es) (d:Ok (P .an)):(e:Ex)->Ok (P e)
 |.y v=>a v
 |.ai s t k x y z w=>b s t k x y z w
 |.new x es=>c x es
 |.an=>d
 |_=>gb
def Ep {P:Ex->Prop} (e:Ex) (k:∀v,Ok<|P<|.y v):Ok (P e):=zV k (λZ Z Z Z Z Z Z=>gb) (λZ Z=>gb) gb e
noncomputable def Er {α:Type} {P:Option α->Prop} (n:Ok (P none)) (k:∀a,Ok<|P<|some a):(o:Option α)->Ok (P o)
 |none=>n
 |some a=>k a
section
variable{w:World} {d:Nat} {F:fb}
def wN (sc:Scope) (n:Str):Ok (sc.names.lookup n=some .globalImplicit):=gU _ _
def lcA:(o:Option NameKind)->Ok (o=some .local\/o=some .cell)
 |some .local=>jW<|.inl rfl
 |some .cell=>jW<|.inr rfl
 |_=>gb
def vrA:(o:Option NameKind)->Ok (o=some .local\/o=some .cell\/o=some .free)
 |some .local=>jW<|.inl rfl
 |some .cell=>jW<|.inr<|.inl rfl
 |some .free=>jW<|.inr<|.inr rfl
 |_=>gb
def Bh (sc:Scope) (x:Nat):Ok (sc.names.lookup (nm x)=some .local\/sc.names.lookup (nm x)=some .cell):=lcA _
def xI (n:Str):Ok ((n==("__debug__":Str))=false):=gU _ _
noncomputable def Bi:List Int->Bool
 |[]=>true
 |x::r=>r.all (λy=>!decide (x=y))&&Bi r
theorem yI:∀{l:List Int},Bi l->l.Nodup
 |[],_=>List.nodup_nil
 |x::r,h=>by
  have h:=Gv h;refine List.nodup_cons.mpr ⟨λhm=>?_,yI h.2⟩;have:=List.all_eq_true.mp h.1 x hm;simp at this
def Ym (k:Int) (e:DictEntry):Ok ((intKind pw w).is k e.key/\e.hash=(intKind pw w).hash k):=match e with
 |⟨hs,.int j t,v⟩=>kO (lX _) (lX _) λ(h:k=j) (g:hs=hashInt k)=>⟨by simp[intKind,Value.isInt,h],g⟩
 |_=>gb
mutual
noncomputable def Ij (h:Heap):Nat->(v:V)->(u:Value)->Ok (eW w [] h v u)
 |0,_,_=>gb
 |n+1,v,u=>match v with
  |.B=>match u with
   |.none=>jW .bv
   |_=>gb
  |.O b=>match u with
   |.bool c=>jm (gU b c) (λe=>e▸.bM b)
   |_=>gb
  |.a i=>match u with
   |.int j _=>jm (lX (i=j)) (λe=>e▸.bY i _)
   |_=>gb
  |.z x=>match u with
   |.str ⟨⟨y⟩⟩ _=>jm (lX (x=y)) (λe=>e▸.ck x _)
   |_=>gb
  |.v l=>match u with
   |.ref a=>match ho:h.get? a with
    |some o=>match hd:o.data with
     |.seq vs k=>kO (gU o.cls (.type "tuple")) (relOs h n l vs.toList) (λe r=>.bF ⟨o,ho,e,k,hd⟩ (λ⟨p,hp,_⟩=>by cases hp) r)
     |_=>gb
    |none=>gb
   |_=>gb
  |.ac l=>match u with
   |.ref a=>match ho:h.get? a with
    |some ⟨c,dd,.dict es ep,sl⟩=>yH (lX (a<990)) (lX (3<a)) (kO (gU c (.type "dict")) (iu dd.isNone) And.intro) (jm (iu (Bi (l.map (·.1)))) yI) (iu sl.toList.isEmpty) (relOd h n l es.toList) λh1 h2 h3 h4 h5 r=>.bU h1 h2 ⟨_,es,ep,ho,⟨h3.1,by simpa using h3.2,by cases sl;simpa using h5⟩,rfl,λe he=>r.1 e (Array.mem_toList_iff.mpr he),r.2.1,by
        have hl:(l.map (·.1)).length=(es.toList.map (·.val)).length:=by rw[List.length_map,List.length_map];have:=r.2.2.aV;simpa using this
        rw[List.map_fst_zip (by omega)];exact h4⟩ (λ⟨p,hp,_⟩=>by cases hp) r.2.2
    |_=>gb
   |_=>gb
  |_=>gb
noncomputable def relOs (h:Heap):Nat->(l:List V)->(us:List Value)->Ok (RelVs w [] h l us)
 |0,_,_=>gb
 |n+1,[],[]=>jW .aS
 |n+1,v::l,u::us=>kO (Ij h n v u) (relOs h n l us) .aR
 |_,_,_=>gb
noncomputable def relOd (h:Heap):Nat->(l:List (Int×V))->(es:List DictEntry)->Ok ((∀e∈es,∃k,(intKind pw w).is k e.key/\e.hash=(intKind pw w).hash k)/\Pairs (intKind pw w) es ((l.map (·.1)).zip (es.map (·.val)))/\RelVs w [] h (l.map (·.2)) (es.map (·.val)))
 |0,_,_=>gb
 |n+1,l,es=>match l with
  |[]=>match es with
   |[]=>jW ⟨λZ h=>(List.not_mem_nil h).elim,.nil,.aS⟩
   |_=>gb
  |p::l=>match es with
   |e::es=>sE (Ym p.1 e) (Ij h n p.2 e.val) (relOd h n l es) λkc r q=>⟨λx hx=>by
    rcases List.mem_cons.mp hx with rfl|hx
    exact ⟨p.1,kc⟩;exact q.1 x hx,.cons kc.1 rfl q.2.1,.aR r q.2.2⟩
   |_=>gb
end
def gbO (n:Str) (v:V):Ok (Kt w n v):=match hu:globalOf (HF w.params) n with
 |some u=>jm (Ij _ 300 v u) λr=>⟨u,hu,r⟩
 |none=>gb
def Mn (w:World):jS w "len" (.builtin "len"):=⟨eV,eV⟩
def Mo (w:World):jS w "chr" (.builtin "chr"):=⟨eV,eV⟩
def Es (w:World):jS w "sorted" (.builtin "sorted"):=⟨eV,eV⟩
def Mp (w:World):jS w "str" (.type "str"):=⟨eV,eV⟩
def GA (w:World):jS w "tuple" (.type "tuple"):=⟨eV,eV⟩
def yJ (w:World):jS w "range" (.type "range"):=⟨eV,eV⟩
def zD (w:World):jS w "enumerate" (.type "enumerate"):=⟨eV,eV⟩
def zE (w:World):jS w "bytearray" (.type "bytearray"):=⟨eV,eV⟩
def Qk (sc:Scope):(xs:List Nat)->(es:List Expr)->Ok (TN sc xs es)
 |[],es=>pH (P:=TN sc []) (jW .aS) es
 |x::xs,es=>Gy (P:=TN sc (x::xs)) es λe r=>jy (P:=λe=>TN sc (x::xs) (e::r)) e λn Z=>ql (gU (nm x) n) (lX<|x<214) (Bh sc x) (Qk sc xs r) λa b c d=>a▸.aR b c d
def WB (sc:Scope):(xs:List Nat)->(es:List Expr)->Ok (qO sc xs es)
 |[],es=>pH (P:=qO sc []) (jW .aS) es
 |x::xs,es=>Gy (P:=qO sc (x::xs)) es λe r=>jy (P:=λe=>qO sc (x::xs) (e::r)) e λn Z=>ql (gU (nm x) n) (lX<|x<214) (gU _ _) (WB sc xs r) λa b c d=>a▸.aR b c d
def tgO (sc:Scope):(s:Bool)->(t:List Nat)->(x:Expr)->Ok (wJ sc s t x)
 |true,t,e=>qQ (P:=λt=>wJ sc true t e) t λx=>jy (P:=λe=>wJ sc true [x] e) e λn Z=>sE (gU (nm x) n) (lX<|x<214) (Bh sc x) λa b c=>a▸.aQ b c
 |false,t,e=>Bf (P:=wJ sc false t) e λes Z Z=>jm (Qk sc t es) .v
def WC (sc:Scope):(s:Bool)->(t:List Nat)->(x:Expr)->Ok (n7 sc s t x)
 |true,t,e=>qQ (P:=λt=>n7 sc true t e) t λx=>jy (P:=λe=>n7 sc true [x] e) e λn Z=>sE (gU (nm x) n) (lX<|x<214) (gU _ _) λa b c=>a▸.b9 b c
 |false,t,e=>Bf (P:=n7 sc false t) e λes Z Z=>jm (WB sc t es) .bF
def Ql:((List.range 214).all λx=>!(nm x==(".0":Str))):=eV
def Et (x:Nat):nm x≠(".0":Str):=λe=>by
 by_cases hx:x<214
 .have:=List.all_eq_true.mp Ql x<|List.mem_range.mpr hx;rw[e]at this;simp at this
 .have h0:nm x=(⟨#[]⟩:Str):=by
   unfold nm;rw[List.getD_eq_getElem?_getD,List.getElem?_eq_none (by rw[F7];omega)];rfl
  rw[h0]at e;exact absurd e ay
def TB {ns:List (Str×NameKind)} {t:List Nat} (h:ns.all (λx=>!(x.2==.local)||x.1==(".0":Str)||t.any λy=>Nat.blt y 214&&nm y==x.1)):∀x,ns.lookup (nm x)=some .local->x∈t:=λx hx=>by
 have:=List.all_eq_true.mp h _<|mem_of_lookup hx;have hd:(nm x==(".0":Str))=false:=beq_eq_false_iff_ne.mpr<|Et x;rw[hd]at this;obtain⟨y,hy,hq⟩:=List.any_eq_true.mp this;have:=uh (iw (Gv hq).1) (eq_of_beq (Gv hq).2).symm;rw[this];exact hy
def KA:(l:List Str)->Ok l.Nodup
 |[]=>jW List.nodup_nil
 |x::r=>kO (Be (P:=λy=>x≠y) (λy=>jm (gU (x==y) false) λh e=>by rw[e] at h;simp at h) r) (KA r) λa b=>List.nodup_cons.mpr ⟨λh=>a x h rfl,b⟩
def WD (scope sc:Scope) (t:List Nat):Ok (oV scope sc t):=Gw (gU scope.kind .function) (Be (P:=λx=>x.2≠.cell) (λx=>jm (gU (x.2==.cell) false) λh e=>by rw[e] at h;cases h) scope.names) (Be (P:=λx=>x.2=.free->sc.names.lookup x.1=some .cell) (λx=>oox (jm (gU (x.2==.free) false) λh e=>by rw[e] at h;cases h)<|jm (gU _ _) λh Z=>h) scope.names) (KA _) (jm (iu _)<|TB (t:=t)) .mk
def Qm {n:Nat} {sc:Scope} {a:Ex} {x i:Expr} (b:Ex) (k:Ok (SI w d F sc n a (.y .B) x i)):Ok (SI w d F sc n a b x i):=Ep (P:=λb=>SI w d F sc n a b x i) b λv=>zU (P:=λv=>SI w d F sc n a (.y v) x i) v k
def Qn (sc:Scope) (a b:Ex) (ca:∀x,Ok<|SV w d F sc a x) (cb:∀x,Ok<|SV w d F sc b x):(k:Nat)->(target iter:Expr)->Ok (SI w d F sc k a b target iter)
 |0,_,i=>Qm b<|jm (ca i) SI.cX
 |1,x,i=>Bf (P:=λx=>SI w d F sc 1 a b x i) x λZ Z Z=>oK (P:=SI w d F sc 1 a b _) i λc e q=>jy (P:=λc=>SI w d F sc 1 a b _<|.Call c [e] [] q) c λn Z=>Qm b<|ql (gU ("enumerate":Str) n) (wN sc _) (iu<|f7 e) (ca e) λh1 h2 h3 h4=>h1▸SI.dM h2 (zD w) h4 h3
 |2,_,i=>oK (P:=SI w d F sc 2 a b _) i λc e q=>jy (P:=λc=>SI w d F sc 2 a b _<|.Call c [e] [] q) c λn Z=>Qm b<|ql (gU ("range":Str) n) (wN sc _) (iu<|f7 e) (ca e) λh1 h2 h3 h4=>h1▸SI.cF h2 (yJ w) h4 h3
 |3,_,i=>Bg (P:=SI w d F sc 3 a b _) i λc e y q=>jy (P:=λc=>SI w d F sc 3 a b _<|.Call c [e,y] [] q) c λn Z=>yH (gU ("range":Str) n) (wN sc _) (iu<|f7 e) (iu<|f7 y) (ca e) (cb y) λh1 h2 h3 h4 h5 h6=>h1▸SI.cG h2 (yJ w) h5 h6 h3 h4
 |_,_,_=>gb
def GB (sc:Scope) (m n:Str) (e:Expr):Ok (m=n/\sc.names.lookup m=some .globalImplicit/\f7 e):=sE (gU m n) (wN sc m) (iu<|f7 e) λa b c=>⟨a,b,c⟩
def SQ (w:World) (d:Nat) (F:fb) (sc:Scope):Bool->Ex->Expr->Prop
 |true,e,x=>ST w d F sc e x
 |false,e,x=>SV w d F sc e x
def lF {sc:Scope} {e:Ex} {x:Expr}:(t:Bool)->Ok (SV w d F sc e x)->Ok (SQ w d F sc t e x)
 |false,p=>p
 |true,p=>kO p (iu<|AJ x) ST.eB
noncomputable def Qo {sc:Scope} {e:Ex} {x:Expr}:(t:Bool)->Ok (ST w d F sc e x)->Ok (SV w d F sc e x)->Ok (SQ w d F sc t e x)
 |true,p,_=>p
 |false,_,p=>p
def SBQ (w:World) (d:Nat) (F:fb) (sc:Scope):Bool->Bool->List Ex->List Expr->Prop
 |true,q,e,x=>ww w d F sc q e x
 |false,q,e,x=>SB w d F sc q e x
def ckL {sc:Scope} (v:V) (x:Expr):Ok (SV w d F sc (.y v) x):=Yj x λu Z Z=>match v with
 |.B=>match u with
  |.none=>jW SV.bv
  |_=>gb
 |.O b=>match u with
  |.bool c=>jm (gU b c) λe=>e▸SV.bM
  |_=>gb
 |.a i=>match u with
  |.int j=>jm (lX<|i=j) λe=>e▸SV.bY
  |_=>gb
 |.z s=>match u with
  |.str ⟨⟨y⟩⟩=>jm (lX<|s=y) λe=>e▸SV.ck
  |_=>gb
 |.ah=>match u with
  |.bytes l=>pH (P:=λl=>SV w d F sc (.y .ah)<|.Constant (.bytes l) _ _) (jW SV.bN) l
  |_=>gb
 |_=>gb
def WE (g:Comprehension) (h:g.is_async=0):(⟨g.target,g.iter,g.ifs,0⟩:Comprehension)=g:=by
 cases g;cases h;rfl
mutual
noncomputable def gS (hF:FS w d F) (t:Bool) (sc:Scope):(e:Ex)->(x:Expr)->Ok (SQ w d F sc t e x)
 |.y v,x=>lF t (ckL v x)
 |.u y,x=>jy x λn Z=>lF t (ql (gU (nm y) n) (vrA _) (xI _) (gU _ false) (λa b c d=>a▸SV.ee b c d))
 |.S y v,x=>jy x λn Z=>lF t (ql (gU (nm y) n) (wN sc _) (xI _) (gbO _ v) (λa b c d=>a▸SV.ef b c d))
 |.attr e y,x=>r8 x λx n Z=>lF t (ql (gU (nm y) n) (lX (y∈iy)) (gS hF false sc e x) (iu (lW x)) (λa b c d=>a▸SV.attr b c d))
 |.D e i,x=>Ii x λx y Z=>lF t (sE (gS hF false sc e x) (gS hF false sc i y) (iu (AI y)) SV.ew)
 |.aq e lo hi,x=>Ii x λx y q=>xSl (P:=λy=>SQ w d F sc t (.aq e lo hi) (.Subscript x y q)) y λl u st p=>Er (P:=λst=>SQ w d F sc t (.aq e lo hi) (.Subscript x (.Slice l u st p) q)) (lF t (sE (gS hF false sc e x)
   (Er (P:=SP w d F sc lo) (Ep (P:=λlo=>SP w d F sc lo none) lo λv=>zU (P:=λv=>SP w d F sc (.y v) none) v (jW .dU)) (λy=>jm (gS hF false sc lo y) .cI) l)
   (Er (P:=SP w d F sc hi) (Ep (P:=λlo=>SP w d F sc lo none) hi λv=>zU (P:=λv=>SP w d F sc (.y v) none) v (jW .dU)) (λy=>jm (gS hF false sc hi y) .cI) u) SV.cY)) (λZ=>gb) st
 |.A f es,x=>pI x λc xs p=>jy (P:=λc=>SQ w d F sc t (.A f es) (.Call c xs [] p)) c λn Z=>lF t (match hf:ga eU f with
   |some fd=>yH (iu (oA f)) (wN sc n) (xI n) (gU _ _) (ckEs hF sc es xs) (iu (xs.all f7)) (λa b c d e g=>SV.cn a hF hf b c d e g)
   |none=>gb)
 |.Q e m es,x=>pI x λc xs p=>r8 (P:=λc=>SQ w d F sc t (.Q e m es) (.Call c xs [] p)) c λx n ap=>lF t ((Gx (gU (nm m) n) (gU (Nat.beq m 213) false) (gS hF false sc e x) (iu (lW x)) (ckEs hF sc es xs) (iu (xs.all f7)) (lX (xs.length<30)) (λa b c d e g i j=>a▸SV.dh hF b c d e g i j)).ap (iu (ap.endLine==p.line)))
 |.new c es,x=>pI x λf xs p=>jy (P:=λf=>SQ w d F sc t (.new c es) (.Call f xs [] p)) f λn Z=>lF t (match hc:hU aj c with
   |some C=>yH (iu (oA C.init)) (wN sc n) (xI n) (gU _ _) (ckEs hF sc es xs) (iu (xs.all f7)) (λa b c d e g=>SV.new hF hc a b c d e g)
   |none=>gb)
 |.len e,x=>oK x λc x p=>jy (P:=λc=>SQ w d F sc t (.len e) (.Call c [x] [] p)) c λn Z=>lF t (kO (GB sc "len" n x) (gS hF false sc e x) λa h=>a.1▸SV.len a.2.1 (Mn w) h a.2.2)
 |.aM e,x=>oK x λc x p=>jy (P:=λc=>SQ w d F sc t (.aM e) (.Call c [x] [] p)) c λn Z=>lF t (kO (GB sc "chr" n x) (gS hF false sc e x) λa h=>a.1▸SV.eG a.2.1 (Mo w) h a.2.2)
 |.aJ e,x=>oK x λc x p=>jy (P:=λc=>SQ w d F sc t (.aJ e) (.Call c [x] [] p)) c λn Z=>lF t (kO (GB sc "str" n x) (gS hF false sc e x) λa h=>a.1▸SV.dV a.2.1 (Mp w) h a.2.2)
 |.aA e,x=>oK x λc x p=>jy (P:=λc=>SQ w d F sc t (.aA e) (.Call c [x] [] p)) c λn Z=>lF t (kO (GB sc "tuple" n x) (gS hF false sc e x) λa h=>a.1▸SV.dW a.2.1 (GA w) h a.2.2)
 |.am e,x=>oK x λc x p=>jy (P:=λc=>SQ w d F sc t (.am e) (.Call c [x] [] p)) c λn Z=>lF t (kO (GB sc "sorted" n x) (gS hF false sc e x) λa h=>a.1▸SV.cD a.2.1 (Es w) h a.2.2)
 |.an,_=>gb
 |.Z o e,x=>oK x λc y p=>r8 (P:=λc=>SQ w d F sc t (.Z o e) (.Call c [y] [] p)) c λx n ap=>lF t (yH (gU ("append":Str) n) (gS hF false sc o x) (iu (lW x)) (gS hF false sc e y) (iu (f7 y)) (iu (ap.endLine==p.line)) (λa b c d e g=>a▸SV.ba b c d e g))
 |.av o k z,x=>Bg x λc y y2 p=>r8 (P:=λc=>SQ w d F sc t (.av o k z) (.Call c [y,y2] [] p)) c λx n ap=>lF t ((Gx (gU ("get":Str) n) (gS hF false sc o x) (iu (lW x)) (gS hF false sc k y) (gS hF false sc z y2) (iu (f7 y)) (iu (f7 y2)) (λa b c d e g i j=>a▸SV.dL b c d e g i j)).ap (iu (ap.endLine==p.line)))
 |.aF o k,x=>Bg x λc y z p=>r8 (P:=λc=>SQ w d F sc t (.aF o k) (.Call c [y,z] [] p)) c λx n ap=>Qi (P:=λz=>SQ w d F sc t (.aF o k) (.Call (.Attribute x n ap) [y,z] [] p)) z λZ=>lF t (yH (gU ("setdefault":Str) n) (gS hF false sc o x) (iu (lW x)) (gS hF false sc k y) (iu (f7 y)) (iu (ap.endLine==p.line)) (λa b c d e g=>a▸SV.d9 b c d e g))
 |.I o a b,x=>Qg x λl op r Z=>lF t (sE (gU (CL o) op) (gS hF false sc a l) (gS hF false sc b r) (λe a b=>e▸SV.eo a b))
 |.aC e,x=>WA x λop y Z=>lF t (kO (gU .USub op) (gS hF false sc e y) λa h=>a▸SV.eA h)
 |.aD e,x=>WA x λop y Z=>Qo t (kO (gU .Not op) (gS hF true sc e y) λa h=>a▸ST.dz h) (kO (gU .Not op) (gS hF false sc e y) λa h=>a▸SV.dz h)
 |.E o a b,x=>TA x λl op r Z=>Qo t (ql (gU (FV o) op) (gS hF false sc a l) (gS hF false sc b r) (iu (ly r)) (λe a b c=>e▸ST.dy a b c)) (ql (gU (FV o) op) (gS hF false sc a l) (gS hF false sc b r) (iu (ly r)) (λe a b c=>e▸SV.dy a b c))
 |.Y q es,x=>Yl x λop xs Z=>Qo t (kO (gU (rM q) op) (ckB hF true sc q es xs) (λe a=>e▸ST.dA a)) (kO (gU (rM q) op) (ckB hF false sc q es xs) (λe a=>e▸SV.dA a))
 |.au c a b,x=>xIf x λy l r Z=>lF t (sE (gS hF true sc c y) (gS hF false sc a l) (gS hF false sc b r) SV.eD)
 |.v es,x=>Bf x λxs Z Z=>lF t (kO (ckEs hF sc es xs) (jm (iu (Nat.ble es.length 1000)) iw) SV.bF)
 |.N es,x=>zT x λxs Z=>lF t (kO (ckEs hF sc es xs) (jm (iu (Nat.ble es.length 1000)) iw) SV.cy)
 |.w es,x=>zT x λxs Z=>lF t (kO (ckEs hF sc es xs) (jm (iu (Nat.ble es.length 1000)) iw) SV.bo)
 |.X,x=>Qh x λZ=>lF t (jW SV.cV)
 |.aK e n,x=>Qg x λl op r p=>Qj (P:=λl=>SQ w d F sc t (.aK e n) (.BinOp l op r p)) l λy Z=>lF t (ql (gU .Mult op) (gS hF false sc e y) (iu (f7 y)) (gS hF false sc n r) λa b c d=>a▸SV.d0 b c d)
 |.ai s tt k a b c e,x=>Gz x λelt g scope p=>lF t ((yH (WD scope sc tt) (WC (hG scope sc) s tt g.target) (Qn sc a b (λx=>gS hF false sc a x) (λx=>gS hF false sc b x) k g.target g.iter)
   (show Ok (qj w d F (hG scope sc) c g.ifs) from match c with
    |none=>pH (P:=qj w d F (hG scope sc) none) (jW .bv) g.ifs
    |some c=>qQ (P:=qj w d F (hG scope sc) (some c)) g.ifs λy=>jm (gS hF true (hG scope sc) c y) .b9) (gS hF false (hG scope sc) e elt) (iu (ly g.iter)) (λa b c d e k h=>WE g h▸SV.dR a b c d e k)).ap (gU g.is_async 0))
 |.F,x=>lF t (jW λenv E A ρ μ s v μ' eR T hA hv=>nomatch hv)
noncomputable def ckEs (hF:FS w d F) (sc:Scope):(es:List Ex)->(xs:List Expr)->Ok (hY w d F sc es xs)
 |[],[]=>jW hY.aS
 |e::es,x::xs=>sE (iu (f7 x)) (gS hF false sc e x) (ckEs hF sc es xs) hY.aR
 |_,_=>gb
noncomputable def ckB (hF:FS w d F) (t:Bool) (sc:Scope) (q:Bool):(es:List Ex)->(xs:List Expr)->Ok (SBQ w d F sc t q es xs)
 |e::es,x::xs=>match es,xs with
  |[],[]=>match t with
   |true=>jm (gS hF true sc e x) ww.b9
   |false=>jm (gS hF false sc e x) SB.b9
  |e2::es,x2::xs=>match t with
   |true=>kO (gS hF true sc e x) (ckB hF true sc q (e2::es) (x2::xs)) ww.aR
   |false=>kO (gS hF false sc e x) (ckB hF false sc q (e2::es) (x2::xs)) SB.aR
  |_,_=>gb
 |_,_=>gb
end
end
noncomputable def wO (sc s:Scope) (p:Pos) (n:Str) (np:Pos):Bool:=(sc.names.lookup n==some .local)&&(np.line==p.line)&&!(s.names.any λ(m,k)=>m==n&&(k==.local||k==.cell))
section
variable{P:Stmt->Prop}
def Yn (x:Stmt) (k:∀e p,Ok<|P<|.Expr e p):Ok (P x):=if h:x.ctorIdx=24 then Stmt.Expr.elim (motive_2:=λx=>Ok<|P x) x h k else gb
def Ik (x:Stmt) (k:∀ts v p,Ok<|P<|.Assign ts v p):Ok (P x):=if h:x.ctorIdx=5 then Stmt.Assign.elim (motive_2:=λx=>Ok<|P x) x h k else gb
def Yo (x:Stmt) (k:∀t o v p,Ok<|P<|.AugAssign t o v p):Ok (P x):=if h:x.ctorIdx=7 then Stmt.AugAssign.elim (motive_2:=λx=>Ok<|P x) x h k else gb
def sIf (x:Stmt) (k:∀t b o p,Ok<|P<|.If t b o p):Ok (P x):=if h:x.ctorIdx=12 then Stmt.If.elim (motive_2:=λx=>Ok<|P x) x h k else gb
def Yp (x:Stmt) (k:∀t i b o p,Ok<|P<|.For t i b o p):Ok (P x):=if h:x.ctorIdx=9 then Stmt.For.elim (motive_2:=λx=>Ok<|P x) x h k else gb
def Qp (x:Stmt) (k:∀t b o p,Ok<|P<|.While t b o p):Ok (P x):=if h:x.ctorIdx=11 then Stmt.While.elim (motive_2:=λx=>Ok<|P x) x h k else gb
def Yq (x:Stmt) (k:∀v p,Ok<|P<|.Return v p):Ok (P x):=if h:x.ctorIdx=3 then Stmt.Return.elim (motive_2:=λx=>Ok<|P x) x h k else gb
def TC (x:Stmt) (k:∀p,Ok<|P<|.Continue p):Ok (P x):=if h:x.ctorIdx=27 then Stmt.Continue.elim (motive_2:=λx=>Ok<|P x) x h k else gb
def Yr (x:Stmt) (k:∀b h o f p,Ok<|P<|.Try b h o f p):Ok (P x):=if h:x.ctorIdx=17 then Stmt.Try.elim (motive_2:=λx=>Ok<|P x) x h k else gb
def zW (x:Stmt) (k:∀t v p,Ok<|P<|.Assign [t] v p):Ok (P x):=Ik x λts v p=>qQ (P:=λts=>P<|.Assign ts v p) ts λt=>k t v p
end
def TE {P:Ex->Prop} (e:Ex) (k:∀s t k a b c x,Ok<|P<|.ai s t k a b c x):Ok (P e):=zV (λZ=>gb) k (λZ Z=>gb) gb e
section
variable{w:World} {d:Nat} {F:fb} {sc:Scope} {pos pos':Pos}
def C2 {elt:Expr} {g:List Comprehension} {s:Scope} {p:Pos} {n:Str} {np:Pos} {l:Nat} {b:Bool} (h:wO sc s p n np=b):∀env E ρ hp,f6 w sc env E ρ hp->swapsWith (.ListComp elt g s p) (some<|.Name n np) l env=pure b:=λenv E ρ hp eR=>by
 unfold swapsWith;have kin:env.kindOf n=sc.names.lookup n:=by unfold Env.kindOf;rw[eR.names]
 have bk:(env.blockKind==.function):=by unfold Env.blockKind;rw[eR.kind];rfl
 dsimp only;rw[kin,bk];unfold wO at h;rw[<-h,Bool.true_and];rfl
def SX.dJ:SX w d F sc (.L<|.y .B) (.Return Option.none pos):=λenv E A ρ μ s fl E' μ' eR T hA h=>by
 exact qG h<|wpAny_Return_none ⟨ρ,.aZ ..,T,rfl,eR,.L .bv⟩
def SX.dK {x:Nat} {e:Ex} {y:Expr} (hx:x<214) (hk:sc.names.lookup (nm x)=some .local\/sc.names.lookup (nm x)=some .cell) (h1:SV w d F sc e y) (hc:∀env E ρ h,f6 w sc env E ρ h->swapsWith y (some<|.Name (nm x) pos') pos.line env=pure false):
  SX w d F sc (.G x e) (.Assign [.Name (nm x) pos'] y pos):=λenv E A ρ μ s fl E' μ' eR T hA h=>by
 simp only[FJ]at h;refine iA h λv μ1 v1 h=>qG h<|wpAny_Assign_Name (fN (h1 env E A ρ μ s _ _ eR T hA v1) λu s₁ ρ₁ a b c r=>?_)<|hc env E ρ s.heap eR
 exact nZ hx hk (eR.bn a) b r λs' x1 x2 x3 x4=>⟨ρ₁,a.own.aT x1,x2,x3.trans c,x4,.C⟩
def swO (n:Str) (np:Pos) (l:Nat) (y:Expr):Ok (∀env E ρ h,f6 w sc env E ρ h->swapsWith y (some<|.Name n np) l env=pure false):=
 oox (Kz (P:=λy=>∀env E ρ h,f6 w sc env E ρ h->swapsWith y (some<|.Name n np) l env=pure false) y λelt g s p=>jm (gU (wO sc s p n np) false) C2) (jm (iu<|mR y) λh env E ρ hp eR=>oJ h ..)
def ckC (hF:FS w d F) (z:Nat) (n:Str) (np p:Pos) (e:Ex) (y:Expr):Ok (SX w d F sc (.G z e)<|.Assign [.Name n np] y p):=TE (P:=λe=>SX w d F sc (.G z e)<|.Assign [.Name n np] y p) e λs tt k a b c e=>Gz (P:=λy=>SX w d F sc (.G z<|.ai s tt k a b c e)<|.Assign [.Name n np] y p) y λelt g scope cp=>
  ((Gx (sE (gU (nm z) n) (lX<|z<214) (Bh sc z) λa b c=>(⟨a,b,c⟩:_/\_/\_)) (WD scope sc tt) (WC (hG scope sc) s tt g.target) (Qn sc a b (λx=>gS hF false sc a x) (λx=>gS hF false sc b x) k g.target g.iter)
   (show Ok (qj w d F (hG scope sc) c g.ifs) from match c with
    |none=>pH (P:=qj w d F (hG scope sc) none) (jW .bv) g.ifs
    |some c=>qQ (P:=qj w d F (hG scope sc)<|some c) g.ifs λy=>jm (gS hF true (hG scope sc) c y) .b9) (gS hF false (hG scope sc) e elt) (iu<|ly g.iter) λh1 h2 h3 h4 h5 h6 h7 h8 h9=>by
     obtain⟨rfl,h,h'⟩:=h1;rw[<-WE g h9];exact SX.dS h h' h2 h3 h4 h5 h6 h7 h8).ap<|jm (gU (wO sc scope cp n np) true)<|C2 (elt:=elt) (g:=[⟨g.target,g.iter,g.ifs,0⟩]) (l:=p.line)).ap (gU g.is_async 0)
mutual
noncomputable def WF (hF:FS w d F) (sc:Scope):(t:St)->(x:Stmt)->Ok (SX w d F sc t x)
 |.H e,x=>Yn x λy Z=>kO (gS hF false sc e y) (iu (mR y)) SX.d6
 |.G z e,x=>zW x λt y p=>jy (P:=λt=>SX w d F sc (.G z e) (.Assign [t] y p)) t λn np=>oox (ckC hF z n np p e y) (Gw (gU (nm z) n) (lX (z<214)) (Bh sc z) (gS hF false sc e y) (swO n np p.line y) λa b c d e=>by subst a;exact SX.dK b c d e)
 |.ak xs e,x=>zW x λt y p=>Bf (P:=λt=>SX w d F sc (.ak xs e) (.Assign [t] y p)) t λes Z Z=>ql (Qk sc xs es) (gS hF false sc e y) (iu (mR y)) (iu (AU y)) λa b c d=>SX.dm a b c d (.inr trivial)
 |.P o z e,x=>zW x λt y p=>r8 (P:=λt=>SX w d F sc (.P o z e) (.Assign [t] y p)) t λx n Z=>Gw (gU (nm z) n) (lX (z∈iy)) (gS hF false sc o x) (gS hF false sc e y) (iu (mR y)) λa b c d e=>a▸SX.db b c d e
 |.ae o i e,x=>zW x λt y p=>Ii (P:=λt=>SX w d F sc (.ae o i e) (.Assign [t] y p)) t λx1 x2 Z=>ql (gS hF false sc o x1) (gS hF false sc i x2) (gS hF false sc e y) (iu (mR y)) SX.dY
 |.az z q e,x=>Yo x λt o y p=>jy (P:=λt=>SX w d F sc (.az z q e) (.AugAssign t o y p)) t λn Z=>Gx (lX (Op.R=q)) (gU Operator.Add o) (gU (nm z) n) (lX (z<214)) (Bh sc z) (xI (nm z)) (gS hF false sc e y) λu v a b c d e=>by
  subst u;subst v;exact a▸SX.d8 b c d e
 |.M c a b,x=>sIf x λy xa xb Z=>sE (gS hF true sc c y) (ckSs hF sc a xa) (ckSs hF sc b xb) SX.eO
 |.J s t k a b body,x=>Yp x λg it bx o p=>pH (P:=λo=>SX w d F sc (.J s t k a b body) (.For g it bx o p)) (ql (tgO sc s t g) (Qn sc a b (λx=>gS hF false sc a x) (λx=>gS hF false sc b x) k g it) (ckSs hF sc body bx) (iu (ly it)) SX.dH) o
 |.ao c body,x=>Qp x λy bx o p=>pH (P:=λo=>SX w d F sc (.ao c body) (.While y bx o p)) (kO (gS hF true sc c y) (ckSs hF sc body bx) SX.cJ) o
 |.L e,x=>Yq x λv p=>Er (P:=λv=>SX w d F sc (.L e) (.Return v p)) (Ep (P:=λe=>SX w d F sc (.L e) (.Return none p)) e λv=>zU (P:=λv=>SX w d F sc (.L (.y v)) (.Return none p)) v (jW SX.dJ)) (λy=>jm (gS hF false sc e y) SX.eK) v
 |.af,x=>TC x λZ=>jW SX.d4
 |.aG body,x=>Yr x λb h o f p=>Gy (P:=λh=>SX w d F sc (.aG body) (.Try b h o f p)) h λh hs=>pH (P:=λo=>SX w d F sc (.aG body) (.Try b (h::hs) o f p)) (pH (P:=λf=>SX w d F sc (.aG body) (.Try b (h::hs) [] f p)) (jm (ckSs hF sc body b) SX.dZ) f) o
 |.F,_=>jW λenv E A ρ μ s fl E' μ' eR T hA hv=>nomatch hv
noncomputable def ckSs (hF:FS w d F) (sc:Scope):(ts:List St)->(xs:List Stmt)->Ok (o7 w d F sc ts xs)
 |[],[]=>jW o7.aS
 |t::ts,x::xs=>kO (WF hF sc t x) (ckSs hF sc ts xs) o7.aR
 |_,_=>gb
end
theorem yK {n:Str} {k:NameKind}:∀{l:List (Str×NameKind)},l.lookup n=some k->∃m,(m,k)∈l
 |(m,k')::r,h=>by
  rw[List.lookup_cons]at h;split at h
  .cases h;exact⟨m,List.mem_cons_self⟩
  .obtain⟨m',h'⟩:=yK h;exact⟨m',List.mem_cons_of_mem _ h'⟩
def cdO (h:Heap) (q:Str):(cd:Value)->Ok (h.CodeRec cd q)
 |.ref c=>match ho:h.get? c with
  |some ⟨cl,dd,.fields vs,sl⟩=>match hy:(vs[1]?:Option Value)with
   |some (.str x t)=>jm (gU x q) λe=>by subst e;exact⟨c,_,vs,t,rfl,ho,rfl,hy⟩
   |_=>gb
  |_=>gb
 |_=>gb
def nnO:(v:Value)->Ok (v=.none)
 |.none=>jW rfl
 |_=>gb
def Qq {α:Type}:(l:List α)->Ok (l=[])
 |[]=>jW rfl
 |_=>gb
def nO {α:Type}:(l:Option α)->Ok (l=none)
 |none=>jW rfl
 |_=>gb
def kiO:(k:ScopeKind)->Ok (k=.function)
 |.function=>jW rfl
 |_=>gb
def fhO (w:World) (fd:FD) (t:FuncData) (b:List Stmt) (ho:∃o,(HF w.params).get? fd.addr=some o/\o.data=.func t) (hb:t.body=.stmts b):Ok (FnH w fd t b):=
 ((((((((((((((((jm (Qq t.closure) λa b c d e f g h i j k l m n o p q=>⟨ho,a,b,c,d,e,f,g,h,i,j,k,l,m,n,o,hb,p,q.1,q.2⟩).ap<|lX _).ap<|lX _).ap<|nnO _).ap<|Qq _).ap<|gU _ _).ap<|nO _).ap<|Qq _).ap<|nO _).ap<|KA _).ap<|Be (λx=>lX<|x<214) _).ap<|kiO _).ap<|gU _ _).ap<|gU _ _).ap<|cdO _ _ _).ap (jm (Be (P:=λp=>p.2≠.free) (λp=>jm (gU (p.2==.free) false) λh e=>by rw[e] at h;cases h) t.scope.names) λh n e=>by
   obtain⟨m,hm⟩:=yK e;exact h _ hm rfl)).ap (kO (KA _) (Be (λx=>Bh t.scope x) _) And.intro)
def WG {S:Scope->List Stmt->Prop} (w:World) (fd:FD) (k:∀sc b,Ok<|S sc b):Ok (∃t b,FnH w fd t b/\S t.scope b):=match ho:(HF w.params).get? fd.addr with
 |some ⟨cl,dd,.func t,sl⟩=>match hb:t.body with
  |.stmts b=>kO (fhO w fd t b ⟨_,ho,rfl⟩ hb) (k _ _) λa c=>⟨t,b,a,c⟩
  |_=>gb
 |_=>gb
def Qr (hF:FS w d F) (f:Nat):Ok (∀fd,ga eU f=some fd->∃t b,Wu w d F fd t b):=match h:ga eU f with
 |some fd=>jm (WG w fd λsc b=>ckSs hF sc fd.body b) λ⟨t,b,x,y⟩ fd' e=>by cases e;exact⟨t,b,⟨x,y⟩⟩
 |none=>jW nofun
end
def GC (w:World) (d:Nat) (F:fb) (hF:FS w d F) (a n:Nat):Bool:=(List.range' a n).all λf=>!oA f||(Qr hF f).b
def TF w d F hF:GC w d F hF 0 23:=eV
def TG w d F hF:GC w d F hF 23 23:=eV
def TH w d F hF:GC w d F hF 46 23:=eV
def TI w d F hF:GC w d F hF 69 22:=eV
def Mq:eU.length=91:=eV
theorem C3:∀{l:List FD} {f:Nat} {fd:FD},ga l f=some fd->f<l.length
 |[],f,fd,h=>by cases f<;>cases h
 |x::r,0,fd,h=>j5 _
 |x::r,f+1,fd,h=>Nat.succ_lt_succ<|C3 (l:=r) h
def zX {w d F} {hF:FS w d F} {a n f:Nat} (c:GC w d F hF a n) (g:oA f) (h:a<=f/\f<a+n):(Qr hF f).b:=by
 have:=List.all_eq_true.mp c f<|List.mem_range'_1.mpr h;rwa[g]at this
theorem Bj (w:World):∀d,FS w d<|aP aj eU d
 |0=>λf vs μ v μ' hgf hv=>by simp[Pp]at hv
 |d+1=>Mc λf fd g hf=>by
  have l:=C3 hf;rw[Mq]at l;refine (Qr (Bj w d) f).h ?_ fd hf;by_cases h1:f<23
  .exact zX (TF ..) g ⟨ji _,h1⟩
  by_cases h2:f<46
  .exact zX (TG ..) g ⟨mx.mp h1,h2⟩
  by_cases h3:f<69
  .exact zX (TH ..) g ⟨mx.mp h2,h3⟩
  .exact zX (TI ..) g ⟨mx.mp h3,l⟩
end
section
open PySem PySem.W PyProof.Rows PySem.SeqAt PySem.Calls Builtin
open Sem (wp)
def ve (c:Code):Prop:=∀v M (Γ:Ctx) p s,wp M {Γ with code:=c,below:=[]} (Bytes.exported v) (λb Z Z=>b=false) (λZ Z Z=>True) p s
def okF {b e}:ve (.func b e):=λZ Z Z Z Z=>rfl
def KB {f a}:ve (.call f a):=λZ Z Z Z Z=>rfl
def WH {a b:Bool} (h:b=false):((a&&b)||false)=false:=by cases a<;>first|rfl|(rw[h];rfl)
def Qs {v r k}:ve (.builtin "type.__call__" ⟨v::r,k⟩):=λZ Z Z Z Z=>WH (b:=Bytes.decodersThatHold.contains "type.__call__") (by decide+kernel)
def Ys {v}:ve (.builtin "bytearray.__init__" ⟨[v],[]⟩):=λZ Z Z Z Z=>WH (b:=Bytes.decodersThatHold.contains "bytearray.__init__") (by decide+kernel)
def Bk (l:List (Code×Pos)):Prop:=∀x∈l,ve x.1
def gY {α:Type} (M:Model) (A:Around) (t:Sem α) (Q:α->Shared->Prop) (E:Value->Shared->Prop) (s:Shared):Prop:=
 ∀Γ p,Γ.In A->ve Γ.code->Bk Γ.below->wp M Γ t (λa Z s'=>Q a s') (λe Z s'=>E e s') p s
def kP (M:Model) (A:Around) (c:Code) (R:Result->Shared->Prop) (s:Shared):Prop:=
 ∀Γ p,Γ.code=c->Γ.Below A->Bk Γ.below->wpCode M Γ R p s
section
variable{α β:Type} {M:Model} {A:Around} {E:Value->Shared->Prop} {s:Shared}
def io {Q:α->Shared->Prop} (h:wpAny M A t Q E s):gY M A t Q E s:=λΓ p hΓ Z Z=>h Γ p hΓ
def j9 {Q:α->Shared->Prop} (h:Q a s):gY M A (pure a) Q E s:=λZ Z Z Z Z=>h
def jL {Q Q':α->Shared->Prop} (h:gY M A t Q E s)
  (hQ:∀a s,Q a s->Q' a s) (hE:∀e s,E e s->E' e s):gY M A t Q' E' s:=
 λΓ p hΓ b c=>PySem.Sem.wp_mono M Γ t (λa Z s=>hQ a s) (λe Z s=>hE e s) p s<|h Γ p hΓ b c
def gc {f:α->Sem β} (h:gY M A m (λa s'=>gY M A (f a) Q E s') E s):
  gY M A (m>>=f) Q E s:=λΓ p hΓ b c=>by
 simp only[PySem.Sem.wp_bind'];exact PySem.Sem.wp_mono M Γ m (λa p' s' h'=>h' Γ p' hΓ b c) (λZ Z Z h'=>h') p s<|h Γ p hΓ b c
def jX {Q:α->Shared->Prop} (h:gY M A m Q E s):gY M A (holding vs m) Q E s:=
 λΓ p hΓ b c=>by simp only[Sem.wp_holding];exact h Γ p hΓ b c
def Cr {Q:α->Shared->Prop}
  (h:gY M A m Q (λe s'=>gY M A (k e) (λZ s''=>E e s'') E s') s):gY M A (m.onRaise k) Q E s:=λΓ p hΓ b c=>by
 simp only[Sem.wp_onRaise];exact PySem.Sem.wp_mono M Γ m (λZ Z Z h'=>h') (λe p' s' h'=>h' Γ p' hΓ b c) p s<|h Γ p hΓ b c
def vf (h:Q () s):gY M A (standAt pos) Q E s:=io<|PySem.wpAny_standAt h
def tF (h:Q () s):gY M A point Q E s:=io<|wpAny_point h
def Bl
  (hc:kP M A c (λr s'=>match r with|.ok (.ret v)=>Q v s'|.ok _=>False|.error e=>E e s') s):
  gY M A (runValue c) Q E s:=λΓ p hΓ b cl=>by
 rw[Sem.wp_runValue];exact hc _ p rfl (hΓ.enter c none p fF) λx hx=>by
  obtain rfl|hx:=gC.mp hx
  .exact b
  .exact cl x hx
def pJ
  (hc:kP M A (.call f ⟨pos,kw⟩) (λr s'=>match r with|.ok (.ret v)=>Q v s'|.ok _=>False|.error e=>E e s') s):
  gY M A (call f pos kw) Q E s:=Bl hc
def r9 (h:kP M A c R s) (hR:∀r s,R r s->R' r s):kP M A c R' s:=
 λΓ p hc hΓ cl=>wpCode_mono hR<|h Γ p hc hΓ cl
noncomputable def kA (hb:ve c)
  (h:gY M (A.under c) (M.den c) (λfin s'=>match fin with|.done f=>R (.ok f) s'|.again c'=>c'.quiet/\kP M A c' R s')
   (λe s'=>R (.error e) s') s):kP M A c R s:=λΓ p hc hΓ cl=>by
 rw[wpCode_iff_wp,hc];refine PySem.Sem.wp_mono M Γ _ (λfin p' s' h'=>?_) (λZ Z Z h'=>h') p s<|h Γ p (hc▸hΓ.in) (hc▸hb) cl;cases fin with
 |done f=>exact h'
 |again c'=>exact⟨h'.1,h'.2 _ p' rfl (hΓ.goto c') cl⟩
theorem Qt {α:Type} {F:α->Bool}:∀{l:List α},(∀x∈l,[x].any F=false)->l.any F=false
 |[],_=>rfl
 |x::l,h=>by
  have a:=h x<|.head _;show (F x||l.any F)=false;rw[Qt λy m=>h y<|.tail _ m];exact a
def Bm {v:Value} {Q:Bool->Shared->Prop} (h:Q false s):gY M A (Bytes.exported v) Q E s:=λΓ p hΓ b cl=>by
 show Q (((Γ.code,p)::Γ.below).any _) s;rw[Qt λx hx=>?_]
 .exact h
 .cases hx with
  |head=>exact b v M Γ p s
  |tail _ m=>exact cl x m v M Γ x.2 s
end
end
section
open PySem PySem.W PyProof.Rows PySem.SeqAt PySem.Calls
open Sem (wp)
section
variable{prog:Program} {w:World} {A:Around} {E:Value->Shared->Prop} {s:Shared} {env:PySem.Env} {R:Result->Shared->Prop}
def Eu (h:gY (model prog w) (A.deeper env) (PySem.execs body env) (λ(f:PySem.Flow) s'=>R (.ok<|.ret<|match f with|.ret v=>v|_=>.none) s') (λZ Z=>False) s):
  kP (model prog w) A (.func body env) R s:=by
 refine kA okF<|gc<|tF<|gc<|Cr<|jL h (λf s' h'=>?_) λZ Z h'=>h'.elim
 cases f<;>exact j9 h'
def sL (hroom:A.depth<recursionLimit)
  (ho:s.heap.get? a=some o)
  (hd':o.data=.func fd) (hco:fd.scope.isCoroutine=false) (hgen:fd.scope.isGenerator=false) (hbody:fd.body=.stmts body) (hcd:s.heap.CodeRec fd.code fd.qualname)
  (h:wpAny (model prog w) A.in1 (bindArgs fd args) (λbinds s₁=>
   wpAny (model prog w) A.in1 (newFunctionEnv fd.scope fd.globals fd.closure binds (fd.qualname++".<locals>.") (some a) fd.code none fd.builtins)
    (λenv s₂=>s₂.heap.NoLimit/\kP (model prog w) A (.func body env) R s₂) (λe s'=>R (.error e) s') s₁) (λe s'=>R (.error e) s') s):
  kP (model prog w) A (.call (.ref a) args) R s:=by
 refine kA KB<|io ?_;show wpAny _ A.in1 _ _ _ s;refine eX<|wpAny_load ho ?_;refine ia λG kk=>?_
 obtain⟨c,oc,vs,tq,hc,hoc,hdc,hq⟩:=hcd;apply kk;simp only[hd',callFunction,hco,hgen,hbody,hc];rw[hc]at h;refine eX<|PySem.wpAny_field hoc hdc hq<|eX<|fD ?_;exact eX (gE h (λbinds s₁ h₁=>eX (gE h₁ (λenv s₂ h₂=>eX (wpAny_enterFrame h₂.1 hroom
  (fD<|And.intro rfl h₂.2))) λZ Z h'=>h')) λZ Z h'=>h')
noncomputable def vO
  (hroom:A.depth<recursionLimit) (ho:s.heap.get? a=some o) (hdata:o.data=.func fd) (hlim:s.heap.NoLimit) (hcd:s.heap.CodeRec fd.code fd.qualname)
  (hbody:fd.body=.stmts body) (hbind:bindArgs fd ⟨vals,[]⟩=pure binds) (hclo:fd.closure=[])
  (hkind:∀x∈binds,fd.scope.names.lookup x.1=some .local\/(fd.scope.names.lookup x.1=some .cell/\((cellsFrom (s.heap.objs.size+1) fd.scope.names []).lookup x.1).isSome))
  (h:∀s₁,InCallC s (callEnvC fd s.heap.objs.size a).locals (bindL (callEnvC fd s.heap.objs.size a).kindOf binds λZ=>none) (callEnvC fd s.heap.objs.size a).cells
    (bindC (callEnvC fd s.heap.objs.size a).kindOf binds λZ=>none) s₁->
   gY (model prog w) (A.deeper<|callEnvC fd s.heap.objs.size a) (PySem.execs body<|callEnvC fd s.heap.objs.size a) (λ(f:PySem.Flow) s'=>R (.ok<|.ret<|match f with|.ret v=>v|_=>.none) s')
    (λZ Z=>False) s₁)
  (hco:fd.scope.isCoroutine=false:=by rfl) (hgen:fd.scope.isGenerator=false:=by rfl) (hk:fd.scope.kind=.function:=by rfl):
  kP (model prog w) A (.call (.ref a) ⟨vals,[]⟩) R s:=by
 refine sL hroom ho hdata hco hgen hbody hcd ?_;rw[hbind,hclo];refine fD<|wpAny_newFunctionEnv_cells hk hkind λenv he s' x=>?_
 subst he;exact⟨hlim.keeps x.toInCall.keep,Eu<|h s' x⟩
end
section
variable{M:Model} {A:Around} {E:Value->Shared->Prop} {s:Shared} {env:PySem.Env}
def Cs {st:Stmt}
  (h:gY M A (PySem.exec st env) (λf s'=>match f with|.next=>gY M A (PySem.execs rest env) Q E s'|f=>Q f s') E s):
  gY M A (PySem.execs (st::rest) env) Q E s:=λΓ p hΓ b c=>by
 rw[execs_cons,PySem.Sem.wp_bind'];refine PySem.Sem.wp_mono M Γ _ (λf p' s' h'=>?_) (λZ Z Z h'=>h') _ _<|h Γ p hΓ b c;cases f<;>first|exact h' Γ p' hΓ b c|exact h'
noncomputable def Bn
  (h:gY M A (PySem.eval value env) (λv s₁=>wpAny M A (storeName env x v) (λZ=>Q .next) E s₁) E s)
  (hs:swapsWith value (some<|.Name x pos') pos.line env=pure false:=by rfl):
  gY M A (PySem.exec (.Assign [.Name x pos'] value pos) env) Q E s:=λΓ p hΓ b c=>by
 simp only[exec_Assign_Name env x pos' value pos hs,PySem.Sem.wp_bind',Sem.wp_cmd_standAt,Sem.wp_bindName];exact PySem.Sem.wp_mono M Γ _ (λv Z s₁ h₁=>h₁ Γ _ hΓ) (λZ Z Z h'=>h') _ _<|h Γ _ hΓ b c
noncomputable def uQ
  (h:gY M A (PySem.eval value env) (λv s₁=>wpAny M A (PySem.eval o env) (λov s₂=>wpAny M A (setAttr ov attr v) (λZ=>Q .next) E s₂) E s₁) E s)
  (hs:swapsWith value (some<|.Attribute o attr pos') pos.line env=pure false:=by rfl):
  gY M A (PySem.exec (.Assign [.Attribute o attr pos'] value pos) env) Q E s:=λΓ p hΓ b c=>by
 simp only[plainObj_exec_Assign_Attribute o attr pos' value pos hs,assign_Attribute,PySem.Sem.wp_bind',Sem.wp_holding,Sem.wp_cmd_standAt,Sem.wp_release];exact PySem.Sem.wp_mono M Γ _ (λv p₁ s₁ h₁=>PySem.Sem.wp_mono M Γ _ (λov Z s₂ h₂=>h₂ Γ _ hΓ) (λZ Z Z h'=>h') _ _<|h₁ Γ p₁ hΓ) (λZ Z Z h'=>h') _ _<|h Γ _ hΓ b c
def tG
  (h:wpAny M A (PySem.eval (.Name x np) env) (λf s₁=>gY M A (callWith pos f [] (backTo pos<|starEach args env)<|backToKw pos<|keywordEach keywords env) Q E s₁) E s):
  gY M A (PySem.eval (.Call (.Name x np) args keywords pos) env) Q E s:=gc<|io h
def Il {Q:α->Shared->Prop} (h:gY M A m Q E s):gY M A (m.keep vs) Q E s:=
 λΓ p hΓ b c=>by simp only[Sem.wp_keep];exact h Γ p hΓ b c
def Mr {c:Prop} [Decidable c] {α:Type} {a b:Sem α} {P E s} (h:gY M A a P E s) (h':gY M A b P E s):gY M A (if c then a else b) P E s:=by
 by_cases q:c
 .rw[if_pos q];exact h
 .rw[if_neg q];exact h'
def Bo {P:Heap->Prop} (hplain:(args.any (·.1)||keywords.any (·.1.isNone))=false)
  (hk:∀h,P h->∃k,(k=Keeper.frame\/k=Keeper.machine\/k=Keeper.boundFrame)/\Looks M h (keeperOf f) k)
  (h:wpAny M A (evalArgs f true args keywords) (λa s₁=>P s₁.heap/\gY M A (PySem.call f (first++a.pos) a.kw) Q E s₁) E s):gY M A (callWith pos f first args keywords) Q E s:=by
 refine gc<|jX<|jL (io h) (λa s₁ h₁=>gc<|vf ?_) λZ Z x=>x
 refine e8 (hk _ h₁.1) λk hk' L=>?_
 rw[hplain];refine gc<|io<|L.here ?_;have tail:∀{t:Sem Value},gY M A t Q E s₁->gY M A (t>>=λr=>holding [r] point>>=λZ=>pure r) Q E s₁:=
  λht=>gc<|jL ht (λr s₂ hr=>gc<|jX<|tF<|j9 hr) λZ Z x=>x
 have marked (mk:Value):gY M A (callMarked mk f (first++a.pos) a.kw) Q E s₁:=by unfold callMarked;exact Il h₁.2
 obtain rfl|rfl|rfl:=hk'<;>first|exact tail h₁.2|exact Mr (c:=args.length+2*keywords.length>30) (tail h₁.2)<|tail<|marked _
def xJ
  (hplain:args.any (·.1)=false)
  (h:wpAny M A (evalArgs (.type T) true args []) (λa s₁=>gY M A (PySem.call (.type T) (first++a.pos) a.kw) Q E s₁) E s):
  gY M A (callWith pos (.type T) first args []) Q E s:=by
 refine gc<|jX<|jL (io h) (λa s₁ h₁=>gc<|vf ?_) λZ Z x=>x
 rw[show (args.any (·.1)||([]:List (Option Str×Sem Value)).any (·.1.isNone))=false by rw[hplain];rfl];refine gc<|j9 ?_;exact gc<|jL h₁ (λr s₂ hr=>gc<|jX<|tF<|j9 hr) λZ Z x=>x
end
section
variable{prog:Program} {w:World} {A:Around} {E:Value->Shared->Prop} {C:Addr} {R:Result->Shared->Prop} {h:Heap} {g:Array GenState} {d:Drawn} {t:Nat} {os:OsState} {s:Shared}
def sH {id:String} (hbc:ve (.builtin id args)) (hb:entryFor table id=some b)
  (h:gY (model prog w) (A.under<|.builtin id args) (b args) (λfin s'=>match fin with|.done f=>R (.ok f) s'|.again c'=>c'.quiet/\kP (model prog w) A c' R s') (λe s'=>R (.error e) s') s):kP (model prog w) A (.builtin id args) R s:=by
 refine kA hbc ?_;show gY _ _ (match entryFor table id with|some b=>b args|none=>unsupported _) _ _ _;rw[hb];exact h
def nq {id:String} (hbc:ve (.builtin id args)) (hq:(Code.builtin id args).quiet) (hb:entryFor table id=some b)
  (h:wpAny (model prog w) A.in1 (checkBuiltinCall id args) (λZ s₁=>gY (model prog w) (A.under<|.builtin id args) (b args)
   (λfin s'=>match fin with|.done f=>R (.ok f) s'|.again c'=>c'.quiet/\kP (model prog w) A c' R s') (λe s'=>R (.error e) s') s₁)
   (λe s'=>R (.error e) s') s):kP (model prog w) A (.call (.builtin id) args) R s:=
 kA KB (gc<|jL (io h) (λZ s₁ h₁=>j9<|And.intro hq<|sH hbc hb h₁) λZ Z h'=>h')
def WJ {t t':Sem α} {M:Model} {Q:α->Shared->Prop} (e:t=t') (h:wpAny M A t' Q E s):wpAny M A t Q E s:=e▸h
def Qu {t t':Sem α} {M:Model} {Q:α->Shared->Prop} (e:t=t') (h:gY M A t' Q E s):gY M A t Q E s:=e▸h
def Bp {M:Model} {c:Bool} {α:Type} {a b:Sem α} {P E s} (hc:c=false) (h:gY M A b P E s):gY M A (if c=true then a else b) P E s:=by
 subst hc;exact h
def Ew {rest:List Value} {kw:List (Str×Value)} {init:Value} (Y:Makes (model prog w) h C) (hi:Looks (model prog w) h (typeLookup (.ref C) "__init__") (some init))
  (hb:∀self,Looks (model prog w) h (bindSpecial init self) (init,[self])) (hne:(some init !=some (Value.builtin "object.__init__"))=true\/(rest=[]/\kw=[]))
  (hq:kP (model prog w) (A.under<|.builtin "type.__call__" ⟨.ref C::rest,kw⟩) (.call init ⟨.ref (h.objs.size+1)::rest,kw⟩) (InitBack (h.objs.size+1) R) ⟨(h.push emptyDict).push<|instObj C h.objs.size,g,d,t,os⟩):
  kP (model prog w) A (.call (.ref C) ⟨rest,kw⟩) R ⟨h,g,d,t,os⟩:=by
 have Y':=Y;obtain⟨⟨oc,od,cd,sl,hC,e1,e2,e4⟩,made,base,self,top,call,typ⟩:=Y;refine kA KB<|io ?_;show wpAny _ _ (callAny (.ref C) _) _ _ _;refine nd_load hC ?_;show wpAny _ _ (callAny.viaDunder (.ref C) _) _ _ _;unfold callAny.viaDunder;refine eX<|call.at ?_;dsimp only;rw[tc_bind];refine eX<|fD<|eX<|fD ?_;refine fD (a:=Fin.again<|.call (.builtin "type.__call__") ⟨.ref C::rest,kw⟩)<|And.intro rfl ?_;refine nq Qs (Code.quiet_builtin _ (by decide+kernel)) entry_typeCall<|check_slot tc_kind tc_split typ (tc_args _ _ _) ?_;unfold Builtin.«type.__call__»;have hm:Looks (model prog w) h (mroOf<|.ref C) cd.mro:=((Looks.ld (part:=none) hC).andThen .now).andThen .now;refine Bp (c:=Value.ref C==Value.type "type") rfl ?_
 repeat (first|refine Bp rfl ?_|refine Bp (by rw[e4]) ?_|with_reducible refine gc (io ?_)|with_reducible refine wpAny_call ?_|lk)
 refine new_K Y' hi hne ?_;have k:∀b o,h.get? b=some o->((h.push emptyDict).push<|instObj C h.objs.size).get? b=some o:=λb o e=>iV _<|iV _ e
 have hx:((h.push emptyDict).push<|instObj C h.objs.size).get? (h.objs.size+1)=some (instObj C h.objs.size):=by heap_get
 have t1:Looks (model prog w) ((h.push emptyDict).push<|instObj C h.objs.size) (typeOf<|.ref<|h.objs.size+1) (.ref C):=(Looks.ld hx).andThen .now;have s1:=self.keeps k;have i1:=hi.keeps k;have b1:=(hb<|.ref<|h.objs.size+1).keeps k;unfold isInstance callSpecial? specialOf;dsimp only;refine gc<|io<|eX<|t1.here<|s1.here ?_;simp only[Bool.not_true,Bool.false_eq_true,if_false];refine gc<|jX<|gc<|io<|eX<|t1.here<|i1.here ?_;dsimp only;refine jX<|gc<|io<|b1.here ?_;dsimp only;refine gc<|pJ ?_;refine r9 hq λr s' z=>?_
 obtain e|(v|_|_|_):=r<;>first|exact z|exact z.elim|skip
 obtain⟨rfl,z⟩:=z;exact j9<|j9 z
end
def GD:mroOf (.type "bytearray")=pure [.type "bytearray",.type "object"]:=by rfl
def Qv:typeLookup (.type "bytearray") "__new__"=pure (some<|.builtin "bytearray.__new__"):=by rfl
def Ms:Slot "bytearray" "__init__" "bytearray.__init__":=
 Slot.of (owner:="bytearray") (n:="__init__") rfl (by decide+kernel) (by decide+kernel) (by decide+kernel)
  (.inl (by decide+kernel)) rfl
def GE:TypeCalled "bytearray" "bytearray.__new__" "bytearray.__init__":=
 ⟨(by decide+kernel),(by decide+kernel),⟨_,_,GD⟩,madeBy_type GD Qv (by decide+kernel),(by decide+kernel),by rw[isSubtype_type];kernel_rfl,Ms⟩
def Mt:checkBuiltinCall "bytearray.__new__" ⟨[.type "bytearray"],[]⟩=pure ():=eV
def Bq:entryFor table "bytearray.__new__"=some Builtin.«list.__new__»:=
 entryFor_alias (id':="list.__new__") (by rw[fastTable_eq_tree];kernel_rfl) (by decide+kernel) (by decide+kernel) (by rw[fastTable_eq_tree];kernel_rfl)
def Br:plainId "bytearray.__new__":=(by decide+kernel)
def zG:entryFor table "bytearray.__init__"=some Builtin.«bytearray.__init__»:=entryFor_of_tree eV
def Im:("bytearray.__new__".splitOn ".__new__").headD ""="bytearray":=congrArg (·.headD "") split_bytearray
def GF:isSubtype (.type "bytearray") (.type "bytearray")=pure true:=by rfl
def Mu (v:Value):argsOk "bytearray.__init__" ⟨[v],[]⟩:=by unfold argsOk;kernel_rfl
def Qw:typeLookup (.type "bytearray") "__release_buffer__"=pure (some<|.builtin "bytearray.__release_buffer__"):=by rfl
def Ey (v:Value):Builtin.«bytearray.__init__» ⟨[v],[]⟩=Builtin.Bytes.ownRelease v>>=λr=>if r=true then unsupported "bytearray.__init__:own-__release_buffer__-on-a-subclass" else
 (Builtin.Bytes.exported v<||>(do return (<- Builtin.Bytes.exportsOf v)>0))>>=λc=>if c=true then (do
    if !(<- Builtin.Bytes.payload v).isEmpty then Builtin.Bytes.checkResize v
    unsupported "bytearray.__init__:exported") else Builtin.Bytes.write v (λZ=>#[])>>=λZ=>pure (.done<|.ret .none):=by kernel_rfl
def TJ:Builtin.«type.__call__» ⟨[.type "bytearray"],[]⟩=holding [.builtin "bytearray.__new__"] (PySem.call (.builtin "bytearray.__new__") [.type "bytearray"] [])>>=λo=>isInstance o (.type "bytearray")>>=λb=>if (!b)=true then (do
   PySem.rule "type.call.new-gave-other-type"
   return <- ret o) else holding [o] (callSpecial? o "__init__" [] [])>>=λr=>match r with
  |none=>ret o
  |some r=>if (r != .none)=true then (do
    PySem.rule "type.call.init-returned-value"
    raiseError "TypeError" s!"__init__() should return None, not '{← typeNameOf r}'";ret o) else ret o:=by kernel_rfl
noncomputable abbrev lS:Obj:={cls:=.type "bytearray",data:=.bytearray #[]}
section
variable{prog:Program} {w:World} {A:Around} {E:Value->Shared->Prop} {s:Shared}
def Ct (h:Q₁ (.ref s.heap.objs.size) {s with heap:=s.heap.push lS}):
  codeAny (model prog w) A (.call (.builtin "bytearray.__new__") ⟨[.type "bytearray"],[]⟩) (wants Q₁ E) s:=by
 refine codeAny_of_tree<|eX<|mQ Mt<|fD ⟨plainId_quiet Br _,codeAny_builtin_stack Bq rfl λp st=>?_⟩;refine WJ (t':=.alloc {cls:=.type "bytearray",data:=.bytearray #[]} λa=>pure<|.done<|.ret<|.ref a) (by dsimp only;rw[Im];kernel_rfl) ?_;exact λΓ p hΓ=>h
def Qx {R:PySem.Fin->Shared->Prop} (hx:s.heap.get? a=some lS) (h:R (.done<|.ret .none) {s with heap:=s.heap.update a<|Obj.mapBytearray λZ=>#[]}):
  gY (model prog w) A (Builtin.«bytearray.__init__» ⟨[.ref a],[]⟩) R E s:=by
 have hT:s.TypeIs (.ref a) "bytearray":=⟨_,hx,rfl⟩;refine Qu (Ey _)<|gc<|io<|eX<|eX<|eX<|wpAny_typeOf hT<|mQ Qw<|WJ (t':=isInstance (.ref a)<|.type "bytearray") eV ?_;refine eX<|wpAny_typeOf hT<|mQ GF<|fD<|gc<|gc<|Bm ?_;refine io<|eX<|eX<|wpAny_load hx<|fD<|fD<|gc<|io<|eX<|wpAny_load hx ?_;exact eX<|wpAny_update hx<|wpAny_lookBehind (o:=lS) (pV _ hx rfl) rfl<|j9 h
def Mw {Q:Value->Shared->Prop} (h:Q (.ref s.heap.objs.size) {s with heap:=(s.heap.push lS).update s.heap.objs.size<|Obj.mapBytearray λZ=>#[]}):
  gY (model prog w) A (PySem.call (.type "bytearray") []) Q E s:=by
 have ft:=GE.init;refine pJ<|kA KB<|io<|fD<|show _/\_ from ⟨Code.quiet_builtin _ (by decide+kernel),sH (b:=Builtin.«type.__call__») Qs F.entry_type_call ?_⟩
 rw[Around.under_plain (weight_type_call_type "bytearray" [] []) rfl];refine Qu TJ<|gc<|io<|mf<|wpAny_call<|codeAny_mono (Ct (Q₁:=λv s₁=>v=.ref s.heap.objs.size/\s₁={s with heap:=s.heap.push lS}) (E:=λZ Z=>False) ⟨rfl,rfl⟩) λr s₁ hr=>?_
 obtain e|(v|_|_|_):=r<;>first|exact hr.elim|skip
 obtain⟨rfl,rfl⟩:=hr;have hx:(s.heap.push lS).get? s.heap.objs.size=some lS:=jQ _ rfl;have hT:({s with heap:=s.heap.push lS}:Shared).TypeIs (.ref s.heap.objs.size) "bytearray":=⟨_,hx,rfl⟩;refine gc<|io<|show wpAny _ _ (isInstance (.ref _)<|.type "bytearray") _ _ _ from eX<|wpAny_typeOf hT<|mQ GF ?_
 refine gc<|jX<|gc<|io<|eX<|wpAny_typeOf hT<|mQ ft.lookup ?_;refine jX<|gc<|io<|mQ (ft.bind<|.ref s.heap.objs.size) ?_;refine gc<|pJ ?_;refine nq (b:=Builtin.«bytearray.__init__») Ys (plainId_quiet ft.plain _) zG<|ft.check _ _ _ _ _ _ _ _ hT (Mu _) ?_;rw[Around.under_plainId ft.plain _];exact Qx hx<|j9<|j9 h
end
end
section
open PySem PySem.W PyProof.Rows PySem.SeqAt
open Sem (wp)
def mI (w:World) (d:Nat) (F:fb) (sc:Scope) (st:St) (x:Stmt):Prop:=∀(env:PySem.Env) (E:Env) (A:Around) (ρ:f8) (μ:H) (s:Shared) fl E' μ',f6 w sc env E ρ s.heap->e9 w ρ μ s->jE d A->
 exec aj F st E μ=some (fl,(E',μ'))->gY (model pw w) A (PySem.exec x env) (PS w sc env ρ s fl E' μ') fH s
def sa (w:World) (d:Nat) (F:fb) (sc:Scope) (st:List St) (x:List Stmt):Prop:=∀(env:PySem.Env) (E:Env) (A:Around) (ρ:f8) (μ:H) (s:Shared) fl E' μ',f6 w sc env E ρ s.heap->e9 w ρ μ s->jE d A->
 execs aj F st E μ=some (fl,(E',μ'))->gY (model pw w) A (PySem.execs x env) (PS w sc env ρ s fl E' μ') fH s
section
variable{w:World} {d:Nat} {F:fb} {sc:Scope} {k:Nat} {pos pos':Pos}
def mI.of (h:SX w d F sc t x):mI w d F sc t x:=λenv E A ρ μ s fl E' μ' eR T hA hv=>io<|h env E A ρ μ s fl E' μ' eR T hA hv
def sa.aS:sa w d F sc [] []:=λenv E A ρ μ s fl E' μ' eR T hA hv=>io<|o7.aS env E A ρ μ s fl E' μ' eR T hA hv
set_option tactic.hygienic true in
def sa.aR (h1:mI w d F sc t x) (h2:sa w d F sc ts xs):sa w d F sc (t::ts) (x::xs):=λenv E A ρ μ s fl E' μ' eR T hA h=>by
 simp[i7]at h;refine Cs ?_;split at h
 .rename_i E1 μ1 v1;refine jL (h1 env E A ρ μ s _ _ _ eR T hA v1) (λf s₁ p=>?_) λZ Z f=>f.elim
  refine my p λρ₁ a b c e r=>?_
  cases r;exact jL (h2 env E1 A ρ₁ μ1 s₁ _ _ _ e b hA h) (λZ Z p=>p.bj a c) λZ Z f=>f.elim
 .rename_i hno;refine jL (h1 env E A ρ μ s _ _ _ eR T hA h) (λf s₁ p=>?_) λZ Z f=>f.elim
  refine my p λρ₁ a b c e r=>?_
  cases r with
  |C=>exact absurd h<|hno _ _
  |af=>exact⟨ρ₁,jj a b c e .af⟩
  |L q=>exact⟨ρ₁,jj a b c e<|.L q⟩
def mI.bK {o:Ex} {xo:Expr} {x:Nat} {np cpos:Pos} (hx:x∈iy) (h0:SV w d F sc o xo) (hk:sc.names.lookup ("bytearray":Str)=some .globalImplicit):
  mI w d F sc (.P o x .an) (.Assign [.Attribute xo (nm x) pos'] (.Call (.Name ("bytearray":Str) np) [] [] cpos) pos):=λenv E A ρ μ s fl E' μ' eR T hA h=>by
 refine iE h λk1 μ2 v2 h=>iL h λμ3 hs h=>qG h<|uQ (tG<|vK eR T hk rfl (zE w)<|xJ rfl<|PySem.evalArgs_none (Mw ?_)) (by rfl)
 have hp:(s.heap.push lS).get? s.heap.objs.size=some lS:=jQ _ rfl;have hu:((s.heap.push lS).update s.heap.objs.size (Obj.mapBytearray λZ=>#[])).get? s.heap.objs.size=some lS:=pV _ hp rfl;have keep:∀b ob,s.heap.get? b=some ob->((s.heap.push lS).update s.heap.objs.size (Obj.mapBytearray λZ=>#[])).get? b=some ob:=λb ob e=>by
  rw[Heap.get?_update_ne]
  .exact iV _ e
  .exact jq (jp e)
 have al:=e9.cj (s':={s with heap:=(s.heap.push lS).update s.heap.objs.size (Obj.mapBytearray λZ=>#[])}) T (p:=(s.heap.objs.size,s.heap.objs.size)) (o:=.an) keep (by
  exact iz (jp hu)) rfl (fX _) (fX _) λZ=>.bK hu rfl
 have rself:eW w (ρ++[(s.heap.objs.size,s.heap.objs.size)]) ((s.heap.push lS).update s.heap.objs.size (Obj.mapBytearray λZ=>#[])) (.g μ.length) (.ref s.heap.objs.size):=
  eW.cv (p:=(s.heap.objs.size,s.heap.objs.size)) (by rw[nz (by rw[T.len];lia),T.len,Nat.sub_self];rfl)
 exact fN (h0 env E A _ _ _ _ _ (eR.bn al.1) al.2 hA v2) λuo s₂ ρ₂ a b c ro=>fN (wC hx b ro (rself.aU a (.aS ..)) hs) λZ s₃ ρ₃ a3 b3 c3 Z=>⟨ρ₃,jj (((al.1.aT a).aT a3).own) b3 (c3.trans c) (eR.bn ((al.1.aT a).aT a3)) .C⟩
end
structure Qy (w:World) (d:Nat) (F:fb) (fd:FD) (t:FuncData) (b:List Stmt):Prop extends FnH w fd t b where
 ok:sa w d F t.scope fd.body b
def yL (w:World) (d:Nat) (F:fb) (f:Nat):Prop:=∀vs μ v μ',F f vs μ=some (v,μ')->∀fd,ga eU f=some fd->∀(A:Around) (ρ:f8) (s:Shared) us,
 e9 w ρ μ s->RelVs w ρ s.heap vs us->rJ d A->kP (model pw w) A (.call (.ref fd.addr) ⟨us,[]⟩) (RV<|PV w ρ s v μ') s
def Bs (H:∀fd,ga eU f=some fd->∃t b,Qy w d (aP aj eU d) fd t b):yL w (d+1) (aP aj eU<|d+1) f:=λvs μ v μ' hv fd hf A ρ s us T r hA=>
 (H fd hf).elim λt z=>z.elim λb R=>CU hv hf λE fl E1 hE e fin=>e8 R.obj λo ho hd=>
  vO (Ga hA) (T.base _ _ ho) hd ((CQ w.params).keeps T.base) (R.code.keeps T.base) R.body (wA R.po R.ar R.va R.ko R.kw R.dfl R.nd<|Gc hE r) R.clo (F' R.toFnH)
   (λs₁ x=>Gb R.toFnH T hE r x λT1 eR dr=>jL (R.ok _ E _ ρ μ _ _ _ _ eR T1 (CT hA) e) (λf s' p=>nD (dr p) λρ' b1 b2 b3 b4=>⟨ρ',iI b1 b2 b3<|fin b4⟩) λZ Z f=>f.elim) R.co R.gen R.kind
section
variable{w:World} {d:Nat} {F:fb} {sc:Scope} {k:Nat} {pos pos':Pos}
def Qz
  (hk:keepIn (KF w.params) (.ref a)) (h1:hY w d F sc es xs) (hp:xs.all f7) (hne:xs.isEmpty=false) (eR:f6 w sc env E ρ s.heap) (T:e9 w ρ μ s) (hA:jE d A) (v1:evs aj F E es μ=some (vs,μ1))
  (h:∀us s₁ ρ₁,fM [] ρ s.heap ρ₁ s₁.heap->e9 w ρ₁ μ1 s₁->s₁.os=s.os->RelVs w ρ₁ s₁.heap vs us->gY (model pw w) A (PySem.call (.ref a)<|first++us) Q E' s₁):
  gY (model pw w) A (callWith pos (.ref a) first (backTo pos<|starEach xs env) []) Q E' s:=by
 have g:=h1 env E A ρ μ s vs μ1 pos eR T hA v1;cases xs with
 |nil=>contradiction
 |cons e xs=>
  rw[kC,jd]at hp;have h':wpAny _ A _ (λvs s₁=>(KF w.params).In s₁.heap/\gY _ A _ Q E' s₁) E' s:=
   fN g λus s₁ ρ₁ x y z r=>⟨mE y,h us s₁ ρ₁ x y z r⟩
  rw[ja hp.1]at h'⊢;exact Bo (by show((false||(backTo pos _).any _)||false)=false;rw[nj hp.2];rfl) (keeps_K hk)<|PySem.Calls.evalArgs_plain h'
def mI.new {x c:Nat} {C:CD} {es:List Ex} {xs:List Expr} {n:Str} {np cpos:Pos} (hx:x<214) (hkx:sc.names.lookup (nm x)=some .local\/sc.names.lookup (nm x)=some .cell)
  (hC:hU aj c=some C) (hF:yL w d F C.init) (hk:sc.names.lookup n=some .globalImplicit) (hd:(n==("__debug__":Str))=false)
  (hg:globalOf (HF w.params) n=some (.ref C.addr)) (h1:hY w d F sc es xs) (hp:xs.all f7) (hne:xs.isEmpty=false):
  mI w d F sc (.G x<|.new c es) (.Assign [.Name (nm x) pos'] (.Call (.Name n np) xs [] cpos) pos):=λenv E A ρ μ s fl E' μ' eR T hA h=>iA h λv μ3 v3 h=>qG h (CF v3 hC λvs μ1 μ2 v1 v2=>by
 obtain⟨kp,fd,hf,hi,ht⟩:=CP w.params hC;refine Bn (tG<|qg eR T hk hd hg<|Qz kp h1 hp hne eR T hA v1 λus s₁ ρ₁ x y z r=>?_) (by rfl);rw[k8];have X:=mE y;have al:=AO hC y;obtain⟨hh,g,dr,t,os⟩:=s₁;refine pJ (Ew (makes_of X (AL w.params hC).makes) (looks_findIn X hi) (λself=>bind_fn X self ht) (.inl rfl) ?_);refine r9 (hF _ _ _ _ v2 fd hf (A.under (.builtin "type.__call__" ⟨.ref C.addr::us,[]⟩)) _ _ (.ref (hh.objs.size+1)::us) al.2.1 (.aR al.2.2 (r.aU al.1 (.aS ..))) (wz hA)) λr' s' q=>?_
 rcases r' with e|(v|_|_|_)<;>first|exact q.elim|skip
 refine nD q λρ₂ q1 q2 q3 q4=>rH q4 ?_
 have xt:=x.aT (al.1.aT q1);exact ⟨rfl,show wpAny _ _ _ _ _ _ from nZ hx hkx (eR.bn xt) q2 (al.2.2.aU q1 (.aS ..)) λs' x1 x2 x3 x4=>⟨ρ₂,jj (xt.own.aT x1) x2 (x3.trans (q3.trans z)) x4 .C⟩⟩)
end
end
section
open PySem PySem.W PyProof.Rows PySem.SeqAt
section
variable{w:World} {d:Nat} {F:fb} {sc:Scope}
def TK {P:Ex->Prop} (e:Ex) (k:Ok (P .an)):Ok (P e):=zV (λZ=>gb) (λZ Z Z Z Z Z Z=>gb) (λZ Z=>gb) k e
def Yt {P:Ex->Prop} (e:Ex) (k:∀c es,Ok<|P<|.new c es):Ok (P e):=zV (λZ=>gb) (λZ Z Z Z Z Z Z=>gb) k gb e
def Yu {f0:Nat} (hF:FS w d F) (hP:yL w d F f0) (sc:Scope) (t:St) (x:Stmt):Ok (mI w d F sc t x):=oox (jm (WF hF sc t x) mI.of) (match t with
 |.P o z e=>TK (P:=λe=>mI w d F sc (.P o z e) x) e (Ik x λts v p=>qQ (P:=λts=>mI w d F sc _<|.Assign ts v p) ts λy=>r8 (P:=λy=>mI w d F sc _<|.Assign [y] v p) y λx n np=>pI (P:=λv=>mI w d F sc _<|.Assign _ v p) v λc xs q=>pH (P:=λxs=>mI w d F sc _<|.Assign _ (.Call c xs [] q) p)
   (jy (P:=λc=>mI w d F sc _<|.Assign _ (.Call c [] [] q) p) c λm Z=>Gw (gU (nm z) n) (lX<|z∈iy) (gU ("bytearray":Str) m) (gS hF false sc o x) (wN sc ("bytearray":Str)) λa b c d e=>by subst a;subst c;exact mI.bK b d e) xs)
 |.G z e=>Yt (P:=λe=>mI w d F sc (.G z e) x) e λc es=>Ik x λts v p=>qQ (P:=λts=>mI w d F sc _<|.Assign ts v p) ts λy=>jy (P:=λy=>mI w d F sc _<|.Assign [y] v p) y λn np=>pI (P:=λv=>mI w d F sc _<|.Assign _ v p) v λf xs cp=>jy (P:=λf=>mI w d F sc _<|.Assign _ (.Call f xs [] cp) p) f λm mp=>match hC:hU aj c with
   |some C=>(((Gx (gU (nm z) n) (lX<|z<214) (Bh sc z) (wN sc m) (xI m) (gU (globalOf (HF w.params) m)<|some<|.ref C.addr) (lX<|C.init=f0) λa b c d e f g h i j=>by subst a;exact mI.new b c hC (g▸hP) d e f h i j).ap<|ckEs hF sc es xs).ap<|iu<|xs.all f7).ap<|gU xs.isEmpty false
   |none=>gb
 |_=>gb)
def KC {f0:Nat} (hF:FS w d F) (hP:yL w d F f0) (sc:Scope):(ts:List St)->(xs:List Stmt)->Ok (sa w d F sc ts xs)
 |[],[]=>jW sa.aS
 |t::ts,x::xs=>kO (Yu hF hP sc t x) (KC hF hP sc ts xs) sa.aR
 |_,_=>gb
def QA {f0:Nat} (hF:FS w d F) (hP:yL w d F f0) (f:Nat):Ok (∀fd,ga eU f=some fd->∃t b,Qy w d F fd t b):=match h:ga eU f with
 |some fd=>jm (WG w fd λsc b=>KC hF hP sc fd.body b) λ⟨t,b,x,y⟩ fd' e=>by cases e;exact⟨t,b,⟨x,y⟩⟩
 |none=>jW nofun
end
def TL:ga eU 1000=none:=eV
theorem QB (w:World):∀d,yL w d (aP aj eU d) 1000
 |0=>λvs μ v μ' hv=>by simp[Pp]at hv
 |d+1=>λvs μ v μ' hv=>by simp[HS,TL]at hv
def QC (w:World) (d:Nat):yL w (d+1) (aP aj eU<|d+1) 44:=Bs<|(QA (Bj w d) (QB w d) 44).h eV
def QD (w:World) (d:Nat):yL w (d+2) (aP aj eU<|d+2) 90:=Bs<|(QA (Bj w _) (QC w d) 90).h eV
end
section
open PySem PySem.W PySem.Calls PyProof.Rows PySem.Spec
open Sem (wp)
def xK (hin:Γ.In A) (hb:ve Γ.code) (hc:Bk Γ.below)
  (h:gY M A t (λfin s'=>∃f,fin=.done f/\R (.ok f) s') (λe s'=>R (.error e) s') s) (p:Pos):
  wp M Γ t (Sem.finPost M Γ R) (λe Z s'=>R (.error e) s') p s:=by
 refine PySem.Sem.wp_mono M Γ t (λfin p' s' h'=>?_) (λZ Z Z h'=>h') p s<|h Γ p hin hb hc;obtain⟨f,rfl,hf⟩:=h';exact hf
def Ez {v:Value} {R:Shared->Prop} (hreg:s.asleep)
  (h:gY (model prog w) callerA t (λf s'=>f=.done (.ret v)/\R s'/\s'.gens= #[]) (λZ Z=>False) s) {G:Prop}
  (kk:∀n s',runN (denote table) prog w n s ⟨t,.builtin "claim.caller" {},default,[]⟩=.halted (.done<|.ret v) s'->
   schedN (denote table) prog w n (.single s ⟨t,.builtin "claim.caller" {},default,[]⟩)=.halted (.done<|.ret v) s'->R s'->G):G:=by
 obtain⟨n,r,s₁,s₂,hs,hn,hfo,rfl,hR,hg⟩:=wp_halts_full (R:=λr s'=>r=.ok (.ret v)/\R s'/\s'.gens= #[]) hreg (xK caller_in (λZ Z Z Z Z=>rfl) (λx hx=>nomatch hx)
  (jL h (λZ s' q=>⟨_,q.1,⟨rfl,q.2⟩,by rw[q.2.2];exact leftWithCleanup_false_of_bare (by simp)⟩) λZ Z f=>f.elim) default)
 obtain rfl:=Shared.eq_of_forget_eq hfo hg;exact kk n _ hn hs hR
def TM {c:ClaimW} {tree:List Value->Sem Fin} {v} {d} (hz:s.asleep) (hgens:s.gens= #[]) (hsame:c.same=none) (hwi:c.within=[]) (hi:∀a b,c.ident a b) (hr:∀args cls,c.raises args cls=false) (hrd:∀h,ReadsW c.records (classAt s.heap) h v d [])
 (hpost:∀args,c.post args d args) (hc:∀cc:Str,(c.records.fields? cc).isSome->(classAt s.heap cc).isSome) (hsh:∀args,c.pre args->∃ss,WShape.hasAll c.records args ss)
 (hspec:∀args vs s₁ as,c.pre args->WData.layableAll args->Laid c.records w s s₁ args vs as->
   gY (model c.prog w) callerA (tree vs) (λf s'=>f=.done (.ret v)/\((∀b o,s₁.heap.get? b=some o->s'.heap.get? b=some o)/\s'.os=s₁.os/\kept s'.heap)/\s'.gens= #[]) (λZ Z=>False) s₁):
 c.CallFrom (λvs=>⟨tree vs,.builtin "claim.caller" {},default,[]⟩) w free gens kept s:=by
 intro args hpre hlay ord hord;refine ia λG kk=>?_
 obtain⟨ss,hss⟩:=hsh args hpre;obtain⟨⟨vs,s₁⟩,hlaid⟩:=Option.isSome_iff_exists.mp<|layAllW_isSome (R:=c.records) (cl:=classAt s.heap) (P:=w.params) (ord:=ord) hc args ss s hss;have hal:=layAllW_rest _ _ _ hlaid;refine gT (reads_layAllW hord _ _ _ hlaid hlay s₁.heap λZ Z e=>e) λas hrd1 hin hold=>?_
 have L:Laid c.records w s s₁ args vs as:=⟨⟨ord,hord,hlaid⟩,hrd1,hin,hold,layAllW_keeps _ _ _ hlaid,hal.1.trans hgens,hal.2.2.1⟩;exact Ez (PySem.Shared.asleep_of_life hal.2.2.2 hz) (hspec args vs s₁ as hpre hlay L) λn s' hrun hsched hR=>kk<|⟨vs,s₁,hlaid,n,_,s',hsched,.inl ⟨v,rfl,hr args,⟨d,args,[],as,hrd _,L.reads.keeps hR.1,hpost args,λZ=>⟨.nil,(λZ h=>nomatch h),λZ h=>nomatch h⟩,λZ Z=>hi _ _⟩,(λi e=>by rw[hsame]at e;cases e),(λb o y Z Z Z=>.inl<|hR.1 b o y),λi e=>by rw[hwi]at e;cases e⟩,(λZ i x hx=>by rw[hgens]at hx;simp at hx),hR.2.2,by rw[(runN_life _ _ _ hrun).trans hal.2.2.2],Shared.rest_eq<|hR.2.1.trans hal.2.2.1⟩
def KD:Prop:=∀(w:World) (s₁:Shared) (a:Addr) (ns:List Int) (vs:List Value),
 (∀b o,(HF w.params).get? b=some o->s₁.heap.get? b=some o)->s₁.gens= #[]->s₁.heap.IsList a vs.toArray->IntsAre vs ns->(HF w.params).objs.size<=a->
 WData.layableAll [.list<|ns.map WData.int]->ns.length<=63->
 gY (model pw w) callerA (PySem.call (.ref 989) [.ref a]) (λv s'=>v=.bool true/\(∀b o,s₁.heap.get? b=some o->s'.heap.get? b=some o)/\s'.os=s₁.os/\s'.gens= #[]) (λZ Z=>False) s₁
noncomputable def WK (b:Bool):Bool:=WTm.holds [] (.and (.not<|.lit<|.bool b)<|.lit<|.bool true) {args:=[]}
def fb1 {b} (h:WK b):b=false:=by
 cases b
 .rfl
 .cases h
def Mx {ns:List Int} (h:WTm.holds uS.records uS.pre {args:=[WData.list<|ns.map WData.int]}):ns.length<=63:=
 have e:WTm.holds uS.records uS.pre {args:=[WData.list<|ns.map WData.int]}=WK (decide<|((63:Nat):Int)<((ns.map WData.int).length:Int)):=eV;have q:=of_decide_eq_false (fb1<|e.symm.trans h)
 (Nat.le_of_not_lt λz=>q (Int.ofNat_lt.2 (by rw[fk];exact z)))
def rd1 {R:WRecords} {cl:Str->Option Addr} {h:Heap} {vs:List Value} {as:List Addr} {xs:List WData} (r:ReadsAllW R cl h vs [.list xs] as):∃a its as2,vs=[.ref a]/\a∈as/\h.IsList a its/\ReadsAllW R cl h its.toList xs as2:=by
 obtain⟨v,vs',a1,b1,rfl,e,r1,r2⟩:=readsAllW_cons_inv r;obtain⟨a,its,as2,rfl,hl,r3,e2⟩:=readsW_list_inv r1;obtain⟨rfl,_⟩:=readsAllW_nil_inv r2;exact⟨a,its,as2,rfl,by rw[e,e2];exact .head _,hl,r3⟩
def TO (W:KD):PySem.Challenge.rw_sa0285_01.Holds:=by
 have hw:=Pf;refine(iI Z0 Wl hw ⟨⟨Ph,LK,rfl⟩,⟨_,hw.witness.choose_spec.1,hw.witness.choose_spec.2⟩,λw=>⟨(Fv w).1,λs' hs'=>?_⟩⟩);refine DB ((Fv w).2 s' hs') λs₀ os hf hg0 hT hz=>⟨s₀,hf,hg0,Fu w os,hT,λn hn=>?_,λx hx=>(nomatch hx),λx hx=>(nomatch hx),?_⟩
 .obtain rfl:n=("law":Str):=by
   have hn':n∈[("law":Str)]:=hn;simpa using hn'
  exact X3 w os
 have hgens:(Fu w os).gens= #[]:=rfl;refine TM (c:=uS.claim) (v:=.bool true) hz hgens rfl rfl (ident_freeW (r:=uS) rfl rfl rfl) (λZ Z=>rfl) (λZ=>.bool true) (λZ=>eV) (λc hc=>by cases hc) (λargs h=>⟨_,(pre_splitW h).1⟩) λargs vs s₁ as hpre hlay L=>?_
 obtain⟨d,r,rfl,h1,h2⟩:=hasAllW_cons (pre_splitW hpre).1;obtain rfl:=hasAllW_nil h2;obtain⟨xs,rfl,h3⟩:=hasW_list h1;obtain⟨ns,rfl⟩:=sD h3;obtain⟨a,its,as2,rfl,ha,hL,e4⟩:=rd1 L.reads;have W':=W w s₁ a ns its.toList L.keeps L.gens hL (pz e4) (L.within.2.2 a ha).1 hlay<|Mx (pre_splitW hpre).2;refine gc<|io<|wpAny_nsGet (Heap.Ns.keeps (.of_isNs<|t9 w.params) L.keeps) ?_;rw[show uS.name=("law":Str)from rfl,show (HF w.params).nsMap mainNs (Str.ofString "law")=some (.ref 989) from (PySem.Pin.globalOf_eq (t9 _) _).symm.trans<|Fw _];exact gc<|jL W' (λv s' g=>j9 ⟨by rw[g.1],⟨g.2.1,g.2.2.1,λq=>nomatch q⟩,g.2.2.2⟩) λZ Z f=>f.elim
end
section
open PySem PySem.W PySem.Calls PyProof.Rows
def QF:Prop:=∀ns:List Int,ns.length<=63->∃μ,aP aj eU 40 90 [.w<|ns.map .a] []=some (.O true,μ)
theorem Yv {w:World} {h:Heap} {vs:List Value} {ns:List Int} (r:IntsAre vs ns):RelVs w [] h (ns.map .a) vs:=by
 induction r with
 |nil=>exact .aS
 |cons n t _ ih=>exact .aR (.bY n t) ih
def Yw:∃fd,ga eU 90=some fd/\fd.addr=989:=by decide
def TP:rJ 40 callerA:=⟨rfl,by show 1+claimMargin+3*40+3<recursionLimit;decide,by show 4+10*40+193<cLine;decide⟩
def Yx (keep:∀b o,(HF w.params).get? b=some o->s.heap.get? b=some o) (hg:s.gens= #[]):e9 w [] [] s:=
 ⟨keep,hg,rfl,(λp hp=>by cases hp),(λk o p hk=>by cases k<;>cases hk),(λi j p q hi=>by simp at hi)⟩
def KG:¬kL [] b:=λ⟨p,hp,_⟩=>by cases hp
def TQ (M:QF):KD:=λw s₁ a ns vs keep hg hL hI hz hlay hlen=>by
 obtain⟨μ,hv⟩:=M ns hlen;refine e8 Yw λfd hf ha=>?_
 have T:=Yx keep hg;have r:RelVs w [] s₁.heap _ _:=.aR (.bo hL KG (by simpa using Yv hI)) .aS;have go:=QD w 38 _ [] _ _ hv fd hf callerA [] s₁ _ T r TP;rw[ha]at go;refine pJ<|r9 go λr' s' q=>?_
 obtain e|(v|_|_|_):=r'<;>first|exact q.elim|skip
 refine nD q λρ' q1 q2 q3 q4=>?_
 cases q4;exact(iI rfl (λb o e=>q1.keep b o e KG fF) q3 q2.gens)
def holds_of (M:QF):PySem.Challenge.rw_sa0285_01.Holds:=TO<|TQ M
end
section
open PySem
def jz (E:Env) (x y:Nat) (v:V):ci (eP E x v) y=match Nat.beq x y with|true=>some v|false=>ci E y:=rfl
theorem tH:∀(μ:H) (k j:Nat) (o:O),d' (fc μ k o) j=match Nat.beq k j with|true=>(d' μ j).map λZ=>o|false=>d' μ j
 |[],k,j,o=>by cases Nat.beq k j<;>rfl
 |a::r,0,0,o=>rfl
 |a::r,0,j+1,o=>rfl
 |a::r,k+1,0,o=>rfl
 |a::r,k+1,j+1,o=>by
  have:=tH r k j o;exact this
theorem iZ:∀(μ ν:H) (k:Nat),k<μ.length->d' (μ++ν) k=d' μ k
 |a::r,ν,0,_=>rfl
 |a::r,ν,k+1,h=>iZ r ν k<|sM h
theorem jH:∀(μ ν:H) (k:Nat),d' (μ++ν) (μ.length+k)=d' ν k
 |[],ν,k=>fF
 |a::r,ν,k=>by
  rw[show(a::r).length+k=(r.length+k)+1 by simp;lia];exact jH r ν k
theorem gh:∀{μ:H} {k:Nat} {o:O},d' μ k=some o->k<μ.length
 |a::r,0,o,_=>fF
 |a::r,k+1,o,h=>by
  have:=gh (μ:=r) (k:=k) h;simp;omega
def hO (μ:H) (o:O):d' (μ++[o]) μ.length=some o:=by
 have:=jH μ [o] 0;exact this
theorem ig:∀(μ:H) (k:Nat) (o:O),(fc μ k o).length=μ.length
 |[],_,_=>rfl
 |a::r,0,o=>rfl
 |a::r,k+1,o=>congrArg Nat.succ (ig r k o)
theorem xL:∀(μ ν:H) (k:Nat) (o:O),k<μ.length->fc (μ++ν) k o=fc μ k o++ν
 |a::r,ν,0,o,_=>rfl
 |a::r,ν,k+1,o,h=>by
  show a::fc (r++ν) k o=a::(fc r k o++ν);rw[xL r ν k o<|sM h]
theorem jb:∀(μ ν:H) (k:Nat) (o:O),fc (μ++ν) (μ.length+k) o=μ++fc ν k o
 |[],ν,k,o=>fF
 |a::r,ν,k,o=>by
  rw[show(a::r).length+k=(r.length+k)+1 by simp;lia];show a::fc (r++ν) (r.length+k) o=_;rw[jb r ν k o];rfl
def Yy {σ:Type} {ok:σ->Bool} {turn:V->σ->Option (Flow×σ)} {s:σ}:fS ok turn [] s=match ok s with
  |true=>some (.C,s)
  |false=>none:=rfl
def EA {σ:Type} {ok:σ->Bool} {turn:V->σ->Option (Flow×σ)} {v:V} {r:List V} {s:σ}:fS ok turn (v::r) s=match ok s with
  |true=>match turn v s with
   |none=>none
   |some (.L u,s')=>some (.L u,s')
   |some (_,s')=>fS ok turn r s'
  |false=>none:=rfl
def hV {σ:Type} {ok:σ->Bool} {turn:V->σ->Option (Flow×σ)} {s:σ} (hok:ok s):fS ok turn [] s=some (.C,s):=by rw[Yy,hok]
def f5 {σ:Type} {ok:σ->Bool} {turn:V->σ->Option (Flow×σ)} {v:V} {r:List V} {s s':σ} {R:Option (Flow×σ)} (hok:ok s) (ht:turn v s=some (.C,s')) (h:fS ok turn r s'=R):fS ok turn (v::r) s=R:=by
 rw[EA,hok,ht];exact h
def C4 {σ:Type} {ok:σ->Bool} {turn:V->σ->Option (Flow×σ)} {v:V} {r:List V} {s s':σ} {R:Option (Flow×σ)} (hok:ok s) (ht:turn v s=some (.af,s')) (h:fS ok turn r s'=R):fS ok turn (v::r) s=R:=by
 rw[EA,hok,ht];exact h
def Bt {σ:Type} {ok:σ->Bool} {turn:V->σ->Option (Flow×σ)} {v:V} {r:List V} {s s':σ} {u:V} (hok:ok s) (ht:turn v s=some (.L u,s')):fS ok turn (v::r) s=some (.L u,s'):=by
 rw[EA,hok,ht]
theorem yM {σ:Type} {ok:σ->Bool} {turn:V->σ->Option (Flow×σ)} (I:Nat->σ->Prop):∀(l:List V) (s:σ) (k:Nat),I k s->(∀i s,I i s->ok s)->
  (∀i v s,l[i]?=some v->I (k+i) s->∃fl s',turn v s=some (fl,s')/\(fl=.C\/fl=.af)/\I (k+i+1) s')->∃s',fS ok turn l s=some (.C,s')/\I (k+l.length) s'
 |[],s,k,h0,hok,_=>⟨s,hV<|hok _ _ h0,by simpa using h0⟩
 |v::r,s,k,h0,hok,ht=>by
  refine kF (ht 0 v s rfl h0) λfl s1 e1 e2 e3=>?_
  obtain⟨s',g1,g2⟩:=yM I r s1 (k+1) e3 hok λi v s hv hi=>by
   have:=ht (i+1) v s hv (by rw[show k+(i+1)=k+1+i by lia];exact hi);rw[show k+(i+1)=k+1+i by lia]at this;exact this
  refine⟨s',?_,by rw[show k+(v::r).length=k+1+r.length by simp;lia];exact g2⟩;rcases e2 with rfl|rfl
  .exact f5 (hok _ _ h0) e1 g1
  .exact C4 (hok _ _ h0) e1 g1
def GG (I:Nat->σ->Prop) (l:List V) (s:σ) (h0:I 0 s) (hok:∀i s,I i s->ok s)
  (ht:∀i v s,l[i]?=some v->I i s->∃fl s',turn v s=some (fl,s')/\(fl=.C\/fl=.af)/\I (i+1) s'):∃s',fS ok turn l s=some (.C,s')/\I l.length s':=by
 have:=yM I l s 0 h0 hok λi v s hv hi=>by
  rw[gJ]at hi⊢;exact ht i v s hv hi
 simpa using this
theorem ar1 {e s n:Nat} (h1:1<=s) (h:e<=n+1):min (e-s) (n-(s-1))=e-s:=by
 cases s with
 |zero=>cases h1
 |succ s=>exact Nat.min_eq_left<|Nat.add_sub_add_right n 1 s▸Nat.sub_le_sub_right h (s+1)
theorem ar2 {a:Nat} (h:a≠0):a-1+2=a+1:=by
 cases a with
 |zero=>exact absurd rfl h
 |succ a=>rfl
theorem ar3 {a:Nat} (h:¬a=0):(63+(a:Int))=((64+(a-1):Nat):Int):=by
 cases a with
 |zero=>exact absurd rfl h
 |succ a=>exact congrArg Int.ofNat<|show 63+(a+1)=64+a by rw[ij a 1,<-jg]
def WL {e s n:Nat} (h1:1<=s) (h:e<=n+1):e-s<=n:=Nat.sub_le_of_le_add<|al_81 h<|ik h1 n
def ar5 {L g m:Nat} (hL:L+60*(m+1)<500) (hg:g<=60):L+g+60*m<500:=fq (by rw[Nat.mul_succ,jg,ij<|60*m];exact ik (oF hg _) _) hL
theorem ar6 {s d:Nat} (h:1<=s):s+d=s-1+d+1:=by
 cases s with
 |zero=>cases h
 |succ s=>exact i9 s 1 d
def ar7 {j h:Nat} (h0:¬h=0) (hj:h<=j):¬(((64+j:Nat):Int)<=((64+(h-1):Nat):Int)):=λq=>by
 have q:=Nat.le_of_add_le_add_left<|Int.ofNat_le.1 q;exact Nat.lt_irrefl _<|fB (Nat.sub_lt (Nat.pos_of_ne_zero h0) ay)<|al_81 hj q
def ar8 {j h:Nat} (hj:h<=j) (h3:j<3):h-1<3:=fq (Nat.sub_le _ _)<|fq hj h3
def lA {a b n:Nat} (h:a+b<n):a<n:=fq (gV a b) h
def lB {a b n:Nat} (h:a+b<n):b<n:=fq (k9 b a) h
def lC {a b n:Nat} (h:a+b<=n):a<=n:=al_81 (gV a b) h
def lD {a b n:Nat} (h:a+b<=n):b<=n:=al_81 (k9 b a) h
section
variable{F:fb} {E E':Env} {μ μ' μ'':H} {v:V} {ss:List St}
def qR {t:St} (h:exec aj F t E μ=some (.C,(E',μ'))):execs aj F (t::ss) E μ=execs aj F ss E' μ':=by rw[i7,h]
def GH {t:St} (h:exec aj F t E μ=some (.L v,(E',μ'))):execs aj F (t::ss) E μ=some (.L v,(E',μ')):=by rw[i7,h]
def QH {c a b} {t:Bool} (h:ev aj F E c μ=some (v,μ')) (ht:ix μ' v=some t):exec aj F (.M c a b) E μ=execs aj F (cond t a b) E μ':=by
 rw[FK,h];dsimp only;rw[ht];cases t<;>rfl
def fQ (h:ev aj F E e μ=some (v,μ')):execs aj F (.G x e::ss) E μ=execs aj F ss (eP E x v) μ':=qR (by rw[FJ,h])
def gi (h:ev aj F E e μ=some (v,μ')):execs aj F (.H e::ss) E μ=execs aj F ss E μ':=qR (by rw[LN,h])
def gn (h:ev aj F E c μ=some (v,μ')) (ht:ix μ' v=some t) (h2:execs aj F (cond t a b) E μ'=some (.C,(E',μ''))):
  execs aj F (.M c a b::ss) E μ=execs aj F ss E' μ'':=qR<|(QH h ht).trans h2
def sd (h:ev aj F E c μ=some (v,μ')) (ht:ix μ' v=some t) (h2:execs aj F (cond t a b) E μ'=some (.L u,(E',μ''))):
  execs aj F (.M c a b::ss) E μ=some (.L u,(E',μ'')):=GH<|(QH h ht).trans h2
def gK (h:ev aj F E a μ=some (x,μ1)) (h':ev aj F E b μ1=some (y,μ')) (hl:im μ' k x y=some l)
  (h2:fS (λs:Sg=>fZ k x (src μ' x) s.2) (λv (s:Sg)=>match fi s.1 single t v with
      |none=>none
      |some E'=>execs aj F body E' s.2) l (E,μ')=some (.C,(E',μ''))):execs aj F (.J single t k a b body::ss) E μ=execs aj F ss E' μ'':=by
 refine qR ?_;rw[CH,h];dsimp only;rw[h'];dsimp only;rw[hl];exact h2
def gP (h:ev aj F E e μ=some (v,μ')):execs aj F (.L e::ss) E μ=some (.L v,(E,μ')):=GH (by rw[Po,h])
end
def fU (hf:ga eU f=some fd) (hz:l9 fd.ps vs=some E) (h:execs aj (aP aj eU d) fd.body E μ=some (fl,(E',μ')))
  (hv:(fl=.L v)\/(fl=.C/\v=.B)):aP aj eU (d+1) f vs μ=some (v,μ'):=by
 rw[HS,hf];dsimp only;rw[hz];dsimp only;rw[h];obtain rfl|⟨rfl,rfl⟩:=hv<;>rfl
abbrev PR:=Nat×Nat×Nat×Int
abbrev ER:=Nat×Int×Int
abbrev IR:=Nat×Nat
noncomputable def vP (r:PR):V:=.v [.z [r.1],.a r.2.1,.a r.2.2.1,.a r.2.2.2]
noncomputable def vE (r:ER):V:=.v [.z [r.1],.a r.2.1,.a r.2.2]
noncomputable def vI (r:IR):V:=.v [.a r.1,.a r.2]
def i5 (r:PR):Prop:=(r.1=120\/r.1=121)/\(r.2.1=7\/r.2.1=9)/\r.2.2.1<6/\-1<=r.2.2.2/\r.2.2.2<6
def jY (r:ER):Prop:=(r.1=120\/r.1=121)/\(-1<=r.2.1/\r.2.1<6)/\-1<=r.2.2/\r.2.2<6
def mJ (r:IR):Prop:=r.1<6/\r.2<2
structure Pl where
 p:List (List PR)
 e:List (List ER)
 i:List (List IR)
structure Pl.Ok (q:Pl):Prop where
 lp:q.p.length=3
 le:q.e.length=3
 li:q.i.length=3
 p:∀l∈q.p,∀r∈l,i5 r
 e:∀l∈q.e,∀r∈l,jY r
 i:∀l∈q.i,∀r∈l,mJ r
def Pl.bf (q:Pl):Nat:=(q.p.map List.length).sum+(q.e.map List.length).sum+(q.i.map List.length).sum
def hP (q:Pl):H:=q.p.map (λl=>O.j<|l.map vP)++(q.e.map (λl=>O.j<|l.map vE)++q.i.map λl=>O.j<|l.map vI)
def wP:List St:=match td.body with
 |[_,_,_,.J _ _ _ _ _ b,_]=>b
 |_=>[]
def fm (z:Int) {k:Int} (hk:0<k):Int.fmod z k=z % k:=Int.fmod_eq_emod_of_nonneg z<|Int.le_of_lt hk
def fd' (z:Int) {k:Int} (hk:0<k):Int.fdiv z k=z/k:=Int.fdiv_eq_ediv_of_nonneg z<|Int.le_of_lt hk
def ur (z:Int):Int.fmod z 2=0\/Int.fmod z 2=1:=by rw[fm z ay];lia
def EB (z:Int):Int.fmod z 3=0\/Int.fmod z 3=1\/Int.fmod z 3=2:=by rw[fm z ay];lia
def QL (z:Int):∃n:Nat,n<3/\Int.fmod z 3=n:=⟨(z % 3).toNat,eZ,by rw[fm z ay];lia⟩
def TS (z:Int):∃n:Nat,n<6/\Int.fmod z 6=n:=⟨(z % 6).toNat,eZ,by rw[fm z ay];lia⟩
def QM (i:Int) (h: -1000000000000<=i) (h':i<=1000000000000):i3 i:=by
 unfold i3;rw[fu eZ,fu eZ];rfl
def ut (n:Nat) (h:n<=1000000000000):i3 (n:Int):=QM _ eZ eZ
def My (n:Nat) (i:Int) (h:i3 i) (h0:0<=i):place n i=some i.toNat:=by
 unfold place;rw[h];rw[fu h0]
section
variable{μ:H} {i j:Int}
def lY:mK μ .R (.a i) (.a j)=some (.a<|i+j):=rfl
def GI:mK μ .D (.a i) (.a j)=some (.a<|i-j):=rfl
def Bu (h:i3 i) (h':i3 j):mK μ .aw (.a i) (.a j)=some (.a<|i*j):=by
 show(match i3 i&&i3 j with|true=>_|false=>_)=_;rw[h,h'];rfl
def mF (h:0<j) (h':j<1000000000):mK μ .W (.a i) (.a j)=some (.a<|Int.fdiv i j):=by
 show(match decide _&&decide _ with|true=>_|false=>_)=_;simp only[fu h,fu h'];rfl
def mS (h:0<j) (h':j<1000000000):mK μ .ag (.a i) (.a j)=some (.a<|Int.fmod i j):=by
 show(match decide _&&decide _ with|true=>_|false=>_)=_;simp only[fu h,fu h'];rfl
def xO (h:i3 i) (h0:0<=i):f9 μ (.v l) (.a i)=fK l i.toNat:=by
 show(place l.length i).bind (fK l)=_;rw[My _ i h h0];rfl
def C5 (h:i3 i) (h0:0<=i):f9 μ (.w l) (.a i)=fK l i.toNat:=xO (μ:=μ) h h0
def Mz (ha:d' μ a=some (.j l)) (h:i3 i) (h0:0<=i):f9 μ (.g a) (.a i)=fK l i.toNat:=by
 show(match d' μ a with
  |some (.j l)=>(oS<|.a i).bind λi=>(place l.length i).bind<|fK l
  |some (.dict l)=>(gq μ (.a i) l).bind (gf · l)
  |_=>none)=_
 rw[ha];exact xO (μ:=μ) h h0
def GJ {x:V} {k:Nat} (hk:d' μ k=some (.j l)):pA μ x (.g k)=nE μ x l:=by
 show(match d' μ k with
  |some (.j l)=>nE μ x l
  |some (.dict l)=>(gq μ x l).bind λe=>some (gf e l).isSome
  |_=>none)=_
 rw[hk]
def wQ {x:V} {k:Nat} {l} (hk:d' μ k=some (.dict l)):pA μ x (.g k)=(gq μ x l).bind λe=>some (gf e l).isSome:=by
 show(match d' μ k with
  |some (.j l)=>nE μ x l
  |some (.dict l)=>(gq μ x l).bind λe=>some (gf e l).isSome
  |_=>none)=_
 rw[hk]
def wR {a:Nat} {b:V} {l} {e} (ha:d' μ a=some (.dict l)) (h:gq μ b l=some e):f9 μ (.g a) b=gf e l:=by
 show(match d' μ a with
  |some (.j l)=>(oS b).bind λi=>(place l.length i).bind<|fK l
  |some (.dict l)=>(gq μ b l).bind (gf · l)
  |_=>none)=_
 rw[ha];show(gq μ b l).bind _=_;rw[h];rfl
def uv {a:Nat} {b:V} {l} (ha:d' μ a=some (.dict l)):f9 μ (.g a) b=(gq μ b l).bind (gf · l):=by
 show(match d' μ a with
  |some (.j l)=>(oS b).bind λi=>(place l.length i).bind<|fK l
  |some (.dict l)=>(gq μ b l).bind (gf · l)
  |_=>none)=_
 rw[ha]
def sf {a:Nat} {b v:V} {l} {e} (ha:d' μ a=some (.dict l)) (h:gq μ b l=some e) (hb:Nat.ble l.length gH):mg μ (.g a) b v=some (fc μ a<|.dict<|jn e v l):=by
 show(match d' μ a with
  |some (.j l)=>(oS b).bind λi=>match decide (0<=i)&&decide (i<l.length)&&i3 i with
   |true=>some<|fc μ a<|.j<|xz l i.toNat v
   |false=>none
  |some (.dict l)=>(gq μ b l).bind λd=>match Nat.ble l.length gH with
   |true=>some<|fc μ a<|.dict<|jn d v l
   |false=>none
  |_=>none)=_
 rw[ha];show(gq μ b l).bind _=_;rw[h];show(match Nat.ble l.length gH with |true=>_|false=>_)=_;rw[hb]
def GK {k:Nat} (h:k<=1000000000000):f9 μ (.v l) (.a (k:Int))=fK l k:=xO (ut k h)<|Int.natCast_nonneg k
def wS {k:Nat} (h:k<=1000000000000):f9 μ (.w l) (.a (k:Int))=fK l k:=C5 (ut k h)<|Int.natCast_nonneg k
def jO {k a:Nat} (ha:d' μ a=some (.j l)) (h:k<=1000000000000):f9 μ (.g a) (.a (k:Int))=fK l k:=Mz ha (ut k h)<|Int.natCast_nonneg k
end
abbrev Ev (F:fb) (E:Env) (μ:H) (e:Ex) (v:V):Prop:=ev aj F E e μ=some (v,μ)
section
variable{F:fb} {E:Env} {μ:H} {v:V}
def eT:Ev F E μ (.y v) v:=rfl
def aE (h:ci E x=some v):Ev F E μ (.u x) v:=by simp[Ev,mY,h]
def fJ:Ev F E μ (.S x v) v:=rfl
def gL (h1:Ev F E μ a x) (h2:Ev F E μ b y) (h:mK μ o x y=some z):Ev F E μ (.I o a b) z:=by
 simp[Ev]at h1 h2⊢;simp[zM,h1,h2,h]
def fG (h1:Ev F E μ a x) (h2:Ev F E μ b y) (h:jt μ o x y=some t):Ev F E μ (.E o a b) (.O t):=by
 simp[Ev]at h1 h2⊢;simp[Ki,h1,h2,h]
def fo (h1:Ev F E μ a x) (h2:Ev F E μ b y) (h:f9 μ x y=some z):Ev F E μ (.D a b) z:=by
 simp[Ev]at h1 h2⊢;simp[S5,h1,h2,h]
def mZ (h1:Ev F E μ c x) (h2:ix μ x=some t) (h:Ev F E μ (cond t a b) z):Ev F E μ (.au c a b) z:=by
 simp[Ev]at h1 h⊢;cases t<;>simp[S9,h1,h2]<;>exact h
def EC (h:Ev F E μ a (.a i)):Ev F E μ (.aC a) (.a (-i)):=by
 simp[Ev]at h⊢;simp[S7,h]
def ED (h:Ev F E μ a x) (h2:ix μ x=some t):Ev F E μ (.aD a) (.O<|!t):=by
 simp[Ev]at h⊢;simp[S8,h,h2]
inductive yN (F:fb) (E:Env) (μ:H):List Ex->List V->Prop
 |aS:yN F E μ [] []
 |aR {e v es vs}:Ev F E μ e v->yN F E μ es vs->yN F E μ (e::es) (v::vs)
def yN.eq (h:yN F E μ es vs):evs aj F E es μ=some (vs,μ):=by
 induction h with
 |aS=>simp[lU]
 |aR h1 _ ih=>simp[Ev]at h1;simp[pi,h1,ih]
def gv (h:yN F E μ es vs):Ev F E μ (.v es) (.v vs):=by
 simp[Ev,Kj,h.eq]
def fn (h:yN F E μ es vs) (hF:F f vs μ=some (v,μ')):ev aj F E (.A f es) μ=some (v,μ'):=by
 simp[FA,h.eq,hF]
def fx (h:Ev F E μ e (.g k)) (hk:d' μ k=some (.U c fs)) (ha:ci fs x=some v) (hc:hU aj c=some cd) (hm:km cd.ms x=none):Ev F E μ (.attr e x) v:=by
 simp[Ev]at h⊢;simp[Fz,h,hk,ha,hc,hm]
def oL (h:Ev F E μ o (.g k)) (hk:d' μ k=some (.U c fs)) (ha:ci fs m=none) (hc:hU aj c=some cd) (hm:km cd.ms m=some f)
  (hs:yN F E μ es vs) (hF:F f (.g k::vs) μ=some (v,μ')):ev aj F E (.Q o m es) μ=some (v,μ'):=by
 simp[FC,h,hk,ha,hc,hm,hs.eq,hF]
end
def QN {E:Env} {j:Nat} (hj:j<3) (w:Int) (h1:ci E 197=some (.a j)) (h2:ci E 198=some (.a w)) (c1 c2:Int) (hc:0<c1/\0<c2) (b1:c1<1000000000) (b2:c2<1000000000):∃a:Nat,a<6/\
  Ev F E μ (.D (.v [.I .R (.I .aw (.y<|.a 2)<|.u 197)<|.I .ag (.I .W (.u 198)<|.y<|.a c1)<|.y<|.a 2,.I .ag (.I .W (.u 198)<|.y<|.a c2)<|.y<|.a 6])<|.I .W (.I .ag (.I .W (.u 198)<|.y<|.a 24)<|.y<|.a 3)<|.y<|.a 2) (.a a):=by
 refine ia λG kk=>?_
 obtain⟨n,hn,e6⟩:=TS _;have e2:=ur<|Int.fdiv w c1;have e3:=EB<|Int.fdiv w 24;have q3:∃t:Nat,t<2/\Int.fdiv (Int.fmod (Int.fdiv w 24) 3) 2=t:=by
  obtain e|e|e:=e3<;>rw[e]
  .exact⟨0,ay,rfl⟩
  .exact⟨0,ay,rfl⟩
  .exact⟨1,ay,rfl⟩
 refine e8 q3 λt ht et=>?_
 have q2:∃m:Nat,m<2/\Int.fmod (Int.fdiv w c1) 2=m:=by
  obtain e|e:=e2
  .exact⟨0,ay,e⟩
  .exact⟨1,ay,e⟩
 refine e8 q2 λm hm em=>?_
 have hd:Ev F E μ (.v [.I .R (.I .aw (.y<|.a 2)<|.u 197)<|.I .ag (.I .W (.u 198)<|.y<|.a c1)<|.y<|.a 2,.I .ag (.I .W (.u 198)<|.y<|.a c2)<|.y<|.a 6]) (.v [.a<|2*j+m,.a n]):=by
  refine gv<|.aR (gL (gL eT (aE h1)<|Bu (QM _ eZ eZ)<|ut _ eZ) (gL (gL (aE h2) eT<|mF hc.1 b1) eT<|mS ay ay) ?_)<|.aR (gL (gL (aE h2) eT (mF hc.2 b2)) eT ?_) .aS
  .rw[em];exact lY
  .rw[mS ay ay,e6]
 have hi:Ev F E μ (.I .W (.I .ag (.I .W (.u 198) (.y (.a 24))) (.y (.a 3))) (.y (.a 2))) (.a t):=by
  rw[<-et];exact gL (gL (gL (aE h2) eT (mF ay ay)) eT (mS ay ay)) eT (mF ay ay)
 have:t=0\/t=1:=eZ;obtain rfl|rfl:=this
 .apply kk;exact⟨2*j+m,fq (gR (mP 2 (Nat.le_of_lt_succ hj)) (Nat.le_of_lt_succ hm)) ay,fo hd hi rfl⟩
 .apply kk;exact⟨n,hn,fo hd hi (by rw[GK eZ];rfl)⟩
def Io (hx:∃D,gI μ gN x=some D):∀{l:List V},(∀y∈l,∃D,gI μ gN y=some D)->∃t,nE μ x l=some t:=by
 obtain⟨D,hD⟩:=hx;intro l h;unfold nE;simp only[hD]
 induction l with
 |nil=>exact⟨false,rfl⟩
 |cons y r ih=>
  obtain⟨D',h1⟩:=h y fA;obtain⟨t,ht⟩:=ih λz hz=>h z<|gj _ hz
  exact⟨D'.eqv D||t,by rw[Ak,h1];dsimp only;rw[ht]⟩
def KH (h:i5 r) (μ:H):∃D,gI μ gN (vP r)=some D:=by
 obtain⟨x,k,a,b⟩:=r;obtain⟨h1,_⟩:=h;obtain h1|h1:=h1<;>(dsimp only at h1;subst h1;exact⟨_,rfl⟩)
def KI (h:jY r) (μ:H):∃D,gI μ gN (vE r)=some D:=by
 obtain⟨x,a,b⟩:=r;obtain⟨h1,_⟩:=h;obtain h1|h1:=h1<;>(dsimp only at h1;subst h1;exact⟨_,rfl⟩)
def KJ (r:IR) (μ:H):∃D,gI μ gN (vI r)=some D:=⟨_,rfl⟩
def MA {α:Type} {f:α->V} {μ:H} {l:List α} (h:∀r∈l,∃D,gI μ gN (f r)=some D):∀y∈l.map f,∃D,gI μ gN y=some D:=λy hy=>by
 obtain⟨r,hr,rfl⟩:=fW.mp hy;exact h r hr
def Bv {α:Type} {f:α->V} {r:α} {l:List α} (ho:Ev F E μ ox (.g k)) (hx:Ev F E μ xx (f r)) (hk:d' μ k=some (.j<|l.map f))
  (hr:∃D,gI μ gN (f r)=some D) (hl:∀r∈l,∃D,gI μ gN (f r)=some D) (hb:l.length<1000):
  ∃l',(l'=l\/l'=l++[r])/\execs aj F (.M (.E .ab xx ox) [.H<|.Z ox xx] []::ss) E μ=execs aj F ss E (fc μ k<|.j<|l'.map f):=by
 refine ia λG kk=>?_
 obtain⟨t,ht⟩:=Io hr<|MA hl;have hc:Ev F E μ (.E .ab xx ox) (.O (!t)):=fG hx ho (by show(pA μ _ (.g k)).map _=_;rw[GJ hk,ht];rfl);have hself:∀μ k o,d' μ k=some o->fc μ k o=μ:=by
  intro μ
  induction μ with
  |nil=>intro k o h;cases k<;>cases h
  |cons a r ih=>
   intro k o h;cases k with
   |zero=>cases h;rfl
   |succ k=>show a::fc r k o=a::r;rw[ih k o h]
 cases t with
 |true=>
  apply kk;refine⟨l,.inl rfl,?_⟩;rw[hself _ _ _ hk];exact gn (t:=false) hc rfl rfl
 |false=>
  apply kk;refine⟨l++[r],.inr rfl,?_⟩;refine gn hc rfl ?_;have:ev aj F E (.Z ox xx) μ=some (.B,fc μ k (.j ((l++[r]).map f))):=by
   simp only[zK,ho,hx,wg,hk,kG,fk];rw[show Nat.ble l.length gH=true from t7 (by unfold gH;lia)];simp
  show execs aj F [.H _] E μ=_;rw[gi this];simp only[CJ]
def qS {α:Type} {ok:α->Prop} {l l':List α} {r:α} (h:∀r∈l,ok r) (hr:ok r) (e:l'=l\/l'=l++[r]):(∀r∈l',ok r)/\l'.length<=l.length+1:=by
 rcases e with rfl|rfl
 .exact⟨h,eZ⟩
 .refine⟨λx hx=>?_,fF⟩;rcases fL.mp hx with hx|hx
  .exact h x hx
  .rw[gw.mp hx];exact hr
theorem Ip {α:Type}:∀{L:List α},L.length=3->∃a b c,L=[a,b,c]
 |[a,b,c],_=>⟨a,b,c,rfl⟩
def Pl.ex {q:Pl} (h:q.Ok):∃p0 p1 p2 e0 e1 e2 i0 i1 i2,q=⟨[p0,p1,p2],[e0,e1,e2],[i0,i1,i2]⟩:=
 (Ip h.lp).elim λp0 h1=>h1.elim λp1 h1=>h1.elim λp2 h1=>(Ip h.le).elim λe0 h2=>h2.elim λe1 h2=>h2.elim λe2 h2=>(Ip h.li).elim λi0 h3=>h3.elim λi1 h3=>h3.elim λi2 h3=>⟨p0,p1,p2,e0,e1,e2,i0,i1,i2,by show Pl.mk q.p q.e q.i=_;rw[h1,h2,h3]⟩
theorem L3.get {α:Type} (g:List α->O) (ν:H):∀{L:List (List α)} {j:Nat},j<L.length->d' (L.map g++ν) j=some (g<|L.getD j [])
 |_::_,0,_=>rfl
 |_::r,j+1,h=>L3.get g ν (L:=r)<|sM h
theorem L3.set {α:Type} (g:List α->O) (ν:H) (l':List α):∀{L:List (List α)} {j:Nat},j<L.length->fc (L.map g++ν) j (g l')=(L.set j l').map g++ν
 |_::_,0,_=>rfl
 |l::r,j+1,h=>congrArg (g l::·)<|L3.set g ν l' (L:=r)<|sM h
theorem L3.cM {α:Type} {l':List α}:∀{L:List (List α)} {j:Nat},l'.length<=(L.getD j []).length+1->((L.set j l').map List.length).sum<=(L.map List.length).sum+1/\(L.getD j []).length<=(L.map List.length).sum
 |[],_,_=>⟨ji _,ji _⟩
 |l::r,0,h=>⟨by show l'.length+_<=l.length+_+1;rw[i9];exact oF h _,gV _ _⟩
 |l::r,j+1,h=>⟨ik (L3.cM (L:=r) h).1 l.length,al_81 (L3.cM (L:=r) h).2<|k9 _ _⟩
def L3.ok {α:Type} {ok:α->Prop} {L:List (List α)} {l':List α} {j:Nat} (h:∀l∈L,∀r∈l,ok r) (h':∀r∈l',ok r):∀l∈L.set j l',∀r∈l,ok r:=λl hl=>(List.mem_or_eq_of_mem_set hl).elim (h l) λe=>by rw[e];exact h'
theorem L3.at {α:Type} {ok:α->Prop}:∀{L:List (List α)} {j:Nat},(∀l∈L,∀r∈l,ok r)->∀r∈L.getD j [],ok r
 |[],_,_,_,h=>(jw h).elim
 |_::_,0,h,r,hr=>h _ fA r hr
 |_::_,j+1,h,r,hr=>L3.at (j:=j) (λl hl=>h l<|gj _ hl) r hr
def Pl.dD (h:q.Ok) (hj:j<3):∃l:List PR,d' (hP q) j=some (.j<|l.map vP)/\(∀r∈l,i5 r)/\l.length<=q.bf/\∀l':List PR,(∀r∈l',i5 r)->l'.length<=l.length+1->∃q':Pl,fc (hP q) j (.j<|l'.map vP)=hP q'/\q'.Ok/\q'.bf<=q.bf+1:=
 have hl:j<q.p.length:=h.lp.symm▸hj
 ⟨q.p.getD j [],L3.get (λl=>.j<|l.map vP) _ hl,L3.at h.p,al_81 (L3.cM (l':=[])<|ji _).2<|al_81 (gV _ _)<|gV _ _,λl' ho hl'=>⟨⟨q.p.set j l',q.e,q.i⟩,L3.set (λl=>.j<|l.map vP) _ l' hl,⟨List.length_set.trans h.lp,h.le,h.li,L3.ok h.p ho,h.e,h.i⟩,by
  show _+_+_<=_+_+_+1;rw[i9 _ _ 1,i9 _ _ 1];exact oF (oF (L3.cM hl').1 _) _⟩⟩
def Pl.dF (h:q.Ok) (hj:j<3):∃l:List ER,d' (hP q) (3+j)=some (.j<|l.map vE)/\(∀r∈l,jY r)/\l.length<=q.bf/\∀l':List ER,(∀r∈l',jY r)->l'.length<=l.length+1->∃q':Pl,fc (hP q) (3+j) (.j<|l'.map vE)=hP q'/\q'.Ok/\q'.bf<=q.bf+1:=
 have hl:j<q.e.length:=h.le.symm▸hj;have h3:3+j=(q.p.map λl=>O.j<|l.map vP).length+j:=by rw[fk,h.lp]
 ⟨q.e.getD j [],by rw[h3];exact(jH _ _ j).trans<|L3.get (λl=>.j<|l.map vE) _ hl,L3.at h.e,al_81 (L3.cM (l':=[])<|ji _).2<|al_81 (k9 _ _)<|gV _ _,λl' ho hl'=>⟨⟨q.p,q.e.set j l',q.i⟩,by rw[h3];exact(jb _ _ j _).trans (congrArg (_++·)<|L3.set (λl=>.j<|l.map vE) _ l' hl),⟨h.lp,List.length_set.trans h.le,h.li,h.p,L3.ok h.e ho,h.i⟩,by
  show _+_+_<=_+_+_+1;rw[i9 _ _ 1];exact oF (ik (L3.cM hl').1 _) _⟩⟩
def Pl.dG (h:q.Ok) (hj:j<3):∃l:List IR,d' (hP q) (6+j)=some (.j<|l.map vI)/\(∀r∈l,mJ r)/\l.length<=q.bf/\∀l':List IR,(∀r∈l',mJ r)->l'.length<=l.length+1->∃q':Pl,fc (hP q) (6+j) (.j<|l'.map vI)=hP q'/\q'.Ok/\q'.bf<=q.bf+1:=
 have hl:j<q.i.length:=h.li.symm▸hj;have h3:6+j=(q.p.map λl=>O.j<|l.map vP).length+((q.e.map λl=>O.j<|l.map vE).length+j):=by rw[fk,fk,h.lp,h.le,<-jg]
 ⟨q.i.getD j [],by rw[h3];exact(jH _ _ _).trans<|(jH _ _ j).trans (by have:=L3.get (λl:List IR=>O.j (l.map vI)) [] hl;rw[gk]at this;exact this),L3.at h.i,al_81 (L3.cM (l':=[]) (ji _)).2 (k9 _ _),λl' ho hl'=>⟨⟨q.p,q.e,q.i.set j l'⟩,by rw[h3];exact(jb _ _ _ _).trans (congrArg (_++·) ((jb _ _ j _).trans (congrArg (_++·) (by have:=L3.set (λl:List IR=>O.j (l.map vI)) [] l' hl;rw[gk,gk]at this;exact this)))),⟨h.lp,h.le,List.length_set.trans h.li,h.p,h.e,L3.ok h.i ho⟩,ik (L3.cM hl').1 _⟩⟩
noncomputable abbrev mL:V:=.w [.g 0,.g 1,.g 2]
noncomputable abbrev mM:V:=.w [.g 3,.g 4,.g 5]
noncomputable abbrev kV:V:=.w [.g 6,.g 7,.g 8]
def MB {E:Env} (h:ci E 198=some (.a w)):∃x:Nat,(x=120\/x=121)/\Ev F E μ (.D (.v [.y<|.z [120],.y<|.z [121]])<|.I .ag (.u 198)<|.y<|.a 2) (.z [x]):=by
 obtain e|e:=ur w
 .exact⟨120,.inl rfl,fo (gv<|.aR eT (.aR eT .aS)) (gL (aE h) eT (mS ay ay)) (by rw[e];rfl)⟩
 .exact⟨121,.inr rfl,fo (gv (.aR eT (.aR eT .aS))) (gL (aE h) eT (mS ay ay)) (by rw[e];rfl)⟩
def EE {E:Env} (h:ci E x=some (.a w)) (h1:0<a) (h2:a<1000000000) (h3:0<b) (h4:b<1000000000):Ev F E μ (.I .ag (.I .W (.u x)<|.y<|.a a)<|.y<|.a b) (.a<|Int.fmod (Int.fdiv w a) b):=
 gL (gL (aE h) eT<|mF h1 h2) eT (mS h3 h4)
def nJ {E:Env} {x b j:Nat} (h:ci E x=some (.w [.g b,.g<|b+1,.g<|b+2])) (h2:ci E 197=some (.a j)) (hj:j<3):Ev F E μ (.D (.u x)<|.u 197) (.g<|b+j):=by
 refine fo (aE h) (aE h2) ?_;have:j=0\/j=1\/j=2:=eZ;obtain rfl|rfl|rfl:=this<;>rfl
def uw:jt μ .eq (.a i) (.a j)=some (decide<|i=j):=rfl
def QO {E:Env} (hq:q.Ok) (hs:q.bf<900) (n:Int) (h1:ci E 124=some mL) (h2:ci E 125=some mM) (h3:ci E 123=some kV) {G:Prop}
  (kk:∀E' q',execs aj F wP (eP E 196<|.a n) (hP q)=some (.C,(E',hP q'))->q'.Ok->q'.bf<=q.bf+1->ci E' 124=some mL->ci E' 125=some mM->ci E' 123=some kV->G):G:=by
 obtain⟨j,hj,ej⟩:=QL<|Int.fdiv n 12;let w:=Int.fdiv n 36;let E3:=eP (eP (eP E 196<|.a n) 197<|.a j) 198<|.a w;have s1:Ev F (eP E 196<|.a n) (hP q) (.I .ag (.I .W (.u 196)<|.y<|.a 12)<|.y<|.a 3) (.a j):=by
  rw[<-ej];exact EE (by rfl) ay ay ay ay
 obtain⟨x,hx,s3⟩:=MB (F:=F) (E:=E3) (μ:=hP q) (w:=w) rfl;refine e8 (QN (F:=F) (E:=eP E3 111 (.z [x])) (μ:=hP q) hj w rfl rfl 2 4 ay ay ay) λa ha s4=>e8 (QN (F:=F) (E:=eP (eP E3 111 (.z [x])) 199 (.a a)) (μ:=hP q) hj w rfl rfl 72 72 ay ay ay) λb hb s5=>?_
 let E6:=eP (eP (eP E3 111 (.z [x])) 199 (.a a)) 200 (.a b);have pre:∀{c:Ex} {t:Bool} {aa bb:List St} {v:V} {q'},wP.drop 5=[.M c aa bb]->Ev F E6 (hP q) c (.O t)->execs aj F (cond t aa bb) E6 (hP q)=some (.C,(eP E6 0 v,hP q'))->q'.Ok->q'.bf<=q.bf+1->G:=λ{c t aa bb v q'} e hc hx o z=>
  kk (eP E6 0 v) q' (by
   show execs aj F (.G 197 _::.G 198 _::.G 111 _::.G 199 _::.G 200 _::wP.drop 5) _ _=_;rw[fQ s1,fQ (v:=.a w) (gL (aE (by rfl)) eT (mF ay ay)),fQ s3,fQ s4,fQ s5,e];exact(gn hc rfl hx).trans rfl) o z h1 h2 h3
 have m3:∀k:Int,Ev F E6 (hP q) (.E .eq (.I .ag (.u 196) (.y (.a 3))) (.y (.a k))) (.O (decide (Int.fmod n 3=k))):=λk=>fG (gL (aE (v:=.a n) (by rfl)) eT (mS ay ay)) eT uw
 have m0:=m3 0;have m1:=m3 1;have half:∀k:Int,0<k->k<1000000000->Ev F E6 (hP q) (.I .ag (.I .W (.u 198) (.y (.a k))) (.y (.a 2))) (.a (Int.fmod (Int.fdiv w k) 2)):=λk k1 k2=>EE (by rfl) k1 k2 ay ay
 obtain e|e|e:=EB n
 .rw[fu e]at m0;refine nD (Pl.dD hq hj) λl g1 g2 g3 g4=>?_
  obtain⟨k,hk,ek⟩:∃k:Nat,(k=7\/k=9)/\Ev F E6 (hP q) (.D (.v [.y (.a 7),.y (.a 9)]) (.I .ag (.I .W (.u 198) (.y (.a 8))) (.y (.a 2)))) (.a k):=by
   obtain e|e:=ur (Int.fdiv w 8)
   .exact⟨7,.inl rfl,fo (gv (.aR eT (.aR eT .aS))) (half 8 ay ay) (by rw[e];rfl)⟩
   .exact⟨9,.inr rfl,fo (gv (.aR eT (.aR eT .aS))) (half 8 ay ay) (by rw[e];rfl)⟩
  obtain⟨z,hz,ez⟩:∃z:Int,(-1<=z/\z<6)/\Ev F E6 (hP q) (.au (.I .ag (.I .W (.u 198) (.y (.a 16))) (.y (.a 2))) (.u 200) (.aC (.y (.a 1)))) (.a z):=by
   obtain e|e:=ur (Int.fdiv w 16)
   .exact⟨-1,ay,mZ (t:=false) (half 16 ay ay) (by rw[e];rfl) (EC eT)⟩
   .exact⟨b,eZ,mZ (t:=true) (half 16 ay ay) (by rw[e];rfl) (aE (by rfl))⟩
  have hr:i5 (x,k,a,z):=iI hx hk ha hz;obtain⟨l',hl',ex⟩:=Bv (F:=F) (E:=eP E6 0 (vP (x,k,a,z))) (μ:=hP q) (ox:=.D (.u 124) (.u 197)) (xx:=.u 0) (k:=0+j) (f:=vP) (r:=(x,k,a,z)) (l:=l) (ss:=[])
   (nJ h1 rfl hj) (aE rfl) (by rw[gJ];exact g1) (KH hr _) (λr h=>KH (g2 r h) _) eZ
  obtain⟨q',o1,o2,o3⟩:=g4 l' (qS g2 hr hl').1 (qS g2 hr hl').2;rw[gJ,o1]at ex;exact pre rfl m0 ((fQ (v:=vP (x,k,a,z)) (gv (.aR (aE (by rfl)) (.aR ek (.aR (aE (by rfl)) (.aR ez .aS)))))).trans (ex.trans rfl)) o2 o3
 .rw[fz (by rw[e];decide)]at m0;rw[fu e]at m1;refine nD (Pl.dF hq hj) λl g1 g2 g3 g4=>?_
  have sel:∀(k:Int) (v:Nat) (u:Nat) (hv:v<6),Ev F E6 (hP q) (.u u) (.a v)->∃z:Int,(-1<=z/\z<6)/\Ev F E6 (hP q) (.au (.E .eq (.I .ag (.I .W (.u 198) (.y (.a 8))) (.y (.a 4))) (.y (.a k))) (.aC (.y (.a 1))) (.u u)) (.a z):=λk v u hv hu=>by
   by_cases e:Int.fmod (Int.fdiv w 8) 4=k
   .exact⟨-1,ay,mZ (t:=true) (fG (EE (by rfl) ay ay ay ay) eT uw) (by rw[fu e];rfl) (EC eT)⟩
   .exact⟨v,eZ,mZ (t:=false) (fG (EE (by rfl) ay ay ay ay) eT uw) (by rw[fz e];rfl) hu⟩
  obtain⟨y,hy,ey⟩:=sel 3 a 199 ha (aE rfl);obtain⟨z,hz,ez⟩:=sel 2 b 200 hb (aE rfl);have hr:jY (x,y,z):=⟨hx,hy,hz⟩;obtain⟨l',hl',ex⟩:=Bv (F:=F) (E:=eP E6 0 (vE (x,y,z))) (μ:=hP q) (ox:=.D (.u 125) (.u 197)) (xx:=.u 0) (k:=3+j) (f:=vE) (r:=(x,y,z)) (l:=l) (ss:=[])
   (nJ h2 rfl hj) (aE rfl) g1 (KI hr _) (λr h=>KI (g2 r h) _) eZ
  obtain⟨q',o1,o2,o3⟩:=g4 l' (qS g2 hr hl').1 (qS g2 hr hl').2;rw[o1]at ex;exact pre rfl m0 ((gn (t:=true) (ss:=[]) m1 rfl ((fQ (v:=vE (x,y,z)) (gv (.aR (aE (by rfl)) (.aR ey (.aR ez .aS))))).trans (ex.trans rfl))).trans rfl) o2 o3
 .rw[fz (by rw[e];decide)]at m0;rw[fz (by rw[e];decide)]at m1;obtain⟨l,g1,g2,g3,g4⟩:=Pl.dG hq hj;obtain⟨z,hz,ez⟩:∃z:Nat,z<2/\Ev F E6 (hP q) (.I .ag (.I .W (.u 198) (.y (.a 144))) (.y (.a 2))) (.a z):=by
   have:=half 144 ay ay;obtain e|e:=ur (Int.fdiv w 144)
   .exact⟨0,ay,by rw[e]at this;exact this⟩
   .exact⟨1,ay,by rw[e]at this;exact this⟩
  have hr:mJ (a,z):=⟨ha,hz⟩;obtain⟨l',hl',ex⟩:=Bv (F:=F) (E:=eP E6 0 (vI (a,z))) (μ:=hP q) (ox:=.D (.u 123) (.u 197)) (xx:=.u 0) (k:=6+j) (f:=vI) (r:=(a,z)) (l:=l) (ss:=[])
   (nJ h3 rfl hj) (aE rfl) g1 (KJ _ _) (λr h=>KJ _ _) eZ
  obtain⟨q',o1,o2,o3⟩:=g4 l' (qS g2 hr hl').1 (qS g2 hr hl').2;rw[o1]at ex;exact pre rfl m0 ((gn (t:=false) (ss:=[]) m1 rfl ((fQ (v:=vI (a,z)) (gv (.aR (aE (by rfl)) (.aR ez .aS)))).trans (ex.trans rfl))).trans rfl) o2 o3
def QQ {E:Env} {ns:List Int} (hn:ns.length<=63) (h:ci E 195=some (.w<|ns.map .a)):∃ms:List Int,ms.length<=9/\
  Ev F E μ (.au (.E .gt (.len<|.u 195)<|.y<|.a 1) (.aq (.u 195) (.y<|.a 1)<|.y<|.a 10)<|.w [.y<|.a 0,.y<|.a 4,.y<|.a 8,.y (.a 37),.y (.a 50)]) (.w (ms.map .a)):=by
 have hb:Nat.ble (ns.map V.a).length gH:=t7 (by rw[fk];unfold gH;lia);have hl:Ev F E μ (.len (.u 195)) (.a (ns.map V.a).length):=by
  simp only[Ev,mY,rD,h,hb]
 have hc:∀t,decide _=t->Ev F E μ (.E .gt _ (.y (.a 1))) (.O t):=λt ht=>fG hl eT (by rw[<-ht];rfl)
 by_cases q:1<ns.length
 .refine⟨(ns.take 10).drop 1,by simp;lia,mZ (hc true (fu (by grind))) rfl ?_⟩;show Ev F E μ (.aq _ _ _) _;simp only[Ev,zJ,mY,CG,h,qF,rB,part,hb];simp[List.map_take]
 .refine⟨[0,4,8,37,50],fF,mZ (hc false (fz (by simp;lia))) rfl ?_⟩;rfl
def oM (i:Int):jI (.a i) (.a i):=fu rfl
def GL (x:List Nat):jI (.z x) (.z x):=fu rfl
def lZ {v:V} {l:List V} (a:jI v v) (b:vsames l l):vsames (v::l) (v::l):=by
 show(match jI v v with
   |true=>vsames l l
   |false=>false)=true
 rw[a];exact b
theorem vg (l:List V) (h:∀v∈l,jI v v):vsames l l:=by
 induction l with
 |nil=>rfl
 |cons v r ih=>exact lZ (h v fA)<|ih λu hu=>h u<|gj _ hu
def TT (d:Nat) {ns:List Int} (hn:ns.length<=63):∃q:Pl,q.Ok/\q.bf<=9/\aP aj eU (d+1) 86 [.w<|ns.map .a] []=some (.v [mL,mM,kV],hP q):=by
 refine ia λG kk=>?_
 obtain⟨ms,hm,he⟩:=QQ (E:=[(123,kV),(125,mM),(124,mL),(195,.w _)]) hn rfl;refine e8 (GG (ok:=λs:Sg=>fZ 0 (.w<|ms.map .a) (src (hP ⟨[[],[],[]],[[],[],[]],[[],[],[]]⟩)<|.w<|ms.map .a) s.2) (turn:=λv (s:Sg)=>match fi s.1 true [196] v with
      |none=>none
      |some E'=>execs aj (aP aj eU d) wP E' s.2) (λi s=>∃q:Pl,s.2=hP q/\q.Ok/\q.bf<=i/\ci s.1 124=some mL/\ci s.1 125=some mM/\ci s.1 123=some kV) (ms.map .a)
  ([(123,kV),(125,mM),(124,mL),(195,.w<|ns.map .a)],hP ⟨[[],[],[]],[[],[],[]],[[],[],[]]⟩) ⟨_,Cv rfl ⟨rfl,rfl,rfl,fF,fF,fF⟩ ay rfl rfl rfl⟩ (λZ Z Z=>rfl) (λi v s hv hI=>by
   obtain⟨E,μ⟩:=s;refine ia λG kk=>hI.elim λq h=>?_
   have hi:i<ms.length:=by
    have:=(ke.mp hv).1;rw[fk]at this;exact this
   rw[List.getElem?_map]at hv;obtain⟨n,_,rfl⟩:=Option.map_eq_some_iff.mp hv;have e:μ=hP q:=h.1;subst e;exact QO h.2.1 (fq (al_81 h.2.2.1<|al_81 (iz hi) hm) ay) n h.2.2.2.1 h.2.2.2.2.1 h.2.2.2.2.2 λE' q' t1 t2 t3 t4 t5 t6=>kk ⟨.C,(E',hP q'),t1,.inl rfl,q',rfl,t2,al_81 t3<|lf h.2.2.1,t4,t5,t6⟩)) λs g1 g=>?_
 obtain⟨E',μ'⟩:=s;refine g.elim λq h=>?_
 have e:μ'=hP q:=h.1;subst e;refine kk ⟨q,h.2.1,al_81 h.2.2.1 (by rw[fk];exact hm),fU (E':=E') rfl rfl ?_ (.inl rfl)⟩;show execs aj _ _ _ _=_;exact(gK he eT rfl g1).trans (gP (gv (.aR (aE h.2.2.2.1) (.aR (aE h.2.2.2.2.1) (.aR (aE h.2.2.2.2.2) .aS)))))
structure Hm where
 o19:O
 o62:O
 o72:O
 o130:O
 tx0:List V
 r131:List V
 r134:List V
 names:V
 homes:V
structure Fr where
 a0:O
 a1:O
 a2:O
 a3:O
 a4:O
 a5:O
 a6:O
 a7:O
 a8:O
 b59:O
 b60:O
 b61:O
 b69:O
 b70:O
 b71:O
 b79:O
 b80:O
 b81:O
structure Sl where
 tb:O
 tx:O
 bl:O
 tr:O
 mb:O
 t1:O
noncomputable abbrev le:O:=.j []
noncomputable def m9 (a:Int) (s:List Nat) (b:Int) (r:Nat) (c h:Int):O:=.U 4 [(88,.a a),(111,.z s),(26,.a 1),(112,.a 0),(113,.a b),(115,.g r),(114,.g<|r+1),(116,.g<|r+2),(117,.g<|r+3),(119,.g<|r+4),(120,.g<|r+5),(94,.a c),(121,.a 0),(122,.a (-1)),(123,.g<|r+6),(124,.g<|r+7),(125,.g<|r+8),(126,.a 0),(127,.a h)]
noncomputable def vR (a b:Int) (s:List Nat) (c:Int) (r:Nat):O:=.U 5 [(128,.a a),(129,.a b),(111,.z s),(130,.a 6),(112,.a c),(132,.a 0),(133,.g r),(134,.g<|r+1),(131,.a 0),(114,.v []),(135,.v []),(136,.v []),(137,.B),(138,.a 0)]
noncomputable def jo (h:Int) (s:List Nat):PyData:=.tuple [.int h,.str ⟨⟨s⟩⟩,.int 0]
noncomputable def fE (l:List Int):V:=.v<|l.map .a
noncomputable def wT (l:List Int):O:=.j<|l.map .a
def yP:Hm:=⟨.dict [(jo 0 [79,98,106,101,99,116],.a 1),(jo 0 [69,120,99,101,112,116,105,111,110],.a 7),(jo 1 [65],.a 64),(jo 1 [66],.a 65),(jo 1 [67],.a 66)],m9 65 [66] 12 63 1 0,m9 66 [67] 12 73 1 0,.dict [(.tuple [.str ⟨⟨[65]⟩⟩,.int 0],.a 64),(.tuple [.str ⟨⟨[66]⟩⟩,.int 0],.a 65),(.tuple [.str ⟨⟨[67]⟩⟩,.int 0],.a 66)],[.z [],.z [60,77,111,100,117,108,101,62],.z [99,111,114,101],.z [79,98,106,101,99,116],.z [65],.z [66],.z [67],.z [109],.z [110]],[fE [0,1,0,0,1,1],fE [1,4,0,5,1,1],fE [1,5,0,5,1,3],fE [1,6,0,5,1,5]],[fE [0,0,0,7,1,1],fE [0,0,0,8,2,1],fE [0,0,0,7,1,1],fE [0,0,0,8,2,1],fE [0,0,0,7,1,1],fE [0,0,0,8,2,1]],.w [.z [65],.z [66],.z [67]],fE [0,0,0]⟩
def yQ:Hm:=⟨.dict [(jo 0 [79,98,106,101,99,116],.a 1),(jo 0 [69,120,99,101,112,116,105,111,110],.a 7),(jo 1 [65],.a 64),(jo 1 [78],.a 65),(jo 1 [67],.a 66)],m9 65 [78] 12 63 1 64,m9 66 [67] 12 73 1 0,.dict [(.tuple [.str ⟨⟨[65]⟩⟩,.int 0],.a 64),(.tuple [.str ⟨⟨[67]⟩⟩,.int 0],.a 66)],[.z [],.z [60,77,111,100,117,108,101,62],.z [99,111,114,101],.z [79,98,106,101,99,116],.z [65],.z [78],.z [67],.z [109],.z [110]],[fE [0,1,0,0,1,1],fE [1,4,0,5,1,1],fE [2,5,0,5,1,3],fE [1,6,0,5,1,5]],[fE [0,0,0,7,1,1],fE [0,0,0,8,2,1],fE [0,0,0,7,1,1],fE [0,0,0,8,2,1],fE [0,0,0,7,1,1],fE [0,0,0,8,2,1]],.w [.z [65],.z [78],.z [67]],fE [0,1,0]⟩
def yR:Hm:=⟨.dict [(jo 0 [79,98,106,101,99,116],.a 1),(jo 0 [69,120,99,101,112,116,105,111,110],.a 7),(jo 1 [65],.a 64),(jo 1 [66],.a 65),(jo 1 [78],.a 66)],m9 65 [66] 12 63 1 0,m9 66 [78] 12 73 1 64,.dict [(.tuple [.str ⟨⟨[65]⟩⟩,.int 0],.a 64),(.tuple [.str ⟨⟨[66]⟩⟩,.int 0],.a 65)],[.z [],.z [60,77,111,100,117,108,101,62],.z [99,111,114,101],.z [79,98,106,101,99,116],.z [65],.z [66],.z [78],.z [109],.z [110]],[fE [0,1,0,0,1,1],fE [1,4,0,5,1,1],fE [1,5,0,5,1,3],fE [2,6,0,5,1,5]],[fE [0,0,0,7,1,1],fE [0,0,0,8,2,1],fE [0,0,0,7,1,1],fE [0,0,0,8,2,1],fE [0,0,0,7,1,1],fE [0,0,0,8,2,1]],.w [.z [65],.z [66],.z [78]],fE [0,0,1]⟩
def yS:Hm:=⟨.dict [(jo 0 [79,98,106,101,99,116],.a 1),(jo 0 [69,120,99,101,112,116,105,111,110],.a 7),(jo 1 [65],.a 64),(jo 1 [78],.a 65)],m9 65 [78] 12 63 1 64,m9 66 [78] 12 73 1 64,.dict [(.tuple [.str ⟨⟨[65]⟩⟩,.int 0],.a 64)],[.z [],.z [60,77,111,100,117,108,101,62],.z [99,111,114,101],.z [79,98,106,101,99,116],.z [65],.z [78],.z [109],.z [110]],[fE [0,1,0,0,1,1],fE [1,4,0,5,1,1],fE [2,5,0,5,1,3],fE [2,5,0,5,1,5]],[fE [0,0,0,6,1,1],fE [0,0,0,7,2,1],fE [0,0,0,6,1,1],fE [0,0,0,7,2,1],fE [0,0,0,6,1,1],fE [0,0,0,7,2,1]],.w [.z [65],.z [78],.z [78]],fE [0,1,1]⟩
def yT:Hm:=⟨.dict [(jo 0 [79,98,106,101,99,116],.a 1),(jo 0 [69,120,99,101,112,116,105,111,110],.a 7),(jo 1 [65],.a 64),(jo 1 [66],.a 65),(jo 1 [78],.a 66)],m9 65 [66] 12 63 1 0,m9 66 [78] 12 73 1 65,.dict [(.tuple [.str ⟨⟨[65]⟩⟩,.int 0],.a 64),(.tuple [.str ⟨⟨[66]⟩⟩,.int 0],.a 65)],[.z [],.z [60,77,111,100,117,108,101,62],.z [99,111,114,101],.z [79,98,106,101,99,116],.z [65],.z [66],.z [78],.z [109],.z [110]],[fE [0,1,0,0,1,1],fE [1,4,0,5,1,1],fE [1,5,0,5,1,3],fE [2,6,0,5,1,5]],[fE [0,0,0,7,1,1],fE [0,0,0,8,2,1],fE [0,0,0,7,1,1],fE [0,0,0,8,2,1],fE [0,0,0,7,1,1],fE [0,0,0,8,2,1]],.w [.z [65],.z [66],.z [78]],fE [0,0,2]⟩
def yU:Hm:=⟨.dict [(jo 0 [79,98,106,101,99,116],.a 1),(jo 0 [69,120,99,101,112,116,105,111,110],.a 7),(jo 1 [65],.a 64),(jo 1 [78],.a 65)],m9 65 [78] 12 63 1 64,m9 66 [78] 12 73 1 65,.dict [(.tuple [.str ⟨⟨[65]⟩⟩,.int 0],.a 64)],[.z [],.z [60,77,111,100,117,108,101,62],.z [99,111,114,101],.z [79,98,106,101,99,116],.z [65],.z [78],.z [109],.z [110]],[fE [0,1,0,0,1,1],fE [1,4,0,5,1,1],fE [2,5,0,5,1,3],fE [2,5,0,5,1,5]],[fE [0,0,0,6,1,1],fE [0,0,0,7,2,1],fE [0,0,0,6,1,1],fE [0,0,0,7,2,1],fE [0,0,0,6,1,1],fE [0,0,0,7,2,1]],.w [.z [65],.z [78],.z [78]],fE [0,1,2]⟩
def iq (w:Hm) (F:Fr):H:=[
 F.a0,F.a1,F.a2,F.a3,F.a4,F.a5,F.a6,F.a7,F.a8,.U 6 [(83,.g 10),(139,.g 22),(140,.g 17),(120,.g 18),(141,.g 19),(142,.g 21),(143,.a 0)],.U 0 [(13,.g 11),(63,.g 12),(64,.g 13),(65,.g 14),(66,.g 15)],.j<|(List.range 16).map (λk:Nat=>fE [1,k])++[.v [.a 2,.a 7,.v []]],.dict<|(List.range 16).map (λk:Nat=>(.tuple [.int 1,.int k],.a k))++[(.tuple [.int 2,.int 7,.tuple []],.a 16)],.j<|.replicate 17<|.a 1,.j<|.replicate 17<|.a 1,.j<|.replicate 17<|.a 0,.j [.B],.j [.B],.j (.B::(.g 43)::(.g 47)::(.g 83)::(.g 87)::(.g 91)::(.g 95)::(.g 99)::(.g 103)::[]),w.o19,le,.j [.z [99,111,114,101],.z [97,112,112]],.j (.B::(.g 23)::.replicate 5 .B++(.g 33)::.replicate 56 .B++(.g 52)::(.g 62)::(.g 72)::[]),m9 1 [79,98,106,101,99,116] (-1) 24 0 0,le,le,le,le,le,le,le,le,le,m9 7 [69,120,99,101,112,116,105,111,110] (-1) 34 0 0,le,le,le,le,le,wT [1,2],le,le,le,vR 1 7 [100] 2 44,le,le,le,.U 5 [(128,.a 2),(129,.a 7),(111,.z [100]),(130,.a 6),(112,.a 2),(132,.a 0),(133,.g 48),(134,.g 49),(131,.a 0),(114,fE [7]),(135,.v [.z [112,48]]),(136,fE [0]),(137,.B),(138,.a 0)],le,le,.j [.z [112,48]],.j [.a 64,.a 65,.a 66],m9 64 [65] 12 53 1 0,le,le,le,le,le,wT [3,4],F.b59,F.b60,F.b61,w.o62,le,le,le,le,le,wT [5,6],F.b69,F.b70,F.b71,w.o72,le,le,le,le,le,wT [7,8],F.b79,F.b80,F.b81,wT [3,4,5,6,7,8,0],vR 3 64 [109] 0 84,le,le,le,vR 4 64 [110] 1 88,le,le,le,vR 5 65 [109] 0 92,le,le,le,vR 6 65 [110] 1 96,le,le,le,vR 7 66 [109] 0 100,le,le,le,vR 8 66 [110] 1 104,le,le,le]
def QR (w:Hm) (s:Sl):H:=[
 (.U 3 [(93,.g 9),(94,.a 1),(12,.g 108),(14,.g 110),(95,.g 112),(96,.g 114),(17,.g 116),(97,.g 118),(98,.B),(99,.g 119),(100,.g 120),(101,.g 121),(102,.g 122),(103,.g 123),(104,.g 124),(105,.g 125),(106,.g 126),(107,.g 127),(108,.g 128),(109,.g 129)]),.U 2 [(13,.g 109)],s.tb,.U 1 [(13,.g 111)],s.tx,.U 1 [(13,.g 113)],.j [.z []],.U 1 [(13,.g 115)],.j [.ah],.U 1 [(13,.g 117)],s.bl,.an,.j [.a 64,.a 65,.a 66],.dict [(.int 64,.a 2),(.int 65,.a 3),(.int 66,.a 4)],.dict [],.dict [(.int 3,.a 1),(.int 4,.a 2),(.int 5,.a 3),(.int 6,.a 4),(.int 7,.a 5),(.int 8,.a 6)],.dict [(.int 0,.a 1)],s.tr,.dict [],s.mb,.dict [],.dict [],.dict [],w.o130,.j w.r131,.j [fE [1,0,0,0,0,0,2,0,0]],s.t1,.j w.r134]
def vh (w:Hm):Sl:=⟨.dict [(.int 2,.g 131),(.int 35,.g 132),(.int 1,.g 133),(.int 6,.g 134)],.j w.tx0,.j [.ah,.v [.a 32,.a 0,fE [1],.v []],.v [.a 0,.a 0,fE [1],.v []]],.dict [(.int 1,.a 1)],.dict [],.j [fE [6,3,0]]⟩
theorem yV {F:fb}:∀(l1 l2:List St) (E:Env) (μ:H),execs aj F (l1++l2) E μ=match execs aj F l1 E μ with
  |some (.C,(E',μ'))=>execs aj F l2 E' μ'
  |r=>r
 |[],l2,E,μ=>by simp only[k8,CJ]
 |s::r,l2,E,μ=>by
  simp only[List.cons_append,i7];cases h:exec aj F s E μ with
  |none=>rfl
  |some p=>
   obtain⟨fl,E',μ'⟩:=p;cases fl with
   |C=>exact yV r l2 E' μ'
   |af=>rfl
   |L v=>rfl
def ib (h:execs aj F l1 E μ=some (.C,(E',μ'))):execs aj F (l1++l2) E μ=execs aj F l2 E' μ':=by
 rw[yV,h]
abbrev jZ:fb:=aP aj eU 39
def QS:List St:=mC.body.take 3
def QT:List St:=(mC.body.drop 3).take 7
def EF:St:=match(mC.body.drop 10)with|s::_=>s|[]=>.F
def yW:List St:=(mC.body.drop 11).take 5
def yX:List St:=(mC.body.drop 16).take 1
def GM:List St:=(mC.body.drop 17).take 3
def Bw:List St:=(mC.body.drop 20).take 1
def C6:List St:=(mC.body.drop 21).take 2
def C7:List St:=(mC.body.drop 23).take 8
def C8:List St:=mC.body.drop 31
def Iq:mC.body=QS++(QT++(EF::(yW++(yX++(GM++(Bw++(C6++(C7++C8)))))))):=eV
abbrev qT:V:=.v [mL,mM,kV]
abbrev E0 (v t:V):Env:=[(123,kV),(125,mM),(124,mL),(202,qT),(206,t),(195,v)]
abbrev E1 (v t:V):Env:=(208,.a 16)::(207,.w [.a 1,.a 2])::(93,.g 9)::E0 v t
abbrev E2 (v t:V) (w:Hm):Env:=(8,.a 1)::(8,.a 0)::(197,.a 2)::(8,.a 1)::(8,.a 0)::(197,.a 1)::(8,.a 1)::(8,.a 0)::(197,.a 0)::(210,.g 82)::(99,.g 51)::(141,w.names)::(209,w.homes)::E1 v t
noncomputable def QU:Option (Flow×Sg)->H
 |some (_,(_,μ))=>μ
 |none=>[]
def tI (a0 a1 a2 a3 a4 a5 a6 a7 a8:O):Fr:=⟨a0,a1,a2,a3,a4,a5,a6,a7,a8,le,le,le,le,le,le,le,le,le⟩
def si (a0 a1 a2 a3 a4 a5 a6 a7 a8:O) (v t:V):H:=QU<|execs aj jZ QT (E0 v t) [a0,a1,a2,a3,a4,a5,a6,a7,a8]
section
variable(a0 a1 a2 a3 a4 a5 a6 a7 a8:O) (v t:V)
def Yz:execs aj jZ QT (E0 v t) [a0,a1,a2,a3,a4,a5,a6,a7,a8]=some (.C,(E1 v t,si a0 a1 a2 a3 a4 a5 a6 a7 a8 v t)):=eV
def TU:execs aj jZ yW (eP (E1 v t) 209 yP.homes) (si a0 a1 a2 a3 a4 a5 a6 a7 a8 v t)=some (.C,(E2 v t yP,iq yP<|tI a0 a1 a2 a3 a4 a5 a6 a7 a8)):=eV
def TV:execs aj jZ yW (eP (E1 v t) 209 yQ.homes) (si a0 a1 a2 a3 a4 a5 a6 a7 a8 v t)=some (.C,(E2 v t yQ,iq yQ<|tI a0 a1 a2 a3 a4 a5 a6 a7 a8)):=eV
def TW:execs aj jZ yW (eP (E1 v t) 209 yR.homes) (si a0 a1 a2 a3 a4 a5 a6 a7 a8 v t)=some (.C,(E2 v t yR,iq yR<|tI a0 a1 a2 a3 a4 a5 a6 a7 a8)):=eV
def TX:execs aj jZ yW (eP (E1 v t) 209 yS.homes) (si a0 a1 a2 a3 a4 a5 a6 a7 a8 v t)=some (.C,(E2 v t yS,iq yS<|tI a0 a1 a2 a3 a4 a5 a6 a7 a8)):=eV
def TY:execs aj jZ yW (eP (E1 v t) 209 yT.homes) (si a0 a1 a2 a3 a4 a5 a6 a7 a8 v t)=some (.C,(E2 v t yT,iq yT<|tI a0 a1 a2 a3 a4 a5 a6 a7 a8)):=eV
def TZ:execs aj jZ yW (eP (E1 v t) 209 yU.homes) (si a0 a1 a2 a3 a4 a5 a6 a7 a8 v t)=some (.C,(E2 v t yU,iq yU<|tI a0 a1 a2 a3 a4 a5 a6 a7 a8)):=eV
end
noncomputable def EG:Option (V×H)->H
 |some (_,μ)=>μ
 |none=>[]
def EH (w:Hm) (F:Fr):H:=EG<|jZ 44 [.g 107,.g 9,.a 1]<|iq w F++[.U 3 []]
def Ir (w:Hm) (F:Fr):H:=EG<|jZ 64 [.g 107]<|EH w F
def QV (w:Hm) (F:Fr):H:=EG<|jZ 80 [.g 107]<|Ir w F
def eM:Ex:=match Bw with
 |[.J _ _ _ _ _ [.H e]]=>e
 |_=>.F
def T4 (v:V) (s:Sg):Option (Flow×Sg):=match fi s.1 true [8] v with
      |none=>none
      |some E'=>execs aj jZ [.H eM] E' s.2
noncomputable def okM (_:Sg):Bool:=true
noncomputable def vs6:List V:=[.a 0,.a 1,.a 2,.a 3,.a 4,.a 5]
def pre (w:Hm) (F:Fr) (s:Sl):H:=iq w F++QR w s
def yY (w:Hm) (F:Fr):Prop:=jZ 44 [.g 107,.g 9,.a 1] (iq w F++[.U 3 []])=some (.B,EH w F)/\jZ 64 [.g 107] (EH w F)=some (.B,Ir w F)/\jZ 80 [.g 107] (Ir w F)=some (.B,QV w F)/\
 ∀E,fS okM T4 vs6 (eP E 155<|.g 107,QV w F)=some (.C,(eP (eP (eP (eP (eP (eP (eP E 155<|.g 107) 8<|.a 0) 8<|.a 1) 8<|.a 2) 8<|.a 3) 8<|.a 4) 8<|.a 5,pre w F<|vh w))
def T5 (F:Fr):yY yP F:=iI eV eV eV λZ=>eV
def T6 (F:Fr):yY yQ F:=iI eV eV eV λZ=>eV
def T7 (F:Fr):yY yR F:=iI eV eV eV λZ=>eV
def T8 (F:Fr):yY yS F:=iI eV eV eV λZ=>eV
def T9 (F:Fr):yY yT F:=iI eV eV eV λZ=>eV
def Ua (F:Fr):yY yU F:=iI eV eV eV λZ=>eV
def YA (h:yY w F) (E:Env) (h1:ci E 93=some (.g 9)):∃E',execs aj jZ (GM++Bw) E (iq w F)=some (.C,(E',pre w F<|vh w))/\ci E' 155=some (.g 107)/\∀y,y≠155->y≠8->ci E' y=ci E y:=by
 refine DC h λg1 g2 g3 g4=>?_
 have k1:ev aj jZ E (.new 3 [.u 93,.y<|.a 1]) (iq w F)=some (.g 107,EH w F):=by
  have hl:(iq w F).length=107:=rfl;have c3:hU aj 3=some _:=rfl;simp[zJ,mY,S6,lU,pi,h1,c3,hl,g1]
 refine⟨_,(fQ k1).trans<|(gi<|fn (.aR (aE rfl) .aS) g2).trans<|(gi<|fn (.aR (aE rfl) .aS) g3).trans<|(gK (single:=true) (t:=[8]) (x:=.a 6) eT eT rfl<|g4 E).trans rfl,rfl,λy y1 y2=>?_⟩;have e1:Nat.beq 155 y=false:=pU.mpr λq=>y1 (mW q).symm
 have e2:Nat.beq 8 y=false:=pU.mpr λq=>y2 (mW q).symm
 simp only[jz,e1,e2]
def Zo:aP aj eU (d+1) f vs μ=match ga eU f with
  |none=>none
  |some fd=>match l9 fd.ps vs with
   |none=>none
   |some E=>match execs aj (aP aj eU d) fd.body E μ with
    |some (.L v,(_,μ))=>some (v,μ)
    |some (.C,(_,μ))=>some (.B,μ)
    |_=>none:=rfl
def YB:hU aj 0=some ⟨406,24,[(213,24),(0,25),(89,26)]⟩:=rfl
def nK:hU aj 1=some ⟨539,37,[(213,37),(89,38),(16,39)]⟩:=rfl
def cls2:hU aj 2=some ⟨581,40,[(213,40),(162,41),(16,42),(31,43)]⟩:=rfl
def ii:hU aj 3=some ⟨609,44,[(213,44),(47,45)]⟩:=rfl
def qB:hU aj 4=some ⟨630,46,[(213,46)]⟩:=rfl
def vS:hU aj 5=some ⟨651,47,[(213,47)]⟩:=rfl
def tJ:hU aj 6=some ⟨672,48,[(213,48)]⟩:=rfl
theorem qm:∀(μ:H) (k:Nat) (o o':O),fc (fc μ k o) k o'=fc μ k o'
 |[],_,_,_=>rfl
 |a::r,0,o,o'=>rfl
 |a::r,k+1,o,o'=>by
  show a::fc (fc r k o) k o'=a::fc r k o';rw[qm r k]
def mj:∀(μ:H) (k:Nat) (o:O),d' μ k=some o->fc μ k o=μ:=by
 intro μ
 induction μ with
 |nil=>intro k o h;cases k<;>cases h
 |cons a r ih=>
  intro k o h;cases k with
  |zero=>cases h;rfl
  |succ k=>show a::fc r k o=a::r;rw[ih k o h]
def iW {μ:H} {k:Nat} {o:O} (h:k<μ.length):d' (fc μ k o) k=some o:=by
 rw[tH];rw[Nat.beq_refl];dsimp only
 induction μ generalizing k with
 |nil=>simp at h
 |cons a r ih=>cases k with
  |zero=>rfl
  |succ k=>exact ih (by simpa using h)
def fT (h:k≠j):d' (fc μ k o) j=d' μ j:=by
 rw[tH];rw[show Nat.beq k j=false from pU.mpr λq=>h<|mW q]
theorem nr {α σ:Type} {ok:σ->Bool} {turn:V->σ->Option (Flow×σ)} (f:α->V) (I:List α->σ->Prop) (hok:∀l s,I l s->ok s) {all:List α} (ht:∀d r z s {G:Prop},d++r::z=all->I d s->(∀s',turn (f r) s=some (.C,s')->I (d++[r]) s'->G)->G):∀z d s,d++z=all->I d s->∀{G:Prop},(∀s',fS ok turn (z.map f) s=some (.C,s')->I all s'->G)->G:=by
 intro z
 induction z with
 |nil=>
  intro d s e h G k;rw[gk]at e;subst e;exact k s (hV<|hok _ _ h) h
 |cons r z ih=>
  intro d s e h G k;exact ht d r z s e h λs1 a b=>ih (d++[r]) s1 (by rw[<-e,gA];rfl) b λs2 c g=>k s2 (f5 (hok _ _ h) a c) g
noncomputable def mid (z:Int):Int:=if z<0 then 0 else z+3
def QW (n:Nat):mid (n:Int)=((n+3:Nat):Int):=(ff<|Int.not_lt.2<|Int.natCast_nonneg n).trans rfl
def kW (r:PR):V:=.v [.z [r.1],.a r.2.1,.a<|mid r.2.2.1,.a<|mid r.2.2.2,.v []]
def oN (r:ER):V:=.v [.z [r.1],.a 16,.a<|mid r.2.1,.a<|mid r.2.2]
def nT (r:IR):V:=.v [.a<|mid r.1,.a 16,.a (r.2+1:Nat)]
noncomputable abbrev zY:List V:=[.a 3,.a 4,.a 5,.a 6,.a 7,.a 8,.a 0]
def pK {μ:H} (h:d' μ 82=some (.j zY)) (z:Int) (h1: -1<=z) (h2:z<6):f9 μ (.g 82) (.a z)=some (.a<|mid z):=by
 have:z= -1\/z=0\/z=1\/z=2\/z=3\/z=4\/z=5:=eZ;rcases this with rfl|rfl|rfl|rfl|rfl|rfl|rfl<;>simp only[f9,h]<;>rfl
def GN (z:Nat) (h2:z<2):f9 μ (.w [.a 1,.a 2]) (.a z)=some (.a (z+1:Nat)):=by
 have:z=0\/z=1:=eZ;obtain rfl|rfl:=this<;>rfl
structure Bx (w:Hm) (E:Env):Prop where
 a93:ci E 93=some (.g 9)
 a99:ci E 99=some (.g 51)
 a210:ci E 210=some (.g 82)
 a207:ci E 207=some (.w [.a 1,.a 2])
 a208:ci E 208=some (.a 16)
 a124:ci E 124=some mL
 a125:ci E 125=some mM
 a123:ci E 123=some kV
 a202:ci E 202=some qT
 a209:ci E 209=some w.homes
 a141:ci E 141=some w.names
structure ux (w:Hm) (E:Env) (t:Nat) (z:V):Prop where
 k:Bx w E
 a197:ci E 197=some z
 a151:ci E 151=some (.g t)
def KK:List St:=match yX with
 |[.J _ _ _ _ _ [_,.J _ _ _ _ _ b,_,_]]=>b
 |_=>[]
def EI:List St:=match yX with
 |[.J _ _ _ _ _ [_,_,.J _ _ _ _ _ b,_]]=>b
 |_=>[]
def EJ:List St:=match yX with
 |[.J _ _ _ _ _ [_,_,_,.J _ _ _ _ _ b]]=>b
 |_=>[]
def QX:yX=[.J true [197] 2 (.y<|.a 3) (.y .B) [.G 151<|.D (.attr (.u 93) 139)<|.D (.u 99)<|.u 197,.J false [111,185,199,200] 0 (.D (.u 124)<|.u 197) (.y .B) KK,.J false [111,199,200] 0 (.D (.u 125)<|.u 197) (.y .B) EI,.J false [137,205] 0 (.D (.u 123)<|.u 197) (.y .B) EJ]]:=rfl
section
variable{F:fb} {w:Hm} {E:Env} {μ:H} {t b:Nat} {z:V} {fs:List (Nat×V)} {L:List V}
def nL (ho:Ev F E μ o (.g k)) (hx:Ev F E μ x v) (hk:d' μ k=some (.j l)) (hl:l.length<1000):ev aj F E (.Z o x) μ=some (.B,fc μ k<|.j<|l++[v]):=by
 have hbl:Nat.ble l.length gH:=t7 (by unfold gH;lia);simp[zK,ho,hx,wg,hk,kG,hbl]
def tK:execs aj F [] E μ=some (.C,(E,μ)):=rfl
def Bx.up {y:Nat} {v:V} (h:Bx w E) (hy:y=111\/y=185\/y=199\/y=200\/y=137\/y=205\/y=197\/y=151):Bx w (eP E y v):=by
 rcases hy with rfl|rfl|rfl|rfl|rfl|rfl|rfl|rfl<;>exact⟨h.a93,h.a99,h.a210,h.a207,h.a208,h.a124,h.a125,h.a123,h.a202,h.a209,h.a141⟩
abbrev Mv (F:fb) (w:Hm) (t:Nat) (z:V) (b:Nat) (fs:List (Nat×V)) (xs:List Nat) (body:List St) (v u:V):Prop:=∀{E:Env} {μ:H} {L:List V},ux w E t z->d' μ t=some (.U 4 fs)->d' μ 82=some (.j zY)->d' μ b=some (.j L)->L.length<1000->∃E',(match fi E false xs v with|none=>none|some E'=>execs aj F body E' μ)=some (.C,(E',fc μ b<|.j<|L++[u]))/\ux w E' t z
def Ub (r:PR) (hr:i5 r) (ha:ci fs 124=some (.g b)):Mv F w t z b fs [111,185,199,200] KK (vP r) (kW r):=λ{E μ L} h ht hm hb hl=>
 ⟨eP (eP (eP (eP E 111<|.z [r.1]) 185<|.a r.2.1) 199<|.a r.2.2.1) 200<|.a r.2.2.2,Eq.trans (gi<|nL (fx (aE h.a151) ht ha qB rfl) (gv<|.aR (aE rfl)<|.aR (aE rfl)<|.aR (fo (aE h.k.a210) (aE rfl)<|pK hm (r.2.2.1:Int) (Int.le_trans ay<|Int.natCast_nonneg _)<|Int.ofNat_lt.mpr hr.2.2.1)<|.aR (fo (aE h.k.a210) (aE rfl)<|pK hm r.2.2.2 hr.2.2.2.1 hr.2.2.2.2)<|.aR (gv .aS) .aS) hb hl) tK,(((h.k.up<|.inl rfl).up<|.inr<|.inl rfl).up<|.inr<|.inr<|.inl rfl).up<|.inr<|.inr<|.inr<|.inl rfl,h.a197,h.a151⟩
def Uc (r:ER) (hr:jY r) (ha:ci fs 125=some (.g b)):Mv F w t z b fs [111,199,200] EI (vE r) (oN r):=λ{E μ L} h ht hm hb hl=>
 ⟨eP (eP (eP E 111<|.z [r.1]) 199<|.a r.2.1) 200<|.a r.2.2,Eq.trans (gi<|nL (fx (aE h.a151) ht ha qB rfl) (gv<|.aR (aE rfl)<|.aR (aE h.k.a208)<|.aR (fo (aE h.k.a210) (aE rfl)<|pK hm r.2.1 hr.2.1.1 hr.2.1.2)<|.aR (fo (aE h.k.a210) (aE rfl)<|pK hm r.2.2 hr.2.2.1 hr.2.2.2) .aS) hb hl) tK,((h.k.up<|.inl rfl).up<|.inr<|.inr<|.inl rfl).up<|.inr<|.inr<|.inr<|.inl rfl,h.a197,h.a151⟩
def Ud (r:IR) (hr:mJ r) (ha:ci fs 123=some (.g b)):Mv F w t z b fs [137,205] EJ (vI r) (nT r):=λ{E μ L} h ht hm hb hl=>
 ⟨eP (eP E 137<|.a r.1) 205<|.a r.2,Eq.trans (gi<|nL (fx (aE h.a151) ht ha qB rfl) (gv<|.aR (fo (aE h.k.a210) (aE rfl)<|pK hm (r.1:Int) (Int.le_trans ay<|Int.natCast_nonneg _)<|Int.ofNat_lt.mpr hr.1)<|.aR (aE h.k.a208)<|.aR (fo (aE h.k.a207) (aE rfl)<|GN r.2 hr.2) .aS) hb hl) tK,(h.k.up<|.inr<|.inr<|.inr<|.inr<|.inl rfl).up<|.inr<|.inr<|.inr<|.inr<|.inr<|.inl rfl,h.a197,h.a151⟩
def xP (r:PR):jI (vP r) (vP r):=lZ (GL _)<|lZ (oM _)<|lZ (oM _)<|lZ (oM _) rfl
def xQ (r:ER):jI (vE r) (vE r):=lZ (GL _)<|lZ (oM _)<|lZ (oM _) rfl
def C9 (r:IR):jI (vI r) (vI r):=lZ (oM _)<|lZ (oM _) rfl
def kQ {α:Type} {f:α->V} (h:∀r,jI (f r) (f r)) (l:List α):vsames (l.map f) (l.map f):=vg _ λv hv=>by
 obtain⟨r,_,rfl⟩:=fW.mp hv;exact h r
theorem jc (h:d' μ k=some (.j l)):items μ (.g k)=some l:=by
 show(match d' μ k with|some (.j l)=>some l|_=>none)=_;rw[h]
def kB (h:d' μ k=some (.j l)):src μ (.g k)=l:=by
 show(match d' μ k with|some (.j l)=>l|_=>[])=_;rw[h]
def i4 (h:d' μ k=some (.j l)) (hv:vsames l l):fZ 0 (.g k) l μ:=by
 show(match d' μ k with|some (.j l')=>vsames l' l|_=>false)=true;rw[h];exact hv
def EK {α:Type} {f g:α->V} {rows:List α} (hf:∀r,jI (f r) (f r)) (hE:ux w E t z) (hx:Ev F E μ ea (.g s)) (ht:d' μ t=some (.U 4 fs)) (hb:d' μ b=some (.j [])) (hm:d' μ 82=some (.j zY)) (hs:d' μ s=some (.j<|rows.map f))
  (d:b≠t/\b≠82/\b≠s) (n1:rows.length<100) (hturn:∀r∈rows,Mv F w t z b fs xs body (f r)<|g r) {G:Prop} (kk:∀E',ux w E' t z->(∀{ss},execs aj F (.J false xs 0 ea (.y .B) body::ss) E μ=execs aj F ss E' (fc μ b<|.j<|rows.map g))->G):G:=by
 have rl:=gh hb;refine nr (all:=rows) (ok:=λs':Sg=>fZ 0 (.g s) (src μ<|.g s) s'.2) (turn:=λv (s:Sg)=>match fi s.1 false xs v with
      |none=>none
      |some E'=>execs aj F body E' s.2) f (λd (σ:Sg)=>σ.2=fc μ b (.j<|d.map g)/\ux w σ.1 t z) (λdn σ h=>by
   show fZ 0 _ _ σ.2=true;rw[kB hs,h.1];exact i4 ((fT d.2.2).trans hs) (kQ hf rows)) (λdn r z σ G e hi k=>?_) rows [] (E,μ) rfl ⟨(mj _ _ _ hb).symm,hE⟩ λσ q hi=>?_
 .obtain⟨E1,μ1⟩:=σ;have e1:μ1=_:=hi.1;subst e1;refine(hturn r (e▸fL.mpr (.inr fA)) hi.2 ((fT d.1).trans ht) ((fT d.2.1).trans hm) (iW rl) (by rw[fk];exact fB (fq (by rw[<-e,fj];exact gV _ _) n1) ay)).elim λE' h=>k (E',_) h.1 ⟨?_,h.2⟩
  show fc (fc μ b _) b _=_;rw[qm,hK];rfl
 .obtain⟨E1,μ1⟩:=σ;have e1:μ1=_:=hi.1;subst e1;exact kk E1 hi.2 (gK hx eT (jc hs) q)
def Ue (j:Nat) (hj:j<3) (b1 b2 b3:Nat) (pr:List PR) (er:List ER) (ir:List IR) (hpr:∀r∈pr,i5 r) (her:∀r∈er,jY r) (hir:∀r∈ir,mJ r) (n1:pr.length<100) (n2:er.length<100) (n3:ir.length<100)
  (hE:ux w E t (.a j)) (ht:d' μ t=some (.U 4 fs)) (a1:ci fs 124=some (.g b1)) (a2:ci fs 125=some (.g b2)) (a3:ci fs 123=some (.g b3)) (c1:d' μ b1=some (.j [])) (c2:d' μ b2=some (.j [])) (c3:d' μ b3=some (.j []))
  (hm:d' μ 82=some (.j zY)) (s1:d' μ (0+j)=some (.j<|pr.map vP)) (s2:d' μ (3+j)=some (.j<|er.map vE)) (s3:d' μ (6+j)=some (.j<|ir.map vI)) (d1:(b1≠t/\b1≠82/\b1≠0+j)/\b1≠b2/\b1≠b3/\b1≠3+j/\b1≠6+j) (d2:(b2≠t/\b2≠82/\b2≠3+j)/\b2≠b3/\b2≠6+j) (d3:b3≠t/\b3≠82/\b3≠6+j) {G:Prop}
  (kk:∀E',execs aj F [.J false [111,185,199,200] 0 (.D (.u 124)<|.u 197) (.y .B) KK,.J false [111,199,200] 0 (.D (.u 125)<|.u 197) (.y .B) EI,.J false [137,205] 0 (.D (.u 123)<|.u 197) (.y .B) EJ] E μ
   =some (.C,(E',fc (fc (fc μ b1<|.j<|pr.map kW) b2<|.j<|er.map oN) b3<|.j<|ir.map nT))->Bx w E'->G):G:=
 EK xP hE (nJ hE.k.a124 hE.a197 hj) ht c1 hm s1 d1.1 n1 (λr hr=>Ub r (hpr r hr) a1) λE1 k1 g1=>
 EK xQ k1 (nJ k1.k.a125 k1.a197 hj) ((fT d1.1.1).trans ht) ((fT d1.2.1).trans c2) ((fT d1.1.2.1).trans hm) ((fT d1.2.2.2.1).trans s2) d2.1 n2 (λr hr=>Uc r (her r hr) a2) λE2 k2 g2=>
 EK C9 k2 (nJ k2.k.a123 k2.a197 hj) ((fT d2.1.1).trans<|(fT d1.1.1).trans ht) ((fT d2.2.1).trans<|(fT d1.2.2.1).trans c3) ((fT d2.1.2.1).trans<|(fT d1.1.2.1).trans hm) ((fT d2.2.2).trans<|(fT d1.2.2.2.2).trans s3) d3 n3 (λr hr=>Ud r (hir r hr) a3) λE3 k3 g3=>
 kk E3 (g1.trans<|g2.trans<|g3.trans tK) k3.k
end
def Da (q:Pl):Fr:=match q with
 |⟨[p0,p1,p2],[e0,e1,e2],[i0,i1,i2]⟩=>tI (.j<|p0.map vP) (.j<|p1.map vP) (.j<|p2.map vP) (.j<|e0.map vE) (.j<|e1.map vE) (.j<|e2.map vE) (.j<|i0.map vI) (.j<|i1.map vI)<|.j<|i2.map vI
 |_=>tI le le le le le le le le le
def wU (q:Pl):Fr:=match q with
 |⟨[p0,p1,p2],[e0,e1,e2],[i0,i1,i2]⟩=>⟨.j<|p0.map vP,.j<|p1.map vP,.j<|p2.map vP,.j<|e0.map vE,.j<|e1.map vE,.j<|e2.map vE,.j<|i0.map vI,.j<|i1.map vI,.j<|i2.map vI,
   .j (i0.map nT),.j<|p0.map kW,.j<|e0.map oN,.j<|i1.map nT,.j<|p1.map kW,.j<|e1.map oN,.j<|i2.map nT,.j<|p2.map kW,.j<|e2.map oN⟩
 |_=>tI le le le le le le le le le
def tL (w:Hm):Prop:=(∃fs,w.o62=.U 4 fs/\ci fs 124=some (.g 70)/\ci fs 125=some (.g 71)/\ci fs 123=some (.g 69))/\∃fs,w.o72=.U 4 fs/\ci fs 124=some (.g 80)/\ci fs 125=some (.g 81)/\ci fs 123=some (.g 79)
def KM (w:Hm) (E:Env):Prop:=ci E 93=some (.g 9)/\ci E 124=some mL/\ci E 125=some mM/\ci E 123=some kV/\ci E 202=some qT/\ci E 209=some w.homes/\ci E 141=some w.names
def KN:List St:=[.G 151<|.D (.attr (.u 93) 139)<|.D (.u 99)<|.u 197,.J false [111,185,199,200] 0 (.D (.u 124)<|.u 197) (.y .B) KK,.J false [111,199,200] 0 (.D (.u 125)<|.u 197) (.y .B) EI,.J false [137,205] 0 (.D (.u 123)<|.u 197) (.y .B) EJ]
section
variable{F:fb} {w:Hm} {E:Env} {fs:List (Nat×V)} {G:Prop}
def QY (Q:Fr) (j:Nat) (hj:j<3):f9 (iq w Q) (.g 51) (.a j)=some (.a (64+j:Nat))/\f9 (iq w Q) (.g 22) (.a (64+j:Nat))=some (.g<|52+10*j):=nf (P:=λj=>f9 (iq w Q) (.g 51) (.a j)=some (.a (64+j:Nat))/\f9 (iq w Q) (.g 22) (.a (64+j:Nat))=some (.g<|52+10*j)) ⟨eV,eV⟩ (nf ⟨eV,eV⟩<|nf ⟨eV,eV⟩ Nm) j hj
def EL (Q:Fr) (j:Nat) (hj:j<3) {b1 b2 b3:Nat} (pr:List PR) (er:List ER) (ir:List IR) (hpr:∀r∈pr,i5 r) (her:∀r∈er,jY r) (hir:∀r∈ir,mJ r) (n:pr.length<100/\er.length<100/\ir.length<100)
  (hE:Bx w E) (ht:d' (iq w Q) (52+10*j)=some (.U 4 fs)) (a1:ci fs 124=some (.g b1)) (a2:ci fs 125=some (.g b2)) (a3:ci fs 123=some (.g b3)) (c1:d' (iq w Q) b1=some (.j [])) (c2:d' (iq w Q) b2=some (.j [])) (c3:d' (iq w Q) b3=some (.j []))
  (s1:d' (iq w Q) (0+j)=some (.j<|pr.map vP)) (s2:d' (iq w Q) (3+j)=some (.j<|er.map vE)) (s3:d' (iq w Q) (6+j)=some (.j<|ir.map vI)) (d1:(b1≠52+10*j/\b1≠82/\b1≠0+j)/\b1≠b2/\b1≠b3/\b1≠3+j/\b1≠6+j) (d2:(b2≠52+10*j/\b2≠82/\b2≠3+j)/\b2≠b3/\b2≠6+j) (d3:b3≠52+10*j/\b3≠82/\b3≠6+j)
  (kk:∀E',execs aj F KN (eP E 197<|.a j) (iq w Q)=some (.C,(E',fc (fc (fc (iq w Q) b1<|.j<|pr.map kW) b2<|.j<|er.map oN) b3<|.j<|ir.map nT))->Bx w E'->G):G:=
 Ue j hj b1 b2 b3 pr er ir hpr her hir n.1 n.2.1 n.2.2 (E:=eP (eP E 197<|.a j) 151<|.g<|52+10*j) ⟨(hE.up<|.inr<|.inr<|.inr<|.inr<|.inr<|.inr<|.inl rfl).up<|.inr<|.inr<|.inr (.inr (.inr (.inr (.inr rfl)))),rfl,rfl⟩ ht a1 a2 a3 c1 c2 c3 rfl s1 s2 s3 d1 d2 d3 λE' g k=>kk E' (Eq.trans (fQ (fo (fx (aE (by exact hE.a93)) rfl rfl tJ rfl) (fo (aE (by exact hE.a99)) (aE (by rfl)) (QY Q j hj).1) (QY Q j hj).2)) g) k
noncomputable def It (Q:Fr) (a b c:O):Fr:={Q with b60:=a,b61:=b,b59:=c}
def YC (Q:Fr) (a b c:O):fc (fc (fc (iq w Q) 60 a) 61 b) 59 c=iq w (It Q a b c):=eV
noncomputable def QZ (Q:Fr) (a b c:O):Fr:={Q with b70:=a,b71:=b,b69:=c}
def YD (Q:Fr) (a b c:O):fc (fc (fc (iq w Q) 70 a) 71 b) 69 c=iq w (QZ Q a b c):=eV
noncomputable def YE (Q:Fr) (a b c:O):Fr:={Q with b80:=a,b81:=b,b79:=c}
def YF (Q:Fr) (a b c:O):fc (fc (fc (iq w Q) 80 a) 81 b) 79 c=iq w (YE Q a b c):=eV
end
def YG {F:fb} {w:Hm} (hw:tL w) {q:Pl} (hq:q.Ok) (hs:q.bf<100) (v t:V):
  ∃E',execs aj F yX (E2 v t w) (iq w<|Da q)=some (.C,(E',iq w<|wU q))/\KM w E':=by
 refine ia λG kk=>?_
 obtain⟨p0,p1,p2,e0,e1,e2,i0,i1,i2,rfl⟩:=Pl.ex hq;have hp:=hq.p;have he:=hq.e;have hi:=hq.i;have hs:p0.length+(p1.length+(p2.length+0))+(e0.length+(e1.length+(e2.length+0)))+(i0.length+(i1.length+(i2.length+0)))<100:=hs;refine hw.1.elim λf1 x=>hw.2.elim λf2 y=>EL (Da ⟨[p0,p1,p2],[e0,e1,e2],[i0,i1,i2]⟩) 0 ay p0 e0 i0 (hp _<|.head _) (he _<|.head _) (hi _<|.head _) ⟨lA<|lA<|lA hs,lA<|lB<|lA hs,lA<|lB hs⟩ (E:=E2 v t w) (F:=F) (b1:=60) (b2:=61) (b3:=59) ⟨rfl,rfl,rfl,rfl,rfl,rfl,rfl,rfl,rfl,rfl,rfl⟩ rfl rfl rfl rfl rfl rfl rfl rfl rfl rfl ay ay ay λE3 g3 h3=>?_
 rw[YC]at g3;refine EL (It (Da ⟨[p0,p1,p2],[e0,e1,e2],[i0,i1,i2]⟩) (.j<|p0.map kW) (.j<|e0.map oN)<|.j<|i0.map nT) 1 ay p1 e1 i1 (hp _<|.tail _<|.head _) (he _<|.tail _<|.head _) (hi _<|.tail _<|.head _) ⟨lA<|lB<|lA<|lA hs,lA<|lB<|lB<|lA hs,lA<|lB<|lB hs⟩ h3 (F:=F) (congrArg some x.1) x.2.1 x.2.2.1 x.2.2.2 rfl rfl rfl rfl rfl rfl ay ay ay λE4 g4 h4=>?_
 rw[YD]at g4;refine EL (QZ (It (Da ⟨[p0,p1,p2],[e0,e1,e2],[i0,i1,i2]⟩) (.j<|p0.map kW) (.j<|e0.map oN)<|.j<|i0.map nT) (.j<|p1.map kW) (.j<|e1.map oN)<|.j<|i1.map nT) 2 ay p2 e2 i2 (hp _<|.tail _<|.tail _<|.head _) (he _<|.tail _<|.tail _<|.head _) (hi _<|.tail _<|.tail _<|.head _) ⟨lA<|lB<|lB<|lA<|lA hs,lA<|lB<|lB<|lB<|lA hs,lA<|lB<|lB<|lB hs⟩ h4 (F:=F) (congrArg some y.1) y.2.1 y.2.2.1 y.2.2.2 rfl rfl rfl rfl rfl rfl ay ay ay λE5 g5 h5=>?_
 rw[YF]at g5;refine kk ⟨E5,?_,h5.a93,h5.a124,h5.a125,h5.a123,h5.a202,h5.a209,h5.a141⟩;rw[QX];exact(gK (single:=true) (t:=[197]) (k:=2) (body:=KN) (x:=.a 3) (y:=.B) (l:=[.a 0,.a 1,.a 2]) eT eT rfl<|f5 rfl g3<|f5 rfl g4<|f5 rfl g5<|hV rfl).trans tK
def kR (v:V):Prop:=∃l:List Int,v=.v (l.map .a)
theorem vi:∀l:List Int,vsames (l.map .a) (l.map .a)=true
 |[]=>rfl
 |i::r=>by
  show(match decide (i=i)with|true=>vsames (r.map .a) (r.map .a)|false=>false)=true;rw[fu rfl];exact vi r
def kR.dC (h:kR v):jI v v:=by
 obtain⟨l,rfl⟩:=h;exact vi l
noncomputable abbrev Kd (K:List (Nat×Nat)):List (PyData×V):=K.map λp=>(.int p.1,.g p.2)
noncomputable def kf:List (Nat×Nat)->Nat->Option Nat
 |[],_=>none
 |(t,a)::r,x=>if t=x then some a else kf r x
def qU {a b:Nat}:pZ (.int a) (.int b)=decide (a=b):=by
 show decide ((a:Int)=b)=_;exact decide_eq_decide.mpr Int.ofNat_inj
theorem l8:∀(K:List (Nat×Nat)) (t:Nat),gf (.int t) (Kd K)=(kf K t).map .g
 |[],_=>rfl
 |(x,a)::r,t=>by
  show(match pZ (.int x) (.int t)with|true=>some (V.g a)|false=>gf (.int t)<|Kd r)=_;rw[qU];unfold kf;by_cases h:x=t
  .rw[fu h,fv h];rfl
  .rw[fz h,ff h];exact l8 r t
theorem GO:∀(K:List (Nat×Nat)) (t a:Nat),kf K t=none->jn (.int t) (.g a) (Kd K)=Kd (K++[(t,a)])
 |[],_,_,_=>rfl
 |(x,b)::r,t,a,h=>by
  unfold kf at h;by_cases e:x=t
  .rw[fv e]at h;cases h
  .rw[ff e]at h;show(match pZ (.int x) (.int t)with|true=>_|false=>_)=_;rw[qU,fz e];show(PyData.int x,V.g b)::jn (.int t) (.g a) (Kd r)=_;rw[GO r t a h];rfl
def yZ (K:List (Nat×Nat)):jJ (Kd K):=by cases K<;>rfl
def ml (μ:H) (K:List (Nat×Nat)) (t:Nat):gq μ (.a t) (Kd K)=some (.int t):=by cases K<;>rfl
theorem l4:∀{K:List (Nat×Nat)} {t a:Nat},kf K t=some a->(t,a)∈K
 |(x,b)::r,t,a,h=>by
  unfold kf at h;by_cases e:x=t
  .rw[fv e]at h;cases h;subst e;simp
  .rw[ff e]at h;exact gj _<|l4 h
theorem Db:∀{K:List (Nat×Nat)} {t:Nat},kf K t=none->t∉K.map Prod.fst
 |[],t,_=>fF
 |(x,b)::r,t,h=>by
  unfold kf at h;by_cases e:x=t
  .rw[fv e]at h;cases h
  .rw[ff e]at h;have:=Db h;simp only[hW,gC,not_or];exact⟨λq=>e q.symm,this⟩
theorem By:∀{K:List (Nat×Nat)} {t a:Nat},kf K t=none->∀x,kf (K++[(t,a)]) x=if t=x then some a else kf K x
 |[],t,a,_,x=>rfl
 |(y,b)::r,t,a,h,x=>by
  unfold kf at h;by_cases e:y=t
  .rw[fv e]at h;cases h
  .rw[ff e]at h;show kf ((y,b)::(r++[(t,a)])) x=_;unfold kf;rw[By h x];by_cases q:y=x
   .rw[fv q,ff eZ,fv q]
   .rw[ff q,ff q]
theorem Bz:∀{n:Nat} {l:List Nat},l.Nodup->(∀x∈l,x<n)->l.length<=n
 |0,l,_,h=>by
  cases l with
  |nil=>simp
  |cons a r=>exact(Nat.not_lt_zero _<|h a fA).elim
 |n+1,l,hd,h=>by
  have:=Bz (n:=n) (l:=l.erase n) (hd.erase n) (λx hx=>by
   have h1:=h x<|List.mem_of_mem_erase hx;have h2:x≠n:=λe=>by subst e;exact(List.Nodup.not_mem_erase hd) hx
   exact Nat.lt_of_le_of_ne (Nat.le_of_lt_succ h1) h2)
  have h3:l.length<=(l.erase n).length+1:=by
   rw[List.length_erase];split<;>lia
  exact al_81 h3<|lf this
theorem y7:∀{K:List (Nat×Nat)},(K.map Prod.fst).Nodup->∀p∈K,kf K p.1=some p.2
 |(x,b)::r,hd,p,hp=>by
  simp only[hW,kh]at hd;unfold kf;rcases gC.mp hp with rfl|hp
  .rw[fv rfl]
  .rw[ff λe=>hd.1 (by rw[e];exact o9 hp)];exact y7 hd.2 p hp
theorem Dc:∀{K:List (Nat×Nat)},(K.map Prod.snd).Nodup->∀p∈K,∀q∈K,p.2=q.2->p=q
 |(x,b)::r,hd,p,hp,q,hq,e=>by
  simp only[hW,kh]at hd;rcases gC.mp hp with rfl|hp<;>rcases gC.mp hq with rfl|hq
  .rfl
  .exact absurd (by have:=o9 (f:=Prod.snd) hq;rw[<-e]at this;exact this) hd.1
  .exact absurd (by have:=o9 (f:=Prod.snd) hp;rw[e]at this;exact this) hd.1
  .exact Dc hd.2 p hp q hq e
structure Tb (μ:H) (K:List (Nat×Nat)) (T:Nat->List V):Prop where
 s:d' μ 108=some (.U 2 [(13,.g 109)])
 d:d' μ 109=some (.dict (Kd K))
 l:∀p∈K,d' μ p.2=some (.j (T p.1))
 n:∀t,kf K t=none->T t=[]
 k1:(K.map Prod.fst).Nodup
 k2:(K.map Prod.snd).Nodup
 hi:∀p∈K,131<=p.2
 lo:∀p∈K,p.1<60
 r:∀t,∀v∈T t,kR v
 ne:∀p∈K,T p.1≠[]
def Tb.len (h:Tb μ K T):K.length<=60:=by
 have:=Bz h.k1 (λx hx=>by
  obtain⟨p,hp,rfl⟩:=fW.mp hx;exact h.lo p hp)
 simpa using this
def Tb.at (h:Tb μ K T) (t:Nat):(∃a,kf K t=some a/\d' μ a=some (.j<|T t))\/(kf K t=none/\T t=[]):=by
 cases e:kf K t with
 |some a=>exact .inl ⟨a,rfl,h.l _<|l4 e⟩
 |none=>exact .inr ⟨rfl,h.n t e⟩
def ip {n:Nat} (h:n<1000):Nat.ble n gH:=t7 (by unfold gH;lia)
section
variable{μ:H} {K:List (Nat×Nat)} {T:Nat->List V} {d t:Nat}
def KO:ga eU 43=some nS:=rfl
def Uf:ga eU 42=some oY:=rfl
def KP:ga eU 41=some oW:=rfl
def Q0:ga eU 6=some yj:=rfl
section
variable{F:fb} {E:Env} {v u:V} {o k z:Ex} {q i:Nat} {l:List (PyData×V)} {l':List V} {e:PyData}
def wV (ho:Ev F E μ o (.g q)) (hg:d' μ q=some (.dict l)) (hk:Ev F E μ k v) (hz:Ev F E μ z u) (h:gq μ v l=some e):Ev F E μ (.av o k z) ((gf e l).getD u):=by
 simp only[Ev]at ho hk hz⊢;simp only[FG,ho,sS,hg,hk,hz,h]
def BA (h:Ev F E μ z (.g q)) (hk:d' μ q=some (.j l')) (hl:l'.length<1000):Ev F E μ (.len z) (.a l'.length):=by
 simp only[Ev]at h⊢;simp only[rD,h,hk,ip hl]
def Q1 (h:Ev F E μ z (.w l')) (hl:l'.length<1000):Ev F E μ (.len z) (.a l'.length):=by
 simp only[Ev]at h⊢;simp only[rD,h,ip hl]
def mG {a b:Ex} {t:Bool} (h1:Ev F E μ a (.O false)) (h2:Ev F E μ b (.O t)):Ev F E μ (.Y false [a,b]) (.O t):=by
 simp only[Ev]at h1 h2⊢;simp only[zO,FH,nV,h1,h2,ix];rfl
def zZ:Ev F E μ (.w []) (.w []):=rfl
def Q2 {i:Int} (ho:Ev F E μ o (.g q)) (hg:d' μ q=some (.dict l)) (hk:Ev F E μ k (.a i)) (hI:jJ l) (hf:gf (.int i) l=some v):Ev F E μ (.aF o k) v:=by
 simp only[Ev]at ho hk⊢;simp only[Kh,ho,sS,hg,hk,hI,hf]
def MC {i:Int} (ho:Ev F E μ o (.g q)) (hg:d' μ q=some (.dict l)) (hk:Ev F E μ k (.a i)) (hI:jJ l) (hf:gf (.int i) l=none) (hb:Nat.ble l.length gH):ev aj F E (.aF o k) μ=some (.g μ.length,fc μ q (.dict<|jn (.int i) (.g μ.length) l)++[.j []]):=by
 simp only[Ev]at ho hk;simp only[Kh,ho,sS,hg,hk,hI,hf,hb]
def Dd {μ1:H} (ho:ev aj F E o μ=some (.g q,μ1)) (hL:d' μ1 q=some (.j l')) (hx:Ev F E μ1 z v) (hl:l'.length<1000):ev aj F E (.Z o z) μ=some (.B,fc μ1 q<|.j<|l'++[v]):=by
 simp only[Ev]at hx;simp only[zK,ho,wg,hL,hx,kG,ip hl]
end
def pL (h:Tb μ K T):Ev F ((62,.g 108)::E) μ (.attr (.u 62) 13) (.g 109):=fx (aE rfl) h.s rfl cls2 rfl
def qV (h:Tb μ K T) (hl:(T t).length<1000):aP aj eU (d+1) 43 [.g 108,.a t] μ=some (.a (T t).length,μ):=by
 obtain⟨a,e,ha⟩|⟨e,ha⟩:=h.at t
 .have q:=wV (F:=aP aj eU d) (z:=.w []) (pL h (E:=[(3,.a t)])) h.d (aE (x:=3) rfl) zZ<|ml ..;rw[l8,e]at q;exact fU KO rfl (gP<|BA q ha hl)<|.inl rfl
 .have q:=wV (F:=aP aj eU d) (z:=.w []) (pL h (E:=[(3,.a t)])) h.d (aE (x:=3) rfl) zZ<|ml ..;rw[l8,e]at q;rw[ha];exact fU KO rfl (gP<|Q1 q ay)<|.inl rfl
theorem uA:∀{l:List V} {n:Nat} {v:V},fK l n=some v->n<l.length
 |a::r,0,v,_=>fF
 |a::r,n+1,v,h=>by have:=uA (l:=r) h;simp;omega
def Ug (h:Tb μ K T) (hl:(T t).length<1000) (hv:fK (T t) n=some v):aP aj eU (d+2) 42 [.g 108,.a t,.a (n+1:Nat)] μ=some (v,μ):=by
 have hn:=uA hv;obtain⟨a,e,ha⟩|⟨e,ha⟩:=h.at t
 .have e1:decide (((n+1:Nat):Int)<1)=false:=fz eZ;have e2:decide (((T t).length:Int)<((n+1:Nat):Int))=false:=fz eZ;have e3:((n+1:Nat):Int)-1=(n:Int):=eZ;have e4:f9 μ (.g a) (.a (n:Int))=some v:=by rw[jO ha eZ,hv]
  have e5:f9 μ (.g 109) (.a t)=some (.g a):=by rw[wR h.d<|ml ..,l8,e];rfl
  refine fU Uf rfl ((gn (t:=false) (mG (t:=false) (fG (aE (v:=.a (n+1:Nat)) rfl) eT ?_) (fG (aE (v:=.a (n+1:Nat)) rfl) (oL (aE rfl) h.s rfl cls2 rfl (.aR (aE rfl) .aS) (qV h hl)) ?_)) rfl rfl).trans (gP (fo (fo (pL h) (aE rfl) e5) (gL (aE (v:=.a (n+1:Nat)) rfl) eT (congrArg (λi=>some (V.a i)) e3)) e4))) (.inl rfl)
  .exact congrArg some e1
  .exact congrArg some e2
 .rw[ha]at hn;exact absurd hn (Nat.not_lt_zero _)
noncomputable def mo (T:Nat->List V) (t:Nat) (l:List V):Nat->List V:=λx=>if x=t then l else T x
def fh (h:d' μ k=some o):d' (μ++ν) k=some o:=(iZ _ _ _<|gh h).trans h
structure Kp (K K':List (Nat×Nat)) (μ μ':H):Prop where
 len:μ.length<=μ'.length
 keep:∀k,k<μ.length->k≠109->(∀p∈K,p.2≠k)->d' μ' k=d' μ k
 new:∀p∈K',p∈K\/μ.length<=p.2
def xR {l:List V}:mo T t l t=l:=fv rfl
def tM {l:List V} {x:Nat} (q:x≠t):mo T t l x=T x:=ff q
def MD (h:Tb μ K T) (hv:kR v) (x:Nat) (u) (hu:u∈mo T t (T t++[v]) x):kR u:=by
 by_cases q:x=t
 .subst q;rw[xR]at hu;exact(fL.mp hu).elim (h.r x u) λhu=>gw.mp hu▸hv
 .rw[tM q]at hu;exact h.r x u hu
def Uh (h:Tb μ K T) (p) (hp:p∈K):mo T t (T t++[v]) p.1≠[]:=by
 by_cases q:p.1=t
 .subst q;rw[xR];simp
 .rw[tM q];exact h.ne p hp
def GP (h:Tb μ K T) (e:kf K t=some a) {p} (hp:p∈K):p.1=t↔p.2=a:=
 ⟨λq=>by have:=y7 h.k1 p hp;rw[q,e]at this;exact(Option.some.inj this).symm,λq=>by rw[Dc h.k2 p hp _ (l4 e) q]⟩
def YH (h:Tb μ K T) (e:kf K t=some a) (ha:d' μ a=some (.j<|T t)) (hv:kR v):Tb (fc μ a<|.j<|T t++[v]) K (mo T t<|T t++[v]):=
 have hi:131<=a:=h.hi _ (l4 e)
 ⟨(fT (jq<|fB ay hi).symm).trans h.s,(fT (jq<|fB ay hi).symm).trans h.d,λp hp=>by
  by_cases q:p.1=t
  .rw[q,xR,(GP h e hp).mp q];exact iW<|gh ha
  .rw[tM q];exact(fT λq'=>q<|(GP h e hp).mpr q'.symm).trans<|h.l p hp,λx hx=>by
  by_cases q:x=t
  .rw[q,e]at hx;exact nomatch hx
  .rw[tM q];exact h.n x hx,h.k1,h.k2,h.hi,h.lo,MD h hv,Uh h⟩
def GQ {α:Type} {f:Nat×Nat->α} {p} (h:(K.map f).Nodup) (hn:∀q∈K,f q≠f p):((K++[p]).map f).Nodup:=by
 rw[hK];refine List.nodup_append.mpr ⟨h,fF,λx hx y hy=>?_⟩;obtain⟨q,hq,rfl⟩:=fW.mp hx;have:y=f p:=by simpa using hy
 exact this▸hn q hq
def Iu (h:Tb μ K T) {x} (k:Nat) (h1:k<μ.length) (h2:k≠109):d' (fc (fc μ 109 x++[.j []]) μ.length<|.j [v]) k=d' μ k:=by
 rw[fT (jq h1).symm,iZ _ _ _ (by rw[ig];exact h1),fT (Ne.symm h2)]
def YI (h:Tb μ K T) (e:kf K t=none) (ht:t<60) (hv:kR v) (h109:131<=μ.length) (n2:d' (fc (fc μ 109 (.dict<|Kd<|K++[(t,μ.length)])++[.j []]) μ.length<|.j [v]) μ.length=some (.j [v])):
  Tb (fc (fc μ 109 (.dict<|Kd<|K++[(t,μ.length)])++[.j []]) μ.length<|.j [v]) (K++[(t,μ.length)]) (mo T t [v]):=by
 have bl:∀p∈K,p.2<μ.length:=λp hp=>gh<|h.l p hp
 have kt:∀p∈K,p.1≠t:=λp hp q=>Db e<|q▸o9 (f:=Prod.fst) hp
 refine⟨(Iu h 108 (fB ay h109) ay).trans h.s,?_,λp hp=>?_,λx hx=>?_,GQ h.k1 kt,GQ h.k2 λp hp=>jq<|bl p hp,λp hp=>?_,λp hp=>?_,λx u hu=>?_,λp hp=>?_⟩
 .rw[fT (jq<|fB ay h109).symm];exact fh<|iW<|gh h.d
 .obtain hp|hp:=fL.mp hp
  .rw[Iu h p.2 (bl p hp) (jq<|fB ay<|h.hi p hp).symm,tM<|kt p hp];exact h.l p hp
  .rw[gw.mp hp,xR];exact n2
 .rw[By e]at hx;by_cases q:t=x
  .rw[fv q]at hx;exact nomatch hx
  .rw[ff q]at hx;rw[tM<|Ne.symm q];exact h.n x hx
 .exact(fL.mp hp).elim (h.hi p) λhp=>gw.mp hp▸h109
 .exact(fL.mp hp).elim (h.lo p) λhp=>gw.mp hp▸ht
 .by_cases q:x=t
  .rw[q,xR]at hu;exact gw.mp hu▸hv
  .rw[tM q]at hu;exact h.r x u hu
 .obtain hp|hp:=fL.mp hp
  .rw[tM<|kt p hp];exact h.ne p hp
  .rw[gw.mp hp,xR];exact nofun
def Ui (h:Tb μ K T) (hl:(T t).length<900) (ht:t<60) (hv:kR v) (h109:131<=μ.length):
  ∃μ' K',aP aj eU (d+1) 41 [.g 108,.a t,v] μ=some (.a ((T t).length+1:Nat),μ')/\Tb μ' K' (mo T t<|T t++[v])/\Kp K K' μ μ':=by
 have hl':(T t).length<1000:=fB hl ay;have ln:(T t++[v]).length=(T t).length+1:=fF;obtain⟨a,e,ha⟩|⟨e,ha⟩:=h.at t
 .have T1:=YH h e ha hv;refine⟨_,K,?_,T1,⟨la (ig _ _ _).symm,λk Z Z h3=>fT<|h3 _<|l4 e,λp hp=>.inl hp⟩⟩;rw[<-ln];exact fU KP rfl (Eq.trans (gi<|Dd (Q2 (pL h) h.d (aE (x:=3) rfl) (yZ _) (by rw[l8,e];rfl)) ha (aE rfl) hl') (gP (BA (fo (pL T1) (aE (x:=3) rfl) (by rw[wR T1.d (ml ..),l8,e];rfl)) (iW (gh ha)) (by rw[ln];exact fq hl ay)))) (.inl rfl)
 .have n1:d' (fc μ 109 (.dict (Kd (K++[(t,μ.length)])))++[.j []]) μ.length=some (.j []):=by
   have:=hO (fc μ 109 (.dict (Kd (K++[(t,μ.length)])))) (.j []);rwa[ig]at this
  have n2:=iW (o:=.j [v]) (gh n1);have T1:=YI h e ht hv h109 n2;rw[ha];refine⟨_,_,?_,T1,⟨?_,λk h1 h2 Z=>Iu h k h1 h2,λp hp=>?_⟩⟩
  .have q:=MC (F:=aP aj eU d) (pL h (E:=[(3,.a t),(0,v)])) h.d (aE (x:=3) rfl) (yZ _) (by rw[l8,e];rfl) (ip (by have:=h.len;simp;lia));rw[GO K t _ e]at q;have q2:ev aj (aP aj eU d) [(62,.g 108),(3,.a t),(0,v)] (.Z (.aF (.attr (.u 62) 13) (.u 3)) (.u 0)) μ=some (.B,fc (fc μ 109 (.dict (Kd (K++[(t,μ.length)])))++[.j []]) μ.length (.j [v])):=Dd q n1 (aE rfl) ay;exact fU KP rfl (Eq.trans (gi q2) (gP (BA (fo (pL T1) (aE (x:=3) rfl) (by rw[wR T1.d (ml ..),l8,By e,fv rfl];rfl)) n2 (show 1<1000 by decide)))) (.inl rfl)
  .rw[ig,fj,ig];exact gV _ _
  .exact(fL.mp hp).imp id λhp=>by rw[gw.mp hp];exact fX _
def nM (h:Tb μ K T):∃x,aP aj eU (d+1) 6 [.g 108,.a t] μ=some (x,μ)/\im μ 1 x .B=some (jV 0<|T t)/\im μ 0 x .B=some (T t)/\src μ x=src μ x/\
  ((x=.w []/\T t=[])\/∃a,kf K t=some a/\x=.g a):=by
 refine ia λG kk=>?_
 obtain⟨a,e,ha⟩|⟨e,ha⟩:=h.at t
 .apply kk;refine⟨.g a,jj ?_ ?_ ?_ rfl<|.inr ⟨a,e,rfl⟩⟩
  .have q:=wV (F:=aP aj eU d) (z:=.w []) (fx (x:=13) (aE (x:=12) (E:=[(12,.g 108),(3,.a t)]) rfl) h.s rfl cls2 rfl) h.d (aE (x:=3) rfl) zZ<|ml ..;rw[l8,e]at q;exact fU Q0 rfl (gP q)<|.inl rfl
  .exact congrArg (Option.map _) (jc ha)
  .exact jc ha
 .apply kk;refine⟨.w [],jj ?_ ?_ ?_ rfl<|.inl ⟨rfl,ha⟩⟩
  .have q:=wV (F:=aP aj eU d) (z:=.w []) (fx (x:=13) (aE (x:=12) (E:=[(12,.g 108),(3,.a t)]) rfl) h.s rfl cls2 rfl) h.d (aE (x:=3) rfl) zZ<|ml ..;rw[l8,e]at q;exact fU Q0 rfl (gP q)<|.inl rfl
  .rw[ha];rfl
  .rw[ha];rfl
def mH (h:Tb μ K T) (hx:(x=.w []/\T t=[])\/∃a,kf K t=some a/\x=.g a) (h':∀a,kf K t=some a->d' μ' a=d' μ a) (hk:k=0\/k=1):fZ k x (src μ x) μ':=by
 obtain⟨rfl,_⟩|⟨a,e,rfl⟩:=hx
 .obtain rfl|rfl:=hk<;>rfl
 .have ha:=h.l _<|l4 e;have ha':=(h' a e).trans ha;have vs:=vg _ λv hv=>(h.r t v hv).dC
  obtain rfl|rfl:=hk<;>simp[fZ,src,ha,ha',vs]
end
section
variable{μ:H} {d s r:Nat} {L:List V} {w:V}
def KR:ga eU 38=some qb:=rfl
def Uj:ga eU 39=some qc:=rfl
theorem y8:∀{l:List V} {n:Nat},n<l.length->∃v∈l,fK l n=some v
 |a::r,0,_=>⟨a,fA,rfl⟩
 |a::r,n+1,h=>by
  exact e8 (y8 (l:=r) (n:=n) (by simpa using h)) λv h1 h2=>⟨v,gj _ h1,h2⟩
theorem vT:∀(l:List V) (v:V),fK (l++[v]) l.length=some v
 |[],v=>rfl
 |a::r,v=>vT r v
theorem ju:∀{l:List V} {n:Nat} {v:V} (z:List V),fK l n=some v->fK (l++z) n=some v
 |a::r,0,v,z,h=>h
 |a::r,n+1,v,z,h=>ju (l:=r) z h
def pn (F:fb) (v:V) (s:Sg):Option (Flow×Sg):=match fi s.1 true [10] v with
 |none=>none
 |some E'=>execs aj F [.M (.E .eq (.D (.attr (.u 62) 13)<|.u 10)<|.u 92) [.L<|.u 10] []] E' s.2
def fa:execs aj F [] E μ=some (.C,(E,μ)):=rfl
def wW (h:ev aj F E a μ=some (x,μ1)) (h':ev aj F E b μ1=some (y,μ')) (hl:im μ' k x y=some l)
  (h2:fS (λs:Sg=>fZ k x (src μ' x) s.2) (λv (s:Sg)=>match fi s.1 single t v with
      |none=>none
      |some E'=>execs aj F body E' s.2) l (E,μ')=some (.L u,(E',μ''))):execs aj F (.J single t k a b body::ss) E μ=some (.L u,(E',μ'')):=by
 simp[i7,CH,h,h',hl];generalize hg:fS _ _ l _=r;have:=hg.symm.trans h2;subst this;rfl
theorem BB (ok:Sg->Bool) (hok:∀s,ok s) {F:fb} (h1:d' μ s=some (.U 1 [(13,.g r)])) (h2:d' μ r=some (.j L)) (hc:∀v∈L,∃t,sQ μ v w=some t/\(t->v=w)) (hl:L.length<1000):
  ∀(m k:Nat) (E:Env),k+m=L.length->ci E 62=some (.g s)->ci E 92=some w->∃E',(∃i:Nat,fK L i=some w/\fS ok (pn F) (gZ k m) (E,μ)=some (.L<|.a i,(E',μ)))\/(fS ok (pn F) (gZ k m) (E,μ)=some (.C,(E',μ))/\ci E' 62=some (.g s)/\ci E' 92=some w)
 |0,k,E,e,a,b=>⟨E,.inr ⟨hV<|hok _,a,b⟩⟩
 |m+1,k,E,e,a,b=>by
  refine e8 (y8 (l:=L) (n:=k) eZ) λv hv hg=>e8 (hc v hv) λt ht hw=>?_
  have a':ci (eP E 10<|.a k) 62=some (.g s):=a;have b':ci (eP E 10<|.a k) 92=some w:=b;have c':ci (eP E 10<|.a k) 10=some (.a k):=rfl;have q:Ev F (eP E 10<|.a k) μ (.E .eq (.D (.attr (.u 62) 13)<|.u 10)<|.u 92) (.O t):=fG (fo (fx (aE a') h1 rfl nK rfl) (aE c')<|(jO h2 eZ).trans hg) (aE b') ht;show ∃E',(∃i:Nat,fK L i=some w/\fS ok (pn F) (.a k::gZ (k+1) m) (E,μ)=_)\/(fS ok (pn F) (.a k::gZ (k+1) m) (E,μ)=_/\_);rw[EA,hok];cases t with
  |true=>
   refine⟨eP E 10<|.a k,.inl ⟨k,by simp only[hg,hw rfl],?_⟩⟩;have:pn F (.a k) (E,μ)=some (.L<|.a k,(eP E 10<|.a k,μ)):=sd q rfl<|gP<|aE c';rw[this]
  |false=>
   have:pn F (.a k) (E,μ)=some (.C,(eP E 10<|.a k,μ)):=(gn q rfl fa).trans fa;rw[this];have ih:=BB ok hok (F:=F) h1 h2 hc hl m (k+1) (eP E 10<|.a k) eZ a' b';rw[show(((k+1:Nat)):Int)=(k:Int)+1 by lia]at ih;exact ih
def GR (n:Int):im μ 2 (.a n) .B=match iX n&&Nat.ble n.toNat gH with|true=>some (gZ 0 n.toNat)|false=>none:=rfl
def GS (m n:Int):im μ 3 (.a m) (.a n)=match iX m&&iX n&&Nat.ble (n-m).toNat gH with|true=>some (gZ m (n-m).toNat)|false=>none:=rfl
def vU (h: -1000000<=i) (h':i<=1000000):iX i:=by unfold iX;rw[fu eZ,fu eZ];rfl
def GT {n:Nat} (h:n<1000):im μ 2 (.a n) .B=some (gZ 0 n):=by
 have b3:iX (n:Int):=vU eZ eZ;have b1:=ip h;rw[GR,b3,Int.toNat_natCast,b1];rfl
def KS {m n:Nat} (h:n<1000) (hm:m<=n):im μ 3 (.a m) (.a n)=some (gZ m<|n-m):=by
 have b3:iX (n:Int):=vU eZ eZ;have b4:iX (m:Int):=vU eZ eZ;have b1:Nat.ble (n-m) gH:=ip<|fq (Nat.sub_le _ _) h;rw[GS,b3,b4,show((n:Int)-(m:Int)).toNat=n-m from Int.toNat_sub n m,b1];rfl
def qn (h:Ev F E μ e (.g k)) (hk:d' μ k=some (.j l)) (hl:l.length<1000):Ev F E μ (.len e) (.a l.length):=by
 simp[Ev]at h⊢;simp[rD,h,hk,ip hl]
def GU (h1:d' μ s=some (.U 1 [(13,.g r)])) (h2:d' μ r=some (.j L)) (hc:∀v∈L,∃t,sQ μ v w=some t/\(t->v=w)) (hl:L.length<900) (hsr:s≠r):
  ∃(i:Nat) (L':List V),aP aj eU (d+1) 38 [.g s,w] μ=some (.a i,fc μ r<|.j L')/\(L'=L\/L'=L++[w])/\fK L' i=some w:=by
 obtain⟨E',h|⟨g,k1,k2⟩⟩:=BB (λs:Sg=>fZ 2 (.a L.length) _ s.2) (λZ=>rfl) h1 h2 hc (nA ‹_› ay) L.length 0 [(62,.g s),(92,w)] eZ rfl rfl
 .refine e8 h λi hi g=>⟨i,L,?_,.inl rfl,hi⟩
  rw[mj _ _ _ h2];refine fU (E':=E') KR rfl ?_<|.inl rfl;exact wW (qn (fx (aE rfl) h1 rfl nK rfl) h2<|nA ‹_› ay) eT (GT<|nA ‹_› ay) g
 .refine⟨L.length,L++[w],?_,.inr rfl,vT L w⟩;have e6:=iW (o:=.j<|L++[w])<|gh h2;have e7:=(fT (o:=.j<|L++[w]) hsr.symm).trans h1;have ln:(L++[w]).length=L.length+1:=fF;refine fU (E':=E') KR rfl ?_<|.inl rfl;refine(gK (single:=true) (t:=[10]) (qn (fx (aE rfl) h1 rfl nK rfl) h2<|nA ‹_› ay) eT (GT<|nA ‹_› ay) g).trans ?_;rw[gi<|nL (fx (aE k1) h1 rfl nK rfl) (aE k2) h2<|nA ‹_› ay];refine gP<|gL (qn (fx (aE k1) e7 rfl nK rfl) e6 eZ) eT ?_;rw[GI,show _-1=(L.length:Int)by lia]
def GV (h1:d' μ s=some (.U 1 [(13,.g r)])) (h2:d' μ r=some (.j L)) (hl:L.length<900) (hi:fK L i=some w):aP aj eU (d+1) 39 [.g s,.a i] μ=some (w,μ):=by
 have b1:Nat.ble L.length gH:=ip<|nA ‹_› ay;have hn:=uA hi;have e1:decide ((i:Int)<0)=false:=fz eZ;have e2:decide ((L.length:Int)<=(i:Int))=false:=fz eZ;have e3:=(jO h2 eZ).trans hi;refine fU Uj rfl ((gn (t:=false) (mG (t:=false) (fG (t:=false) (aE (v:=.a i) rfl) eT ?_) (fG (t:=false) (aE (v:=.a i) rfl) (qn (fx (aE rfl) h1 rfl nK rfl) h2 eZ) ?_)) rfl rfl).trans (gP (fo (fx (aE rfl) h1 rfl nK rfl) (aE (v:=.a i) rfl) e3))) (.inl rfl)
 .exact congrArg some e1
 .exact congrArg some e2
end
section
variable{μ:H} {d:Nat}
def GW:∀n:Nat,n<=12->aP aj eU (d+2) 1 [.a 3,.a 20,.a n] μ=some (.a (2*n+0:Nat),μ)
 |0,_=>eV
 |1,_=>eV
 |2,_=>eV
 |3,_=>eV
 |4,_=>eV
 |5,_=>eV
 |6,_=>eV
 |7,_=>eV
 |8,_=>eV
 |9,_=>eV
 |10,_=>eV
 |11,_=>eV
 |12,_=>eV
 |n+13,h=>eZ
def Q3:∀n:Nat,n<=12->aP aj eU (d+1) 2 [.a 3,.a (2*n+0:Nat)] μ=some (.v [.a 20,.a n],μ)
 |0,_=>eV
 |1,_=>eV
 |2,_=>eV
 |3,_=>eV
 |4,_=>eV
 |5,_=>eV
 |6,_=>eV
 |7,_=>eV
 |8,_=>eV
 |9,_=>eV
 |10,_=>eV
 |11,_=>eV
 |12,_=>eV
 |n+13,h=>eZ
def Q4:∀n:Nat,n<=12->aP aj eU (d+2) 11 [.a 515,.a (2*n+0:Nat)] μ=some (.v [.a 20,.a n],μ)
 |0,_=>eV
 |1,_=>eV
 |2,_=>eV
 |3,_=>eV
 |4,_=>eV
 |5,_=>eV
 |6,_=>eV
 |7,_=>eV
 |8,_=>eV
 |9,_=>eV
 |10,_=>eV
 |11,_=>eV
 |12,_=>eV
 |n+13,h=>eZ
def Q5:∀n:Nat,n<=12->aP aj eU (d+2) 1 [.a 3,.a 23,.a n] μ=some (.a (2*n+1:Nat),μ)
 |0,_=>eV
 |1,_=>eV
 |2,_=>eV
 |3,_=>eV
 |4,_=>eV
 |5,_=>eV
 |6,_=>eV
 |7,_=>eV
 |8,_=>eV
 |9,_=>eV
 |10,_=>eV
 |11,_=>eV
 |12,_=>eV
 |n+13,h=>eZ
def Q6:∀n:Nat,n<=12->aP aj eU (d+1) 2 [.a 3,.a (2*n+1:Nat)] μ=some (.v [.a 23,.a n],μ)
 |0,_=>eV
 |1,_=>eV
 |2,_=>eV
 |3,_=>eV
 |4,_=>eV
 |5,_=>eV
 |6,_=>eV
 |7,_=>eV
 |8,_=>eV
 |9,_=>eV
 |10,_=>eV
 |11,_=>eV
 |12,_=>eV
 |n+13,h=>eZ
def Q7:∀n:Nat,n<=12->aP aj eU (d+2) 11 [.a 515,.a (2*n+1:Nat)] μ=some (.v [.a 23,.a n],μ)
 |0,_=>eV
 |1,_=>eV
 |2,_=>eV
 |3,_=>eV
 |4,_=>eV
 |5,_=>eV
 |6,_=>eV
 |7,_=>eV
 |8,_=>eV
 |9,_=>eV
 |10,_=>eV
 |11,_=>eV
 |12,_=>eV
 |n+13,h=>eZ
def Uk:∀n:Nat,n<=12->aP aj eU (d+2) 1 [.a 4,.a 6,.a n] μ=some (.a (2*n+0:Nat),μ)
 |0,_=>eV
 |1,_=>eV
 |2,_=>eV
 |3,_=>eV
 |4,_=>eV
 |5,_=>eV
 |6,_=>eV
 |7,_=>eV
 |8,_=>eV
 |9,_=>eV
 |10,_=>eV
 |11,_=>eV
 |12,_=>eV
 |n+13,h=>eZ
def Ul:∀n:Nat,n<=12->aP aj eU (d+1) 2 [.a 4,.a (2*n+0:Nat)] μ=some (.v [.a 6,.a n],μ)
 |0,_=>eV
 |1,_=>eV
 |2,_=>eV
 |3,_=>eV
 |4,_=>eV
 |5,_=>eV
 |6,_=>eV
 |7,_=>eV
 |8,_=>eV
 |9,_=>eV
 |10,_=>eV
 |11,_=>eV
 |12,_=>eV
 |n+13,h=>eZ
def Um:∀n:Nat,n<=12->aP aj eU (d+2) 11 [.a 516,.a (2*n+0:Nat)] μ=some (.v [.a 6,.a n],μ)
 |0,_=>eV
 |1,_=>eV
 |2,_=>eV
 |3,_=>eV
 |4,_=>eV
 |5,_=>eV
 |6,_=>eV
 |7,_=>eV
 |8,_=>eV
 |9,_=>eV
 |10,_=>eV
 |11,_=>eV
 |12,_=>eV
 |n+13,h=>eZ
def Q8:∀n:Nat,n<=12->aP aj eU (d+2) 1 [.a 4,.a 10,.a n] μ=some (.a (2*n+1:Nat),μ)
 |0,_=>eV
 |1,_=>eV
 |2,_=>eV
 |3,_=>eV
 |4,_=>eV
 |5,_=>eV
 |6,_=>eV
 |7,_=>eV
 |8,_=>eV
 |9,_=>eV
 |10,_=>eV
 |11,_=>eV
 |12,_=>eV
 |n+13,h=>eZ
def Q9:∀n:Nat,n<=12->aP aj eU (d+2) 11 [.a 516,.a (2*n+1:Nat)] μ=some (.v [.a 10,.a n],μ)
 |0,_=>eV
 |1,_=>eV
 |2,_=>eV
 |3,_=>eV
 |4,_=>eV
 |5,_=>eV
 |6,_=>eV
 |7,_=>eV
 |8,_=>eV
 |9,_=>eV
 |10,_=>eV
 |11,_=>eV
 |12,_=>eV
 |n+13,h=>eZ
def Ra:aP aj eU (d+2) 1 [.a 0,.a 1,.a 2] μ=some (.a 9,μ):=eV
def Rb:aP aj eU (d+2) 1 [.a 2,.a 1,.a 2] μ=some (.a 17,μ):=eV
def Un:aP aj eU (d+2) 11 [.a 512,.a 0] μ=some (.v [.a 2,.a 0],μ):=eV
def Uo:aP aj eU (d+2) 11 [.a 512,.a 5] μ=some (.v [.a 1,.a 1],μ):=eV
def Up:aP aj eU (d+2) 11 [.a 512,.a 9] μ=some (.v [.a 1,.a 2],μ):=eV
def Rc:aP aj eU (d+2) 11 [.a 514,.a 17] μ=some (.v [.a 1,.a 2],μ):=eV
def Uq:aP aj eU (d+2) 11 [.a 517,.a 6] μ=some (.v [.a 35,.a 1],μ):=eV
def Ur:aP aj eU (d+2) 3 [.a 1,.a 2] μ=some (.a 16777218,μ):=eV
def Us:aP aj eU (d+1) 4 [.a 16777218] μ=some (.v [.a 1,.a 2],μ):=eV
def YJ:∀n:Nat,n<=3->aP aj eU (d+2) 3 [.a 10,.a n] μ=some (.a (167772160+n:Nat),μ)
 |0,_=>eV
 |1,_=>eV
 |2,_=>eV
 |3,_=>eV
 |n+4,h=>eZ
def YK:∀n:Nat,n<=3->aP aj eU (d+1) 4 [.a (167772160+n:Nat)] μ=some (.v [.a 10,.a n],μ)
 |0,_=>eV
 |1,_=>eV
 |2,_=>eV
 |3,_=>eV
 |n+4,h=>eZ
end
def ma (w:Hm) (F:Fr):H:=(pre w F ⟨.an,.an,.an,.an,.an,.an⟩).take 131
noncomputable def y9:List (PyData×V):=[(.int 1,.a 1)]
noncomputable def o8:List (PyData×V):=[(.int 1,.a 1),(.int 7,.a 2)]
noncomputable def slot (k:Nat):Bool:=Nat.beq k 109||(Nat.beq k 111||(Nat.beq k 117||(Nat.beq k 124||Nat.beq k 126)))
structure gp (w:Hm) (F:Fr) (μ:H) (K:List (Nat×Nat)) (T:Nat->List V) (tx bl:List V) (tr mb:List (PyData×V)):Prop where
 bs:∀k o,d' (ma w F) k=some o->slot k=false->d' μ k=some o
 t:Tb μ K T
 x:d' μ 111=some (.j tx)
 b:d' μ 117=some (.j bl)
 r:d' μ 124=some (.dict tr)
 m:d' μ 126=some (.dict mb)
 len:135<=μ.length
structure Fm (K K':List (Nat×Nat)) (μ μ':H):Prop where
 len:μ.length<=μ'.length
 keep:∀k,135<=k->k<μ.length->(∀p∈K,p.2≠k)->d' μ' k=d' μ k
 new:∀p∈K',p∈K\/μ.length<=p.2
section
variable{w:Hm} {F:Fr} {μ μ':H} {K K':List (Nat×Nat)} {T T':Nat->List V} {tx bl:List V} {tr mb:List (PyData×V)}
def Fm.aZ:Fm K K μ μ:=⟨fX _,λZ Z Z Z=>rfl,λp hp=>.inl hp⟩
def Fm.aT (a:Fm K K' μ μ') (b:Fm K' K'' μ' μ''):Fm K K'' μ μ'':=by
 refine⟨al_81 a.len b.len,λk h0 h1 h3=>?_,λp hp=>?_⟩
 .refine(b.keep k h0 (fB h1 a.len) λp hp=>?_).trans (a.keep k h0 h1 h3);obtain q|q:=a.new p hp
  .exact h3 p q
  .lia
 .obtain q|q:=b.new p hp
  .exact a.new p q
  .exact .inr (al_81 a.len q)
def Kp.fm (a:Kp K K' μ μ'):Fm K K' μ μ':=⟨a.len,λk h0 h1 h3=>a.keep k h1 eZ h3,a.new⟩
def Fm.set (hk:k<135):Fm K K μ (fc μ k o):=⟨by rw[ig];exact fX _,λj h0 Z Z=>fT eZ,λp hp=>.inl hp⟩
def Fm.ba:Fm K K μ (μ++G):=⟨by simp only[fj];exact gV _ _,λj Z h1 Z=>iZ _ _ _ h1,λp hp=>.inl hp⟩
def Tb.mv (h:Tb μ K T) (hk:∀k,k=108\/k=109\/(∃p∈K,p.2=k)->d' μ' k=d' μ k):Tb μ' K T:=
 ⟨(hk 108<|.inl rfl).trans h.s,(hk 109<|.inr<|.inl rfl).trans h.d,λp hp=>(hk p.2<|.inr<|.inr ⟨p,hp,rfl⟩).trans<|h.l p hp,h.n,h.k1,h.k2,h.hi,h.lo,h.r,h.ne⟩
def Tb.lt (h:Tb μ K T) (hp:p∈K):p.2<μ.length:=gh<|h.l p hp
def De (h:slot k=false):k≠109/\k≠111/\k≠117/\k≠124/\k≠126:=by
 refine(jj ?_ ?_ ?_ ?_ ?_)<;>(intro e;subst e;cases h)
def Df (h:d' (ma w F) k=some o):k<131:=by
 have:=gh h;exact this
def gp.mv (h:gp w F μ K T tx bl tr mb) (hl:μ.length<=μ'.length) (hk:∀k,k<135\/(∃p∈K,p.2=k)->d' μ' k=d' μ k):gp w F μ' K T tx bl tr mb:=
 ⟨λk o e n=>(hk k<|.inl (by have:=Df e;lia)).trans (h.bs k o e n),h.t.mv λk q=>hk k (by rcases q with q|q|q;exact .inl eZ;exact .inl eZ;exact .inr q),(hk 111 (.inl eZ)).trans h.x,(hk 117 (.inl eZ)).trans h.b,(hk 124 (.inl eZ)).trans h.r,(hk 126 (.inl eZ)).trans h.m,al_81 h.len hl⟩
def gp.ba (h:gp w F μ K T tx bl tr mb) (G:H):gp w F (μ++G) K T tx bl tr mb:=h.mv fF λk q=>by
 obtain q|⟨p,hp,rfl⟩:=q
 .exact iZ _ _ _ (fB q h.len)
 .exact iZ _ _ _ (h.t.lt hp)
def gp.own (h:gp w F μ K T tx bl tr mb) (o:O) (hk:135<=k) (hn:∀p∈K,p.2≠k):gp w F (fc μ k o) K T tx bl tr mb:=h.mv (by rw[ig];exact fX _) λj q=>by
 refine fT λe=>?_
 obtain q|⟨p,hp,rfl⟩:=q
 .lia
 .exact hn p hp e.symm
def gp.bW (h:gp w F μ K T tx bl tr mb) {d t:Nat} (hl:(T t).length<900) (ht:t<60) (hv:kR v):
  ∃μ' K',aP aj eU (d+1) 41 [.g 108,.a t,v] μ=some (.a ((T t).length+1:Nat),μ')/\gp w F μ' K' (mo T t<|T t++[v]) tx bl tr mb/\Fm K K' μ μ':=by
 obtain⟨μ',K',e,h',k⟩:=Ui h.t hl ht hv<|al_81 eZ h.len;have kk:∀j,j<131->j≠109->d' μ' j=d' μ j:=λj hj hn=>k.keep j (fB (nA ‹_› ay) h.len) hn λp hp=>by have:=h.t.hi p hp;lia
 exact⟨μ',K',Jf e ⟨λj o e n=>(kk j (Df e) (De n).1).trans<|h.bs j o e n,h',(kk 111 eZ eZ).trans h.x,(kk 117 eZ eZ).trans h.b,(kk 124 eZ eZ).trans h.r,(kk 126 eZ eZ).trans h.m,al_81 h.len k.len⟩ k.fm⟩
def gp.cr (h:gp w F μ K T tx bl tr mb) (o:O) (hk:k=111\/k=117\/k=124\/k=126) (j:Nat) (ob:O) (e:d' (ma w F) j=some ob) (n:slot j=false):d' (fc μ k o) j=some ob:=by
 refine(fT λq=>?_).trans<|h.bs j ob e n;have:=De n;lia
def gp.bR (h:gp w F μ K T tx bl tr mb) (o:O) (hk:k=111\/k=117\/k=124\/k=126):Tb (fc μ k o) K T:=h.t.mv λj q=>fT λe=>by
 obtain q|q|⟨p,hp,q⟩:=q
 .lia
 .lia
 .have:=h.t.hi p hp;lia
def gp.dq (h:gp w F μ K T tx bl tr mb) (tx':List V):gp w F (fc μ 111<|.j tx') K T tx' bl tr mb:=
 ⟨h.cr _ eZ,h.bR _ eZ,iW<|fB eZ h.len,(fT eZ).trans h.b,(fT eZ).trans h.r,(fT eZ).trans h.m,by rw[ig];exact h.len⟩
def gp.du (h:gp w F μ K T tx bl tr mb) (bl':List V):gp w F (fc μ 117<|.j bl') K T tx bl' tr mb:=
 ⟨h.cr _ eZ,h.bR _ eZ,(fT eZ).trans h.x,iW<|fB eZ h.len,(fT eZ).trans h.r,(fT eZ).trans h.m,by rw[ig];exact h.len⟩
def gp.dv (h:gp w F μ K T tx bl tr mb) (tr':List (PyData×V)):gp w F (fc μ 124<|.dict tr') K T tx bl tr' mb:=
 ⟨h.cr _ eZ,h.bR _ eZ,(fT eZ).trans h.x,(fT eZ).trans h.b,iW<|fB eZ h.len,(fT eZ).trans h.m,by rw[ig];exact h.len⟩
def gp.dw (h:gp w F μ K T tx bl tr mb) (mb':List (PyData×V)):gp w F (fc μ 126<|.dict mb') K T tx bl tr mb':=
 ⟨h.cr _ eZ,h.bR _ eZ,(fT eZ).trans h.x,(fT eZ).trans h.b,(fT eZ).trans h.r,iW<|fB eZ h.len,by rw[ig];exact h.len⟩
def ME:sQ μ (.z y) (.z x)=some (decide<|y=x):=rfl
def gp.bV (h:gp w F μ K T tx bl tr mb) (x:List Nat) (hx:∀v∈tx,∃y,v=.z y) (hl:tx.length<800):
  ∃(i:Nat) (tx':List V),aP aj eU (d+1) 38 [.g 110,.z x] μ=some (.a i,fc μ 111<|.j tx')/\gp w F (fc μ 111<|.j tx') K T tx' bl tr mb/\Fm K K μ (fc μ 111<|.j tx')/\fK tx' i=some (.z x)/\(tx'=tx\/tx'=tx++[.z x]):=by
 refine ia λG kk=>?_
 obtain⟨i,L',e1,e2,e3⟩:=GU (w:=.z x) (h.bs 110 _ rfl rfl) h.x (λv hv=>by
  obtain⟨y,rfl⟩:=hx v hv;exact⟨_,ME,λq=>by rw[jA q]⟩) (nA ‹_› ay) ay
 apply kk;exact⟨i,L',jj e1 (h.dq L') (Fm.set eZ) e3 e2⟩
def uB (f:Nat->O):Nat->H->H
 |_,[]=>[]
 |k,o::r=>(match slot k with|true=>f k|false=>o)::uB f (k+1) r
def pX (w:Hm) (F:Fr) (s:Sl) (G:H):H:=iq w F++((QR w s).take 24++G)
theorem BC:∀(P μ:H) (f:Nat->O) (k:Nat),P.length<=μ.length->(∀j o,d' P j=some o->d' μ j=some (match slot (k+j)with|true=>f (k+j)|false=>o))->μ=uB f k P++μ.drop P.length
 |[],μ,f,k,_,_=>rfl
 |o::r,[],f,k,h,_=>(Nat.not_succ_le_zero _ h).elim
 |o::r,m::ms,f,k,h,hg=>by
  have h0:=hg 0 o rfl;have:m=match slot k with|true=>f k|false=>o:=by
   have:some m=some _:=h0;simp only[Nat.add_zero]at this;exact Option.some.inj this
  have ih:=BC r ms f (k+1) (by simpa using h) (λj o' e=>by
   have:=hg (j+1) o' e;rw[show k+(j+1)=k+1+j by lia]at this;exact this)
  show m::ms=(match slot k with|true=>f k|false=>o)::(uB f (k+1) r++ms.drop r.length);simp only[<-this,<-ih]
def gp.ex (h:gp w F μ K T tx bl tr mb):∃tb G,μ=pX w F ⟨tb,.j tx,.j bl,.dict tr,.dict mb,.an⟩ G:=by
 refine⟨.dict<|Kd K,μ.drop 131,?_⟩;let f:Nat->O:=λk=>match Nat.beq k 109 with
  |true=>.dict<|Kd K
  |false=>match Nat.beq k 111 with
   |true=>.j tx
   |false=>match Nat.beq k 117 with
    |true=>.j bl
    |false=>match Nat.beq k 124 with
     |true=>.dict tr
     |false=>.dict mb
 have e:=BC _ μ f 0 (al_81 (show 131<=135 by lia) h.len) (λj o e=>by
  rw[gJ];cases hs:MP.slot j with
  |false=>exact h.bs j o e hs
  |true=>
   have:j=109\/j=111\/j=117\/j=124\/j=126:=by
    unfold MP.slot at hs;simp[Bool.or_eq_true,Nat.beq_eq]at hs;exact hs
   obtain rfl|rfl|rfl|rfl|rfl:=this
   .exact h.t.d
   .exact h.x
   .exact h.b
   .exact h.r
   .exact h.m)
 have g:uB f 0 (ma w F)++μ.drop (ma w F).length=pX w F ⟨.dict<|Kd K,.j tx,.j bl,.dict tr,.dict mb,.an⟩ (μ.drop 131):=eV;exact e
end
def fR (w:Hm):Prop:=w=yP\/w=yQ\/w=yR\/w=yS\/w=yT\/w=yU
noncomputable abbrev za:List Nat:=[69,120,99,101,112,116,105,111,110]
noncomputable abbrev pM:V:=.v [.a 6,.a 3,.a 0]
def qo (T:Nat->List V) (tx:List V) (tr:List (PyData×V)):Prop:=((tr=y9/\T 1=[pM])\/(tr=o8/\∃i:Nat,T 1=[pM,.v [.a 6,.a i,.a 0]]/\fK tx i=some (.z za)))/\(T 10≠[]\/T 20≠[]->2<=(T 1).length)
section
variable{w:Hm} {F:Fr} {μ μ':H} {K K':List (Nat×Nat)} {T T':Nat->List V} {tx bl:List V} {tr mb:List (PyData×V)} {d:Nat} {FF:fb} {E:Env} {ss:List St}
def qW (h1:ev aj FF E e μ=some (v,μ1)) (h2:Ev FF E μ1 a o) (h3:Ev FF E μ1 k i) (h4:mg μ1 o i v=some μ2):execs aj FF (.ae a k e::ss) E μ=execs aj FF ss E μ2:=by
 simp[i7,LO,h1,h2,h3,h4]
def eY (h1:ev aj FF E e μ=some (v,μ1)) (h2:evs aj FF E es μ1=some (vs,μ2)):evs aj FF E (e::es) μ=some (v::vs,μ2):=by
 simp[pi,h1,h2]
def gu:evs aj FF E [] μ=some ([],μ):=rfl
def oO (h:evs aj FF E es μ=some (vs,μ1)):ev aj FF E (.v es) μ=some (.v vs,μ1):=by simp[Kj,h]
def n8 (h:evs aj FF E es μ=some (vs,μ1)) (hF:FF f vs μ1=some (v,μ2)):ev aj FF E (.A f es) μ=some (v,μ2):=by simp[FA,h,hF]
def jk (h:Ev FF E μ o (.g k)) (hk:d' μ k=some (.U c fs)) (ha:ci fs m=none) (hc:hU aj c=some cd) (hm:km cd.ms m=some f)
  (hs:evs aj FF E es μ=some (vs,μ1)) (hF:FF f (.g k::vs) μ1=some (v,μ2)):ev aj FF E (.Q o m es) μ=some (v,μ2):=by
 simp[FC,h,hk,ha,hc,hm,hs,hF]
def Ut:ga eU 68=some lh:=rfl
noncomputable abbrev GX:Env:=[(155,.g 107),(88,.a 7)]
def Rd:Ex:=match lh.body with
 |.M c _ _::_=>c
 |_=>.F
def Re:Ex:=match lh.body with
 |_::.M c _ _::_=>c
 |_=>.F
def GY:List St:=match lh.body with
 |_::.M _ a _::_=>a
 |_=>[]
def Uu:lh.body=[.M Rd [.F] [],.M Re GY [],.L<|.A 3 [.S 39<|.a 1,.D (.attr (.u 155) 104)<|.u 88]]:=rfl
def Rf:GY=GY.take 5++[.ae (.attr (.u 155) 104) (.u 88)<|.Q (.attr (.u 155) 12) 162 [.S 39<|.a 1,.v [.u 164,.Q (.attr (.u 155) 14) 89 [.A 66 [.u 151]],.y<|.a 0]]]:=rfl
def Rg (hw:fR w) (h:gp w F μ K T tx bl y9 mb):execs aj (aP aj eU<|d+5) (GY.take 5) GX μ=some (.C,(((164,.a 6)::(151,.g 33)::GX),μ)):=by
 obtain⟨tb,G,e⟩:=h.ex;rw[e];obtain rfl|rfl|rfl|rfl|rfl|rfl:=hw<;>kernel_rfl
def YL (h:gp w F μ K T tx bl tr mb):ev aj (aP aj eU<|d+5) GX Rd μ=some (.O false,μ):=by
 obtain⟨tb,G,e⟩:=h.ex;rw[e];kernel_rfl
def YM (h:gp w F μ K T tx bl y9 mb):ev aj (aP aj eU<|d+5) GX Re μ=some (.O true,μ):=by
 obtain⟨tb,G,e⟩:=h.ex;rw[e];kernel_rfl
def Uv (h:gp w F μ K T tx bl tr mb):aP aj eU (d+5) 66 [.g 33] μ=some (.z za,μ):=by
 obtain⟨tb,G,e⟩:=h.ex;rw[e];kernel_rfl
def YN {E':Env} (h:gp w F μ K T tx bl o8 mb) (h1:ci E' 155=some (.g 107)) (h2:ci E' 88=some (.a 7)):ev aj (aP aj eU<|d+5) E' (.A 3 [.S 39<|.a 1,.D (.attr (.u 155) 104)<|.u 88]) μ=some (.a 16777218,μ):=by
 refine fn (.aR fJ<|.aR (fo (fx (aE h1) (h.bs 107 _ rfl rfl) rfl ii rfl) (aE h2) ?_) .aS) Ur;rw[uv h.r];rfl
def qX (a b c:Int):kR (.v [.a a,.a b,.a c]):=⟨[a,b,c],rfl⟩
def Uw (hw:fR w) (h:gp w F μ K T tx bl y9 mb) (h1:T 1=[pM]) (hx:∀v∈tx,∃y,v=.z y) (hl:tx.length<800):
  ∃μ' K' tx' T',aP aj eU (d+6) 68 [.g 107,.a 7] μ=some (.a 16777218,μ')/\gp w F μ' K' T' tx' bl o8 mb/\Fm K K' μ μ'/\qo T' tx' o8/\(∀x,x≠1->T' x=T x)/\(tx'=tx\/tx'=tx++[.z za]):=by
 refine ia λG kk=>?_
 obtain⟨i,tx',p1,p2,p3,p4,p5⟩:=h.bV za hx hl;obtain⟨μ2,K2,a1,a2,a3⟩:=p2.bW (by rw[h1];simp) ay<|qX _ _ _;have a4:=a2.dv o8;apply kk;refine⟨fc μ2 124 _,K2,tx',_,?_,a4,(p3.aT a3).aT<|Fm.set eZ,⟨.inr ⟨rfl,i,by unfold mo;rw[fv rfl,h1];rfl,p4⟩,λZ=>by unfold mo;rw[fv rfl,h1];exact fX _⟩,λx hx=>by unfold mo;rw[ff hx],p5⟩;refine fU (E':=((164,.a 6)::(151,.g 33)::GX)) Ut rfl ?_<|.inl rfl;rw[Uu,gn (YL h) rfl fa];rw[gn (YM h) rfl]
 .exact gP (YN a4 rfl rfl)
 .show execs aj _ GY _ _=_;rw[Rf,ib<|Rg hw h];have g107:=h.bs 107 _ rfl rfl;have z107:=a2.bs 107 _ rfl rfl;rw[qW (v:=.a 2) (jk (fx (aE rfl) g107 rfl ii rfl) (h.bs 108 _ rfl rfl) rfl cls2 rfl (eY fJ<|eY (oO<|eY (aE rfl)<|eY (jk (fx (aE rfl) g107 rfl ii rfl) (h.bs 110 _ rfl rfl) rfl nK rfl (eY (fn (.aR (aE rfl) .aS) (Uv h)) gu) p1) (eY eT gu)) gu) ?_)
   (fx (aE rfl) z107 rfl ii rfl) (aE rfl) ?_]
  .exact fa
  .have a1':=a1;rw[h1]at a1';exact a1'
  .exact(sf (b:=.a 7) (v:=.a 2) (e:=.int 7) a2.r rfl rfl).trans (by rfl)
def Ux:ga eU 73=some s9:=rfl
def YO (c n:Nat) (hc:(c=0/\n=9)\/(c=2/\n=17)) (h:gp w F μ K T tx bl o8 mb):aP aj eU (d+12) 73 [.g 107,.a c,.a 16] μ=some (.a n,μ):=by
 obtain⟨tb,G,e⟩:=h.ex;rw[e];obtain⟨rfl,rfl⟩|⟨rfl,rfl⟩:=hc<;>kernel_rfl
def YP (h:gp w F μ K T tx bl tr mb):aP aj eU (d+5) 71 [.g 107,.a 16] μ=some (.O true,μ):=by
 obtain⟨tb,G,e⟩:=h.ex;rw[e];kernel_rfl
def YQ (h:gp w F μ K T tx bl tr mb):aP aj eU (d+5) 35 [.g 10,.a 16] μ=some (.a 7,μ):=by
 obtain⟨tb,G,e⟩:=h.ex;rw[e];kernel_rfl
def YR (h:gp w F μ K T tx bl tr mb):aP aj eU (d+5) 25 [.g 10,.a 16] μ=some (.v [.a 2,.a 7,.v []],μ):=by
 obtain⟨tb,G,e⟩:=h.ex;rw[e];kernel_rfl
def YS (h:gp w F μ K T tx bl tr mb):aP aj eU (d+5) 60 [.g 9,.v [.a 2,.a 7,.v []]] μ=some (.B,μ):=by
 obtain⟨tb,G,e⟩:=h.ex;rw[e];kernel_rfl
def Uy:ga eU 72=some s8:=rfl
def YT (c n:Nat) (hc:(c=0/\n=9)\/(c=2/\n=17)) (hw:fR w) (h:gp w F μ K T tx bl y9 mb) (h1:T 1=[pM]) (hx:∀v∈tx,∃y,v=.z y) (hl:tx.length<800):
  ∃μ' K' tx' T',aP aj eU (d+12) 73 [.g 107,.a c,.a 16] μ=some (.a n,μ')/\gp w F μ' K' T' tx' bl o8 mb/\Fm K K' μ μ'/\qo T' tx' o8/\(∀x,x≠1->T' x=T x)/\(tx'=tx\/tx'=tx++[.z za]):=by
 obtain⟨μ',K',tx',T',g1,g2,g3,g4,g5,g6⟩:=Uw hw h h1 hx hl;refine⟨μ',K',tx',T',?_,g2,g3,g4,g5,g6⟩;have g107:=h.bs 107 _ rfl rfl;have g9:=h.bs 9 _ rfl rfl;have q107:=g2.bs 107 _ rfl rfl;have q9:=g2.bs 9 _ rfl rfl;have k72:aP aj eU (d+11) 72 [.g 107,.a 16] μ=some (.a 16777218,μ'):=by
  refine fU (E':=[(9,.a 16777218),(155,.g 107),(69,.a 16)]) Uy rfl ?_<|.inl rfl;exact sd (fn (.aR (aE rfl)<|.aR (aE rfl) .aS)<|YP h) rfl<|(fQ<|n8 (eY (aE rfl)<|eY (fn (.aR (fx (fx (aE rfl) g107 rfl ii rfl) g9 rfl tJ rfl)<|.aR (aE rfl) .aS)<|YQ h) gu) g1).trans<|(gi<|n8 (eY (fx (aE rfl) q107 rfl ii rfl)<|eY (jk (fx (fx (aE rfl) q107 rfl ii rfl) q9 rfl tJ rfl) (g2.bs 10 _ rfl rfl) rfl YB rfl (eY (aE rfl) gu)<|YR g2) gu)<|YS g2).trans<|gP<|aE rfl
 refine fU (E':=[(0,.a 2),(3,.a 1),(155,.g 107),(2,.a c),(69,.a 16)]) Ux rfl ?_<|.inl rfl;have ev4:ev aj _ [(155,.g 107),(2,.a c),(69,.a 16)] (.A 4 [.A 72 [.u 155,.u 69]]) μ=some _:=
  n8 (eY (fn (.aR (aE rfl)<|.aR (aE rfl) .aS) k72) gu) Us
 have:execs aj (aP aj eU<|d+11) [.ak [3,0]<|.A 4 [.A 72 [.u 155,.u 69]],.L<|.A 1 [.u 2,.u 3,.u 0]] [(155,.g 107),(2,.a c),(69,.a 16)] μ=execs aj (aP aj eU<|d+11) [.L<|.A 1 [.u 2,.u 3,.u 0]] [(0,.a 2),(3,.a 1),(155,.g 107),(2,.a c),(69,.a 16)] μ':=by
  simp only[i7,ua,ev4];rfl
 refine this.trans ?_;obtain⟨rfl,rfl⟩|⟨rfl,rfl⟩:=hc
 .exact gP (fn (.aR (aE rfl)<|.aR (aE rfl)<|.aR (aE rfl) .aS) Ra)
 .exact gP (fn (.aR (aE rfl)<|.aR (aE rfl)<|.aR (aE rfl) .aS) Rb)
def kc (c n:Nat) (hc:(c=0/\n=9)\/(c=2/\n=17)) (hw:fR w) (h:gp w F μ K T tx bl tr mb) (h1:qo T tx tr) (hx:∀v∈tx,∃y,v=.z y) (hl:tx.length<800):
  ∃μ' K' tx' T',aP aj eU (d+12) 73 [.g 107,.a c,.a 16] μ=some (.a n,μ')/\gp w F μ' K' T' tx' bl o8 mb/\Fm K K' μ μ'/\qo T' tx' o8/\(∀x,x≠1->T' x=T x)/\(tx'=tx\/tx'=tx++[.z za]):=by
 refine ia λG kk=>?_
 obtain⟨⟨rfl,h1⟩|⟨rfl,h1⟩,h20⟩:=h1
 .apply kk;exact YT c n hc hw h h1 hx hl
 .apply kk;exact⟨μ,K,tx,T,YO c n hc h,h,Fm.aZ,⟨.inr ⟨rfl,h1⟩,h20⟩,λZ Z=>rfl,.inl rfl⟩
end
noncomputable abbrev bt (a b:Int):V:=.v [.a a,.a 0,.v [.a b],.v []]
noncomputable abbrev WM:V:=.v [.a 32,.a 0,.v [.a 1],.v [.v [.a 8]]]
def blobs:List V:=[.ah,bt 32 1,bt 0 1,WM,bt 8 8,bt 8 10,bt 40 8,bt 40 10]
def Dg (i:Nat):V:=(blobs[i]?).getD .B
def Rh (μ:H):((List.range 8).all λi=>(List.range 8).all λj=>Nat.beq j 0||(sQ μ (Dg i) (Dg j)==some (Nat.beq i j))):=eV
def Iv:∀v∈blobs,∀u∈blobs.drop 1,∃t,sQ μ v u=some t/\(t->v=u):=by
 intro v hv u hu;obtain⟨i,hi,e⟩:=List.getElem_of_mem hv;obtain⟨j,hj,e'⟩:=List.getElem_of_mem hu;rw[List.getElem_drop]at e';have ei:Dg i=v:=by unfold Dg;rw[ka hi,e];rfl
 have ej:Dg (1+j)=u:=by unfold Dg;rw[ka (by rw[List.length_drop]at hj;exact Nat.add_lt_of_lt_sub' hj),e'];rfl
 have c:=List.all_eq_true.mp (List.all_eq_true.mp (Rh μ) i<|List.mem_range.mpr hi) (1+j)<|List.mem_range.mpr (by rw[List.length_drop]at hj;exact Nat.add_lt_of_lt_sub' hj);rw[ei,ej]at c;refine⟨_,eq_of_beq ((Bool.or_eq_true _ _ ▸c).elim (λh=>absurd (mW h) (by rw[ij];exact Nat.succ_ne_zero j)) id),λh=>?_⟩;rw[<-ei,<-ej,mW h]
noncomputable def YU (m:Nat):PyData:=.tuple [.str ⟨⟨[109]⟩⟩,.int 16,.int m]
def mN:List Nat->Nat->List (PyData×V)
 |[],_=>[]
 |m::r,k=>(YU m,.a k)::mN r (k+1)
def pN (ms:List Nat):Prop:=ms=[]\/ms=[1]\/ms=[2]\/ms=[1,2]\/ms=[2,1]
noncomputable def jf:List Nat->Nat->Nat->Nat
 |[],_,_=>0
 |m::r,k,x=>if m=x then k else jf r (k+1) x
section
variable{w:Hm} {F:Fr} {μ μ':H} {K K':List (Nat×Nat)} {T T':Nat->List V} {tx bl:List V} {tr mb:List (PyData×V)} {d:Nat} {FF:fb} {E:Env} {ss:List St}
def gp.dX (h:gp w F μ K T tx bl tr mb) (u:V) (hu:u∈blobs.drop 1) (hx:∀v∈bl,v∈blobs) (hl:bl.length<800):
  ∃(i:Nat) (bl':List V),aP aj eU (d+1) 38 [.g 116,u] μ=some (.a i,fc μ 117<|.j bl')/\gp w F (fc μ 117<|.j bl') K T tx bl' tr mb/\Fm K K μ (fc μ 117<|.j bl')/\fK bl' i=some u/\(bl'=bl\/bl'=bl++[u]):=by
 refine ia λG kk=>?_
 obtain⟨i,L',e1,e2,e3⟩:=GU (h.bs 116 _ rfl rfl) h.b (λv hv=>Iv v (hx v hv) u hu) (nA ‹_› ay) ay;apply kk;exact⟨i,L',jj e1 (h.du L') (Fm.set eZ) e3 e2⟩
def uC {t t':List V} {u:V} (a:t'=t\/t'=t++[u]) {G:Prop} (k:∀z,t'=t++z->z.length<=1->(∀v∈z,v=u)->G):G:=by
 obtain rfl|rfl:=a
 .exact k [] fF fF λv h=>(jw h).elim
 .exact k _ rfl fF λv h=>gw.mp h
theorem Iw {σ:Type} {ok:σ->Bool} {turn:V->σ->Option (Flow×σ)} (I:Nat->σ->Prop) (hok:∀l s,I l s->ok s) {n:Nat} (ht:∀k s {G:Prop},k<n->I k s->(∀s',turn (.a (k:Nat)) s=some (.C,s')->I (k+1) s'->G)->G):∀m k s,k+m=n->I k s->∀{G:Prop},(∀s',fS ok turn (gZ (k:Nat) m) s=some (.C,s')->I n s'->G)->G:=by
 intro m
 induction m with
 |zero=>
  intro k s e h G g;have e:k=n:=e;subst e;exact g s (hV<|hok _ _ h) h
 |succ m ih=>
  intro k s e h G g;exact ht k s (by rw[<-e];exact Nat.lt_add_of_pos_right<|j5 m) h λs1 a b=>ih (k+1) s1 (by rw[<-e,jg,ij 1]) b λs2 c d=>g s2 (f5 (hok _ _ h) a c) d
def KT:ga eU 70=some uZ:=rfl
def EM (k:Nat) (n:Int) (hk:(k=0/\n=1)\/(k=7/\n=8)\/(k=9/\n=10)):aP aj eU (d+1) 69 [.g 107,.a k] μ=some (.v [.a n],μ):=by
 obtain⟨rfl,rfl⟩|⟨rfl,rfl⟩|⟨rfl,rfl⟩:=hk<;>kernel_rfl
def KU:aP aj eU (d+3) 70 [.g 107,.v []] μ=some (.v [],μ++[.j []]):=by
 refine fU (E':=[(144,.g μ.length),(155,.g 107),(167,.v [])]) KT rfl ?_<|.inl rfl;have hn:=hO μ<|.j [];refine(gK (a:=.u 167) (single:=true) (t:=[69]) (k:=0) (body:=[.H<|.Z (.u 144)<|.A 69 [.u 155,.u 69]]) (x:=.v []) (y:=.B) (E:=[(144,.g μ.length),(155,.g 107),(167,.v [])]) (aE rfl) eT rfl (E':=[(144,.g μ.length),(155,.g 107),(167,.v [])]) rfl).trans<|gP ?_;have b:Nat.ble (List.length ([]:List V)) gH:=rfl;simp only[mY,wh,ci,items,hn,b]
def Uz:aP aj eU (d+3) 70 [.g 107,.v [.a 7]] μ=some (.v [.v [.a 8]],μ++[.j [.v [.a 8]]]):=by
 refine fU (E':=[(69,.a 7),(144,.g μ.length),(155,.g 107),(167,.v [.a 7])]) KT rfl ?_<|.inl rfl;have hn:=hO μ<|.j [];have hn2:=hO μ<|.j [.v [.a 8]];have hs:fc _ μ.length _=μ++[.j [.v [.a 8]]]:=jb μ [.j []] 0 _;refine(gK (aE rfl) eT rfl (E':=[(69,.a 7),(144,.g μ.length),(155,.g 107),(167,.v [.a 7])]) (μ'':=μ++[.j [.v [.a 8]]]) ?_).trans ?_
 .have:=gi (ss:=[])<|nL (F:=aP aj eU<|d+2) (E:=[(69,.a 7),(144,.g μ.length),(155,.g 107),(167,.v [.a 7])]) (o:=.u 144) (x:=.A 69 [.u 155,.u 69]) (aE rfl) (fn (.aR (aE rfl)<|.aR (aE rfl) .aS)<|EM 7 8 fF) hn ay;have t:execs aj (aP aj eU<|d+2) [.H<|.Z (.u 144)<|.A 69 [.u 155,.u 69]] [(69,.a 7),(144,.g μ.length),(155,.g 107),(167,.v [.a 7])] (μ++[.j []])=some (.C,([(69,.a 7),(144,.g μ.length),(155,.g 107),(167,.v [.a 7])],μ++[.j [.v [.a 8]]])):=by
   rw[this];show execs aj _ [] _ (fc _ _<|.j [.v [.a 8]])=_;rw[hs];exact fa
  exact f5 rfl t<|hV rfl
 .refine gP ?_;have b:Nat.ble (List.length ([.v [.a 8]]:List V)) gH:=rfl;simp only[mY,wh,ci,items,hn2,b]
end
section
variable{w:Hm} {F:Fr} {μ μ':H} {K K':List (Nat×Nat)} {T T':Nat->List V} {tx bl:List V} {tr mb:List (PyData×V)} {d:Nat} {FF:fb} {E:Env} {ss:List St}
theorem xS {α:Type} {single:Bool} {t:List Nat} {k:Nat} {x:V} {c:Option Ex} {e:Ex} (f g:α->V) (p:α->Bool) (S:List V) (hst:∀L,fZ k x S (μ++[.j L])):∀(l:List α) (L:List V),(∀r∈l,∃E',fi E single t (f r)=some E'/\∀L,evC aj FF E' c (μ++[.j L])=some (p r,μ++[.j L])/\(p r->ev aj FF E' e (μ++[.j L])=some (g r,μ++[.j L])))->L.length+l.length<900->
  fS (λs=>fZ k x S s) (λv (s:H)=>match fi E single t v with
      |none=>none
      |some E'=>match evC aj FF E' c s with
       |none=>none
       |some (false,ν)=>some (.C,ν)
       |some (true,ν)=>match ev aj FF E' e ν with
        |none=>none
        |some (u,ν)=>match kG ν μ.length u with
         |some ν=>some (.C,ν)
         |none=>none) (l.map f) (μ++[.j L])=some (.C,μ++[.j<|L++(l.filter p).map g])
 |[],L,_,_=>by simpa using hV (hst L)
 |r::rs,L,h,hl=>by
  refine e8 (h r fA) λE' b hh=>?_
  obtain⟨h1,h2⟩:=hh L;simp only[kg]at hl;cases hp:p r with
  |false=>
   rw[hp]at h1;refine f5 (hst L) (s':=μ++[.j L]) (by rw[b];dsimp only;rw[h1]) ?_;rw[List.filter_cons_of_neg (by simp[hp])];exact xS f g p S hst rs L (λr hr=>h r (gj _ hr)) (iz ‹_›)
  |true=>
   rw[hp]at h1;have hs:fc (μ++[.j L]) μ.length (.j (L++[g r]))=μ++[.j (L++[g r])]:=jb μ [.j L] 0 _;refine f5 (hst L) (s':=μ++[.j (L++[g r])]) (by
    rw[b];dsimp only;rw[h1];dsimp only;rw[h2 hp];dsimp only;simp only[kG,hO,ip (show L.length<1000 by lia),hs]) ?_
   rw[List.filter_cons_of_pos (by simp[hp]),hW,show L++g r::(rs.filter p).map g=(L++[g r])++(rs.filter p).map g by simp];exact xS f g p S hst rs (L++[g r]) (λr hr=>h r (gj _ hr)) (by simp;lia)
def qY {α:Type} {l:List α} (f g:α->V) (p:α->Bool) (h1:Ev FF E μ a x) (h2:Ev FF E μ b y) (h3:im μ k x y=some (l.map f)) (hst:∀L,fZ k x (src μ x) (μ++[.j L]))
  (h:∀r∈l,∃E',fi E single t (f r)=some E'/\∀L,evC aj FF E' c (μ++[.j L])=some (p r,μ++[.j L])/\(p r->ev aj FF E' e (μ++[.j L])=some (g r,μ++[.j L]))) (hl:l.length<900):
  ev aj FF E (.ai single t k a b c e) μ=some (.g μ.length,μ++[.j<|(l.filter p).map g]):=by
 simp only[Pm,h1,h2,h3];have:=xS (E:=E) (single:=single) (t:=t) (k:=k) (x:=x) (c:=c) (e:=e) (FF:=FF) f g p (src μ x) hst l [] h (by simpa using hl);generalize hg:fS _ _ (l.map f) (μ++[.j []])=r;have e:r=_:=hg.symm.trans this;subst e;rfl
def vj {α:Type} (l:List α):l.filter (λZ=>true)=l:=fF
noncomputable def ku (m:Nat):V:=.v [.z [100],.a 0,.a 0,cond (Nat.beq m 1) (.v [])<|.v [.a 7],.O false]
def Ri (m:Nat) (hm:m=1\/m=2) (h:gp w F μ K T tx bl tr mb):aP aj eU (d+3) 58 [.g<|39+4*m] μ=some (ku m,μ):=by
 obtain⟨tb,G,e⟩:=h.ex;rw[e];obtain rfl|rfl:=hm<;>kernel_rfl
def UA:ga eU 59=some oZ:=rfl
def KV:ga eU 57=some qd:=rfl
abbrev nN:List V:=[.v [.a 1,ku 1],.v [.a 2,ku 2]]
def YV (m r:Nat) (hm:m=1\/m=2) (h:d' μ r=some (.j nN)):aP aj eU (d+2) 57 [ku m,.g r,.a m] μ=some (.B,μ):=by
 have vs:vsames nN nN:=by rfl
 have e11:sQ μ (ku 1) (ku 1)=some true:=by rfl
 have e12:sQ μ (ku 1) (ku 2)=some false:=by rfl
 have e22:sQ μ (ku 2) (ku 2)=some true:=by rfl
 have st:fZ 0 (.g r) (src μ<|.g r) μ:=by rw[kB h];exact i4 h vs
 have it:im μ 0 (.g r) .B=some nN:=jc h
 have t:∀E n m',(m'=1\/m'=2)->n=m'->ci E 0=some (ku m')->ci E 18=some (ku m')->ci E 32=some (.a n)->ci E 8=some (.a m')->execs aj (aP aj eU<|d+1) [.M (.E .eq (.u 18)<|.u 0) [.M (.E .ne (.u 32) (.u 8)) [.F] [],.L (.y .B)] []] E μ=some (.L .B,(E,μ)):=by
  intro E n m' hm' e a1 a2 a3 a4;subst e;refine sd (fG (aE a2) (aE a1) (by obtain rfl|rfl:=hm';exact e11;exact e22)) rfl<|(gn (fG (aE a3) (aE a4) (t:=false) ?_) rfl fa).trans (gP eT);show(nU μ (.a n) (.a n)).map _=some false;have:nU μ (.a n) (.a n)=some _:=rfl;rw[this,fu rfl];rfl
 obtain rfl|rfl:=hm
 .refine fU (E':=[(18,ku 1),(32,.a 1),(0,ku 1),(70,.g r),(8,.a 1)]) KV rfl ?_ (.inl rfl);exact wW (aE rfl) eT it (Bt st (t _ 1 1 (.inl rfl) rfl rfl rfl rfl rfl))
 .refine fU (E':=[(18,ku 2),(32,.a 2),(18,ku 1),(32,.a 1),(0,ku 2),(70,.g r),(8,.a 2)]) KV rfl ?_ (.inl rfl);refine wW (aE rfl) eT it (f5 (s':=([(18,ku 1),(32,.a 1),(0,ku 2),(70,.g r),(8,.a 2)],μ)) st ?_ (Bt st (t _ 2 2 (.inr rfl) rfl rfl rfl rfl rfl)));exact(gn (fG (aE rfl) (aE rfl) (show jt μ .eq (ku 1) (ku 2)=some false from e12)) rfl fa).trans fa
def YW (m:Nat) (hm:m=1\/m=2) (h:gp w F μ K T tx bl tr mb):aP aj eU (d+4) 59 [.g 107,.a m] μ=some (.B,μ++[.j nN]):=by
 have g107:=h.bs 107 _ rfl rfl;have g9:=h.bs 9 _ rfl rfl;have g18:=h.bs 18 _ rfl rfl;have g22:=h.bs 22 _ rfl rfl;have g39:=h.bs 39 _ rfl rfl;have g33:=h.bs 33 _ rfl rfl;have a1:=h.ba [.j nN];have e7:=(jO (k:=7) g22 ay).trans rfl;have own:∀k:Nat,k=1\/k=2->Ev (aP aj eU<|d+3) [(120,.g 18),(155,.g 107),(128,.a k)] μ (.attr (.D (.u 120)<|.u 128) 129) (.a 7):=by
  intro k hk;obtain rfl|rfl:=hk
  .exact fx (fo (aE rfl) (aE rfl)<|(jO g18 ay).trans rfl) (h.bs 43 _ rfl rfl) rfl vS rfl
  .exact fx (fo (aE rfl) (aE rfl)<|(jO g18 ay).trans rfl) (h.bs 47 _ rfl rfl) rfl vS rfl
 refine fU (E':=[(70,.g μ.length),(120,.g 18),(155,.g 107),(128,.a m)]) UA rfl ?_<|.inr ⟨rfl,rfl⟩;refine(fQ (fx (fx (aE rfl) g107 rfl ii rfl) g9 rfl tJ rfl)).trans<|(fQ (v:=.g μ.length) (μ':=μ++[.j nN]) ?_).trans ?_
 .have:=qY (single:=true) (t:=[8]) (k:=0) (a:=.attr (.D (.attr (.attr (.u 155) 93) 139) (.attr (.D (.u 120) (.u 128)) 129)) 120) (c:=none) (e:=.v [.u 8,.A 58 [.D (.u 120) (.u 8)]]) (y:=.B) (l:=[1,2]) (λk:Nat=>.a k) (λk:Nat=>.v [.a k,ku k]) (λZ=>true)
   (fx (fo (fx (fx (aE rfl) g107 rfl ii rfl) g9 rfl tJ rfl) (own m hm) e7) g33 rfl qB rfl) eT (by exact(jc g39).trans rfl) (λL=>by rw[kB g39];exact i4 (fh g39) (by rfl)) (λk hk=>by
    have hk':k=1\/k=2:=by simpa using hk
    refine⟨[(8,.a k),(120,.g 18),(155,.g 107),(128,.a m)],rfl,λL=>⟨by simp only[zP],λZ=>?_⟩⟩;refine gv (.aR (aE rfl) (.aR (fn (.aR (fo (aE rfl) (aE rfl) (?_:_=some (.g (39+4*k)))) .aS) (Ri k hk' (h.ba _))) .aS));obtain rfl|rfl:=hk'
    .exact(jO (fh g18) ay).trans rfl
    .exact(jO (fh g18) ay).trans rfl) fF
  exact this
 .refine(gi (fn (.aR (fn (.aR (fo (aE rfl) (aE rfl) (?_:_=some (.g (39+4*m)))) .aS) (Ri m hm a1)) (.aR (aE rfl) (.aR (aE rfl) .aS))) (YV m μ.length hm (hO μ (.j nN))))).trans fa;obtain rfl|rfl:=hm
  .exact(jO (fh g18) ay).trans rfl
  .exact(jO (fh g18) ay).trans rfl
end
section
variable{w:Hm} {F:Fr} {μ μ':H} {K K':List (Nat×Nat)} {T T':Nat->List V} {tx bl:List V} {tr mb:List (PyData×V)} {d:Nat} {FF:fb} {E:Env} {ss:List St}
def UB:ga eU 74=some lV:=rfl
def UC:ga eU 45=some uY:=rfl
noncomputable abbrev WN (m:Nat):Env:=[(168,.a 32),(168,.a 0),(152,.g<|39+4*m),(155,.g 107),(128,.a m)]
def Rj (m:Nat) (hm:m=1\/m=2) (h:gp w F μ K T tx bl tr mb):execs aj (aP aj eU<|d+6) (lV.body.take 5) [(155,.g 107),(128,.a m)] μ=some (.C,(WN m,μ)):=by
 obtain⟨tb,G,e⟩:=h.ex;rw[e];obtain rfl|rfl:=hm<;>kernel_rfl
def MF:lV.body=lV.body.take 5++[.L<|.Q (.u 155) 47 [.S 170<|.a 1,.v [.u 168,.attr (.u 152) 132,.A 69 [.u 155,.attr (.u 152) 131],.A 70 [.u 155,.attr (.u 152) 114]]]]:=rfl
def uD (m:Nat):V:=match m with
 |1=>bt 32 1
 |_=>WM
def gp.da (h:gp w F μ K T tx bl tr mb) (k:V) (u:V) (hu:u∈blobs.drop 1) (hx:∀v∈bl,v∈blobs) (hl:bl.length<800):
  ∃(i:Nat) (bl':List V),aP aj eU (d+2) 45 [.g 107,k,u] μ=some (.a i,fc μ 117<|.j bl')/\gp w F (fc μ 117<|.j bl') K T tx bl' tr mb/\Fm K K μ (fc μ 117<|.j bl')/\fK bl' i=some u/\(bl'=bl\/bl'=bl++[u]):=by
 refine ia λG kk=>?_
 obtain⟨i,bl',p1,p2,p3,p4,p5⟩:=h.dX u hu hx hl;apply kk;refine⟨i,bl',jj ?_ p2 p3 p4 p5⟩;refine fU (E':=[(62,.g 107),(26,k),(110,u)]) UC rfl ?_<|.inl rfl;exact gP<|jk (fx (aE rfl) (h.bs 107 _ rfl rfl) rfl ii rfl) (h.bs 116 _ rfl rfl) rfl nK rfl (eY (aE rfl) gu) p1
def Ix (m:Nat) (hm:m=1\/m=2) (h:gp w F μ K T tx bl tr mb) (hx:∀v∈bl,v∈blobs) (hl:bl.length<800) {G:Prop}
  (kk:∀μ' (i:Nat) y,aP aj eU (d+7) 74 [.g 107,.a m] μ=some (.a i,μ')->gp w F μ' K T tx (bl++y) tr mb->Fm K K μ μ'->y.length<=1->(∀v∈y,v=uD m)->G):G:=by
 have go:∀(fs:List (Nat×V)) (pv:V) (tr':V) (o:O),d' μ (39+4*m)=some (.U 5 fs)->ci fs 132=some (.a 0)->ci fs 131=some (.a 0)->ci fs 114=some pv->aP aj eU (d+6) 70 [.g 107,pv] μ=some (tr',μ++[o])->uD m=.v [.a 32,.a 0,.v [.a 1],tr']->uD m∈blobs.drop 1->G:=λfs pv tr' o gm f1 f2 f3 g70 hu hb=>by
  refine DF ((h.ba [o]).da (d:=d+4) (.a 1) (uD m) hb hx hl) λi bl' p1 p2 p3 p4 p5=>uC p5 λz e z1 z2=>?_
  subst e;refine kk _ i z ?_ p2 (Fm.ba.aT p3) z1 z2;refine fU (fl:=.L<|.a i) (E:=[(155,.g 107),(128,.a m)]) (E':=WN m) UB rfl ?_<|.inl rfl;rw[MF,ib<|Rj m hm h];rw[hu]at p1;exact gP<|jk (aE rfl) (h.bs 107 _ rfl rfl) rfl ii rfl (eY fJ<|eY (oO<|eY (aE rfl)<|eY (fx (aE rfl) gm f1 vS rfl)<|eY (fn (.aR (aE rfl)<|.aR (fx (aE rfl) gm f2 vS rfl) .aS)<|EM (d:=d+5) 0 1<|.inl ⟨rfl,rfl⟩)<|eY (fn (.aR (aE rfl)<|.aR (fx (aE rfl) gm f3 vS rfl) .aS) g70) gu) gu) p1
 obtain e|e:=hm
 .subst e;exact go _ _ _ _ (h.bs 43 _ rfl rfl) rfl rfl rfl (KU (d:=d+3)) rfl<|.head _
 .subst e;exact go _ _ _ _ (h.bs 47 _ rfl rfl) rfl rfl rfl (Uz (d:=d+3)) rfl<|.tail _<|.tail _<|.head _
def zb (T:Nat->List V) (ms:List Nat):Prop:=(T 10).length=ms.length/\∀v∈T 10,∃t b:Nat,v=.v [.a 17,.a t,.a b]
def UD:ga eU 75=some tc:=rfl
noncomputable abbrev xT (m:Nat):V:=.v [.z [109],.a 16,.a m]
def sj (ms:List Nat) (m:Nat):Prop:=(ms=[]/\(m=1\/m=2))\/(ms=[1]/\m=2)\/(ms=[2]/\m=1)
def sj.set {ms:List Nat} (h:sj ms m) (hm:d' μ 126=some (.dict<|mN ms 1)):mg μ (.g 126) (xT m) (.a (ms.length+1:Nat))=some (fc μ 126<|.dict<|mN (ms++[m]) 1):=by
 simp only[mg,hm];obtain⟨rfl,rfl|rfl⟩|⟨rfl,rfl⟩|⟨rfl,rfl⟩:=h<;>rfl
def GZ (hw:fR w) {ms:List Nat} {m b:Nat} (hm:sj ms m) (h:gp w F μ K T tx bl tr (mN ms 1)) (h1:qo T tx tr) (h2:zb T ms) (hx:∀v∈tx,∃y,v=.z y) (hl:tx.length<700)
  {G:Prop} (kk:∀μ' K' z T',aP aj eU (d+14) 75 [.g 107,xT m,.a 16,.z [100],.a b] μ=some (.B,μ')->gp w F μ' K' T' (tx++z) bl o8 (mN (ms++[m]) 1)->Fm K K' μ μ'->qo T' (tx++z) o8->zb T' (ms++[m])->(∀x,x≠1->x≠10->T' x=T x)->z.length<=2->(∀v∈z,∃y,v=.z y)->G):G:=by
 obtain⟨μ1,K1,tx1,T1,a1,a2,a3,a4,a5,a6⟩:=kc (d:=d+1) 2 17 (.inr ⟨rfl,rfl⟩) hw h h1 hx (nA ‹_› ay);refine uC a6 λz1 e z1l z1s=>?_
 subst e;refine DF (a2.bV (d:=d+12) [100] (λv hv=>(fL.mp hv).elim (hx v) λq=>⟨_,z1s v q⟩) (by rw[fj];lia)) λi tx2 b1 b2 b3 b4 b5=>uC b5 λz2 e z2l z2s=>?_
 subst e;have t10:(T1 10).length=ms.length:=(congrArg _ (a5 10 ay)).trans h2.1;obtain⟨μ3,K3,c1,c2,c3⟩:=b2.bW (by rw[t10];obtain⟨rfl,_⟩|⟨rfl,_⟩|⟨rfl,_⟩:=hm<;>decide) ay (qX _ _ _);rw[t10]at c1;have c4:=c2.dw (mN (ms++[m]) 1);refine kk (fc μ3 126 (.dict (mN (ms++[m]) 1))) K3 (z1++z2) (mo T1 10 (T1 10++[.v [.a 17,.a i,.a b]])) ?_ (by rw[<-gA];exact c4) (((a3.aT b3).aT c3).aT (Fm.set eZ)) ⟨a4.1.elim (λq=>nomatch q.1) λq=>.inr ⟨rfl,q.2.elim λk q=>⟨k,q.1,by rw[<-gA];exact ju z2 q.2⟩⟩,λZ=>?_⟩ ⟨?_,?_⟩ (λx n1 n2=>(if_neg n2).trans (a5 x n1)) (by rw[fj];exact gR z1l z2l) λv hv=>(fL.mp hv).elim (λq=>⟨_,z1s v q⟩) λq=>⟨_,z2s v q⟩
 .refine fU (E':=[(172,.a 17),(155,.g 107),(38,xT m),(129,.a 16),(111,.z [100]),(171,.a b)]) UD rfl ?_ (.inr ⟨rfl,rfl⟩);refine(fQ (fn (.aR (aE rfl) (.aR fJ (.aR (aE rfl) .aS))) a1)).trans ?_;have g107:=a2.bs 107 _ rfl rfl;exact(qW (jk (fx (aE rfl) g107 rfl ii rfl) (a2.bs 108 _ rfl rfl) rfl cls2 rfl (eY fJ (eY (oO (eY (aE rfl) (eY (jk (fx (aE rfl) g107 rfl ii rfl) (a2.bs 110 _ rfl rfl) rfl nK rfl (eY (aE rfl) gu) b1) (eY (aE rfl) gu)))) gu)) c1)
   (fx (aE rfl) (c2.bs 107 _ rfl rfl) rfl ii rfl) (aE rfl) (hm.set c2.m)).trans fa
 .obtain⟨q,_⟩|⟨_,k,q1,_⟩:=a4.1
  .cases q
  .show 2<=(T1 1).length;rw[q1];exact fX _
 .show(T1 10++_).length=_;rw[fj,fj,t10];rfl
 .intro v hv;obtain hv|hv:=fL.mp hv
  .exact h2.2 v (by rw[<-a5 10 ay];exact hv)
  .exact⟨i,b,gw.mp hv⟩
end
section
variable{w:Hm} {F:Fr} {μ μ':H} {K K':List (Nat×Nat)} {T T':Nat->List V} {tx bl:List V} {tr mb:List (PyData×V)} {d:Nat} {FF:fb} {E:Env} {ss:List St}
def UE:ga eU 77=some iY:=rfl
def UF:ga eU 78=some qJ:=rfl
def WO:Ex:=match iY.body with
 |[_,_,_,.M c _ _,_]=>c
 |_=>.F
def MG:iY.body=iY.body.take 3++[.M WO [.G 111<|.y<|.z [46,99,116,111,114],.M (.E .gt (.u 128)<|.y<|.a 0) [.H<|.A 59 [.u 155,.u 128],.G 111<|.attr (.D (.attr (.attr (.u 155) 93) 120)<|.u 128) 111] [],.H<|.A 75 [.u 155,.u 38,.u 129,.u 111,.A 74 [.u 155,.u 128]]] [],.L<|.A 3 [.S 174<|.a 10,.D (.attr (.u 155) 106)<|.u 38]]:=rfl
noncomputable abbrev G0 (m:Nat):Env:=[(155,.g 107),(129,.a 16),(128,.a m)]
abbrev Iy (m:Nat):Env:=[(38,xT m),(155,.g 107),(129,.a 16),(128,.a m)]
def Rk (m:Nat) (hm:m=1\/m=2) (h:gp w F μ K T tx bl tr mb):execs aj (aP aj eU<|d+17) (iY.body.take 3) (G0 m) μ=some (.C,(Iy m,μ)):=by
 obtain⟨tb,G,e⟩:=h.ex;rw[e];obtain rfl|rfl:=hm<;>kernel_rfl
def YX {ms:List Nat} (hm:sj ms m) (h:gp w F μ K T tx bl tr (mN ms 1)):ev aj (aP aj eU<|d+17) (Iy m) WO μ=some (.O true,μ):=by
 obtain⟨tb,G,e⟩:=h.ex;rw[e];obtain⟨rfl,rfl|rfl⟩|⟨rfl,rfl⟩|⟨rfl,rfl⟩:=hm<;>kernel_rfl
def KW (ms:List Nat) (m k:Nat):Prop:=(ms=[1]/\m=1/\k=1)\/(ms=[2]/\m=2/\k=1)\/(ms=[1,2]/\m=1/\k=1)\/(ms=[1,2]/\m=2/\k=2)\/(ms=[2,1]/\m=2/\k=1)\/(ms=[2,1]/\m=1/\k=2)
def Rl {ms:List Nat} (hm:KW ms m k) (h:gp w F μ K T tx bl tr (mN ms 1)):aP aj eU (d+19) 78 [.g 107,.a 16,.a m] μ=some (.a (2*k+1:Nat),μ):=by
 obtain⟨tb,G,e⟩:=h.ex;rw[e];obtain⟨rfl,rfl,rfl⟩|⟨rfl,rfl,rfl⟩|⟨rfl,rfl,rfl⟩|⟨rfl,rfl,rfl⟩|⟨rfl,rfl,rfl⟩|⟨rfl,rfl,rfl⟩:=hm<;>kernel_rfl
def MH {ms:List Nat} (hm:sj ms m) (h1:ci E 155=some (.g 107)) (h2:ci E 38=some (xT m)) (h:gp w F μ K T tx bl tr (mN (ms++[m]) 1)):ev aj (aP aj eU<|d+17) E (.A 3 [.S 174<|.a 10,.D (.attr (.u 155) 106)<|.u 38]) μ=some (.a (167772160+(ms.length+1):Nat),μ):=by
 have hv:f9 μ (.g 126) (xT m)=some (.a (ms.length+1:Nat)):=by
  rw[uv h.m];obtain⟨rfl,rfl|rfl⟩|⟨rfl,rfl⟩|⟨rfl,rfl⟩:=hm<;>rfl
 exact fn (.aR fJ<|.aR (fo (fx (aE h1) (h.bs 107 _ rfl rfl) rfl ii rfl) (aE h2) hv) .aS) (YJ _ (by obtain⟨rfl,rfl|rfl⟩|⟨rfl,rfl⟩|⟨rfl,rfl⟩:=hm<;>decide))
def Rm (m:Nat) (hm:m=1\/m=2) (h:gp w F μ K T tx bl tr mb) (h1:ci E 155=some (.g 107)) (h2:ci E 128=some (.a m)):Ev FF E μ (.attr (.D (.attr (.attr (.u 155) 93) 120)<|.u 128) 111) (.z [100]):=by
 have g18:=h.bs 18 _ rfl rfl;obtain rfl|rfl:=hm
 .exact fx (fo (fx (fx (aE h1) (h.bs 107 _ rfl rfl) rfl ii rfl) (h.bs 9 _ rfl rfl) rfl tJ rfl) (aE h2)<|(jO g18 ay).trans rfl) (h.bs 43 _ rfl rfl) rfl vS rfl
 .exact fx (fo (fx (fx (aE h1) (h.bs 107 _ rfl rfl) rfl ii rfl) (h.bs 9 _ rfl rfl) rfl tJ rfl) (aE h2)<|(jO g18 ay).trans rfl) (h.bs 47 _ rfl rfl) rfl vS rfl
def Rn (hw:fR w) {ms:List Nat} (hm:sj ms m) (h:gp w F μ K T tx bl tr (mN ms 1)) (h1:qo T tx tr) (h2:zb T ms) (hx:∀v∈tx,∃y,v=.z y) (hl:tx.length<700) (hb:∀v∈bl,v∈blobs) (hbl:bl.length<700)
  {G:Prop} (kk:∀μ' K' z y T',aP aj eU (d+19) 78 [.g 107,.a 16,.a m] μ=some (.a (2*(ms.length+1)+1:Nat),μ')->gp w F μ' K' T' (tx++z) (bl++y) o8 (mN (ms++[m]) 1)->Fm K K' μ μ'->qo T' (tx++z) o8->zb T' (ms++[m])->(∀x,x≠1->x≠10->T' x=T x)->z.length<=2->(∀v∈z,∃y,v=.z y)->y.length<=1->(∀v∈y,v=uD m)->G):G:=by
 have hm12:m=1\/m=2:=hm.elim (·.2) λh=>h.elim (.inr ·.2) (.inl ·.2)
 have s1:=h.ba [.j nN];refine Ix (d:=d+10) m hm12 s1 hb (nA ‹_› ay) λμ2 b y b1 b2 b3 b4 b5=>GZ (d:=d+3) (b:=b) hw hm b2 h1 h2 hx hl λμ3 K3 z T3 c1 c2 c3 c4 c5 c6 c7 c8=>kk μ3 K3 z y T3 ?_ c2 ((Fm.ba.aT b3).aT c3) c4 c5 c6 c7 c8 b4 b5
 have k77:aP aj eU (d+18) 77 [.g 107,.a 16,.a m] μ=some (.a (167772160+(ms.length+1):Nat),μ3):=by
  refine fU (E':=eP (eP (Iy m) 111<|.z [46,99,116,111,114]) 111<|.z [100]) UE rfl ?_<|.inl rfl;rw[MG,ib<|Rk m hm12 h];rw[gn (YX hm h) rfl ?_]
  .exact gP (MH hm rfl rfl c2)
  .refine(fQ eT).trans ?_;rw[gn (v:=.O true) (μ':=μ) ?_ rfl ?_]
   .exact(gi<|n8 (eY (aE rfl)<|eY (aE rfl)<|eY (aE rfl)<|eY (aE rfl) (eY (fn (.aR (aE rfl) (.aR (aE rfl) .aS)) b1) gu)) c1).trans fa
   .exact fG (aE rfl) eT (by obtain rfl|rfl:=hm12<;>rfl)
   .refine(gi (fn (.aR (aE rfl) (.aR (aE rfl) .aS)) (YW m hm12 h))).trans ?_;exact(fQ (Rm m hm12 s1 rfl rfl)).trans fa
 refine fU (E':=eP (eP (G0 m) 3 (.a 10)) 0 (.a (ms.length+1:Nat))) UF rfl ?_ (.inl rfl);have lt:ms.length+1<=2:=by obtain⟨rfl,_⟩|⟨rfl,_⟩|⟨rfl,_⟩:=hm<;>decide
 have ev4:ev aj _ (G0 m) (.A 4 [.A 77 [.u 155,.u 129,.u 128]]) μ=some (.v [.a 10,.a (ms.length+1:Nat)],μ3):=
  n8 (eY (fn (.aR (aE rfl) (.aR (aE rfl) (.aR (aE rfl) .aS))) k77) gu) (YK (ms.length+1) (nA ‹_› ay))
 have:execs aj (aP aj eU (d+18)) [.ak [3,0] (.A 4 [.A 77 [.u 155,.u 129,.u 128]]),.L (.A 1 [.S 58 (.a 4),.u 3,.u 0])] (G0 m) μ=execs aj (aP aj eU (d+18)) [.L (.A 1 [.S 58 (.a 4),.u 3,.u 0])] (eP (eP (G0 m) 3 (.a 10)) 0 (.a (ms.length+1:Nat))) μ3:=by
  simp only[i7,ua,ev4];rfl
 exact this.trans<|gP (fn (.aR fJ (.aR (aE rfl) (.aR (aE rfl) .aS))) (Q8 (ms.length+1) (nA ‹_› ay)))
def Iz {ms:List Nat} {m:Nat} (hm:m=1\/m=2) (hms:pN ms):(sj ms m/\pN (ms++[m])/\jf (ms++[m]) 1 m=ms.length+1)\/∃k,KW ms m k/\jf ms 1 m=k/\1<=k:=by
 obtain rfl|rfl:=hm
 .obtain rfl|rfl|rfl|rfl|rfl:=hms
  .exact .inl ⟨.inl ⟨rfl,.inl rfl⟩,.inr<|.inl rfl,rfl⟩
  .exact .inr ⟨1,.inl ⟨rfl,rfl,rfl⟩,rfl,ay⟩
  .exact .inl ⟨.inr<|.inr ⟨rfl,rfl⟩,.inr<|.inr<|.inr<|.inr rfl,rfl⟩
  .exact .inr ⟨1,.inr<|.inr<|.inl ⟨rfl,rfl,rfl⟩,rfl,ay⟩
  .exact .inr ⟨2,.inr<|.inr<|.inr<|.inr<|.inr ⟨rfl,rfl,rfl⟩,rfl,ay⟩
 .obtain rfl|rfl|rfl|rfl|rfl:=hms
  .exact .inl ⟨.inl ⟨rfl,.inr rfl⟩,.inr<|.inr<|.inl rfl,rfl⟩
  .exact .inl ⟨.inr<|.inl ⟨rfl,rfl⟩,.inr<|.inr<|.inr<|.inl rfl,rfl⟩
  .exact .inr ⟨1,.inr<|.inl ⟨rfl,rfl,rfl⟩,rfl,ay⟩
  .exact .inr ⟨2,.inr<|.inr<|.inr<|.inl ⟨rfl,rfl,rfl⟩,rfl,ay⟩
  .exact .inr ⟨1,.inr<|.inr<|.inr<|.inr<|.inl ⟨rfl,rfl,rfl⟩,rfl,ay⟩
def YY (hw:fR w) {ms:List Nat} {m:Nat} (hm:m=1\/m=2) (hms:pN ms) (h:gp w F μ K T tx bl tr (mN ms 1)) (h1:qo T tx tr) (h2:zb T ms) (hx:∀v∈tx,∃y,v=.z y) (hl:tx.length<700) (hb:∀v∈bl,v∈blobs) (hbl:bl.length<700)
  {G:Prop} (kk:∀μ' K' z y T' tr' ze,aP aj eU (d+19) 78 [.g 107,.a 16,.a m] μ=some (.a (2*jf (ms++ze) 1 m+1:Nat),μ')->gp w F μ' K' T' (tx++z) (bl++y) tr' (mN (ms++ze) 1)->Fm K K' μ μ'->qo T' (tx++z) tr'->zb T' (ms++ze)->pN (ms++ze)->(∀x,x≠1->x≠10->T' x=T x)->z.length<=2->(∀v∈z,∃y,v=.z y)->y.length<=1->(∀v∈y,v=uD m)->1<=jf (ms++ze) 1 m->G):G:=by
 obtain⟨q,q2,q3⟩|⟨k,q,qk,qk1⟩:=Iz hm hms
 .exact Rn hw q h h1 h2 hx hl hb hbl λμ' K' z y T' a1 a2 a3 a4 a5 a6 a7 a8 a9 a10=>kk μ' K' z y T' o8 [m] (by rw[q3];exact a1) a2 a3 a4 a5 q2 a6 a7 a8 a9 a10 (by rw[q3];exact j5 _)
 .subst qk;refine kk μ K [] [] T tr [] ?_ ?_ Fm.aZ ?_ ?_ ?_ (λZ Z Z=>rfl) ay (λv h=>(jw h).elim) ay (λv h=>(jw h).elim) ?_<;>simp only[gk]
  .exact Rl q h
  .exact h
  .exact h1
  .exact h2
  .exact hms
  .exact qk1
end
def hj (w:Hm) (j:Nat):Nat:=match w.homes with
 |.v l=>match fK l j with
  |some (.a i)=>i.toNat
  |_=>0
 |_=>0
noncomputable def wX (n:Nat):Int:=if n=0 then 0 else 63+n
def Ro (hw:fR w) (F:Fr) (j:Nat) (hj3:j<3):∃fs,d' (ma w F) (52+10*j)=some (.U 4 fs)/\MP.slot (52+10*j)=false/\ci fs 115=some (.g<|53+10*j)/\ci fs 123=some (.g<|59+10*j)/\ci fs 124=some (.g<|60+10*j)/\ci fs 125=some (.g<|61+10*j)/\ci fs 127=some (.a<|wX<|hj w j)/\hj w j<=j:=by
 have:j=0\/j=1\/j=2:=eZ;obtain rfl|rfl|rfl:=this
 .obtain rfl|rfl|rfl|rfl|rfl|rfl:=hw<;>exact⟨_,Fo rfl rfl rfl rfl rfl rfl rfl (by decide+kernel)⟩
 .obtain rfl|rfl|rfl|rfl|rfl|rfl:=hw<;>exact⟨_,Fo rfl rfl rfl rfl rfl rfl rfl (by decide+kernel)⟩
 .obtain rfl|rfl|rfl|rfl|rfl|rfl:=hw<;>exact⟨_,Fo rfl rfl rfl rfl rfl rfl rfl (by decide+kernel)⟩
structure Pk (w:Hm) (F:Fr) (μ:H) (K:List (Nat×Nat)) (T:Nat->List V) (tx bl:List V) (ms:List Nat) (c:Nat):Prop where
 st:∃tr,gp w F μ K T tx bl tr (mN ms 1)/\qo T tx tr
 mem:zb T ms
 mok:pN ms
 txs:∃z,tx=w.tx0++z/\z.length<=c/\∀v∈z,∃y,v=.z y
 bls:∀v∈bl,v∈blobs
 bc:bl.length<=10+c
 bp:∃y,bl=[.ah,bt 32 1,bt 0 1]++y
def Rp (hw:fR w):(∀v∈w.tx0,∃y,v=.z y)/\w.tx0.length<=9:=by
 obtain rfl|rfl|rfl|rfl|rfl|rfl:=hw<;>
  exact⟨by
   intro v hv;simp[yP,yQ,yR,yS,yT,yU,gC,jw,or_false]at hv;obtain rfl|rfl|rfl|rfl|rfl|rfl|rfl|rfl|rfl:=hv<;>exact⟨_,rfl⟩,ay⟩
def Pk.cu {ms:List Nat} (hw:fR w) (h:Pk w F μ K T tx bl ms c):(∀v∈tx,∃y,v=.z y)/\tx.length<=9+c:=by
 obtain⟨z,rfl,h1,h2⟩:=h.txs;obtain⟨a,b⟩:=Rp hw;refine⟨λv hv=>?_,by simp;lia⟩;obtain hv|hv:=fL.mp hv
 .exact a v hv
 .exact h2 v hv
section
variable{w:Hm} {F:Fr} {μ μ':H} {K K':List (Nat×Nat)} {T T':Nat->List V} {tx bl:List V} {tr mb:List (PyData×V)} {ms:List Nat} {c d:Nat} {FF:fb} {E:Env} {ss:List St}
def wY {a b:Ex} (h1:Ev FF E μ a (.O true)):Ev FF E μ (.Y false [a,b]) (.O true):=by
 simp only[Ev]at h1⊢;simp only[zO,nV,h1,ix];rfl
def BD {a b:Ex} {t:Bool} (h1:Ev FF E μ a (.O true)) (h2:Ev FF E μ b (.O t)):Ev FF E μ (.Y true [a,b]) (.O t):=by
 simp only[Ev]at h1 h2⊢;simp only[zO,FH,nV,h1,h2,ix];rfl
def Rq {a b:Ex} (h1:Ev FF E μ a (.O false)):Ev FF E μ (.Y true [a,b]) (.O false):=by
 simp only[Ev]at h1⊢;simp only[zO,nV,h1,ix];rfl
def Dh (h:gp w F μ K T tx bl tr mb) (b:Nat) (hb:b<6):f9 μ (.g 122) (.a (b+3:Nat))=some (.a (b+1:Nat))/\jt μ .ab (.a (b+3:Nat)) (.g 122)=some false:=by
 have g:=h.bs 122 _ rfl rfl;rw[uv g,show jt μ .ab (.a (b+3:Nat)) (.g 122)=(pA μ (.a (b+3:Nat))<|.g 122).map (!·) from rfl,wQ g]
 match b,hb with
 |0,_|1,_|2,_|3,_|4,_|5,_=>exact⟨by rfl,by rfl⟩
 |n+6,h=>lia
def uE (h:gp w F μ K T tx bl tr mb) (j:Nat) (hj:j<3):f9 μ (.g 120) (.a (64+j:Nat))=some (.a (j+2:Nat))/\jt μ .ab (.a (64+j:Nat)) (.g 120)=some false:=by
 have g:=h.bs 120 _ rfl rfl;rw[uv g,show jt μ .ab (.a (64+j:Nat)) (.g 120)=(pA μ (.a (64+j:Nat))<|.g 120).map (!·) from rfl,wQ g]
 match j,hj with
 |0,_|1,_|2,_=>exact⟨by rfl,by rfl⟩
 |n+3,h=>lia
def Rr:List St:=match oU.body with
 |[.J _ _ _ _ _ b]=>b
 |_=>[]
noncomputable def z5:List St:=[.M (.E .ab (.u 182)<|.attr (.u 155) 102) [.F] [],.G 137<|.A 1 [.S 58<|.a 4,.S 41<|.a 6,.D (.attr (.u 155) 102)<|.u 182],.H<|.Q (.attr (.u 155) 12) 162 [.S 57<|.a 25,.v [.D (.attr (.u 155) 100)<|.u 88,.u 137,.A 78 [.u 155,.u 129,.u 128]]]]
noncomputable def BE:List St:=[.M (.E .gt (.attr (.u 151) 127)<|.y<|.a 0) [.M (.Y false [.E .ab (.attr (.u 151) 127)<|.attr (.u 155) 100,.E .ge (.attr (.u 151) 127)<|.u 88]) [.F] [],.H<|.Q (.attr (.u 155) 12) 162 [.S 36<|.a 41,.v [.D (.attr (.u 155) 100)<|.u 88,.D (.attr (.u 155) 100)<|.attr (.u 151) 127]]] []]
def mq (ms:List Nat) (p:Nat×IR):V:=.v [.a (p.1+2:Nat),.a (2*(p.2.1+1):Nat),.a (2*jf ms 1 (p.2.2+1)+1:Nat)]
def vk (E E':Env):Prop:=∀y,y=155\/y=88\/y=151->ci E' y=ci E y
theorem xU:∀(ms z:List Nat) (k m:Nat),1<=k->1<=jf ms k m->jf (ms++z) k m=jf ms k m
 |[],z,k,m,_,h=>absurd h (Nat.not_succ_le_zero 0)
 |x::r,z,k,m,hk,h=>by
  show(if x=m then k else jf (r++z) (k+1) m)=if x=m then k else jf r (k+1) m;by_cases q:x=m
  .rw[fv q,fv q]
  .rw[ff q,ff q];have:jf (x::r) k m=jf r (k+1) m:=ff q;rw[this]at h;exact xU r z (k+1) m eZ h
def IA (hw:fR w) (hj3:j<3) (r:IR) (hr:mJ r) (h:Pk w F μ K T tx bl ms c) (hc:c<400) (h25:(T 25).length<100) (h1:ci E 155=some (.g 107)) (h2:ci E 88=some (.a (64+j:Nat)))
  {G:Prop} (kk:∀E' μ' K' tx' bl' T' z,(match fi E false [182,129,128] (nT r)with|none=>none|some E'=>execs aj (aP aj eU<|d+20) z5 E' μ)=some (.C,(E',μ'))->vk E E'->Pk w F μ' K' T' tx' bl' (ms++z) (c+2)->Fm K K' μ μ'->1<=jf (ms++z) 1 (r.2+1)->T' 25=T 25++[mq (ms++z) (j,r)]->(∀x,x≠1->x≠10->x≠25->T' x=T x)->G):G:=by
 obtain⟨o1,o2⟩:=hr;refine e8 h.st λtr h3 h4=>?_
 have sx:=h.cu hw;have lb:=h.bc;have m12:r.2+1=1\/r.2+1=2:=eZ;refine YY (d:=d+1) hw m12 h.mok h3 h4 h.mem sx.1 (fB (fq sx.2<|Nat.add_lt_add_left hc _) ay) h.bls eZ λμ1 K1 z1 y1 T1 tr1' z a1 a2 a3 a4 a5 a6 a7 a8 a9 a10 a11 a12=>?_
 have t25:=a7 25 ay ay;have q1:=Dh h3 r.1 o1;have q3:=uE h3 j hj3;obtain⟨μ2,K2,b1,b2,b3⟩:=a2.bW (v:=mq (ms++z) _) (by rw[t25];lia) ay<|qX _ _ _;have em:mid (r.1:Int)=((r.1+3:Nat):Int):=QW _;rw[t25]at b1;refine kk (eP (eP (eP (eP E 182<|.a (r.1+3:Nat)) 129<|.a 16) 128<|.a (r.2+1:Nat)) 137<|.a (2*(r.1+1)+0:Nat)) μ2 K2 (tx++z1) (bl++y1) _ z ?_ ?_ ⟨⟨tr1',b2,⟨a4.1,a4.2⟩⟩,a5,a6,h.txs.elim λy q=>⟨y++z1,by rw[q.1,gA],by rw[fj];exact gR q.2.1 a8,λv hv=>(fL.mp hv).elim (q.2.2 v)<|a9 v⟩,λv hv=>(fL.mp hv).elim (h.bls v) λhv=>?_,by rw[fj];exact al_81 (gR lb a10)<|kj _,h.bp.elim λy e=>⟨y++y1,by rw[e,gA]⟩⟩ (a3.aT b3) a12 (congrArg (·++_) t25) (λx n1 n2 n3=>(if_neg n3).trans (a7 x n1 n2))
 .simp only[nT,fi,em];have g107:=h3.bs 107 _ rfl rfl;exact(gn (fG (aE (by rfl)) (fx (aE (by exact h1)) g107 rfl ii rfl) q1.2) rfl fa).trans<|(fQ (fn (.aR fJ (.aR fJ (.aR (fo (fx (aE (by exact h1)) g107 rfl ii rfl) (aE (by rfl)) q1.1) .aS))) (Uk _ (nA ‹_› ay)))).trans<|(gi (v:=.a ((T 25).length+1:Nat)) (jk (fx (aE (by exact h1)) g107 rfl ii rfl) (h3.bs 108 _ rfl rfl) rfl cls2 rfl (eY fJ (eY (oO (eY (fo (fx (aE (by exact h1)) g107 rfl ii rfl) (aE (by exact h2)) q3.1) (eY (aE (by rfl)) (eY (fn (.aR (aE (by exact h1)) (.aR (aE (by rfl)) (.aR (aE (by rfl)) .aS))) a1) gu)))) gu)) b1)).trans fa
 .intro y hy;obtain rfl|rfl|rfl:=hy<;>rfl
 .rw[a11 v hv];obtain e|e:=m12<;>rw[e]
  .exact .tail _ (.head _)
  .exact .tail _ (.tail _ (.tail _ (.head _)))
end
structure Sx where
 μ:H
 K:List (Nat×Nat)
 T:Nat->List V
 tx:List V
 bl:List V
 ms:List Nat
 c:Nat
def Sx.Ok (w:Hm) (F:Fr) (s:Sx):Prop:=Pk w F s.μ s.K s.T s.tx s.bl s.ms s.c
def RI (s:Sx) (P:List (Nat×IR)):Prop:=s.T 25=P.map (mq s.ms)/\∀p∈P,1<=jf s.ms 1 (p.2.2+1)
def IB {ms z:List Nat} (h:1<=jf ms 1 (p.2.2+1)):mq (ms++z) p=mq ms p:=by
 unfold mq;rw[xU ms z 1 _ eZ h]
section
variable{w:Hm} {F:Fr} {d:Nat} {ss:List St}
def vk.aZ:vk E E:=λZ Z=>rfl
def vk.aT (a:vk E E') (b:vk E' E''):vk E E'':=λy hy=>(b y hy).trans<|a y hy
def Sx.Ok.bs {s:Sx} (h:s.Ok w F):∀k o,d' (ma w F) k=some o->MP.slot k=false->d' s.μ k=some o:=by
 exact e8 h.st λZ h Z=>h.bs
def oQ (h:x≠t):mo T t l x=T x:=by unfold mo;rw[ff h]
def Rs:mo T t l t=l:=by unfold mo;rw[fv rfl]
def Pk.bW {ms:List Nat} (h:Pk w F μ K T tx bl ms c) (t1:t≠1) (t10:t≠10) (t20:t=20->2<=(T 1).length) (hl:(T t).length<900) (ht:t<60) (hv:kR v) {G:Prop}
  (kk:∀μ' K',aP aj eU (d+1) 41 [.g 108,.a t,v] μ=some (.a ((T t).length+1:Nat),μ')->Pk w F μ' K' (mo T t<|T t++[v]) tx bl ms c->Fm K K' μ μ'->G):G:=by
 refine e8 h.st λtr st ex=>kF (st.bW (d:=d) hl ht hv) λμ3 K3 b1 b2 b3=>?_
 have u1:mo T t (T t++[v]) 1=T 1:=oQ t1.symm;have u10:mo T t (T t++[v]) 10=T 10:=oQ t10.symm;refine kk μ3 K3 b1 ⟨⟨tr,b2,ex.1.imp (λq=>⟨q.1,u1.trans q.2⟩) λq=>⟨q.1,q.2.elim λi q=>⟨i,u1.trans q.1,q.2⟩⟩,λq=>?_⟩,⟨(congrArg _ u10).trans h.mem.1,λv hv=>h.mem.2 v (by rw[<-u10];exact hv)⟩,h.mok,h.txs,h.bls,h.bc,h.bp⟩ b3;rw[u1];by_cases h20:t=20
 .exact t20 h20
 .exact ex.2 (by rw[u10,oQ (λe=>h20 e.symm)]at q;exact q)
structure Pi (w:Hm) (F:Fr) (s0:Sx) (P:List (Nat×IR)) (M:List V) (s:Sx):Prop where
 ok:s.Ok w F
 ri:RI s P
 fm:Fm s0.K s.K s0.μ s.μ
 t:s.T 41=M
 fr:∀x,x≠1->x≠10->x≠25->x≠41->s.T x=s0.T x
 cc:s.c=s0.c+2*P.length
def RI.b8 {s s':Sx} {z:List Nat} {p:Nat×IR} (h:RI s P) (e1:s'.ms=s.ms++z) (e2:s'.T 25=s.T 25++[mq s'.ms p]) (h3:1<=jf s'.ms 1 (p.2.2+1)):RI s' (P++[p]):=by
 refine⟨?_,λq hq=>(fL.mp hq).elim (λhq=>?_) λhq=>by rw[gw.mp hq];exact h3⟩
 .rw[e2,h.1,hK];refine congrArg (·++_)<|List.map_congr_left λq hq=>?_
  rw[e1,IB<|h.2 q hq]
 .rw[e1,xU _ _ _ _ ay<|h.2 q hq];exact h.2 q hq
def vV {α β:Type} (P:List β) (d:List α) (r:α) (f:α->β):P++(d++[r]).map f=(P++d.map f)++[f r]:=by rw[hK,gA];rfl
def YZ {β:Type} {P:List β} {x:β} {c c0:Nat} (h:c=c0+2*P.length):c+2=c0+2*(P++[x]).length:=by rw[fj,h];rfl
def Y0 (hw:fR w) {j:Nat} (hj3:j<3) {ok:Sg->Bool} (hok:∀E (s:Sx),s.Ok w F->ok (E,s.μ)) {P:List (Nat×IR)} {M:List V} {s0 s:Sx} {E:Env} (rows:List IR) (hr:∀r∈rows,mJ r) (h:Pi w F s0 P M s) (hc:s0.c=0) (hl:P.length+rows.length<60) (h1:ci E 155=some (.g 107)) (h2:ci E 88=some (.a (64+j:Nat))) {G:Prop}
  (kk:∀E' s',fS ok (λv (s:Sg)=>match fi s.1 false [182,129,128] v with|none=>none|some E'=>execs aj (aP aj eU<|d+20) z5 E' s.2) (rows.map nT) (E,s.μ)=some (.C,(E',s'.μ))->vk E E'->Pi w F s0 (P++rows.map λr=>(j,r)) M s'->G):G:=by
 refine nr (all:=rows) (turn:=λv (s:Sg)=>match fi s.1 false [182,129,128] v with|none=>none|some E'=>execs aj (aP aj eU<|d+20) z5 E' s.2) nT (λd (σ:Sg)=>∃s:Sx,σ.2=s.μ/\vk E σ.1/\Pi w F s0 (P++d.map λr=>(j,r)) M s) (λd σ h=>h.elim λs h=>(congrArg (λμ=>ok (σ.1,μ)) h.1).trans<|hok σ.1 s h.2.2.ok) (λd r z σ G e hi k=>?_) rows [] (E,s.μ) rfl ⟨s,rfl,vk.aZ,(gk P).symm▸h⟩ λσ g hi=>?_
 .obtain⟨E',μ'⟩:=σ;refine gT hi λs1 e1 a h=>?_
  dsimp only at e1 a;subst e1;have lp:(P++d.map λr=>(j,r)).length<60:=by
   have:=congrArg List.length e;simp only[fj,kg,fk]at this⊢;lia
  refine IA (E:=E') hw hj3 r (hr r<|e▸fL.mpr (.inr fA)) h.ok (by rw[h.cc,hc];lia) (by rw[h.ri.1,fk];lia) ((a 155<|.inl rfl).trans h1) ((a 88<|.inr<|.inl rfl).trans h2) λE1 μ1 K1 tx1 bl1 T1 z b1 b2 b3 b4 b5 b6 b7=>k (E1,μ1) b1 ⟨⟨μ1,K1,T1,tx1,bl1,s1.ms++z,s1.c+2⟩,rfl,a.aT b2,?_⟩
  rw[vV];exact⟨b3,h.ri.b8 rfl b6 b5,h.fm.aT b4,(b7 41 ay ay ay).trans h.t,λx n1 n2 n3 n4=>(b7 x n1 n2 n3).trans<|h.fr x n1 n2 n3 n4,YZ h.cc⟩
 .obtain⟨E',μ'⟩:=σ;refine gT hi λs1 e1 a h=>?_
  dsimp only at e1 a;subst e1;exact kk E' s1 g a h
def jT (w:Hm) (j:Nat):List V:=if hj w j=0 then[]else[.v [.a (j+2:Nat),.a (hj w j+1:Nat)]]
abbrev EN (w:Hm) (j:Nat):V:=.v [.a (j+2:Nat),.a (hj w j-1+2:Nat)]
def G1 (h0:hj w j≠0):jT w j=[EN w j]:=by
 rw[show jT w j=_ from ff h0];show _=[V.v [.a (j+2:Nat),.a (hj w j-1+2:Nat)]];rw[show hj w j-1+2=hj w j+1 from ar2 h0]
def G9 (a b:Int):kR (.v [.a a,.a b]):=⟨[a,b],rfl⟩
def ID (r:IR):jI (nT r) (nT r):=lZ (oM _)<|lZ (oM _)<|lZ (oM _) rfl
def WP {P:Nat->Prop} {j:Nat} (h:j<3) (h0:P 0) (h1:P 1) (h2:P 2):P j:=match j,h with|0,_=>h0|1,_=>h1|2,_=>h2
def slots (hj3:j<3):MP.slot (59+10*j)=false/\MP.slot (53+10*j)=false/\MP.slot (60+10*j)=false/\MP.slot (61+10*j)=false:=WP (P:=λj=>MP.slot (59+10*j)=false/\MP.slot (53+10*j)=false/\MP.slot (60+10*j)=false/\MP.slot (61+10*j)=false) hj3 ⟨rfl,rfl,rfl,rfl⟩ ⟨rfl,rfl,rfl,rfl⟩ ⟨rfl,rfl,rfl,rfl⟩
def KX {s:Sx} (h:s.Ok w F) (hj3:j<3) (h1:ci E 155=some (.g 107)):Ev FF (eP E 88<|.a (64+j:Nat)) s.μ (.D (.attr (.attr (.u 155) 93) 139)<|.u 88) (.g<|52+10*j):=by
 have g22:d' s.μ 22=some _:=h.bs 22 _ rfl rfl;refine fo (fx (fx (aE (by exact h1)) (h.bs 107 _ rfl rfl) rfl ii rfl) (h.bs 9 _ rfl rfl) rfl tJ rfl) (aE (v:=.a (64+j:Nat)) (by rfl)) ((jO (k:=64+j) g22 eZ).trans ?_);exact WP (P:=λj=>fK _ (64+j)=some (V.g (52+10*j))) hj3 rfl rfl rfl
noncomputable def Rt:St:=.J true [69] 0 (.attr (.u 151) 115) (.y .B) [.F]
def Ru:St:=.J false [182,129,128] 0 (.attr (.u 151) 123) (.y .B) z5
def MI (hw:fR w) (hj3:j<3) (rows:List IR) (hrows:∀r∈rows,mJ r) (hF:d' (ma w F) (59+10*j)=some (.j<|rows.map nT)) (hE5:d' (ma w F) (53+10*j)=some (.j [])) {P:List (Nat×IR)} {M:List V} {s0 s:Sx} (h:Pi w F s0 P M s) (hc:s0.c=0) (hl:P.length+rows.length<60) (h41:M.length<10) {E1:Env} (k155:ci E1 155=some (.g 107)) (k88:ci E1 88=some (.a (64+j:Nat))) (k151:ci E1 151=some (.g<|52+10*j)) {G:Prop}
  (kk:∀E' s',execs aj (aP aj eU<|d+20) (Rt::Ru::BE) E1 s.μ=some (.C,(E',s'.μ))->ci E' 155=some (.g 107)->Pi w F s0 (P++rows.map λr=>(j,r)) (M++jT w j) s'->G):G:=by
 refine DD (Ro hw F j hj3) λfs t0 t0' t1 t2 t3 t4 t5 t6=>?_
 have gt:=h.ok.bs _ _ t0 t0';have gr:=h.ok.bs _ _ hF (slots hj3).1;have ge:=h.ok.bs _ _ hE5 (slots hj3).2.1;refine Y0 (d:=d) hw hj3 (ok:=λs':Sg=>fZ 0 (.g<|59+10*j) (src s.μ<|.g<|59+10*j) s'.2) (λE' s' hs'=>by
  rw[kB gr];exact i4 (hs'.bs _ _ hF (slots hj3).1)<|kQ ID rows) rows hrows h hc hl k155 k88 λE2 s2 a1 a2 a3=>?_
 have pre:∀{R},execs aj (aP aj eU<|d+20) BE E2 s2.μ=R->execs aj (aP aj eU<|d+20) (Rt::Ru::BE) E1 s.μ=R:=λq=>
  (gK (x:=.g (53+10*j)) (y:=.B) (l:=[]) (fx (aE k151) gt t1 qB rfl) eT (by exact jc ge) (hV (by rw[kB ge];exact i4 ge rfl))).trans ((gK (x:=.g (59+10*j)) (y:=.B) (l:=rows.map nT) (fx (aE k151) gt t2 qB rfl) eT (by exact jc gr) a1).trans q)
 have q155:=(a2 155 (.inl rfl)).trans k155;have q88:=(a2 88 (.inr (.inl rfl))).trans k88;have q151:=(a2 151 (.inr (.inr rfl))).trans k151;have bs2:=a3.ok.bs;have eh:Ev (aP aj eU (d+20)) E2 s2.μ (.attr (.u 151) 127) (.a (wX (hj w j))):=fx (aE q151) (bs2 _ _ t0 t0') t5 qB rfl;by_cases h0:hj w j=0
 .have e0:wX (hj w j)=0:=by rw[h0];rfl
  rw[e0]at eh;rw[show jT w j=[]from fv h0,gk]at kk;exact kk E2 s2 (pre ((gn (t:=false) (fG eh eT (by rfl)) rfl fa).trans fa)) q155 a3
 .have eH:wX (hj w j)=((64+(hj w j-1):Nat):Int):=by unfold wX;rw[ff h0];exact ar3 h0
  rw[eH]at eh;rw[G1 h0]at kk;refine e8 a3.ok.st λtr st ex=>?_
  have r1:=uE st (hj w j-1) (ar8 t6 hj3);have r3:=uE st j hj3;refine Pk.bW (d:=d+19) a3.ok (t:=41) (v:=EN w j) ay ay (λh=>by cases h) (by rw[a3.t];exact fB h41 ay) ay (G9 _ _) λμ3 K3 b1 b2 b3=>kk E2 ⟨μ3,K3,mo s2.T 41 (s2.T 41++[EN w j]),s2.tx,s2.bl,s2.ms,s2.c⟩ (pre ?_) q155 ⟨b2,⟨Eq.trans rfl a3.ri.1,a3.ri.2⟩,a3.fm.aT b3,Eq.trans rfl (congrArg (λl=>l++[EN w j]) a3.t),λx n1 n2 n3 n4=>(oQ n4).trans (a3.fr x n1 n2 n3 n4),a3.cc⟩
  have g107':=bs2 107 _ rfl rfl;have p155:Ev (aP aj eU (d+20)) E2 s2.μ (.attr (.u 155) 100) (.g 120):=fx (aE q155) g107' rfl ii rfl;refine(gn (t:=true) (E':=E2) (μ'':=μ3) (fG (t:=true) eh eT ?_) rfl ?_).trans fa
  .show some (decide ((0:Int)<_))=_;rw[fu eZ]
  .refine(gn (t:=false) (mG (t:=false) (fG eh p155 r1.2) (fG eh (aE q88) ?_)) rfl fa).trans ?_
   .show some (decide (_<=_))=_;rw[fz (ar7 h0 t6)]
   .exact(gi (v:=.a ((s2.T 41).length+1:Nat)) (μ':=μ3) (jk (fx (aE q155) g107' rfl ii rfl) (bs2 108 _ rfl rfl) rfl cls2 rfl (eY fJ (eY (gv (.aR (fo p155 (aE q88) r3.1) (.aR (fo p155 eh r1.1) .aS))) gu)) b1)).trans fa
def BF (hw:fR w) (hj3:j<3) (rows:List IR) (hrows:∀r∈rows,mJ r) (hF:d' (ma w F) (59+10*j)=some (.j<|rows.map nT)) (hE5:d' (ma w F) (53+10*j)=some (.j [])) {P:List (Nat×IR)} {M:List V} {s0 s:Sx} (h:Pi w F s0 P M s) (hc:s0.c=0) (hl:P.length+rows.length<60) (h41:M.length<10) {E:Env} (h1:ci E 155=some (.g 107)) {G:Prop}
  (kk:∀E' s',execs aj (aP aj eU<|d+20) Rr (eP E 88<|.a (64+j:Nat)) s.μ=some (.C,(E',s'.μ))->ci E' 155=some (.g 107)->Pi w F s0 (P++rows.map λr=>(j,r)) (M++jT w j) s'->G):G:=
 MI hw hj3 rows hrows hF hE5 h hc hl h41 (E1:=eP (eP E 88<|.a (64+j:Nat)) 151<|.g<|52+10*j) h1 rfl rfl λE' s' g=>kk E' s'<|(fQ<|KX h.ok hj3 h1).trans g
end
section
variable{w:Hm} {d:Nat} {ss:List St}
def UG:ga eU 81=some oU:=rfl
noncomputable def FI (i0 i1 i2:List IR):List (Nat×IR):=(i0.map λr=>(0,r))++(i1.map λr=>(1,r))++(i2.map λr=>(2,r))
def Rv (hw:fR w):jT w 0=[]:=by
 obtain rfl|rfl|rfl|rfl|rfl|rfl:=hw<;>rfl
def tN (j:Nat):(jT w j).length<=1:=by
 unfold jT;split<;>simp
def Ha (hw:fR w) (hF:F=wU ⟨[p0,p1,p2],[e0,e1,e2],[i0,i1,i2]⟩) (o0:∀r∈i0,mJ r) (o1:∀r∈i1,mJ r) (o2:∀r∈i2,mJ r) (hl:i0.length+i1.length+i2.length<=20) (s:Sx) (h:s.Ok w F) (hc:s.c=0) (h25:s.T 25=[]) (h41:s.T 41=[])
  {G:Prop} (kk:∀s',aP aj eU (d+21) 81 [.g 107] s.μ=some (.B,s'.μ)->Pi w F s (FI i0 i1 i2) (jT w 1++jT w 2) s'->G):G:=by
 have g107:=h.bs 107 _ rfl rfl;have g119:=h.bs 119 _ rfl rfl;refine BF (d:=d) hw (j:=0) ay i0 o0 (by rw[hF];rfl) rfl (M:=[]) (P:=[]) (s0:=s) ⟨h,⟨h25,λZ q=>(jw q).elim⟩,Fm.aZ,h41,λZ Z Z Z Z=>rfl,rfl⟩ hc (by rw[nC];lia) ay (E:=[(155,.g 107)]) rfl λE1 s1 a1 a2 a3=>?_
 rw[Rv hw]at a3;refine BF (d:=d) hw (j:=1) ay i1 o1 (by rw[hF];rfl) rfl a3 hc (by simp only[fj,fk,nC];lia) ay a2 λE2 s2 b1 b2 b3=>BF (d:=d) hw (j:=2) ay i2 o2 (by rw[hF];rfl) rfl b3 hc (by simp only[fj,fk,nC];lia) (by have:=tN (w:=w) 1;simp only[fj,nC];lia) b2 λE3 s3 c1 c2 c3=>kk s3 ?_ c3
 refine fU (E':=E3) UG rfl ?_<|.inr ⟨rfl,rfl⟩;have st:∀s':Sx,s'.Ok w F->fZ 0 _ (src s.μ _) s'.μ:=λs' h'=>by
  rw[kB g119];exact i4 (h'.bs 119 _ rfl rfl) rfl
 refine(gK (l:=[.a 64,.a 65,.a 66]) (fx (aE rfl) g107 rfl ii rfl) eT (by exact jc g119) ?_).trans fa;exact f5 (st s h) a1<|f5 (st s1 a3.ok) b1<|f5 (st s2 b3.ok) c1<|hV<|st s3 c3.ok
end
section
variable{w:Hm} {F:Fr} {d:Nat} {ss:List St} {μ μ':H} {K K':List (Nat×Nat)} {T T':Nat->List V} {tx bl:List V} {ms:List Nat} {c:Nat} {FF:fb} {E:Env} {G:Prop}
def Pk.d7 {ms:List Nat} (h:Pk w F μ K T tx bl ms c) (hz:z.length<=1) (hv:∀v∈z,v=.z x):∃z',tx++z=w.tx0++z'/\z'.length<=c+1/\∀v∈z',∃y,v=.z y:=
 h.txs.elim λy h=>⟨y++z,by rw[h.1,gA],by rw[fj];exact gR h.2.1 hz,λv q=>(fL.mp q).elim (h.2.2 v) λq=>⟨x,hv v q⟩⟩
def Pk.kc (hw:fR w) (h:Pk w F μ K T tx bl ms c) (hc:c<400) (kk:∀μ' K' z T',aP aj eU (d+12) 73 [.g 107,.a 0,.a 16] μ=some (.a 9,μ')->Pk w F μ' K' T' (tx++z) bl ms (c+1)->Fm K K' μ μ'->(∀x,x≠1->T' x=T x)->2<=(T' 1).length->G):G:=by
 refine e8 h.st λtr st ex=>?_
 have sx:=h.cu hw;obtain⟨μ1,K1,tx1,T1,a1,a2,a3,a4,a5,a6⟩:=MP.kc 0 9 (.inl ⟨rfl,rfl⟩) hw st ex sx.1 eZ;refine uC a6 λz e z1 z2=>?_
 subst e;have e10:=a5 10 ay;refine kk μ1 K1 z T1 a1 ⟨⟨o8,a2,a4⟩,⟨(congrArg _ e10).trans h.mem.1,λv hv=>h.mem.2 v (by rw[<-e10];exact hv)⟩,h.mok,h.d7 z1 z2,h.bls,al_81 h.bc<|kj _,h.bp⟩ a3 a5 ?_;obtain⟨⟨q,_⟩|⟨_,k,q1,q2⟩,_⟩:=a4
 .cases q
 .rw[q1];exact fX _
def qo.ba (h:qo T tx tr) (z:List V):qo T (tx++z) tr:=
 ⟨h.1.elim .inl λh=>.inr ⟨h.1,h.2.elim λi h=>⟨i,h.1,ju z h.2⟩⟩,h.2⟩
def Pk.bV (hw:fR w) (h:Pk w F μ K T tx bl ms c) (hc:c<400) (x:List Nat) (kk:∀(i:Nat) z μ',aP aj eU (d+1) 38 [.g 110,.z x] μ=some (.a i,μ')->Pk w F μ' K T (tx++z) bl ms (c+1)->Fm K K μ μ'->fK (tx++z) i=some (.z x)->G):G:=by
 refine e8 h.st λtr st ex=>?_
 have sx:=h.cu hw;refine DF (st.bV (d:=d) x sx.1 eZ) λi tx1 a1 a2 a3 a4 a5=>uC a5 λz e z1 z2=>?_
 subst e;exact kk i z _ a1 ⟨⟨tr,a2,ex.ba z⟩,h.mem,h.mok,h.d7 z1 z2,h.bls,al_81 h.bc<|kj _,h.bp⟩ a3 a4
def Pk.da (h:Pk w F μ K T tx bl ms c) (hc:c<400) (k u:V) (hu:u∈blobs.drop 1) (kk:∀(i:Nat) z μ',aP aj eU (d+2) 45 [.g 107,k,u] μ=some (.a i,μ')->Pk w F μ' K T tx (bl++z) ms (c+1)->Fm K K μ μ'->fK (bl++z) i=some u->G):G:=by
 refine e8 h.st λtr st ex=>?_
 obtain⟨i,bl1,a1,a2,a3,a4,a5⟩:=st.da k u hu h.bls (by have:=h.bc;lia);refine uC a5 λz e z1 z2=>?_
 subst e;exact kk i z _ a1 ⟨⟨tr,a2,ex⟩,h.mem,h.mok,h.txs.elim λy h=>⟨y,h.1,al_81 h.2.1<|kj _,h.2.2⟩,λv q=>(fL.mp q).elim (h.bls v) λq=>by rw[z2 v q];exact List.mem_of_mem_drop hu,by rw[fj];exact(gR h.bc z1:_<=10+c+1),h.bp.elim λy e=>⟨y++z,by rw[e,gA]⟩⟩ a3 a4
def Pk.ba (h:Pk w F μ K T tx bl ms c) (G:H):Pk w F (μ++G) K T tx bl ms c:=
 ⟨h.st.elim λtr q=>⟨tr,q.1.ba G,q.2⟩,h.mem,h.mok,h.txs,h.bls,h.bc,h.bp⟩
def Pk.own (h:Pk w F μ K T tx bl ms c) (o:O) (hk:135<=k) (hn:∀p∈K,p.2≠k):Pk w F (fc μ k o) K T tx bl ms c:=
 ⟨h.st.elim λtr q=>⟨tr,q.1.own o hk hn,q.2⟩,h.mem,h.mok,h.txs,h.bls,h.bc,h.bp⟩
def Pk.bs (h:Pk w F μ K T tx bl ms c):∀k o,d' (ma w F) k=some o->MP.slot k=false->d' μ k=some o:=h.st.elim λZ q=>q.1.bs
def Pk.tb (h:Pk w F μ K T tx bl ms c):Tb μ K T:=h.st.elim λZ q=>q.1.t
def ic (r:Nat) (S:List V) (K:List (Nat×Nat)) (μ:H):Prop:=135<=r/\(∀p∈K,p.2≠r)/\d' μ r=some (.j S)
def ic.fm (h:ic r S K μ) (f:Fm K K' μ μ'):ic r S K' μ':=
 ⟨h.1,λp hp=>(f.new p hp).elim (h.2.1 p) λq e=>Nat.not_le_of_lt (gh h.2.2)<|e▸q,(f.keep r h.1 (gh h.2.2) h.2.1).trans h.2.2⟩
abbrev QI:=Nat×Nat×Nat×Nat
noncomputable def vQ (q:QI):V:=.v [.a q.1,.a (q.2.1+1:Nat),.a q.2.2.1]
noncomputable def gB (bits:Nat) (z:Int) (cd j:Nat):List QI:=if z<0 then[]else[(bits,z.toNat,cd,j)]
def i8 (b:Nat) (z:Int) (cd j:Nat):(gB b z cd j).length<=1:=by unfold gB;split<;>simp
def KY:ga eU 83=some qe:=rfl
def wZ (h:Pk w F μ K T tx bl ms c) {Q:List QI} (ho:ic r (Q.map vQ) K μ) (hS:Q.length<500) (bits:Nat) (z:Int) (hz: -1<=z/\z<6) (cd j:Nat)
  (kk:∀μ',aP aj eU (d+1) 83 [.g 107,.g r,.a bits,.a (mid z),.a cd] μ=some (.B,μ')->Pk w F μ' K T tx bl ms c->ic r ((Q++gB bits z cd j).map vQ) K μ'->G):G:=by
 by_cases q:z<0
 .have em:mid z=0:=fv q;have es:gB bits z cd j=[]:=fv q;rw[em,es,gk]at kk;exact kk μ (fU (E':=[(155,.g 107),(13,.g r),(184,.a bits),(128,.a 0),(2,.a cd)]) KY rfl ((gn (fG (aE rfl) eT (by rfl)) rfl fa).trans fa) (.inr ⟨rfl,rfl⟩)) h ho
 .have em:mid z=((z.toNat+3:Nat):Int):=(ff q).trans (by rw[Int.natCast_add,Int.toNat_of_nonneg (Int.not_lt.1 q)];rfl);have es:gB bits z cd j=_:=ff q;rw[em,es,hK]at kk;refine kk _ ?_ (h.own _ ho.1 ho.2.1) ⟨ho.1,ho.2.1,iW (gh ho.2.2)⟩;refine e8 h.st λtr st ex=>?_
  have r1:=Dh st z.toNat ((Int.toNat_lt (Int.not_lt.1 q)).2 hz.2);have g107:=h.bs 107 _ rfl rfl;refine fU (E':=[(155,.g 107),(13,.g r),(184,.a bits),(128,.a (z.toNat+3:Nat)),(2,.a cd)]) KY rfl ?_ (.inr ⟨rfl,rfl⟩);refine(gn (fG (aE rfl) eT (?_:jt μ .gt _ _=some true)) rfl ?_).trans fa
  .show some _=_;rw[fu (show (0:Int)<((z.toNat+3:Nat):Int) from Int.ofNat_lt.2 (j5 _))]
  .refine(gn (fG (aE rfl) (fx (aE rfl) g107 rfl ii rfl) r1.2) rfl fa).trans ?_;exact(gi (nL (l:=Q.map vQ) (aE rfl) (gv (.aR (aE rfl) (.aR (fo (fx (aE rfl) g107 rfl ii rfl) (aE rfl) r1.1) (.aR (aE rfl) .aS)))) ho.2.2 (by rw[fk];exact fB hS ay))).trans fa
end
def qp (tx:List V) (l:List V) (P:List (Nat×ER)):Prop:=l.length=P.length/\∀(n:Nat) p,P[n]?=some p->∃i:Nat,fK l n=some (.v [.a 0,.a i,.a 9])/\fK tx i=some (.z [p.2.1])
def uG (r:PR):V:=bt (if r.2.2.1 % 2=1 then 8 else 40)<|if r.2.1=7 then 8 else 10
def qq (tx bl:List V) (l:List V) (P:List (Nat×PR)):Prop:=l.length=P.length/\∀(n:Nat) p,P[n]?=some p->∃i b:Nat,fK l n=some (.v [.a 0,.a i,.a b])/\fK tx i=some (.z [p.2.1])/\fK bl b=some (uG p.2)
def qp.aU (h:qp tx l P) (z:List V):qp (tx++z) l P:=⟨h.1,λn p e=>by
 exact e8 (h.2 n p e) λi a b=>⟨i,a,ju z b⟩⟩
def qq.aU (h:qq tx bl l P) (z y:List V):qq (tx++z) (bl++y) l P:=⟨h.1,λn p e=>by
 exact kF (h.2 n p e) λi b a1 a2 a3=>⟨i,b,a1,ju z a2,ju y a3⟩⟩
def BG (h:n=l.length):fK (l++[v]) n=some v:=by subst h;exact vT l v
def Di {α:Type} {P:List α} {p q:α} {n:Nat} {G:Prop} (e:(P++[p])[n]?=some q) (k1:P[n]?=some q->G) (k2:n=P.length->q=p->G):G:=by
 by_cases hn:n<P.length
 .rw[nw hn]at e;exact k1 e
 .have hlt:=(ke.mp e).1;have hn':n=P.length:=by rw[fj]at hlt;exact Nat.le_antisymm (Nat.le_of_lt_succ hlt)<|Nat.not_lt.mp hn
  subst hn';simp at e;exact k2 rfl e.symm
def qp.b8 {p:Nat×ER} (h:qp tx l P) (hi:fK tx i=some (.z [p.2.1])):qp tx (l++[.v [.a 0,.a i,.a 9]]) (P++[p]):=
 ⟨by rw[fj,fj,h.1];rfl,λn q e=>Di e (λe=>(h.2 n q e).elim λi a=>⟨i,ju _ a.1,a.2⟩) λhn hq=>by subst hq;exact⟨i,BG<|hn.trans h.1.symm,hi⟩⟩
def qq.b8 {p:Nat×PR} (h:qq tx bl l P) (hi:fK tx i=some (.z [p.2.1])) (hb:fK bl b=some (uG p.2)):qq tx bl (l++[.v [.a 0,.a i,.a b]]) (P++[p]):=
 ⟨by rw[fj,fj,h.1];rfl,λn q e=>Di e (λe=>(h.2 n q e).elim λi a=>a.elim λb a=>⟨i,b,ju _ a.1,a.2⟩) λhn hq=>by subst hq;exact⟨i,b,BG<|hn.trans h.1.symm,hi,hb⟩⟩
def qp.bO (e:l'=l) (h:qp tx l P):qp tx l' P:=by rw[e];exact h
def qq.bO (e:l'=l) (h:qq tx bl l P):qq tx bl l' P:=by rw[e];exact h
def qr (E E':Env):Prop:=∀y,y=155\/y=13\/y=88\/y=151->ci E' y=ci E y
def qr.aZ:qr E E:=λZ Z=>rfl
def qr.aT (a:qr E E') (b:qr E' E''):qr E E'':=λy hy=>(b y hy).trans<|a y hy
def w0:List St:=match m8.body with
 |[_,.J _ _ _ _ _ b,_]=>b
 |_=>[]
def EO:List St:=match w0 with
 |[_,_,.J _ _ _ _ _ b,_,_]=>b
 |_=>[]
def xV:List St:=match w0 with
 |[_,_,_,_,.J _ _ _ _ _ b]=>b
 |_=>[]
def MJ:xV=[.G 10<|.Q (.attr (.u 155) 12) 162 [.S 42<|.a 23,.v [.y<|.a 0,.Q (.attr (.u 155) 14) 89 [.D (.u 188)<|.y<|.a 0],.A 85 [.u 155,.u 188]]],.G 2<|.A 1 [.S 49<|.a 3,.S 42<|.a 23,.u 10],
  .H (.A 83 [.u 155,.u 13,.S 55<|.a 2,.D (.u 188)<|.y<|.a 2,.u 2]),.H<|.A 83 [.u 155,.u 13,.S 54<|.a 1,.D (.u 188)<|.y<|.a 3,.u 2]]:=rfl
section
variable{w:Hm} {F:Fr} {d:Nat} {ss:List St}
def Sx.Ok.pk {s:Sx} (h:s.Ok w F):Pk w F s.μ s.K s.T s.tx s.bl s.ms s.c:=h
structure Se (w:Hm) (F:Fr) (rr:Nat) (s0:Sx) (n:Nat) (P:List (Nat×ER)) (R:List (Nat×PR)) (Q:List QI) (M N:List V) (s:Sx):Prop where
 ok:s.Ok w F
 ev:qp s.tx (s.T 20) P
 pr:qq s.tx s.bl (s.T 23) R
 own:ic rr (Q.map vQ) s.K s.μ
 tm:s.T 18=M
 tn:s.T 21=N
 fr:∀x,x≠1->x≠20->x≠23->x≠18->x≠21->s.T x=s0.T x
 ms:s.ms=s0.ms
 cc:s.c=s0.c+2*n
 lq:Q.length<=2*n
def Rw {Q a:List QI} {n:Nat} (h:Q.length<=2*n) (ha:a.length<=1):(Q++a).length<=2*n+1:=by rw[fj];exact gR h ha
def WQ {Q a b:List QI} {n:Nat} (h:Q.length<=2*n) (ha:a.length<=1) (hb:b.length<=1):(Q++a++b).length<=2*(n+1):=by rw[fj];exact(gR (Rw h ha) hb:_<=2*n+1+1)
def Se.cN {s0 s:Sx} (h:Se w F rr s0 n P R Q M N s) (hc:s0.c<=200) (hn:n<=11):s.c<300:=by rw[h.cc];lia
noncomputable abbrev WR (i:Nat):V:=.v [.a 0,.a i,.a 9]
noncomputable abbrev WS (i b:Nat):V:=.v [.a 0,.a i,.a b]
def Rx (hw:fR w) (r:ER) (hr:jY r) {s0 s:Sx} (h:Se w F rr s0 n P R Q M N s) (hc:s0.c<=200) (hn:n<=11) (hp:k=P.length+1) (hp':k<=11) {E:Env} (h1:ci E 155=some (.g 107)) (h2:ci E 13=some (.g rr)) (j:Nat) {G:Prop}
  (kk:∀E' s',(match fi E false [111,185,186,187] (oN r)with|none=>none|some E'=>execs aj (aP aj eU<|d+20) EO E' s.μ)=some (.C,(E',s'.μ))->qr E E'->Se w F rr s0 (n+1) (P++[(j,r)]) R (Q++gB 8 r.2.1 (2*k) j++gB 16 r.2.2 (2*k) j) M N s'->G):G:=by
 have hc':=h.cN hc hn;have lQ:Q.length<=22:=al_81 h.lq<|mP 2 hn;refine h.ok.pk.kc (d:=d+8) hw (fB hc' ay) λμ1 K1 z1 T1 a1 a2 a3 a4 a5=>a2.bV (d:=d+19) hw (Nat.succ_lt_succ<|fB hc' ay) [r.1] λi z2 μ2 b1 b2 b3 b4=>?_
 have e20:(T1 20).length=P.length:=(congrArg _<|a4 20 ay).trans h.ev.1;refine b2.bW (d:=d+19) (t:=20) (v:=WR i) ay ay (λZ=>a5) (by rw[e20];lia) ay (qX _ _ _) λμ3 K3 c1 c2 c3=>?_
 rw[e20,<-hp]at c1;refine wZ (d:=d+19) c2 (((h.own.fm a3).fm b3).fm c3) (fB (mO lQ) ay) 8 r.2.1 hr.2.1 (2*k) j λμ4 d1 d2 d3=>wZ (d:=d+19) d2 d3 (fB (mO<|al_81 (Rw h.lq<|i8 _ _ _ _)<|lf<|mP 2 hn) ay) 16 r.2.2 hr.2.2 (2*k) j λμ5 f1 f2 f3=>kk (eP (eP (eP (eP (eP (eP (eP (eP E 111<|.z [r.1]) 185<|.a 16) 186<|.a<|mid r.2.1) 187<|.a<|mid r.2.2) 7<|.a 0) 7<|.a 9) 10<|.a (k:Nat)) 2<|.a (2*k+0:Nat)) ⟨μ5,K3,mo T1 20 (T1 20++[WR i]),(s.tx++z1)++z2,s.bl,s.ms,s.c+1+1⟩ ?_ ?_
  ⟨f2,qp.b8 (p:=(j,r)) (qp.bO (a4 20 ay) ((h.ev.aU z1).aU z2)) b4,qq.bO (a4 23 ay) (by have:=(h.pr.aU z1 []).aU z2 [];rw[gk,gk]at this;exact this),f3,(a4 18 ay).trans h.tm,(a4 21 ay).trans h.tn,λx n1 n2 n3 n4 n5=>(oQ n2).trans ((a4 x n1).trans (h.fr x n1 n2 n3 n4 n5)),h.ms,congrArg (·+1+1) h.cc,WQ h.lq (i8 _ _ _ _) (i8 _ _ _ _)⟩
 .have q107:=a2.bs 107 _ rfl rfl;refine(gn (t:=true) (E':=eP (eP (eP (eP (eP (eP E 111 (.z [r.1])) 185 (.a 16)) 186 (.a (mid r.2.1))) 187 (.a (mid r.2.2))) 7 (.a 0)) 7 (.a 9)) (μ'':=μ1) (fG (aE (v:=.a 16) (by rfl)) eT (by rfl)) rfl ?_).trans ?_
  .exact(fQ (v:=.a 9) (μ':=μ1) (fn (.aR (aE (by exact h1)) (.aR fJ (.aR (aE (by rfl)) .aS))) a1)).trans fa
  exact(fQ (v:=.a (k:Nat)) (μ':=μ3) (jk (fx (aE (by exact h1)) q107 rfl ii rfl) (a2.bs 108 _ rfl rfl) rfl cls2 rfl (eY fJ (eY (oO (eY eT (eY (jk (fx (aE (by exact h1)) q107 rfl ii rfl) (a2.bs 110 _ rfl rfl) rfl nK rfl (eY (aE (by rfl)) gu) b1) (eY (aE (by rfl)) gu)))) gu)) c1)).trans<|(fQ (v:=.a (2*k+0:Nat)) (μ':=μ3) (fn (.aR fJ (.aR fJ (.aR (aE (by rfl)) .aS))) (GW k (al_81 hp' ay)))).trans<|(gi (v:=.B) (fn (.aR (aE (by exact h1)) (.aR (aE (by exact h2)) (.aR fJ (.aR (aE (by rfl)) (.aR (aE (by rfl)) .aS))))) d1)).trans<|(gi (v:=.B) (fn (.aR (aE (by exact h1)) (.aR (aE (by exact h2)) (.aR fJ (.aR (aE (by rfl)) (.aR (aE (by rfl)) .aS))))) f1)).trans fa
 .intro y hy;obtain rfl|rfl|rfl|rfl:=hy<;>rfl
def UH:ga eU 85=some kJ:=rfl
def MK:kJ.body=kJ.body.take 6++[.L<|.Q (.u 155) 47 [.S 194<|.a 5,.v [.u 33,.len<|.u 191,.A 69 [.u 155,.u 185],.A 70 [.u 155,.u 191]]]]:=rfl
noncomputable abbrev KZ (X k:V) (a:Nat) (Y:V):V:=.v [X,k,.a (a+3:Nat),Y,.v []]
abbrev Dj (X k:V) (a:Nat) (Y:V):Env:=[(193,.a (a+3:Nat)),(33,.a 8),(191,.v []),(190,Y),(189,.a (a+3:Nat)),(185,k),(111,X),(155,.g 107),(188,KZ X k a Y)]
def Ry (h:gp w F μ K T tx bl tr mb) (X k Y:V):∀a:Nat,a<6->∃E',execs aj (aP aj eU<|d+6) (kJ.body.take 6) [(155,.g 107),(188,KZ X k a Y)] μ=some (.C,(E',μ))/\ci E' 155=some (.g 107)/\ci E' 33=some (.a<|if a % 2=1 then 8 else 40)/\ci E' 191=some (.v [])/\ci E' 185=some k:=by
 intro a ha;obtain⟨tb,G,e⟩:=h.ex;rw[e]
 match a,ha with
 |0,_=>exact⟨(33,.a 40)::Dj X k 0 Y,eV,rfl,rfl,rfl,rfl⟩
 |1,_=>exact⟨Dj X k 1 Y,eV,rfl,rfl,rfl,rfl⟩
 |2,_=>exact⟨(33,.a 40)::Dj X k 2 Y,eV,rfl,rfl,rfl,rfl⟩
 |3,_=>exact⟨Dj X k 3 Y,eV,rfl,rfl,rfl,rfl⟩
 |4,_=>exact⟨(33,.a 40)::Dj X k 4 Y,eV,rfl,rfl,rfl,rfl⟩
 |5,_=>exact⟨Dj X k 5 Y,eV,rfl,rfl,rfl,rfl⟩
 |n+6,h=>lia
def Hb (r:PR):uG r∈blobs.drop 1:=by
 unfold uG;split<;>split
 .exact .tail _<|.tail _<|.tail _<|.head _
 .exact .tail _<|.tail _<|.tail _<|.tail _<|.head _
 .exact .tail _<|.tail _<|.tail _<|.tail _<|.tail _<|.head _
 .exact .tail _<|.tail _<|.tail _<|.tail _<|.tail _<|.tail _<|.head _
def IE {ms:List Nat} (h:Pk w F μ K T tx bl ms c) (hc:c<400) (r:PR) (hr:i5 r) {G:Prop} (kk:∀(i:Nat) μ' z,aP aj eU (d+7) 85 [.g 107,kW r] μ=some (.a i,μ')->Pk w F μ' K T tx (bl++z) ms (c+1)->Fm K K μ μ'->fK (bl++z) i=some (uG r)->G):G:=by
 refine(h.ba [.j []]).da (d:=d+4) hc (.a 5) _ (Hb r) λi z μ' p1 p2 p3 p4=>kk i μ' z ?_ p2 (Fm.ba.aT p3) p4
 refine e8 h.st λtr st ex=>?_
 have em:mid (r.2.2.1:Int)=((r.2.2.1+3:Nat):Int):=QW _;have ev':kW r=KZ (.z [r.1]) (.a r.2.1) r.2.2.1 (.a<|mid r.2.2.2):=by unfold kW;rw[em]
 refine my (Ry (d:=d) st (.z [r.1]) (.a r.2.1) (.a<|mid r.2.2.2) r.2.2.1 hr.2.2.1) λE1 u1 u2 u3 u4 u5=>fU (E:=[_,(188,KZ _ _ r.2.2.1 _)]) (E':=E1) UH (by rw[ev'];rfl) ?_<|.inl rfl
 rw[MK,ib u1];have e69:aP aj eU (d+6) 69 [.g 107,.a r.2.1] μ=some (.v [.a<|if r.2.1=7 then 8 else 10],μ):=by
  obtain o2|o2:=hr.2.1<;>rw[o2]
  .exact EM 7 8 fF
  .exact EM 9 10 fF
 have el:Ev (aP aj eU<|d+6) E1 μ (.len<|.u 191) (.a 0):=by
  have b:Nat.ble (List.length ([]:List V)) gH:=rfl;simp only[Ev,rD,mY,u4,b];rfl
 exact gP<|jk (aE u2) (h.bs 107 _ rfl rfl) rfl ii rfl (eY fJ<|eY (oO<|eY (aE u3)<|eY el<|eY (fn (.aR (aE u2)<|.aR (aE u5) .aS) e69)<|eY (fn (.aR (aE u2)<|.aR (aE u4) .aS)<|KU) gu) gu) p1
def Rz (hw:fR w) (r:PR) (hr:i5 r) {s0 s:Sx} (h:Se w F rr s0 n P R Q M N s) (hc:s0.c<=200) (hn:n<=11) (hp:k=R.length+1) (hp':k<=11) {E:Env} (h1:ci E 155=some (.g 107)) (h2:ci E 13=some (.g rr)) (j:Nat) {G:Prop}
  (kk:∀E' s',(match fi E true [188] (kW r)with|none=>none|some E'=>execs aj (aP aj eU<|d+20) xV E' s.μ)=some (.C,(E',s'.μ))->qr E E'->Se w F rr s0 (n+1) P (R++[(j,r)]) (Q++gB 2 r.2.2.1 (2*k+1) j++gB 1 r.2.2.2 (2*k+1) j) M N s'->G):G:=by
 have hc':=h.cN hc hn;have lQ:Q.length<=22:=al_81 h.lq<|mP 2 hn;refine h.ok.pk.bV (d:=d+19) hw (fB hc' ay) [r.1] λi z2 μ2 b1 b2 b3 b4=>IE (d:=d+13) b2 (Nat.succ_lt_succ<|fB hc' ay) r hr λb μ3 z3 a1 a2 a3 a4=>?_
 have e23:(s.T 23).length=R.length:=h.pr.1;refine a2.bW (d:=d+19) (t:=23) (v:=WS i b) ay ay (λh=>nomatch h) (by rw[e23];lia) ay (qX _ _ _) λμ4 K3 c1 c2 c3=>?_
 rw[e23,<-hp]at c1;refine wZ (d:=d+19) c2 (((h.own.fm b3).fm a3).fm c3) (fB (mO lQ) ay) 2 r.2.2.1 ⟨Int.le_trans ay<|Int.natCast_nonneg _,Int.ofNat_lt.mpr hr.2.2.1⟩ (2*k+1) j λμ5 d1 d2 d3=>wZ (d:=d+19) d2 d3 (fB (mO<|al_81 (Rw h.lq<|i8 _ _ _ _)<|lf<|mP 2 hn) ay) 1 r.2.2.2 hr.2.2.2 (2*k+1) j λμ6 f1 f2 f3=>kk (eP (eP (eP E 188<|kW r) 10<|.a (k:Nat)) 2<|.a (2*k+1:Nat)) ⟨μ6,K3,mo s.T 23<|s.T 23++[WS i b],s.tx++z2,s.bl++z3,s.ms,s.c+1+1⟩ ?_ ?_
  ⟨f2,h.ev.aU z2,qq.b8 (p:=(j,r)) (h.pr.aU z2 z3) b4 a4,f3,h.tm,h.tn,λx n1 n2 n3 n4 n5=>(oQ n3).trans<|h.fr x n1 n2 n3 n4 n5,h.ms,congrArg (·+1+1) h.cc,WQ h.lq (i8 _ _ _ _) (i8 _ _ _ _)⟩
 .show execs aj _ xV (eP E 188 (kW r)) s.μ=_;rw[MJ];have g107:=h.ok.bs 107 _ rfl rfl;have k0:f9 s.μ (kW r) (.a 0)=some (.z [r.1]):=by rfl
  have k2:∀μ,f9 μ (kW r) (.a 2)=some (.a (mid r.2.2.1)):=λZ=>by rfl
  have k3:∀μ,f9 μ (kW r) (.a 3)=some (.a (mid r.2.2.2)):=λZ=>by rfl
  exact(fQ (v:=.a (k:Nat)) (μ':=μ4) (jk (fx (aE (by exact h1)) g107 rfl ii rfl) (h.ok.bs 108 _ rfl rfl) rfl cls2 rfl (eY fJ (eY (oO (eY eT (eY (jk (fx (aE (by exact h1)) g107 rfl ii rfl) (h.ok.bs 110 _ rfl rfl) rfl nK rfl (eY (fo (aE (v:=kW r) (by rfl)) eT k0) gu) b1) (eY (n8 (eY (aE (by exact h1)) (eY (aE (by rfl)) gu)) a1) gu)))) gu)) c1)).trans<|(fQ (v:=.a (2*k+1:Nat)) (μ':=μ4) (fn (.aR fJ (.aR fJ (.aR (aE (by rfl)) .aS))) (Q5 k (al_81 hp' ay)))).trans<|(gi (v:=.B) (fn (.aR (aE (by exact h1)) (.aR (aE (by exact h2)) (.aR fJ (.aR (fo (aE (v:=kW r) (by rfl)) eT (k2 _)) (.aR (aE (by rfl)) .aS))))) d1)).trans<|(gi (v:=.B) (fn (.aR (aE (by exact h1)) (.aR (aE (by exact h2)) (.aR fJ (.aR (fo (aE (v:=kW r) (by rfl)) eT (k3 _)) (.aR (aE (by rfl)) .aS))))) f1)).trans fa
 .intro y hy;rcases hy with rfl|rfl|rfl|rfl<;>rfl
end
def QE (j:Nat):Nat->List ER->List QI
 |_,[]=>[]
 |n,r::rs=>gB 8 r.2.1 (2*n) j++gB 16 r.2.2 (2*n) j++QE j (n+1) rs
def QP (j:Nat):Nat->List PR->List QI
 |_,[]=>[]
 |n,r::rs=>gB 2 r.2.2.1 (2*n+1) j++gB 1 r.2.2.2 (2*n+1) j++QP j (n+1) rs
theorem xW (j:Nat):∀(d:List ER) (n:Nat) (r:ER) (Q:List QI),Q++QE j n (d++[r])=Q++QE j n d++gB 8 r.2.1 (2*(n+d.length)) j++gB 16 r.2.2 (2*(n+d.length)) j
 |[],n,r,Q=>by
  show Q++(gB 8 r.2.1 (2*n) j++gB 16 r.2.2 (2*n) j++[])=Q++[]++gB 8 r.2.1 (2*(n+0)) j++gB 16 r.2.2 (2*(n+0)) j;rw[gk,gk];exact(gA ..).symm
 |x::d,n,r,Q=>by
  show Q++(gB 8 x.2.1 (2*n) j++gB 16 x.2.2 (2*n) j++QE j (n+1) (d++[r]))=Q++(gB 8 x.2.1 (2*n) j++gB 16 x.2.2 (2*n) j++QE j (n+1) d)++_++_;rw[xW j d (n+1) r,kg,i9 n 1];simp only[gA];rfl
theorem xX (j:Nat):∀(d:List PR) (n:Nat) (r:PR) (Q:List QI),Q++QP j n (d++[r])=Q++QP j n d++gB 2 r.2.2.1 (2*(n+d.length)+1) j++gB 1 r.2.2.2 (2*(n+d.length)+1) j
 |[],n,r,Q=>by
  show Q++(gB 2 r.2.2.1 (2*n+1) j++gB 1 r.2.2.2 (2*n+1) j++[])=Q++[]++gB 2 r.2.2.1 (2*(n+0)+1) j++gB 1 r.2.2.2 (2*(n+0)+1) j;rw[gk,gk];exact(gA ..).symm
 |x::d,n,r,Q=>by
  show Q++(gB 2 x.2.2.1 (2*n+1) j++gB 1 x.2.2.2 (2*n+1) j++QP j (n+1) (d++[r]))=Q++(gB 2 x.2.2.1 (2*n+1) j++gB 1 x.2.2.2 (2*n+1) j++QP j (n+1) d)++_++_;rw[xX j d (n+1) r,kg,i9 n 1];simp only[gA];rfl
noncomputable def nP {α:Type} (j n:Nat) (l:List α):List V:=match l with
 |[]=>[]
 |_::_=>[.v [.a (j+2:Nat),.a n]]
section
variable{w:Hm} {F:Fr} {d:Nat} {ss:List St} {G:Prop} {s0 s:Sx} {n j rr:Nat} {P:List (Nat×ER)} {R:List (Nat×PR)} {Q:List QI} {M N:List V} {E:Env}
def BH {α β:Type} {d z all:List α} {r:α} (e:d++r::z=all) {P:List β} {f:α->β}:d.length+1<=all.length/\P.length+d.length=(P++d.map f).length:=⟨by rw[<-e,fj,kg];exact ik (lf<|ji _) _,by rw[fj,fk]⟩
def Y1 (hw:fR w) {ok:Sg->Bool} (hok:∀E (s:Sx),s.Ok w F->ok (E,s.μ)) (rows:List ER) (hr:∀r∈rows,jY r) (h:Se w F rr s0 n P R Q M N s) (hc:s0.c<=200) (hn:n+rows.length<=11) (hp:P.length+rows.length<=11) (h1:ci E 155=some (.g 107)) (h2:ci E 13=some (.g rr))
  (kk:∀E' s',fS ok (λv (s:Sg)=>match fi s.1 false [111,185,186,187] v with|none=>none|some E'=>execs aj (aP aj eU<|d+20) EO E' s.2) (rows.map oN) (E,s.μ)=some (.C,(E',s'.μ))->qr E E'->Se w F rr s0 (n+rows.length) (P++rows.map λr=>(j,r)) R (Q++QE j (P.length+1) rows) M N s'->G):G:=by
 refine nr (all:=rows) (turn:=λv (s:Sg)=>match fi s.1 false [111,185,186,187] v with|none=>none|some E'=>execs aj (aP aj eU<|d+20) EO E' s.2) oN (λd (σ:Sg)=>∃s:Sx,σ.2=s.μ/\qr E σ.1/\Se w F rr s0 (n+d.length) (P++d.map λr=>(j,r)) R (Q++QE j (P.length+1) d) M N s) (λd σ h=>h.elim λs h=>(congrArg (λμ=>ok (σ.1,μ)) h.1).trans<|hok σ.1 s h.2.2.ok) (λd r z σ G e hi k=>?_) rows [] (E,s.μ) rfl ⟨s,rfl,qr.aZ,by rw[List.map_nil,gk,show QE j (P.length+1) []=[]from rfl,gk];exact h⟩ λσ g hi=>?_
 .obtain⟨E',μ'⟩:=σ;refine gT hi λs1 e1 a h=>?_
  dsimp only at e1 a;subst e1;have l:=BH (P:=P) (f:=λr:ER=>(j,r)) e;refine Rx hw r (hr r<|e▸fL.mpr (.inr fA)) h hc (al_81 (ik (al_81 (kj _) l.1) n) hn) (k:=P.length+1+d.length) (by rw[<-l.2,i9]) (by rw[i9];exact al_81 (ik l.1 P.length) hp) ((a 155<|.inl rfl).trans h1) ((a 13<|.inr<|.inl rfl).trans h2) j λE1 s1 b1 b2 b3=>k (E1,s1.μ) b1 ⟨s1,rfl,a.aT b2,?_⟩
  rw[vV,xW,fj];exact b3
 .obtain⟨E',μ'⟩:=σ;refine gT hi λs1 e1 a h=>?_
  dsimp only at e1 a;subst e1;exact kk E' s1 g a h
def Y2 (hw:fR w) {ok:Sg->Bool} (hok:∀E (s:Sx),s.Ok w F->ok (E,s.μ)) (rows:List PR) (hr:∀r∈rows,i5 r) (h:Se w F rr s0 n P R Q M N s) (hc:s0.c<=200) (hn:n+rows.length<=11) (hp:R.length+rows.length<=11) (h1:ci E 155=some (.g 107)) (h2:ci E 13=some (.g rr))
  (kk:∀E' s',fS ok (λv (s:Sg)=>match fi s.1 true [188] v with|none=>none|some E'=>execs aj (aP aj eU<|d+20) xV E' s.2) (rows.map kW) (E,s.μ)=some (.C,(E',s'.μ))->qr E E'->Se w F rr s0 (n+rows.length) P (R++rows.map λr=>(j,r)) (Q++QP j (R.length+1) rows) M N s'->G):G:=by
 refine nr (all:=rows) (turn:=λv (s:Sg)=>match fi s.1 true [188] v with|none=>none|some E'=>execs aj (aP aj eU<|d+20) xV E' s.2) kW (λd (σ:Sg)=>∃s:Sx,σ.2=s.μ/\qr E σ.1/\Se w F rr s0 (n+d.length) P (R++d.map λr=>(j,r)) (Q++QP j (R.length+1) d) M N s) (λd σ h=>h.elim λs h=>(congrArg (λμ=>ok (σ.1,μ)) h.1).trans<|hok σ.1 s h.2.2.ok) (λd r z σ G e hi k=>?_) rows [] (E,s.μ) rfl ⟨s,rfl,qr.aZ,by rw[List.map_nil,gk,show QP j (R.length+1) []=[]from rfl,gk];exact h⟩ λσ g hi=>?_
 .obtain⟨E',μ'⟩:=σ;refine gT hi λs1 e1 a h=>?_
  dsimp only at e1 a;subst e1;have l:=BH (P:=R) (f:=λr:PR=>(j,r)) e;refine Rz hw r (hr r<|e▸fL.mpr (.inr fA)) h hc (al_81 (ik (al_81 (kj _) l.1) n) hn) (k:=R.length+1+d.length) (by rw[<-l.2,i9]) (by rw[i9];exact al_81 (ik l.1 R.length) hp) ((a 155<|.inl rfl).trans h1) ((a 13<|.inr<|.inl rfl).trans h2) j λE1 s1 b1 b2 b3=>k (E1,s1.μ) b1 ⟨s1,rfl,a.aT b2,?_⟩
  rw[vV,xX,fj];exact b3
 .obtain⟨E',μ'⟩:=σ;refine gT hi λs1 e1 a h=>?_
  dsimp only at e1 a;subst e1;exact kk E' s1 g a h
def IF (r:ER):jI (oN r) (oN r):=lZ (GL _)<|lZ (oM _)<|lZ (oM _)<|lZ (oM _) rfl
def IG (r:PR):jI (kW r) (kW r):=lZ (GL _)<|lZ (oM _)<|lZ (oM _)<|lZ (oM _)<|lZ rfl rfl
noncomputable def EP (x y t u b:Nat):St:=.M (.E .gt (.len<|.attr (.u 151) b)<|.y<|.a 0) [.H<|.Q (.attr (.u 155) 12) 162 [.S x<|.a t,.v [.D (.attr (.u 155) 100)<|.u 88,.I .R (.Q (.attr (.u 155) 12) 31 [.S y<|.a u])<|.y<|.a 1]]] []
def Hc (t u x y b:Nat) {S:List V} (h:s.Ok w F) (ho:ic rr S s.K s.μ) (t1:t≠1) (t10:t≠10) (t20:t≠20) (ht:t<60) (hl:(s.T t).length<100) (hu:(s.T u).length<100) (hj3:j<3) (h1:ci E 155=some (.g 107)) (h2:ci E 88=some (.a (64+j:Nat))) {α:Type} {f:α->V} (rows:List α) (hr:rows.length<100)
  (e1:ci E 151=some (.g k)) (e2:d' s.μ k=some (.U 4 fs)) (e3:ci fs b=some (.g o)) (e4:km [(213,46)] b=none) (e5:d' s.μ o=some (.j<|rows.map f))
  (kk:∀μ' K' T',(∀{ss},execs aj (aP aj eU<|d+20) (EP x y t u b::ss) E s.μ=execs aj (aP aj eU<|d+20) ss E μ')->Sx.Ok w F ⟨μ',K',T',s.tx,s.bl,s.ms,s.c⟩->ic rr S K' μ'->T' t=s.T t++nP j ((s.T u).length+1) rows->(∀x,x≠t->T' x=s.T x)->G):G:=by
 have el:Ev (aP aj eU<|d+20) E s.μ (.len<|.attr (.u 151) b) (.a rows.length):=by
  have:=qn (F:=aP aj eU (d+20)) (fx (aE e1) e2 e3 qB e4) e5 (by rw[fk];exact fB hr ay);rw[fk]at this;exact this
 cases rows with
 |nil=>exact kk s.μ s.K s.T (gn (t:=false) (fG el eT (by rfl)) rfl fa) h ho (gk _).symm λZ Z=>rfl
 |cons r0 rs=>
  refine h.pk.bW (d:=d+19) (v:=.v [.a (j+2:Nat),.a ((s.T u).length+1:Nat)]) t1 t10 (λe=>absurd e t20) (fB hl ay) ht (G9 _ _) λμ3 K3 b1 b2 b3=>e8 h.st λtr st ex=>?_
  have r3:=uE st j hj3;have g107:=h.bs 107 _ rfl rfl;have g108:=h.bs 108 _ rfl rfl;have p12:Ev (aP aj eU (d+20)) E s.μ (.attr (.u 155) 12) _:=fx (aE h1) g107 rfl ii rfl;have cnt:Ev (aP aj eU (d+20)) E s.μ (.Q (.attr (.u 155) 12) 31 [.S y (.a u)]) _:=oL p12 g108 rfl cls2 rfl (.aR fJ .aS) (qV st.t (fB hu ay));refine kk μ3 K3 _ (gn (t:=true) (fG (t:=true) el eT ?_) rfl ((gi (jk p12 g108 rfl cls2 rfl (eY fJ (eY (gv (.aR (fo (fx (aE h1) g107 rfl ii rfl) (aE h2) r3.1) (.aR (gL cnt eT lY) .aS))) gu)) b1)).trans fa)) b2 (ho.fm b3) Rs λZ hx=>oQ hx
  show some (decide ((0:Int)<((rs.length+1:Nat):Int)))=_;rw[fu (Int.natCast_pos.mpr (j5 _))]
def Y3:St:=.J false [111,185,186,187] 0 (.attr (.u 151) 125) (.y .B) EO
def Y4:St:=.J true [188] 0 (.attr (.u 151) 124) (.y .B) xV
def ML (hw:fR w) (hj3:j<3) (er:List ER) (pr:List PR) (her:∀r∈er,jY r) (hpr:∀r∈pr,i5 r) (hF1:d' (ma w F) (61+10*j)=some (.j<|er.map oN)) (hF2:d' (ma w F) (60+10*j)=some (.j<|pr.map kW)) (h:Se w F rr s0 n P R Q M N s) (hc:s0.c<=200)
  (hn:n+er.length+pr.length<=11) (hp:P.length+er.length<=11) (hr:R.length+pr.length<=11) (hm:M.length<10) (hN:N.length<10) {E1:Env} (k155:ci E1 155=some (.g 107)) (k13:ci E1 13=some (.g rr)) (k88:ci E1 88=some (.a (64+j:Nat))) (k151:ci E1 151=some (.g<|52+10*j))
  (kk:∀E' s',execs aj (aP aj eU<|d+20) [EP 19 43 18 20 125,Y3,EP 20 42 21 23 124,Y4] E1 s.μ=some (.C,(E',s'.μ))->ci E' 155=some (.g 107)->ci E' 13=some (.g rr)->
   Se w F rr s0 (n+er.length+pr.length) (P++er.map λr=>(j,r)) (R++pr.map λr=>(j,r)) (Q++QE j (P.length+1) er++QP j (R.length+1) pr) (M++nP j (P.length+1) er) (N++nP j (R.length+1) pr) s'->G):G:=by
 refine DD (Ro hw F j hj3) λfs t0 t0' t1 t2 t3 t4 t5 t6=>?_
 have sl:=slots hj3;have le:er.length<=11:=al_81 (k9 _ _) hp;have lp:pr.length<=11:=al_81 (k9 _ _) hr;refine Hc (d:=d) 18 20 19 43 125 h.ok h.own ay ay ay ay (by rw[h.tm];exact fB hm ay) (by rw[h.ev.1];exact fB (mO<|al_81 (gV _ _) hp) ay) hj3 k155 k88 er (fB (mO le) ay) k151 (h.ok.bs _ _ t0 t0') t4 rfl (h.ok.bs _ _ hF1 sl.2.2.2) λμ1 K1 T1 m1 m2 m3 m4 m5=>?_
 have s1:Se w F rr s0 n P R Q (M++nP j (P.length+1) er) N ⟨μ1,K1,T1,s.tx,s.bl,s.ms,s.c⟩:=⟨m2,h.ev.bO<|m5 20 ay,h.pr.bO<|m5 23 ay,m3,by rw[<-h.tm,<-h.ev.1];exact m4,(m5 21 ay).trans h.tn,λx n1 n2 n3 n4 n5=>(m5 x n4).trans<|h.fr x n1 n2 n3 n4 n5,h.ms,h.cc,h.lq⟩;have ge1:=s1.ok.bs _ _ hF1 sl.2.2.2;refine Y1 (d:=d) hw (j:=j) (ok:=λs':Sg=>fZ 0 (.g<|61+10*j) (src μ1<|.g<|61+10*j) s'.2) (λE' s' hs'=>by
  rw[kB ge1];exact i4 (hs'.bs _ _ hF1 sl.2.2.2)<|kQ IF er) er her s1 hc (al_81 (gV _ _) hn) hp k155 k13 λE2 s2 a1 a2 a3=>?_
 have q155:=(a2 155<|.inl rfl).trans k155;have q13:=(a2 13<|.inr<|.inl rfl).trans k13;have q88:=(a2 88<|.inr<|.inr<|.inl rfl).trans k88;have q151:=(a2 151<|.inr<|.inr<|.inr rfl).trans k151;refine Hc (d:=d) 21 23 20 42 124 a3.ok a3.own ay ay ay ay (by rw[a3.tn];exact fB hN ay) (by rw[a3.pr.1];exact fB (mO<|al_81 (gV _ _) hr) ay) hj3 q155 q88 pr (fB (mO lp) ay) q151 (a3.ok.bs _ _ t0 t0') t3 rfl (a3.ok.bs _ _ hF2 sl.2.2.1) λμ3 K3 T3 v1 v2 v3 v4 v5=>?_
 have s3:Se w F rr s0 (n+er.length) (P++er.map λr=>(j,r)) R (Q++QE j (P.length+1) er) (M++nP j (P.length+1) er) (N++nP j (R.length+1) pr) ⟨μ3,K3,T3,s2.tx,s2.bl,s2.ms,s2.c⟩:=⟨v2,a3.ev.bO<|v5 20 ay,a3.pr.bO<|v5 23 ay,v3,(v5 18 ay).trans a3.tm,by rw[<-a3.tn,<-a3.pr.1];exact v4,λx n1 n2 n3 n4 n5=>(v5 x n5).trans<|a3.fr x n1 n2 n3 n4 n5,a3.ms,a3.cc,a3.lq⟩;have gp3:=s3.ok.bs _ _ hF2 sl.2.2.1;refine Y2 (d:=d) hw (j:=j) (ok:=λs':Sg=>fZ 0 (.g<|60+10*j) (src μ3<|.g<|60+10*j) s'.2) (λE' s' hs'=>by
  rw[kB gp3];exact i4 (hs'.bs _ _ hF2 sl.2.2.1)<|kQ IG pr) pr hpr s3 hc hn hr q155 q13 λE4 s4 b1 b2 b3=>?_
 exact kk E4 s4 (m1.trans<|(gK (x:=.g<|61+10*j) (y:=.B) (l:=er.map oN) (fx (aE k151) (s1.ok.bs _ _ t0 t0') t4 qB rfl) eT (by exact jc ge1) a1).trans<|v1.trans<|(gK (x:=.g<|60+10*j) (y:=.B) (l:=pr.map kW) (fx (aE q151) (s3.ok.bs _ _ t0 t0') t3 qB rfl) eT (by exact jc gp3) b1).trans fa) ((b2 155<|.inl rfl).trans q155) ((b2 13<|.inr<|.inl rfl).trans q13) b3
def BI (hw:fR w) (hj3:j<3) (er:List ER) (pr:List PR) (her:∀r∈er,jY r) (hpr:∀r∈pr,i5 r) (hF1:d' (ma w F) (61+10*j)=some (.j<|er.map oN)) (hF2:d' (ma w F) (60+10*j)=some (.j<|pr.map kW)) (h:Se w F rr s0 n P R Q M N s) (hc:s0.c<=200)
  (hn:n+er.length+pr.length<=11) (hp:P.length+er.length<=11) (hr:R.length+pr.length<=11) (hm:M.length<10) (hN:N.length<10) (h1:ci E 155=some (.g 107)) (h2:ci E 13=some (.g rr))
  (kk:∀E' s',execs aj (aP aj eU<|d+20) w0 (eP E 88<|.a (64+j:Nat)) s.μ=some (.C,(E',s'.μ))->ci E' 155=some (.g 107)->ci E' 13=some (.g rr)->
   Se w F rr s0 (n+er.length+pr.length) (P++er.map λr=>(j,r)) (R++pr.map λr=>(j,r)) (Q++QE j (P.length+1) er++QP j (R.length+1) pr) (M++nP j (P.length+1) er) (N++nP j (R.length+1) pr) s'->G):G:=
 ML hw hj3 er pr her hpr hF1 hF2 h hc hn hp hr hm hN (E1:=eP (eP E 88<|.a (64+j:Nat)) 151<|.g<|52+10*j) h1 h2 rfl rfl λE' s' g=>kk E' s'<|(fQ<|KX h.ok hj3 h1).trans g
end
end
section
open PySem PySem.W PyProof.Rows
noncomputable def nQ {α:Type} (n:Nat) (P:α->Prop):KasT α->Prop
 |.ret a=>P a
 |.ask i j k=>(i<n/\j<n/\i≠j)/\∀b,nQ n P<|k b
theorem nQ.bE {α β:Type} {n:Nat} {P:α->Prop} {Q:β->Prop} {f:α->KasT β}:∀{t:KasT α},nQ n P t->(∀a,P a->nQ n Q (f a))->nQ n Q (t.bind f)
 |.ret a,h,g=>g a h
 |.ask i j k,h,g=>⟨h.1,λb=>nQ.bE (h.2 b) g⟩
def PA (n:Nat) (p:Array Nat):Prop:=p.Perm (List.range n).toArray
def PA.bh (h:PA n p):p.toList.Perm (List.range n):=by
 have:=Array.Perm.toList h;simpa using this
def PA.bf (h:PA n p):p.size=n:=by
 have:=h.bh.length_eq;simpa using this
def PA.lt (h:PA n p) (hi:i<n):p.getD i 0<n:=by
 refine ia λG kk=>?_
 have hs:=h.bf;have:p.getD i 0∈p.toList:=by
  rw[Array.getD_eq_getD_getElem?,Array.getElem?_eq_getElem eZ];simp
 have:=h.bh.mem_iff.mp this;apply kk;simpa using this
def PA.ne (h:PA n p) (hi:i<n) (hj:j<n) (hne:i≠j):p.getD i 0≠p.getD j 0:=by
 have hs:=h.bf;have nd:=h.bh.nodup_iff.mpr List.nodup_range;rw[Array.getD_eq_getD_getElem?,Array.getElem?_eq_getElem eZ,Array.getD_eq_getD_getElem?,Array.getElem?_eq_getElem eZ];intro e;apply hne;have li:i<p.toList.length:=by simpa[hs]using hi
 have lj:j<p.toList.length:=by simpa[hs]using hj
 have e':p.toList[i]=p.toList[j]:=by simpa using e
 have pw:=List.pairwise_iff_getElem.mp nd;obtain q|q|q:=Nat.lt_trichotomy i j
 .exact absurd e' (pw i j li lj q)
 .exact q
 .exact absurd e'.symm (pw j i lj li q)
def PA.cW (h:PA n p) (i j:Nat):PA n (kas_rev p i j):=Array.Perm.trans (mirror_perm _ _ _ _) h
def PA.eF (h:PA n p) (i j:Nat):PA n (bubble p i j):=Array.Perm.trans (bubble_perm _ _ _) h
def WT {n f N:Nat} (h1:1<=n) (h2:n+(f+1)<=N) {G:Prop} (k:n<N->n-1<N->n-1≠n->n≠n-1->n+1+f<=N->1<=n+1->n<=N->G):G:=
 have a:n<N:=fB (Nat.lt_add_of_pos_right<|j5 f) h2;have b:n-1<n:=Nat.sub_lt h1 Nat.one_pos
 k a (lc b a) (jq b) (Nat.ne_of_gt b) (al_81 (la (by rw[jg,ij 1])) h2) (j5 n) (iz a)
def hfl {l r k:Nat} (h:¬l>=r) (hr:r<=k):(l+r)/2<k:=Nat.div_lt_of_lt_mul<|fB (Nat.add_lt_add_right (Nat.lt_of_not_le h) r) (by rw[Nat.two_mul];exact gR hr hr)
theorem BJ {N:Nat} {p:Array Nat} (h:PA N p):∀(f n:Nat),1<=n->n+f<=N->nQ N (λm=>n<=m/\m<=n+f) (kas_asc p f n)
 |0,n,_,_=>⟨fX _,fX _⟩
 |f+1,n,h1,h2=>WT h1 h2 λm1 m2 m3 m4 m5 m6 m7=>⟨⟨h.lt ‹_›,h.lt ‹_›,h.ne ‹_› ‹_› ‹_›⟩,λb=>by
  cases b with
  |true=>exact⟨fX _,gV _ _⟩
  |false=>
   have:=BJ h f (n+1) ‹_› ‹_›;have:=this.bE (Q:=λm=>n<=m/\m<=n+(f+1)) (f:=λa=>KasT.ret a) λa q=>(⟨Nat.le_of_succ_le q.1,al_81 q.2<|la (by rw[jg,ij 1])⟩:n<=a/\a<=n+(f+1))
   have e:∀t:KasT Nat,t.bind (λa=>KasT.ret a)=t:=by
    intro t
    induction t with
    |ret a=>rfl
    |ask i j k ih=>show KasT.ask i j _=_;congr 1;funext b;exact ih b
   simp only[e]at this;exact this⟩
theorem uH {N:Nat}:∀(f:Nat) (p:Array Nat) (n q:Nat),PA N p->1<=n->n+f<=N->nQ N (λr:Array Nat×Nat×Nat=>PA N r.1/\n<=r.2.1/\r.2.1<=N) (kas_desc f p n q)
 |0,p,n,q,h,_,h2=>⟨h,fX _,h2⟩
 |f+1,p,n,q,h,h1,h2=>by
  refine WT h1 h2 λm1 m2 m3 m4 m5 m6 m7=>?_
  have wk:∀{t:KasT (Array Nat×Nat×Nat)},nQ N (λr:Array Nat×Nat×Nat=>PA N r.1/\n+1<=r.2.1/\r.2.1<=N) t->nQ N (λr:Array Nat×Nat×Nat=>PA N r.1/\n<=r.2.1/\r.2.1<=N) t:=by
   intro t
   induction t with
   |ret a=>exact λg=>⟨g.1,Nat.le_of_succ_le g.2.1,g.2.2⟩
   |ask i j k ih=>exact λg=>⟨g.1,λb=>ih b<|g.2 b⟩
  refine⟨⟨h.lt ‹_›,h.lt ‹_›,h.ne ‹_› ‹_› ‹_›⟩,λb=>?_⟩;cases b with
  |true=>
   show nQ N _<|if true=true then _ else _;rw[fv rfl];split
   .exact wk<|uH f _ (n+1) 0 (h.cW _ _) ‹_› ‹_›
   .exact wk<|uH f _ (n+1) 0 h ‹_› ‹_›
  |false=>
   refine⟨⟨h.lt ‹_›,h.lt ‹_›,h.ne ‹_› ‹_› ‹_›⟩,λc=>?_⟩;cases c with
   |true=>exact⟨h,fX _,m7⟩
   |false=>exact wk<|uH f _ (n+1) (q+1) h ‹_› ‹_›
abbrev CR (N:Nat) (r:Nat×Array Nat):Prop:=PA N r.2/\1<=r.1/\r.1<=N
def BK (h:PA N p) (h1:1<=n) (h2:n<=N):nQ N (CR N) (kas_tail3 n N p):=by
 have e:=la<|Nat.add_sub_of_le h2;exact(BJ (h.cW 0 n) _ n h1 e).bE λm hm=>⟨h.cW 0 n,al_81 h1 hm.1,al_81 hm.2 e⟩
def vl (h:PA N p) (h1:1<=n) (h2:n<N):nQ N (CR N) (kas_descPart n N p):=by
 refine(uH _ p _ 0 h (j5 n)<|la<|Nat.add_sub_of_le h2).bE λr hr=>?_
 split
 .exact BK (hr.1.cW _ _) (al_81 (j5 n) hr.2.1) hr.2.2
 .exact BK hr.1 (al_81 (j5 n) hr.2.1) hr.2.2
def IH {N:Nat} {p:Array Nat} (hN:1<=N) (h:PA N p):nQ N (CR N) (kas_count N p):=by
 have e:=la<|Nat.add_sub_of_le hN;refine(BJ h (N-1) 1 (fX 1) e).bE λn hn=>?_
 split
 .rename_i q;exact⟨h,hn.1,al_81 hn.2 e⟩
 .rename_i q;have hne:n≠N:=λe=>q (by rw[e];exact beq_self_eq_true N)
  have hlt:n<N:=Nat.lt_of_le_of_ne (al_81 hn.2 e) hne;have hl2:n-1<N:=fq (Nat.sub_le _ _) hlt;split
  .refine⟨⟨h.lt ‹_›,h.lt ‹_›,h.ne ‹_› ‹_› eZ⟩,λc=>?_⟩;cases c with
   |true=>exact⟨h,hn.1,iz ‹_›⟩
   |false=>exact vl (h.cW _ _) hn.1 hlt
  .exact vl h hn.1 hlt
set_option tactic.hygienic true in
theorem vW {N k:Nat} {p:Array Nat} (h:PA N p) (hk:k<N):∀(f l r:Nat),r<=k->nQ N (λZ=>True) (kas_place p k f l r)
 |0,l,r,_=>trivial
 |f+1,l,r,hr=>by
  show nQ N _<|if l>=r then _ else _;split
  .trivial
  .rename_i hlr;have m:=hfl hlr hr;have m1:=lc m hk;have m2:=Nat.ne_of_gt m;have m3:=iz m;refine⟨⟨h.lt hk,h.lt ‹_›,h.ne hk ‹_› ‹_›⟩,λc=>?_⟩;cases c with
   |true=>exact vW h hk f l _ ‹_›
   |false=>exact vW h hk f _ r hr
theorem Dk {N:Nat}:∀(f:Nat) (p:Array Nat) (k:Nat),PA N p->k+f<=N->nQ N (PA N) (kas_bin f p k)
 |0,p,k,h,_=>h
 |f+1,p,k,h,hk=>(vW h eZ k 0 k<|fX _).bE λl Z=>Dk f _ (k+1) (h.eF _ _) eZ
set_option tactic.hygienic true in
def MM (hN:1<=N):nQ N (PA N) (kas_sort N):=by
 refine(IH hN<|Array.Perm.refl _).bE λr hr=>?_
 split
 .rename_i hq;exact Dk _ _ _ hr.1<|la<|Nat.add_sub_of_le<|Nat.max_le.2 ⟨iz hq,hN⟩
 .exact hr.1
theorem Dl {α:Type} {n:Nat} {P:α->Prop} {f:Nat->Nat->Option Bool} (hf:∀i j,i<n->j<n->i≠j->∃b,f i j=some b):∀{t:KasT α},nQ n P t->∃a,sT f t=some a/\P a
 |.ret a,h=>⟨a,rfl,h⟩
 |.ask i j k,h=>by
  obtain⟨b,hb⟩:=hf i j h.1.1 h.1.2.1 h.1.2.2;exact e8 (Dl hf<|h.2 b) λa ha hp=>⟨a,by rw[Fy,hb];exact ha,hp⟩
def xY:∀(l:List V),(List.range l.length).map (λi=>l.getD i .B)=l:=λl=>by
 apply List.ext_getElem
 .simp
 .intro i h1 h2;simp[fk,List.length_range]at h1;simp[ka h1]
def zc (n:Nat) (hn:n<=63) (hf:∀i j,i<n->j<n->i≠j->∃b,f i j=some b):∃p:List Nat,p.Perm (List.range n)/\∀l:List V,l.length=n->lg l f=some (p.map λi=>l.getD i .B):=by
 by_cases h1:n<=1
 .refine⟨List.range n,List.Perm.refl _,λl hl=>?_⟩;subst hl;unfold lg;rw[t7 h1];rw[xY]
 .refine e8 (Dl hf<|MM eZ) λp hp hP=>⟨p.toList,hP.bh,λl hl=>?_⟩
  subst hl;unfold lg;rw[show Nat.ble l.length 1=false from pU.mpr λq=>h1<|iw q,t7 hn];rw[hp]
end
section
open PySem
noncomputable def Hd:Nat->List QI->List (Int×Int)
 |_,[]=>[]
 |k,q::r=>((q.2.2.1:Int),(k:Int))::Hd (k+1) r
abbrev ps (Q:List QI):List (Int×Int):=Hd 0 Q
noncomputable def na (k:Nat) (q:QI):V:=.v [.v [.a q.2.2.1],.a k]
def js:Nat->List QI->List V
 |_,[]=>[]
 |k,q::r=>na k q::js (k+1) r
theorem sk:∀(k:Nat) (Q:List QI),(js k Q).length=Q.length
 |_,[]=>rfl
 |k,_::r=>congrArg Nat.succ (sk (k+1) r)
theorem vm:∀(k:Nat) (l:List QI) (q:QI),js k (l++[q])=js k l++[na (k+l.length) q]
 |_,[],_=>rfl
 |k,a::r,q=>by
  show na k a::js (k+1) (r++[q])=_;rw[vm (k+1) r q,show k+1+r.length=k+(a::r).length by simp;lia];rfl
theorem RA:∀(k:Nat) (Q:List QI),fY (oz DV) (js k Q)=some (Hd k Q)
 |_,[]=>rfl
 |k,_::r=>gM rfl (RA (k+1) r)
def Cu (Q:List QI):jx (js 0 Q)=lg (js 0 Q) (jC<|ps Q):=by
 cases Q with
 |nil=>rfl
 |cons q r=>
  have h1:fY mX (js 0 (q::r))=none:=rfl;have h2:fY (oz mX) (js 0 (q::r))=none:=rfl;simp[jx,h1,h2,RA]
theorem BL:∀(Q:List QI) (k i:Nat),i<Q.length->∃a:Int,(Hd k Q)[i]?=some (a,((k+i:Nat):Int))
 |q::r,k,0,_=>⟨_,rfl⟩
 |q::r,k,i+1,h=>by
  obtain⟨a,ha⟩:=BL r (k+1) i (by simpa using h);exact⟨a,by rw[show k+(i+1)=k+1+i by lia];exact ha⟩
def He (Q:List QI):∀i j,i<Q.length->j<Q.length->i≠j->∃b,jC (ps Q) i j=some b:=by
 intro i j hi hj hne;obtain⟨a,ha⟩:=BL Q 0 i hi;obtain⟨b,hb⟩:=BL Q 0 j hj;rw[show jC (ps Q) i j=sU (a,((0+i:Nat):Int)) (b,((0+j:Nat):Int))by rw[jC,ha,hb];rfl];simp only[sU];cases decide (a=b)with
 |false=>exact⟨_,rfl⟩
 |true=>
  rw[fz<|show¬(_=_)by lia];exact⟨_,rfl⟩
structure pO (Q:List QI) (p:List Nat):Prop where
 perm:p.Perm (List.range Q.length)
 by':∀l:List V,l.length=Q.length->lg l (jC (ps Q))=some (p.map λi=>l.getD i .B)
def pO.ex (Q:List QI) (h:Q.length<=63):∃p,pO Q p:=by
 exact e8 (zc Q.length h<|He Q) λp h1 h2=>⟨p,h1,h2⟩
theorem w7:∀(Q:List QI) (k i:Nat) (h:i<Q.length),(js k Q).getD i .B=na (k+i) Q[i]
 |q::r,k,0,_=>rfl
 |q::r,k,i+1,h=>by
  have:=w7 r (k+1) i (by simpa using h);rw[show k+(i+1)=k+1+i by lia];exact this
noncomputable def dQ:QI:=(0,0,0,0)
def pO.cZ (h:pO Q p):jx (js 0 Q)=some (p.map λi=>na i<|Q.getD i dQ):=by
 simp only[Cu,h.by' _<|sk 0 Q];congr 1;refine List.map_congr_left λi hi=>?_
 have hi':i<Q.length:=by simpa using h.perm.mem_iff.mp hi
 simp only[w7 Q 0 i hi',gJ];simp[ka hi']
section
variable{w:Hm} {F:Fr} {d:Nat} {ss:List St} {μ:H} {K:List (Nat×Nat)} {rr o:Nat} {S S':List V}
def Y5:ga eU 5=some wi:=rfl
def RB (q:QI):aP aj eU (d+2) 5 [.a 24,vQ q] μ=some (.v [.a q.2.2.1],μ++[.j [.a q.2.2.1]]):=by
 refine fU (E':=[(3,.a 24),(0,vQ q)]) Y5 rfl ?_<|.inl rfl;have c:=qY (FF:=aP aj eU<|d+1) (μ:=μ) (E:=[(3,.a 24),(0,vQ q)]) (single:=true) (t:=[10]) (k:=0) (a:=.D (.S 11 sV)<|.u 3) (c:=none) (e:=.D (.u 0) (.u 10)) (y:=.B) (l:=[2]) (λk:Nat=>.a k) (λ_:Nat=>.a q.2.2.1) (λZ=>true)
  (fo fJ (aE rfl) (by rfl)) eT rfl (λZ=>rfl) (λk hk=>by
   have:k=2:=by simpa using hk
   subst this;exact⟨_,rfl,λL=>⟨by simp[zP],λZ=>fo (aE rfl) (aE rfl) (by rfl)⟩⟩) fF
 have hn:=hO μ (.j [.a q.2.2.1]);have b:Nat.ble (List.length ([.a q.2.2.1]:List V)) gH:=rfl;have c':ev aj _ _ _ μ=some (.g μ.length,μ++[.j [.a q.2.2.1]]):=c;refine gP ?_;rw[wh,c'];simp only[items,hn,b]
def ic.set (h:ic rr S K μ) (S':List V):ic rr S' K (fc μ rr<|.j S'):=⟨h.1,h.2.1,iW<|gh h.2.2⟩
def ic.cK (h:ic rr S K μ) (hne:o≠rr) (ob:O):ic rr S K (fc μ o ob):=⟨h.1,h.2.1,(fT hne).trans h.2.2⟩
def ic.ba (h:ic rr S K μ) (G:H):ic rr S K (μ++G):=⟨h.1,h.2.1,fh h.2.2⟩
def EQ:List St:=match nG.body with
 |[_,.J _ _ _ _ _ b,_]=>b
 |_=>[]
def ES:List St:=match nG.body with
 |[_,_,.J _ _ _ _ _ b]=>b
 |_=>[]
def MN:EQ=[.H<|.Z (.u 183)<|.v [.A 5 [.u 3,.D (.u 13)<|.u 10],.u 10]]:=rfl
def MO:ES=[.H<|.Q (.attr (.u 155) 12) 162 [.u 3,.D (.u 13)<|.D (.u 4)<|.y<|.a 1]]:=rfl
def w8 (E E':Env):Prop:=∀y,y=155\/y=13\/y=3\/y=183->ci E' y=ci E y
def w8.aZ:w8 E E:=λZ Z=>rfl
def w8.aT (a:w8 E E') (b:w8 E' E''):w8 E E'':=λy hy=>(b y hy).trans<|a y hy
def BM {Q:List QI} {k:Nat} (h:k<Q.length):fK (Q.map vQ) k=some (vQ Q[k]):=by
 induction Q generalizing k with
 |nil=>simp at h
 |cons q r ih=>cases k with
  |zero=>rfl
  |succ k=>exact ih (by simpa using h)
def RC {o x:Ex} (ho:Ev FF E μ o (.g k)) (hk:wg μ k) (hx:ev aj FF E x μ=some (v,μ1)) (hk1:d' μ1 k=some (.j l)) (hl:l.length<1000):ev aj FF E (.Z o x) μ=some (.B,fc μ1 k<|.j<|l++[v]):=by
 simp[zK,ho,hk,hx,kG,hk1,ip hl]
def as1 {Q:List QI} (hQ:Q.length<60) {ok:Sg->Bool} (hok:∀s,ok s) (hne:o≠rr) {s:Sx} (h:s.Ok w F) (h1:ic rr (Q.map vQ) s.K s.μ) (h2:ic o [] s.K s.μ) {E:Env} (a1:ci E 3=some (.a 24)) (a2:ci E 13=some (.g rr)) (a3:ci E 183=some (.g o)) {G:Prop}
  (kk:∀E' μ',fS ok (λv (s:Sg)=>match fi s.1 true [10] v with|none=>none|some E'=>execs aj (aP aj eU<|d+2) EQ E' s.2) (gZ (0:Nat) Q.length) (E,s.μ)=some (.C,(E',μ'))->w8 E E'->Sx.Ok w F {s with μ:=μ'}->ic rr (Q.map vQ) s.K μ'->ic o (js 0 Q) s.K μ'->G):G:=by
 refine Iw (n:=Q.length) (turn:=λv (s:Sg)=>match fi s.1 true [10] v with|none=>none|some E'=>execs aj (aP aj eU<|d+2) EQ E' s.2) (λk (σ:Sg)=>w8 E σ.1/\Sx.Ok w F {s with μ:=σ.2}/\ic rr (Q.map vQ) s.K σ.2/\ic o (js 0<|Q.take k) s.K σ.2) (λZ Z Z=>hok _) (λk σ G hk hi g=>?_) Q.length 0 (E,s.μ) (gJ _) ⟨w8.aZ,h,h1,h2⟩ λσ g hi=>kk σ.1 σ.2 g hi.1 hi.2.1 hi.2.2.1 (by have:=hi.2.2.2;rw[List.take_of_length_le (fX _)]at this;exact this)
 have q:=hi.2.2;have o1:=q.2.ba [.j [.a Q[k].2.2.1]];have r1:=q.1.ba [.j [.a Q[k].2.2.1]];have tk:js 0 (Q.take k)++[na k Q[k]]=js 0 (Q.take (k+1)):=by
  rw[List.take_succ_eq_append_getElem hk,vm,List.length_take,Nat.min_eq_left (iz hk),gJ]
 have ok2:Sx.Ok w F {s with μ:=fc (σ.2++[.j [.a Q[k].2.2.1]]) o (.j (js 0 (Q.take (k+1))))}:=Pk.own (Pk.ba hi.2.1 _) _ q.2.1 q.2.2.1;refine g (eP σ.1 10 (.a k),fc (σ.2++[.j [.a Q[k].2.2.1]]) o (.j (js 0 (Q.take (k+1))))) ?_ ⟨hi.1.aT λy hy=>?_,ok2,r1.cK hne _,o1.set _⟩
 .show execs aj _ EQ (eP σ.1 10 (.a k)) σ.2=_;rw[MN,<-tk];exact Eq.trans (gi (v:=.B) (RC (aE (by exact(hi.1 183 fF).trans a3)) (by simp only[wg,q.2.2.2]) (oO (eY (fn (.aR (aE (by exact(hi.1 3 fF).trans a1)) (.aR (fo (aE (v:=.g rr) (by exact(hi.1 13 fF).trans a2)) (aE (v:=.a k) (x:=10) rfl) ((jO q.1.2.2 eZ).trans (BM hk))) .aS)) (RB Q[k])) (eY (aE (v:=.a k) (x:=10) rfl) gu))) o1.2.2 (by rw[sk,List.length_take,Nat.min_eq_left (iz hk)];exact fB (lc hk hQ) ay))) fa
 .rcases hy with rfl|rfl|rfl|rfl<;>rfl
end
section
variable{w:Hm} {F:Fr} {d:Nat} {ss:List St} {μ:H} {K:List (Nat×Nat)} {rr o:Nat} {S S':List V}
def RD (q:QI):kR (vQ q):=qX _ _ _
structure So (w:Hm) (F:Fr) (rr:Nat) (S:List V) (s:Sx) (L:List V) (s':Sx):Prop where
 ok:s'.Ok w F
 own:ic rr S s'.K s'.μ
 t:s'.T 24=L
 fr:∀x,x≠24->s'.T x=s.T x
 e:s'.tx=s.tx/\s'.bl=s.bl/\s'.ms=s.ms/\s'.c=s.c
def as2 {Q:List QI} (hQ:Q.length<60) {ok:Sg->Bool} (hok:∀s,ok s) (p:List Nat) (hp:p.length<60) {s:Sx} {E:Env} (hi:∀i∈p,i<Q.length) (h:s.Ok w F) (h1:ic rr (Q.map vQ) s.K s.μ) (h24:s.T 24=[]) (a1:ci E 3=some (.a 24)) (a2:ci E 13=some (.g rr)) (a3:ci E 155=some (.g 107)) {G:Prop}
  (kk:∀E' s',fS ok (λv (s:Sg)=>match fi s.1 true [4] v with|none=>none|some E'=>execs aj (aP aj eU<|d+2) ES E' s.2) (p.map λi=>na i<|Q.getD i dQ) (E,s.μ)=some (.C,(E',s'.μ))->So w F rr (Q.map vQ) s (p.map λi=>vQ<|Q.getD i dQ) s'->G):G:=by
 refine nr (ok:=ok) (all:=p) (turn:=λv (s:Sg)=>match fi s.1 true [4] v with|none=>none|some E'=>execs aj (aP aj eU<|d+2) ES E' s.2) (λi=>na i<|Q.getD i dQ) (λd (σ:Sg)=>∃s',σ.2=s'.μ/\(ci σ.1 3=some (.a 24)/\ci σ.1 13=some (.g rr)/\ci σ.1 155=some (.g 107))/\So w F rr (Q.map vQ) s (d.map λi=>vQ<|Q.getD i dQ) s') (λZ Z Z=>hok _) (λdn i z σ G e hI k=>?_) p [] (E,s.μ) rfl ⟨s,rfl,⟨a1,a2,a3⟩,h,h1,h24,λZ Z=>rfl,rfl,rfl,rfl,rfl⟩ λσ g hI=>?_
 .obtain⟨E1,μ1⟩:=σ;refine gT hI λs1 e1 a h=>?_
  dsimp only at e1 a;subst e1;have hi':i<Q.length:=hi i<|e▸fL.mpr (.inr fA);have gd:Q.getD i dQ=Q[i]:=by rw[List.getD_eq_getElem?_getD,ka hi'];rfl
  have ld:dn.length<60:=fq (by rw[<-e,fj];exact gV _ _) hp;refine h.ok.pk.bW (d:=d+1) (t:=24) (v:=vQ<|Q.getD i dQ) ay ay (λh=>nomatch h) (by rw[h.t,fk];exact fB ld ay) ay (RD _) λμ3 K3 b1 b2 b3=>k (eP E1 4<|na i<|Q.getD i dQ,μ3) ?_ ⟨⟨μ3,K3,mo s1.T 24<|s1.T 24++[vQ<|Q.getD i dQ],s1.tx,s1.bl,s1.ms,s1.c⟩,rfl,a,b2,h.own.fm b3,(congrArg (λl=>l++[vQ<|Q.getD i dQ]) h.t).trans (by rw[hK];rfl),λx hx=>(oQ hx).trans (h.fr x hx),h.e⟩
  show execs aj _ ES (eP E1 4 _) s1.μ=_;rw[MO];have g107:=h.ok.bs 107 _ rfl rfl;have g108:d' s1.μ 108=some (.U 2 [(13,.g 109)]):=h.ok.bs 108 _ rfl rfl;exact Eq.trans (gi (jk (fx (aE (by exact a.2.2)) g107 rfl ii rfl) g108 rfl cls2 rfl (eY (aE (v:=.a 24) (by exact a.1)) (eY (fo (aE (v:=.g rr) (by exact a.2.1)) (fo (aE (v:=na i (Q.getD i dQ)) (by rfl)) eT (by rfl:f9 s1.μ (na i (Q.getD i dQ)) (.a 1)=some (.a i))) ((jO h.own.2.2 eZ).trans ((BM hi').trans (by rw[gd])))) gu)) b1)) fa
 .obtain⟨E1,μ1⟩:=σ;refine gT hI λs1 e1 a h=>?_
  dsimp only at e1;subst e1;exact kk E1 s1 g h
def UI:ga eU 82=some nG:=rfl
def Sx.Ok.lt {s:Sx} (h:s.Ok w F):∀q∈s.K,q.2<s.μ.length:=λZ hq=>h.pk.tb.lt hq
def Sx.Ok.fresh {s:Sx} (h:s.Ok w F) (l:List V):ic s.μ.length l s.K (s.μ++[.j l]):=⟨h.st.elim λZ q=>q.1.len,λq hq=>jq<|h.lt q hq,hO _ _⟩
def Hf {Q:List QI} (hs:pO Q p) (hQ:Q.length<60) {s:Sx} (h:s.Ok w F) (h1:ic rr (Q.map vQ) s.K s.μ) (h24:s.T 24=[]) {G:Prop}
  (kk:∀s',aP aj eU (d+3) 82 [.g 107,.a 24,.g rr] s.μ=some (.B,s'.μ)->So w F rr (Q.map vQ) s (p.map λi=>vQ<|Q.getD i dQ) s'->G):G:=by
 have pl:p.length=Q.length:=by rw[hs.perm.length_eq,List.length_range]
 have rlt:=gh h1.2.2;refine as1 (d:=d) hQ (ok:=λs':Sg=>fZ 2 (.a Q.length) (src (s.μ++[.j []])<|.a Q.length) s'.2) (λZ=>rfl) (Nat.ne_of_gt rlt) (s:={s with μ:=s.μ++[.j []]}) (Pk.ba h _) (h1.ba _) (h.fresh []) (E:=[(183,.g s.μ.length),(155,.g 107),(3,.a 24),(13,.g rr)]) rfl rfl rfl λE1 μ1 a1 a2 a3 a4 a5=>as2 (d:=d) hQ (ok:=λs':Sg=>fZ 0 (.w<|p.map λi=>na i<|Q.getD i dQ) (src μ1<|.w<|p.map λi=>na i<|Q.getD i dQ) s'.2) (λZ=>rfl) p (by rw[pl];exact hQ) (s:={s with μ:=μ1}) (λi hi=>List.mem_range.mp<|hs.perm.mem_iff.mp hi) a3 a4 h24 ((a2 3 fF).trans rfl) ((a2 13 fF).trans rfl) ((a2 155 fF).trans rfl) λE2 s2 b1 b2=>kk s2 (fU (E':=E2) UI rfl ?_<|.inr ⟨rfl,rfl⟩) ⟨b2.ok,b2.own,b2.t,b2.fr,b2.e⟩
 have el:=qn (F:=aP aj eU (d+2)) (E:=[(183,.g s.μ.length),(155,.g 107),(3,.a 24),(13,.g rr)]) (e:=.u 13) (aE rfl) (h1.ba [.j []]).2.2 (by rw[fk];exact fB hQ ay);rw[fk]at el;refine(gK el eT (GT (fB hQ ay)) a1).trans ?_;have es:Ev (aP aj eU (d+2)) E1 μ1 (.am (.u 183)) (.w (p.map λi=>na i (Q.getD i dQ))):=by
  have v1:mA μ1 (.g s.μ.length)=some (.w (p.map λi=>na i (Q.getD i dQ))):=by
   simp only[mA,a5.2.2,hs.cZ,Option.map]
  have v2:ci E1 183=some (.g s.μ.length):=(a2 183 fF).trans rfl;simp only[Ev,mY,vw,v2,v1]
 exact(gK es eT rfl b1).trans fa
def UJ:ga eU 84=some m8:=rfl
noncomputable def FE (e0 e1 e2:List ER):List (Nat×ER):=(e0.map λr=>(0,r))++(e1.map λr=>(1,r))++(e2.map λr=>(2,r))
noncomputable def FP (e0 e1 e2:List PR):List (Nat×PR):=(e0.map λr=>(0,r))++(e1.map λr=>(1,r))++(e2.map λr=>(2,r))
def FQ (p0 p1 p2:List PR) (e0 e1 e2:List ER):List QI:=QE 0 1 e0++QP 0 1 p0++QE 1 (e0.length+1) e1++QP 1 (p0.length+1) p1++QE 2 (e0.length+e1.length+1) e2++QP 2 (p0.length+p1.length+1) p2
def ET {α:Type} (e0 e1 e2:List α):List V:=nP 0 1 e0++nP 1 (e0.length+1) e1++nP 2 (e0.length+e1.length+1) e2
def n9 (j n:Nat) (l:List α):(nP j n l).length<=1:=by cases l<;>simp[nP]
def RE (hw:fR w) (hF:F=wU ⟨[p0,p1,p2],[e0,e1,e2],[i0,i1,i2]⟩) (oe0:∀r∈e0,jY r) (oe1:∀r∈e1,jY r) (oe2:∀r∈e2,jY r) (op0:∀r∈p0,i5 r) (op1:∀r∈p1,i5 r) (op2:∀r∈p2,i5 r)
  (hl:p0.length+p1.length+p2.length+(e0.length+e1.length+e2.length)<=11) (s:Sx) (h:s.Ok w F) (hc:s.c<=40) (h18:s.T 18=[]) (h20:s.T 20=[]) (h21:s.T 21=[]) (h23:s.T 23=[]) (h24:s.T 24=[]) (hs:pO (FQ p0 p1 p2 e0 e1 e2) p)
  {G:Prop} (kk:∀s0 s1 s2 rr n,aP aj eU (d+21) 84 [.g 107] s.μ=some (.B,s2.μ)->s0.T=s.T->s0.ms=s.ms->s2.c<=100->Se w F rr s0 n (FE e0 e1 e2) (FP p0 p1 p2) (FQ p0 p1 p2 e0 e1 e2) (ET e0 e1 e2) (ET p0 p1 p2) s1->So w F rr ((FQ p0 p1 p2 e0 e1 e2).map vQ) s1 (p.map λi=>vQ<|(FQ p0 p1 p2 e0 e1 e2).getD i dQ) s2->(FQ p0 p1 p2 e0 e1 e2).length<=22->G):G:=by
 have ok1:Sx.Ok w F {s with μ:=s.μ++[.j []]}:=Pk.ba h _;have se:Se w F s.μ.length {s with μ:=s.μ++[.j []]} 0 [] [] [] [] [] {s with μ:=s.μ++[.j []]}:=⟨ok1,⟨congrArg _ h20,λZ Z h=>nomatch h⟩,⟨congrArg _ h23,λZ Z h=>nomatch h⟩,h.fresh [],h18,h21,λZ Z Z Z Z Z=>rfl,rfl,rfl,ay⟩;have h8:0+e0.length+p0.length+e1.length+p1.length+e2.length+p2.length<=11:=by lia
 refine BI (d:=d) hw (j:=0) ay e0 p0 oe0 op0 (by rw[hF];rfl) (by rw[hF];rfl) se (al_81 hc ay) (lC<|lC<|lC<|lC h8) (by rw[nC];exact lC<|lC<|lC<|lC<|lC h8) (by rw[nC,gJ];exact lC<|lC<|lC hl) ay ay (E:=[(13,.g s.μ.length),(155,.g 107)]) rfl rfl λE1 s1 a1 a2 a3 a4=>BI (d:=d) hw (j:=1) ay e1 p1 oe1 op1 (by rw[hF];rfl) (by rw[hF];rfl) a4 (al_81 hc ay) (lC<|lC h8) (by simp only[k8,fk];exact lC<|lD hl) (by simp only[k8,fk];exact lC<|lC hl) (fq (n9 0 _ e0) ay) (fq (n9 0 _ p0) ay) a2 a3 λE2 s2 b1 b2 b3 b4=>BI (d:=d) hw (j:=2) ay e2 p2 oe2 op2 (by rw[hF];rfl) (by rw[hF];rfl) b4 (al_81 hc ay) h8 (by simp only[k8,fj,fk];exact lD hl) (by simp only[k8,fj,fk];exact lC hl) (by rw[fj];exact fq (gR (n9 0 _ e0)<|n9 1 _ e1) ay) (by rw[fj];exact fq (gR (n9 0 _ p0)<|n9 1 _ p1) ay) b2 b3 λE3 s3 c1 c2 c3 c4=>?_
 simp only[k8,nC,gJ,fj,fk]at c4;have hn:e0.length+p0.length+e1.length+p1.length+e2.length+p2.length<=11:=by rw[gJ]at h8;exact h8
 have lQ:(FQ p0 p1 p2 e0 e1 e2).length<=22:=al_81 c4.lq<|mP 2 hn;refine Hf (d:=d+17) (rr:=s.μ.length) hs (fq lQ ay) c4.ok c4.own ((c4.fr 24 ay ay ay ay ay).trans h24) λs4 d1 d2=>kk {s with μ:=s.μ++[.j []]} s3 s4 _ _ ?_ rfl rfl (by rw[d2.e.2.2.2,c4.cc];dsimp only;exact al_81 (gR hc<|mP 2 hn) ay) c4 d2 lQ
 refine fU (fl:=.C) (E:=[(155,.g 107)]) (E':=E3) UJ rfl ?_<|.inr ⟨rfl,rfl⟩;have g107:=ok1.bs 107 _ rfl rfl;have g119:d' (s.μ++[.j []]) 119=some (.j [.a 64,.a 65,.a 66]):=ok1.bs 119 _ rfl rfl;have st:∀s':Sx,s'.Ok w F->fZ 0 (.g 119) (src (s.μ++[.j []])<|.g 119) s'.μ:=λs' h'=>by
  rw[kB g119];exact i4 (h'.bs 119 _ rfl rfl) rfl
 refine(gK (single:=true) (t:=[88]) (k:=0) (a:=.attr (.u 155) 99) (b:=.y .B) (body:=w0) (x:=.g 119) (y:=.B) (l:=[.a 64,.a 65,.a 66]) (μ1:=s.μ++[.j []]) (μ':=s.μ++[.j []]) (E':=E3) (μ'':=s3.μ) (fx (E:=[(13,.g s.μ.length),(155,.g 107)]) (aE rfl) g107 rfl ii rfl) eT (by exact jc g119) ?_).trans ?_
 .exact f5 (st _ ok1) a1 (f5 (st s1 a4.ok) b1<|f5 (st s2 b4.ok) c1<|hV<|st s3 c4.ok)
 .exact(gi<|fn (.aR (aE c2)<|.aR fJ<|.aR (aE c3) .aS) d1).trans fa
end
def mr (T:Nat->List V) (so v:Nat) (mn:Bool):Prop:=(so<512/\∃t,so=256+t/\1<=v/\v<=(T t).length)\/(512<=so/\∃t n:Nat,(∀(d:Nat) (μ:H),aP aj eU (d+2) 11 [.a so,.a v] μ=some (.v [.a t,.a n],μ))/\((n=0/\mn)\/(1<=n/\n<=(T t).length)))
abbrev w9:=List Nat×Nat
noncomputable def vC (c:w9):V:=.v [.z c.1,.a c.2]
def EU (T:Nat->List V) (t k:Nat) (c:w9):Prop:=c.2<256\/(c.2<512/\∀(d:Nat) (μ:H),aP aj eU (d+1) 12 [.a t,.a k] μ=some (.O true,μ))\/
 (256<=c.2/\(∀(d:Nat) (μ:H),aP aj eU (d+1) 12 [.a t,.a k] μ=some (.O false,μ))/\∃mn,(∀μ,jt μ .V (.v [.a t,.z c.1]) mB=some mn)/\∀row∈T t,∃v:Nat,(∀μ,f9 μ row (.a k)=some (.a v))/\mr T c.2 v mn)
noncomputable def IJ (P:Nat->w9->Prop):Nat->List w9->Prop
 |_,[]=>True
 |k,c::r=>P k c/\IJ P (k+1) r
def lT (T:Nat->List V) (t:Nat):Prop:=∃cols:List w9,(∀μ,f9 μ nF (.a t)=some (.v<|cols.map vC))/\IJ (EU T t) 0 cols
section
variable{μ:H} {K:List (Nat×Nat)} {T:Nat->List V} {d t:Nat} {FF:fb} {E:Env} {ss:List St}
def K4:ga eU 14=some uW:=rfl
def UK (h:Tb μ K T) (hl:∀t,(T t).length<900) (hc:mr T so v mn):aP aj eU (d+3) 14 [.g 108,.a so,.a v,.O mn] μ=some (.O true,μ):=by
 obtain⟨hs,t,rfl,h1,h2⟩|⟨hs,t,n,hp,hn⟩:=hc
 .refine fU (E':=[(12,.g 108),(26,.a (256+t:Nat)),(8,.a v),(29,.O mn)]) K4 rfl ?_ (.inl rfl);refine sd (fG (t:=true) (aE rfl) fJ ?_) rfl ?_
  .show some _=_;rw[fu eZ]
  .refine gP (BD (fG (aE rfl) eT ?_)<|fG (aE rfl) (oL (aE rfl) h.s rfl cls2 rfl (.aR (v:=.a t) (gL (aE rfl) fJ ?_) .aS)<|qV h (by have:=hl t;lia)) ?_)
   .show some _=_;rw[fu eZ]
   .rw[GI,show _-256=(t:Int)by lia]
   .show some _=_;rw[fu eZ]
 .let E1:Env:=[(12,.g 108),(26,.a so),(8,.a v),(29,.O mn)];let E2:Env:=[(4,.v [.a t,.a n]),(12,.g 108),(26,.a so),(8,.a v),(29,.O mn)];refine fU (E':=E2) K4 rfl ?_ (.inl rfl);refine(gn (fG (t:=false) (aE rfl) fJ ?_) rfl fa).trans ?_
  .show some _=_;rw[fz eZ]
  refine(fQ (fn (.aR (aE rfl) (.aR (aE rfl) .aS)) (hp d μ))).trans ?_;have s1:f9 μ (.v [.a t,.a n]) (.a 1)=some (.a n):=by rfl
  have s0:f9 μ (.v [.a t,.a n]) (.a 0)=some (.a t):=by rfl
  refine(gn (fG (aE rfl) eT (by rfl)) rfl fa).trans ?_;have e1:Ev (aP aj eU (d+2)) E2 μ (.D (.u 4) (.y (.a 1))) _:=fo (aE rfl) eT s1;by_cases h0:n=0
  .subst h0;have hm:mn:=by obtain⟨_,q⟩|_:=hn;exact q;lia
   subst hm;exact sd (fG e1 eT (by rfl)) rfl (gP (aE rfl))
  .have hn':1<=n/\n<=(T t).length:=by obtain⟨q,_⟩|q:=hn;exact absurd q h0;exact q
   refine(gn (fG (t:=false) e1 eT ?_) rfl fa).trans ?_
   .show some _=_;rw[fz eZ]
   refine gP (BD (fG e1 eT ?_) (fG e1 (oL (aE rfl) h.s rfl cls2 rfl (.aR (fo (aE rfl) eT s0) .aS) (qV h (by have:=hl t;lia))) ?_))
   .show some _=_;rw[fu eZ]
   .show some _=_;rw[fu eZ]
noncomputable def kS:Nat->List V->List V
 |_,[]=>[]
 |k,v::r=>.v [.a k,v]::kS (k+1) r
theorem lG:∀(k:Nat) (l:List V),jV (k:Int) l=kS k l
 |_,[]=>rfl
 |k,v::r=>by
  show V.v [.a k,v]::jV ((k:Int)+1) r=_;simp only[show(k:Int)+1=((k+1:Nat):Int)by lia,lG (k+1) r];rfl
theorem quiet {ok:Sg->Bool} {turn:V->Sg->Option (Flow×Sg)} (I:Env->Prop) (hok:∀E,ok (E,μ)):∀(l:List V) (k:Nat) (E:Env),I E->(∀v∈l,∀(k:Nat) E,I E->∃E',turn (.v [.a k,v]) (E,μ)=some (.C,(E',μ))/\I E')->∃E',fS ok turn (kS k l) (E,μ)=some (.C,(E',μ))/\I E'
 |[],k,E,hE,_=>⟨E,hV<|hok E,hE⟩
 |v::r,k,E,hE,ht=>by
  exact e8 (ht v fA k E hE) λE1 a1 a2=>e8 (quiet I hok r (k+1) E1 a2 λu hu=>ht u<|gj _ hu) λE2 b1 b2=>⟨E2,f5 (hok E) a1 b1,b2⟩
theorem EV {α:Type}:∀{l:List α} {i:Nat},i<l.length->∃a,l[i]?=some a
 |a::r,0,_=>⟨a,rfl⟩
 |a::r,i+1,h=>EV (l:=r) (by simpa using h)
theorem Hg:∀l:List Int,fY mX (l.map .a)=some l
 |[]=>rfl
 |_::r=>gM rfl (Hg r)
theorem Hh:∀K:List (Nat×Nat),fY (λp:PyData×V=>rA p.1) (Kd K)=some ((K.map λp=>(p.1:Int)).map .a)
 |[]=>rfl
 |_::r=>gM rfl (Hh r)
def MQ (h:Tb μ K T):∃ts:List Nat,mA μ (.g 109)=some (.w (ts.map λt:Nat=>V.a t))/\∀t∈ts,t∈K.map Prod.fst:=by
 have hl:=h.len;obtain⟨p,hp,hs⟩:=zc K.length (nB ‹_› ay) (f:=rC<|K.map λp=>(p.1:Int)) (λi j hi hj Z=>by
  obtain⟨a,ha⟩:=EV (l:=K.map λp=>(p.1:Int)) (i:=i) (by simpa using hi);obtain⟨b,hb⟩:=EV (l:=K.map λp=>(p.1:Int)) (i:=j) (by simpa using hj);exact⟨decide (a<b),by simp only[rC,ha,hb];rfl⟩)
 refine⟨p.map λi=>(K.map Prod.fst).getD i 0,?_,λt ht=>?_⟩
 .have e:=hs ((K.map λp=>(p.1:Int)).map .a) fF;have e2:jx ((K.map λp=>(p.1:Int)).map .a)=some (p.map λi=>((K.map λp=>(p.1:Int)).map V.a).getD i .B):=by
   simp only[jx,Hg];exact e
  simp only[mA,h.d,Hh,e2,Option.map];congr 2;rw[iv,iv];refine List.map_congr_left λi hi=>?_
  have hi':i<K.length:=by simpa using hp.mem_iff.mp hi
  simp[ka hi']
 .obtain⟨i,hi,rfl⟩:=fW.mp ht;have hi':i<K.length:=by simpa using hp.mem_iff.mp hi
  have:(K.map Prod.fst).getD i 0=(K.map Prod.fst)[i]'(by simpa using hi'):=by simp[ka hi']
  simp only[this];exact List.getElem_mem _
def zd (h:Tb μ K T) (h1:ci E 12=some (.g 108)):∃ts:List Nat,Ev FF E μ (.am<|.attr (.u 12) 13) (.w (ts.map λt:Nat=>V.a t))/\∀t∈ts,t∈K.map Prod.fst:=by
 refine e8 (MQ h) λts a b=>⟨ts,?_,b⟩
 have e:Ev FF E μ (.attr _ 13) _:=fx (aE h1) h.s rfl cls2 rfl;simp[Ev]at e⊢;simp[mY,Fz,vw,h1,h.s,ci,cls2,km,a]
def IC (t:Nat) (E:Env):Prop:=ci E 12=some (.g 108)/\ci E 3=some (.a t)
theorem EW {ok:Sg->Bool} {turn:V->Sg->Option (Flow×Sg)} (P:Nat->w9->Prop) (I:Env->Prop) (hok:∀E,ok (E,μ)) (ht:∀k c E,P k c->I E->∃E',(turn (.v [.a (k:Nat),vC c]) (E,μ)=some (.C,(E',μ))\/turn (.v [.a (k:Nat),vC c]) (E,μ)=some (.af,(E',μ)))/\I E'):∀(cols:List w9) (k:Nat) (E:Env),I E->IJ P k cols->∃E',fS ok turn (kS k<|cols.map vC) (E,μ)=some (.C,(E',μ))/\I E'
 |[],k,E,hE,_=>⟨E,hV<|hok E,hE⟩
 |c::r,k,E,hE,hP=>by
  refine e8 (ht k c E hP.1 hE) λE1 a1 a2=>e8 (EW P I hok ht r (k+1) E1 a2 hP.2) λE2 b1 b2=>?_
  rcases a1 with a1|a1
  .exact⟨E2,f5 (hok E) a1 b1,b2⟩
  .exact⟨E2,C4 (hok E) a1 b1,b2⟩
theorem EX {ok:Sg->Bool} {turn:V->Sg->Option (Flow×Sg)} (I:Env->Prop) (hok:∀E,ok (E,μ)):∀(ts:List Nat) (E:Env),I E->(∀t∈ts,∀E,I E->∃E',turn (.a (t:Nat)) (E,μ)=some (.C,(E',μ))/\I E')->∃E',fS ok turn (ts.map λt:Nat=>V.a t) (E,μ)=some (.C,(E',μ))/\I E'
 |[],E,hE,_=>⟨E,hV<|hok E,hE⟩
 |t::r,E,hE,ht=>by
  exact e8 (ht t fA E hE) λE1 a1 a2=>e8 (EX I hok r E1 a2 λu hu=>ht u<|gj _ hu) λE2 b1 b2=>⟨E2,f5 (hok E) a1 b1,b2⟩
def UL:ga eU 10=some uV:=rfl
def UM:ga eU 13=some qI:=rfl
noncomputable def K5:List St:=[.M (.E .is (.A 11 [.D (.u 23)<|.y<|.a 1,.D (.u 0)<|.u 10])<|.y .B) [.F] []]
def z6:List St:=[.M (.E .ge (.D (.u 23)<|.y<|.a 1)<|.S 25<|.a 512) [.J false [22,0] 1 (.A 6 [.u 12,.u 3]) (.y .B) K5] []]
def UN:List St:=[.J false [10,23] 1 (.D (.S 24 nF)<|.u 3) (.y .B) z6]
def IK (h:Tb μ K T) (k:Nat) (c:w9) (E:Env) (hc:EU T t k c) (hE:IC t E):∃E',(match fi E false [10,23] (.v [.a k,vC c])with|none=>none|some E'=>execs aj (aP aj eU<|d+3) z6 E' μ)=some (.C,(E',μ))/\IC t E':=by
 obtain⟨k1,k2⟩:=hE;show∃E',execs aj (aP aj eU<|d+3) z6 (eP (eP E 10 (.a k)) 23 (vC c)) μ=some (.C,(E',μ))/\IC t E';generalize hE1:eP _ 23 _=E1;have q12:ci E1 12=some (.g 108):=by subst hE1;exact k1
 have q3:ci E1 3=some (.a t):=by subst hE1;exact k2
 have q10:ci E1 10=some (.a k):=by subst hE1;exact rfl
 have q23:ci E1 23=some (vC c):=by subst hE1;exact rfl
 have es:∀{E':Env},ci E' 23=some (vC c)->Ev (aP aj eU<|d+3) E' μ (.D _<|.y (.a 1)) _:=λq=>fo (aE q) eT (by rfl)
 by_cases hs:512<=c.2
 .obtain q|_|⟨_,_,mn,_,hr⟩:=hc
  .omega
  .omega
  .have key:∀ok:Sg->Bool,(∀E μ',(∀a,kf K t=some a->d' μ' a=d' μ a)->ok _)->∃E',fS ok (λv (s:Sg)=>match fi s.1 false [22,0] v with|none=>none|some E'=>execs aj (aP aj eU (d+2+1)) K5 E' s.2) _ _=some _/\_:=λok hok=>by
    refine quiet (λE'=>IC t E'/\ci E' 10=some _/\ci E' 23=some _) (λE'=>hok E' μ λZ Z=>rfl) (T t) 0 E1 ⟨⟨q12,q3⟩,q10,q23⟩ λv hv n E' hE'=>ia λG kk=>oq hE' λz0z r3 r4=>?_;obtain⟨r1,r2⟩:=z0z
    refine e8 (hr v hv) λx hx hcell=>?_
    obtain⟨q,_⟩|⟨_,tt,n',hp,_⟩:=hcell
    .apply kk;omega
    .apply kk;refine⟨eP (eP E' 22 (.a n)) 0 v,iI ?_ ⟨by simp only[jz,r1],by simp only[jz,r2]⟩ (by exact r3) (by exact r4)⟩;have e11:Ev _ (eP (eP E' 22 (.a n)) 0 v) μ (.A 11 [_,.D (.u 0) (.u 10)]) _:=fn (.aR (es (by exact r4)) (.aR (fo (aE (by rfl)) (aE (by exact r3)) (hx μ)) .aS)) (hp _ μ);exact(gn (fG e11 eT (by rfl)) rfl fa).trans fa
   obtain⟨x,c1,c2,c3,_,c5⟩:=nM h;refine nD (key (λs:Sg=>fZ 1 x _ s.2) (λE μ' hμ=>mH h c5 hμ (.inr rfl))) λE' g1 g2 Z Z=>?_
   have c2':im μ 1 x .B=some (kS 0 (T t)):=by rw[c2,<-lG];rfl
   refine⟨E',(gn (fG (t:=true) (es q23) fJ ?_) rfl ((gK (fn (.aR (aE q12) (.aR (aE q3) .aS)) c1) eT c2' g1).trans fa)).trans fa,g2⟩;show some _=_;rw[fu (by omega)]
 .refine⟨E1,(gn (fG (t:=false) (es q23) fJ ?_) rfl fa).trans fa,q12,q3⟩;show some _=_;rw[fz (by omega)]
def MR (h:Tb μ K T) (hT:∀t,T t≠[]->lT T t) (x:V):aP aj eU (d+4) 10 [.g 108,x] μ=some (.B,μ):=by
 obtain⟨ts,es,hts⟩:=zd (E:=[(12,.g 108),_]) h rfl;obtain⟨E',g1,g2⟩:=EX (ok:=λs:Sg=>fZ 0 (.w _) _ s.2) (turn:=λv (s:Sg)=>match fi s.1 true [3] v with|none=>none|some E'=>execs aj _ UN E' s.2) (λE=>ci E 12=some _) (λZ=>rfl) ts [(12,.g 108),_] rfl (λt ht E hE=>by
  obtain⟨p,hp,rfl⟩:=fW.mp<|hts t ht;refine e8 (hT _<|h.ne p hp) λcols hc ha=>?_
  obtain⟨E',c1,c2⟩:=EW (ok:=λs:Sg=>fZ 1 (.v _) _ s.2) (turn:=λv (s:Sg)=>match fi s.1 false [10,23] v with|none=>none|some E'=>execs aj (aP aj eU<|d+3) z6 E' s.2) _ (IC p.1) (λZ=>rfl) (λk c E hk hE=>by
   obtain⟨E',a,b⟩:=IK h k c E hk hE;exact⟨E',.inl a,b⟩) cols 0 (eP E 3 (.a p.1)) ⟨by simp[jz,hE],by simp[jz]⟩ ha
  refine⟨E',?_,c2.1⟩;refine(gK (fo fJ (aE (by rfl)) (hc μ)) eT ?_ c1).trans fa;rw[<-lG];rfl)
 refine fU (E':=E') UL rfl ?_ (.inr ⟨rfl,rfl⟩);exact(gK es eT rfl g1).trans fa
end
section
variable{μ:H} {K:List (Nat×Nat)} {T:Nat->List V} {d t:Nat} {FF:fb} {E:Env} {ss:List St}
noncomputable def K6:List St:=[.M (.aD<|.A 14 [.u 12,.D (.u 23)<|.y<|.a 1,.D (.u 0)<|.u 10,.u 29]) [.F] []]
def uI:List St:=[.M (.Y false [.E .lt (.D (.u 23)<|.y<|.a 1)<|.S 28<|.a 256,.A 12 [.u 3,.u 10]]) [.af] [],.G 29<|.E .V (.v [.u 3,.D (.u 23)<|.y<|.a 0])<|.S 30 mB,.J false [22,0] 1 (.A 6 [.u 12,.u 3]) (.y .B) K6]
def UO:List St:=[.J false [10,23] 1 (.D (.S 24 nF)<|.u 3) (.y .B) uI]
def EY {t:Bool} (h:ev aj FF E c μ=some (v,μ')) (ht:ix μ' v=some t) (h2:execs aj FF (cond t a b) E μ'=some (.af,(E',μ''))):execs aj FF (.M c a b::ss) E μ=some (.af,(E',μ'')):=by
 cases t<;>simp[i7,FK,h,ht]<;>(dsimp[cond]at h2;rw[h2])
def IL (h:Tb μ K T) (hl:∀t,(T t).length<900) (k:Nat) (c:w9) (E:Env) (hc:EU T t k c) (hE:IC t E):∃E',((match fi E false [10,23] (.v [.a k,vC c])with|none=>none|some E'=>execs aj (aP aj eU (d+3)) uI E' μ)=some (.C,(E',μ))\/(match fi E false [10,23] (.v [.a k,vC c])with|none=>none|some E'=>execs aj (aP aj eU (d+3)) uI E' μ)=some (.af,(E',μ)))/\IC t E':=by
 obtain⟨k1,k2⟩:=hE;show∃E',(execs aj _ uI (eP (eP E 10 (.a k)) 23 (vC c)) μ=_\/execs aj _ uI (eP (eP E 10 (.a k)) 23 (vC c)) μ=_)/\_;generalize hE1:eP _ 23 _=E1;have q12:ci E1 12=some (.g 108):=by subst hE1;exact k1
 have q3:ci E1 3=some (.a t):=by subst hE1;exact k2
 have q10:ci E1 10=some (.a k):=by subst hE1;exact rfl
 have q23:ci E1 23=some (vC c):=by subst hE1;exact rfl
 have es:∀{E':Env},ci E' 23=some (vC c)->Ev (aP aj eU (d+3)) E' μ (.D (.u 23) (.y (.a 1))) _:=λq=>fo (aE q) eT (by rfl)
 have xc:execs aj (aP aj eU (d+3)) [.af] E1 μ=some (.af,(E1,μ)):=by simp only[i7,LQ]
 obtain q|⟨q,hq⟩|⟨q,hq,mn,hmn,hr⟩:=hc
 .refine⟨E1,.inr (EY (wY (fG (es q23) fJ ?_)) rfl xc),q12,q3⟩;show some _=_;rw[fu eZ]
 .by_cases q':c.2<256
  .refine⟨E1,.inr (EY (wY (fG (es q23) fJ ?_)) rfl xc),q12,q3⟩;show some _=_;rw[fu eZ]
  .refine⟨E1,.inr (EY (mG (fG (es q23) fJ ?_) (fn (.aR (aE q3) (.aR (aE q10) .aS)) (hq (d+2) μ))) rfl xc),q12,q3⟩;show some (decide (_<(256:Int)))=_;rw[fz eZ]
 .have e0:Ev (aP aj eU (d+3)) E1 μ (.E .V (.v [.u 3,.D (.u 23) (.y (.a 0))]) (.S 30 mB)) (.O mn):=fG (gv (.aR (aE q3) (.aR (fo (aE q23) eT (by rfl:f9 μ (vC c) (.a 0)=some (.z c.1))) .aS))) fJ (hmn μ);generalize hE2:eP E1 29 (.O mn)=E2;have r12:ci E2 12=some (.g 108):=by subst hE2;exact q12
  have r3:ci E2 3=some (.a t):=by subst hE2;exact q3
  have r10:ci E2 10=some (.a k):=by subst hE2;exact q10
  have r23:ci E2 23=some (vC c):=by subst hE2;exact q23
  have r29:ci E2 29=some (.O mn):=by subst hE2;exact rfl
  have key:∀ok:Sg->Bool,(∀E μ',(∀a,kf K t=some a->d' μ' a=d' μ a)->ok (E,μ'))->∃E',fS ok (λv (s:Sg)=>match fi s.1 false [22,0] v with|none=>none|some E'=>execs aj (aP aj eU (d+2+1)) K6 E' s.2) (kS 0 (T t)) (E2,μ)=some (.C,(E',μ))/\(IC t E'/\ci E' 10=some (.a k)/\ci E' 23=some (vC c)/\ci E' 29=some (.O mn)):=λok hok=>by
   refine quiet (λE'=>IC t E'/\ci E' 10=some (.a k)/\ci E' 23=some (vC c)/\ci E' 29=some (.O mn)) (λE'=>hok E' μ λZ Z=>rfl) (T t) 0 E2 (iI ⟨r12,r3⟩ r10 r23 r29) λv hv n E' hE'=>ia λG kk=>DC hE' λz0z u3 u4 u5=>?_;obtain⟨u1,u2⟩:=z0z
   refine e8 (hr v hv) λx hx hcell=>?_
   apply kk;refine⟨eP (eP E' 22 (.a n)) 0 v,jj ?_ ⟨by simp only[jz,u1],by simp only[jz,u2]⟩ (by exact u3) (by exact u4) (by exact u5)⟩;have e14:Ev (aP aj eU (d+2+1)) (eP (eP E' 22 (.a n)) 0 v) μ (.A 14 [.u 12,.D (.u 23) (.y (.a 1)),.D (.u 0) (.u 10),.u 29]) (.O true):=fn (.aR (aE (by exact u1)) (.aR (es (by exact u4)) (.aR (fo (aE (by rfl)) (aE (by exact u3)) (hx μ)) (.aR (aE (by exact u5)) .aS)))) (UK h hl hcell);exact(gn (ED e14 rfl) rfl fa).trans fa
  obtain⟨x,c1,c2,c3,_,c5⟩:=nM h;refine nD (key (λs:Sg=>fZ 1 x (src μ x) s.2) (λE μ' hμ=>mH h c5 hμ (.inr rfl))) λE' g1 g2 Z Z=>?_
  have c2':im μ 1 x .B=some (kS 0 (T t)):=by rw[c2,<-lG];rfl
  refine⟨E',.inl ?_,g2⟩;refine(gn (mG (fG (es q23) fJ ?_) (fn (.aR (aE q3) (.aR (aE q10) .aS)) (hq (d+2) μ))) rfl fa).trans ?_
  .show some (decide (_<(256:Int)))=_;rw[fz eZ]
  rw[fQ e0,hE2];exact(gK (fn (.aR (aE r12) (.aR (aE r3) .aS)) c1) eT c2' g1).trans fa
def EZ (h:Tb μ K T) (hl:∀t,(T t).length<900) (hT:∀t,T t≠[]->lT T t) (x:V):aP aj eU (d+4) 13 [.g 108,x] μ=some (.B,μ):=by
 obtain⟨ts,es,hts⟩:=zd (E:=[(12,.g 108),_]) h rfl;obtain⟨E',g1,g2⟩:=EX (ok:=λs:Sg=>fZ 0 (.w _) _ s.2) (turn:=λv (s:Sg)=>match fi s.1 true [3] v with|none=>none|some E'=>execs aj _ UO E' s.2) (λE=>ci E 12=some _) (λZ=>rfl) ts [(12,.g 108),_] rfl (λt ht E hE=>by
  obtain⟨p,hp,rfl⟩:=fW.mp<|hts t ht;refine e8 (hT _<|h.ne p hp) λcols hc ha=>?_
  obtain⟨E',c1,c2⟩:=EW (ok:=λs:Sg=>fZ 1 (.v _) _ s.2) (turn:=λv (s:Sg)=>match fi s.1 false [10,23] v with|none=>none|some E'=>execs aj (aP aj eU<|d+3) uI E' s.2) _ _ (λZ=>rfl) (λk c E hk hE=>IL h hl k c E hk hE) cols 0 (eP E 3 (.a p.1)) ⟨by simp[jz,hE],by simp[jz]⟩ ha;refine⟨E',?_,c2.1⟩;refine(gK (fo fJ (aE (by rfl)) (hc μ)) eT ?_ c1).trans fa;rw[<-lG];rfl)
 refine fU (E':=E') UM rfl ?_ (.inr ⟨rfl,rfl⟩);exact(gK es eT rfl g1).trans fa
end
noncomputable abbrev E7:V:=.v [.a 1,.a 0,.a 0,.a 0,.a 0,.a 0,.a 2,.a 0,.a 0]
def QOk (NE NP:Nat) (q:QI):Prop:=q.2.1<6/\q.2.2.2<3/\(((q.1=8\/q.1=16)/\∃n,q.2.2.1=2*n/\1<=n/\n<=NE)\/((q.1=2\/q.1=1)/\∃n,q.2.2.1=2*n+1/\1<=n/\n<=NP))
structure i6 (w:Hm) (T:Nat->List V) (tx bl:List V) (ms:List Nat) (PE:List (Nat×ER)) (PP:List (Nat×PR)) (PI:List (Nat×IR)) (Q:List QI):Prop where
 t1:T 1=[pM]\/∃i:Nat,T 1=[pM,.v [.a 6,.a i,.a 0]]/\fK tx i=some (.z za)
 t1':T 10≠[]\/T 20≠[]->2<=(T 1).length
 t2:T 2=w.r131
 t6:T 6=w.r134
 t35:T 35=[E7]
 t10:zb T ms
 mok:pN ms
 t25:T 25=PI.map (mq ms)
 t25':∀p∈PI,1<=jf ms 1 (p.2.2+1)/\p.1<3/\mJ p.2
 t41:T 41=jT w 1++jT w 2
 t18:∀v∈T 18,∃j n:Nat,v=.v [.a (j+2:Nat),.a n]/\j<3
 t21:∀v∈T 21,∃j n:Nat,v=.v [.a (j+2:Nat),.a n]/\j<3
 t20:qp tx (T 20) PE
 t23:qq tx bl (T 23) PP
 t24:T 24=Q.map vQ
 q:∀q∈Q,QOk PE.length PP.length q
 le:PE.length<=11
 lp:PP.length<=11
 lq:Q.length<=40
 li:PI.length<=20
 other:∀t,t≠1->t≠2->t≠6->t≠10->t≠18->t≠20->t≠21->t≠23->t≠24->t≠25->t≠35->t≠41->T t=[]
section
variable{w:Hm} {T:Nat->List V} {tx bl:List V} {ms:List Nat} {PE:List (Nat×ER)} {PP:List (Nat×PR)} {PI:List (Nat×IR)} {Q:List QI}
def uJ (so:Nat) (e:so=256+t) (ht:t<200) (h1:1<=v) (h2:v<=(T t).length):mr T so v mn:=.inl ⟨eZ,t,e,h1,h2⟩
def pf {so v t n:Nat} (hs:512<=so) (hp:∀(d:Nat) (μ:H),aP aj eU (d+2) 11 [.a so,.a v] μ=some (.v [.a t,.a n],μ)) (hn:(n=0/\mn=true)\/(1<=n/\n<=(T t).length)):mr T so v mn:=.inr ⟨hs,t,n,hp,hn⟩
def pP (μ:H):f9 μ (.v (.a a::r)) (.a 0)=some (.a a):=rfl
def sI (μ:H):f9 μ (.v (a::.a b::r)) (.a 1)=some (.a b):=rfl
def zf (μ:H):f9 μ (.v (a::b::.a c::r)) (.a 2)=some (.a c):=rfl
def xZ (hw:fR w) (h:i6 w T tx bl ms PE PP PI Q):(T 2).length=4:=by
 rw[h.t2];obtain rfl|rfl|rfl|rfl|rfl|rfl:=hw<;>rfl
def BN (hw:fR w) (h:i6 w T tx bl ms PE PP PI Q):(T 6).length=6:=by
 rw[h.t6];obtain rfl|rfl|rfl|rfl|rfl|rfl:=hw<;>rfl
def Y6 (h:i6 w T tx bl ms PE PP PI Q):1<=(T 1).length:=by
 obtain e|⟨_,e,_⟩:=h.t1<;>rw[e]<;>simp
def Y7 (h:i6 w T tx bl ms PE PP PI Q):∀row∈T 1,∃v:Nat,(∀μ,f9 μ row (.a (0:Nat))=some (.a v))/\mr T 517 v false:=by
 intro row hr;have:∃i:Int,row=.v [.a 6,.a i,.a 0]:=by
  obtain e|⟨i,e,_⟩:=h.t1<;>rw[e]at hr
  .rw[gw.mp hr];exact⟨_,rfl⟩
  .simp[gC,jw,or_false]at hr;obtain rfl|rfl:=hr
   .exact⟨_,rfl⟩
   .exact⟨_,rfl⟩
 obtain⟨i,rfl⟩:=this;exact⟨6,pP,pf ay (λd μ=>Uq)<|.inr ⟨ay,by rw[h.t35];decide⟩⟩
def Y8 (hw:fR w) (h:i6 w T tx bl ms PE PP PI Q):∀row∈T 2,∃v:Nat,(∀μ,f9 μ row (.a (3:Nat))=some (.a v))/\mr T 512 v true:=by
 intro row hr;have:∃v:Nat,(v=0\/v=5)/\(∀μ,f9 μ row (.a (3:Nat))=some (.a v)):=by
  rw[h.t2]at hr;obtain rfl|rfl|rfl|rfl|rfl|rfl:=hw<;>
   (simp[yP,yQ,yR,yS,yT,yU,gC,jw,or_false]at hr
    obtain rfl|rfl|rfl|rfl:=hr<;>first|exact⟨0,.inl rfl,λZ=>rfl⟩|exact⟨5,.inr rfl,λZ=>rfl⟩)
 refine e8 this λv hv e=>⟨v,e,?_⟩
 obtain rfl|rfl:=hv
 .exact pf ay (λd μ=>Un) (.inl ⟨rfl,rfl⟩)
 .exact pf ay (λd μ=>Uo) (.inr ⟨ay,Y6 h⟩)
def UP (h:i6 w T tx bl ms PE PP PI Q):∀row∈T 10,∃v:Nat,(∀μ,f9 μ row (.a (0:Nat))=some (.a v))/\mr T 514 v false:=by
 intro row hr;obtain⟨t,b,rfl⟩:=h.t10.2 row hr;exact⟨17,pP,pf ay (λd μ=>Rc)<|.inr ⟨ay,h.t1'<|.inl λe=>by rw[e]at hr;cases hr⟩⟩
def UQ (hw:fR w) (h:i6 w T tx bl ms PE PP PI Q):∀row∈T 18,∃v:Nat,(∀μ,f9 μ row (.a (0:Nat))=some (.a v))/\mr T 258 v false:=by
 intro row hr;obtain⟨j,n,rfl,hj⟩:=h.t18 row hr;exact⟨j+2,pP,uJ (t:=2) 258 rfl ay eZ (by rw[xZ hw h];lia)⟩
def UR (hw:fR w) (h:i6 w T tx bl ms PE PP PI Q):∀row∈T 21,∃v:Nat,(∀μ,f9 μ row (.a (0:Nat))=some (.a v))/\mr T 258 v false:=by
 intro row hr;obtain⟨j,n,rfl,hj⟩:=h.t21 row hr;exact⟨j+2,pP,uJ (t:=2) 258 rfl ay eZ (by rw[xZ hw h];lia)⟩
theorem vn:∀{l:List V} {v:V},v∈l->∃n,fK l n=some v
 |a::r,v,h=>by
  rcases gC.mp h with rfl|h
  .exact⟨0,rfl⟩
  .obtain⟨n,hn⟩:=vn h;exact⟨n+1,hn⟩
def US (h:i6 w T tx bl ms PE PP PI Q):∀row∈T 20,∃v:Nat,(∀μ,f9 μ row (.a (2:Nat))=some (.a v))/\mr T 512 v true:=by
 intro row hr;obtain⟨n,hn⟩:=vn hr;have hlt:=uA hn;simp only[h.t20.1]at hlt;refine e8 (h.t20.2 n PE[n]<|ka hlt) λi e Z=>?_
 rw[e]at hn;cases hn;exact⟨9,zf,pf ay (λd μ=>Up)<|.inr ⟨ay,h.t1'<|.inr λe=>by rw[e]at hr;cases hr⟩⟩
def UT (hw:fR w) (h:i6 w T tx bl ms PE PP PI Q):∀row∈T 24,∃v:Nat,(∀μ,f9 μ row (.a (1:Nat))=some (.a v))/\mr T 262 v false:=by
 intro row hr;rw[h.t24]at hr;obtain⟨q,hq,rfl⟩:=fW.mp hr;have:=(h.q q hq).1;exact⟨q.2.1+1,sI,uJ (t:=6) 262 rfl ay eZ (by rw[BN hw h];lia)⟩
def UU (h:i6 w T tx bl ms PE PP PI Q):∀row∈T 24,∃v:Nat,(∀μ,f9 μ row (.a (2:Nat))=some (.a v))/\mr T 515 v false:=by
 intro row hr;rw[h.t24]at hr;obtain⟨q,hq,rfl⟩:=fW.mp hr;have le:=h.le;have lp:=h.lp;refine⟨q.2.2.1,zf,?_⟩;obtain⟨_,n,e,n1,n2⟩|⟨_,n,e,n1,n2⟩:=(h.q q hq).2.2
 .rw[e];exact pf ay (λd μ=>Q4 n eZ)<|.inr ⟨n1,by rw[h.t20.1];exact n2⟩
 .rw[e];exact pf ay (λd μ=>Q7 n eZ)<|.inr ⟨n1,by rw[h.t23.1];exact n2⟩
def UV (hw:fR w) (h:i6 w T tx bl ms PE PP PI Q):∀row∈T 25,∃v:Nat,(∀μ,f9 μ row (.a (0:Nat))=some (.a v))/\mr T 258 v false:=by
 intro row hr;rw[h.t25]at hr;obtain⟨q,hq,rfl⟩:=fW.mp hr;have:=(h.t25' q hq).2.1;exact⟨q.1+2,pP,uJ (t:=2) 258 rfl ay eZ (by rw[xZ hw h];lia)⟩
def UW (hw:fR w) (h:i6 w T tx bl ms PE PP PI Q):∀row∈T 25,∃v:Nat,(∀μ,f9 μ row (.a (1:Nat))=some (.a v))/\mr T 516 v false:=by
 intro row hr;rw[h.t25]at hr;obtain⟨q,hq,rfl⟩:=fW.mp hr;have:=(h.t25' q hq).2.2.1;exact⟨2*_,sI,pf ay (λd μ=>Um (q.2.1+1)<|nA ‹_› ay)<|.inr ⟨eZ,by simp only[BN hw h];lia⟩⟩
def RF (h:pN ms) (m:Nat):jf ms 1 m<=ms.length:=by
 obtain rfl|rfl|rfl|rfl|rfl:=h<;>simp[jf]<;>(repeat' split)<;>simp
def pN.len (h:pN ms):ms.length<=2:=by obtain rfl|rfl|rfl|rfl|rfl:=h<;>simp
def UX (h:i6 w T tx bl ms PE PP PI Q):∀row∈T 25,∃v:Nat,(∀μ,f9 μ row (.a (2:Nat))=some (.a v))/\mr T 516 v false:=by
 intro row hr;rw[h.t25]at hr;obtain⟨q,hq,rfl⟩:=fW.mp hr;have h1:=(h.t25' q hq).1;have h2:=RF h.mok<|q.2.2+1;have h3:=h.mok.len;exact⟨2*jf ms 1 _+1,zf,pf ay (λd μ=>Q9 _ eZ)<|.inr ⟨h1,by rw[h.t10.1];exact h2⟩⟩
def zg (hw:fR w) (hj3:j<3) (hv:v∈jT w j):v=.v [.a (j+2:Nat),.a (hj w j+1:Nat)]/\hj w j≠0/\hj w j<=2:=by
 refine ia λG kk=>DD (Ro hw (tI le le le le le le le le le) j hj3) λfs Z Z Z Z Z Z Z t6=>?_
 unfold jT at hv;apply kk;split at hv
 .cases hv
 .rename_i h0;exact⟨gw.mp hv,h0,eZ⟩
def WU (hw:fR w) (h:i6 w T tx bl ms PE PP PI Q):∀row∈T 41,∃j k:Nat,row=.v [.a (j+2:Nat),.a (k+1:Nat)]/\j<3/\1<=k/\k<=2:=by
 intro row hr;rw[h.t41]at hr;obtain hr|hr:=fL.mp hr
 .exact oq (zg hw ay hr) λe h1 h2=>⟨1,_,iI e ay eZ h2⟩
 .exact oq (zg hw ay hr) λe h1 h2=>⟨2,_,iI e ay eZ h2⟩
def UY (hw:fR w) (h:i6 w T tx bl ms PE PP PI Q):∀row∈T 41,∃v:Nat,(∀μ,f9 μ row (.a (0:Nat))=some (.a v))/\mr T 258 v false:=by
 intro row hr;obtain⟨j,k,rfl,hj,h1,h2⟩:=WU hw h row hr;exact⟨j+2,pP,uJ (t:=2) 258 rfl ay eZ (by rw[xZ hw h];lia)⟩
def UZ (hw:fR w) (h:i6 w T tx bl ms PE PP PI Q):∀row∈T 41,∃v:Nat,(∀μ,f9 μ row (.a (1:Nat))=some (.a v))/\mr T 258 v false:=by
 intro row hr;obtain⟨j,k,rfl,hj,h1,h2⟩:=WU hw h row hr;exact⟨k+1,sI,uJ (t:=2) 258 rfl ay eZ (by rw[xZ hw h];lia)⟩
def Y9 (hw:fR w) (h:i6 w T tx bl ms PE PP PI Q):lT T 1:=⟨[(_,517),(_,4),(_,4)],jj (λZ=>by rfl) (.inr<|.inr ⟨ay,λd μ=>eV,false,λμ=>by rfl,Y7 h⟩) (.inl ay) (.inl ay) trivial⟩
def Za (hw:fR w) (h:i6 w T tx bl ms PE PP PI Q):lT T 2:=⟨[(_,2),(_,4),(_,4),(_,512),(_,260),(_,262)],Fo (λZ=>by rfl) (.inl ay) (.inl ay) (.inl ay) (.inr<|.inr ⟨ay,λd μ=>eV,true,λμ=>by rfl,Y8 hw h⟩) (.inr<|.inl ⟨ay,λd μ=>eV⟩) (.inr<|.inl ⟨ay,λd μ=>eV⟩) trivial⟩
def Zb (hw:fR w) (h:i6 w T tx bl ms PE PP PI Q):lT T 6:=⟨[(_,2),(_,1),(_,1),(_,4),(_,5),(_,264)],Fo (λZ=>by rfl) (.inl ay) (.inl ay) (.inl ay) (.inl ay) (.inl ay) (.inr<|.inl ⟨ay,λd μ=>eV⟩) trivial⟩
def U0 (hw:fR w) (h:i6 w T tx bl ms PE PP PI Q):lT T 10:=⟨[(_,514),(_,4),(_,5)],jj (λZ=>by rfl) (.inr<|.inr ⟨ay,λd μ=>eV,false,λμ=>by rfl,UP h⟩) (.inl ay) (.inl ay) trivial⟩
def U1 (hw:fR w) (h:i6 w T tx bl ms PE PP PI Q):lT T 18:=⟨[(_,258),(_,276)],λZ=>by rfl,.inr<|.inr ⟨ay,λd μ=>eV,false,λμ=>by rfl,UQ hw h⟩,.inr<|.inl ⟨ay,λd μ=>eV⟩,trivial⟩
def U2 (hw:fR w) (h:i6 w T tx bl ms PE PP PI Q):lT T 20:=⟨[(_,1),(_,4),(_,512)],jj (λZ=>by rfl) (.inl ay) (.inl ay) (.inr<|.inr ⟨ay,λd μ=>eV,true,λμ=>by rfl,US h⟩) trivial⟩
def U3 (hw:fR w) (h:i6 w T tx bl ms PE PP PI Q):lT T 21:=⟨[(_,258),(_,279)],λZ=>by rfl,.inr<|.inr ⟨ay,λd μ=>eV,false,λμ=>by rfl,UR hw h⟩,.inr<|.inl ⟨ay,λd μ=>eV⟩,trivial⟩
def U4 (hw:fR w) (h:i6 w T tx bl ms PE PP PI Q):lT T 23:=⟨[(_,1),(_,4),(_,5)],jj (λZ=>by rfl) (.inl ay) (.inl ay) (.inl ay) trivial⟩
def U5 (hw:fR w) (h:i6 w T tx bl ms PE PP PI Q):lT T 24:=⟨[(_,1),(_,262),(_,515)],jj (λZ=>by rfl) (.inl ay) (.inr<|.inr ⟨ay,λd μ=>eV,false,λμ=>by rfl,UT hw h⟩) (.inr<|.inr ⟨ay,λd μ=>eV,false,λμ=>by rfl,UU h⟩) trivial⟩
def U6 (hw:fR w) (h:i6 w T tx bl ms PE PP PI Q):lT T 25:=⟨[(_,258),(_,516),(_,516)],jj (λZ=>by rfl) (.inr<|.inr ⟨ay,λd μ=>eV,false,λμ=>by rfl,UV hw h⟩) (.inr<|.inr ⟨ay,λd μ=>eV,false,λμ=>by rfl,UW hw h⟩) (.inr<|.inr ⟨ay,λd μ=>eV,false,λμ=>by rfl,UX h⟩) trivial⟩
def U7 (hw:fR w) (h:i6 w T tx bl ms PE PP PI Q):lT T 35:=⟨[(_,1),(_,1),(_,1),(_,1),(_,2),(_,5),(_,4),(_,4),(_,5)],WZ (λZ=>by rfl) (.inl ay) (.inl ay) (.inl ay) (.inl ay) (.inl ay) (.inl ay) (.inl ay) (.inl ay) (.inl ay) trivial⟩
def U8 (hw:fR w) (h:i6 w T tx bl ms PE PP PI Q):lT T 41:=⟨[(_,258),(_,258)],λZ=>by rfl,.inr<|.inr ⟨ay,λd μ=>eV,false,λμ=>by rfl,UY hw h⟩,.inr<|.inr ⟨ay,λd μ=>eV,false,λμ=>by rfl,UZ hw h⟩,trivial⟩
def MS (hw:fR w) (h:i6 w T tx bl ms PE PP PI Q) (t:Nat) (ht:T t≠[]):lT T t:=by
 by_cases h1:t=1
 .subst h1;exact Y9 hw h
 by_cases h2:t=2
 .subst h2;exact Za hw h
 by_cases h6:t=6
 .subst h6;exact Zb hw h
 by_cases h10:t=10
 .subst h10;exact U0 hw h
 by_cases h18:t=18
 .subst h18;exact U1 hw h
 by_cases h20:t=20
 .subst h20;exact U2 hw h
 by_cases h21:t=21
 .subst h21;exact U3 hw h
 by_cases h23:t=23
 .subst h23;exact U4 hw h
 by_cases h24:t=24
 .subst h24;exact U5 hw h
 by_cases h25:t=25
 .subst h25;exact U6 hw h
 by_cases h35:t=35
 .subst h35;exact U7 hw h
 by_cases h41:t=41
 .subst h41;exact U8 hw h
 exact absurd (h.other t h1 h2 h6 h10 h18 h20 h21 h23 h24 h25 h35 h41) ht
def i6.sm (hw:fR w) (h:i6 w T tx bl ms PE PP PI Q) (l18:(T 18).length<=3) (l21:(T 21).length<=3) (t:Nat):(T t).length<60:=by
 by_cases h1:t=1
 .subst h1;obtain e|⟨_,e,_⟩:=h.t1<;>rw[e]<;>simp
 by_cases h2:t=2
 .subst h2;rw[xZ hw h];lia
 by_cases h6:t=6
 .subst h6;rw[BN hw h];lia
 by_cases h10:t=10
 .subst h10;rw[h.t10.1];have:=h.mok.len;lia
 by_cases h18:t=18
 .subst h18;lia
 by_cases h20:t=20
 .subst h20;rw[h.t20.1];have:=h.le;lia
 by_cases h21:t=21
 .subst h21;lia
 by_cases h23:t=23
 .subst h23;rw[h.t23.1];have:=h.lp;lia
 by_cases h24:t=24
 .subst h24;rw[h.t24];have:=h.lq;simp;lia
 by_cases h25:t=25
 .subst h25;rw[h.t25];have:=h.li;simp;lia
 by_cases h35:t=35
 .subst h35;rw[h.t35];simp
 by_cases h41:t=41
 .subst h41;rw[h.t41];have:=tN (w:=w) 1;have:=tN (w:=w) 2;simp;lia
 rw[h.other t h1 h2 h6 h10 h18 h20 h21 h23 h24 h25 h35 h41];simp
end
noncomputable abbrev dk (D:List PyData):List (PyData×V):=D.map λk=>(k,V.a 1)
def lH (k:PyData) (D:List PyData):List PyData:=if k∈D then D else D++[k]
def vY:x∈lH k D↔x∈D\/x=k:=by
 unfold lH;split
 .rename_i h;exact⟨.inl,λq=>by obtain q|rfl:=q;exact q;exact h⟩
 .simp
noncomputable def jK:PyData->Nat
 |.int _=>0
 |.tuple _=>1
 |_=>2
def HK (c:Nat) (D:List PyData):Prop:=∀y∈D,fg 6 y/\jK y=c
def HK.bW (h:HK c D) (h1:fg 6 k) (h2:jK k=c):HK c (lH k D):=λy hy=>by
 obtain hy|rfl:=vY.mp hy
 .exact h y hy
 .exact⟨h1,h2⟩
theorem Dm {k:PyData} (hk:fg 6 k):∀{D:List PyData},(∀y∈D,fg 6 y)->gf k (dk D)=if k∈D then some (.a 1)else none
 |[],_=>rfl
 |y::r,h=>by
  show(match pZ y k with|true=>some (V.a 1)|false=>gf k<|dk r)=_;rw[ue 6 y k (h y fA) hk];by_cases e:y=k
  .subst e;rw[fu rfl,fv fA]
  .rw[fz e];dsimp only;rw[Dm hk λz hz=>h z<|gj _ hz];by_cases q:k∈r
   .rw[fv q,fv<|gj _ q]
   .rw[ff q,ff (by simp only[gC,not_or];exact⟨λe'=>e e'.symm,q⟩)]
theorem Hi {k:PyData} (hk:fg 6 k):∀{D:List PyData},(∀y∈D,fg 6 y)->jn k (.a 1) (dk D)=dk (lH k D)
 |[],_=>by
  show _=dk (if k∈[] then [] else []++[k]);rw[ff jw];rfl
 |y::r,h=>by
  show(match pZ y k with|true=>(y,V.a 1)::dk r|false=>(y,V.a 1)::jn k (.a 1) (dk r))=_;rw[ue 6 y k (h y fA) hk];by_cases e:y=k
  .subst e;rw[fu rfl];unfold lH;rw[fv fA];rfl
  .rw[fz e];dsimp only;rw[Hi hk λz hz=>h z<|gj _ hz];unfold lH;by_cases q:k∈r
   .rw[fv q,fv<|gj _ q];rfl
   .rw[ff q,ff (by simp only[gC,not_or];exact⟨λe'=>e e'.symm,q⟩)];rfl
theorem kK {y:PyData} {c:Nat} {P:PyData->Prop} (hc:c<=1) (h:jK y=c) (k0:c=0->∀i,P<|.int i) (k1:c=1->∀m,P<|.tuple m):P y:=by
 cases y with
 |int i=>exact k0 h.symm i
 |tuple m=>exact k1 h.symm m
 |_=>subst h;exact absurd hc ay
def WV {c:Nat} {G:Prop} (a:c=0) (b:c=1):G:=nomatch a.symm.trans b
def QK (y k:PyData):Prop:=(match y,k with
  |.int _,.int _=>some k
  |.tuple _,.tuple _=>some k
  |_,_=>none)=some k
def qK {y k:PyData} {c:Nat} (hc:c<=1) (hy:jK y=c) (hk:jK k=c):QK y k:=kK (P:=λy=>QK y k) hc hy (λa i=>kK (P:=QK<|.int i) hc hk (λZ Z=>rfl) λb Z=>WV a b) λb m=>kK (P:=QK<|.tuple m) hc hk (λa Z=>WV a b) λZ Z=>rfl
def zh (hc:c<=1) (h:jr μ kv=some k) (hk:jK k=c) (hD:HK c D):gq μ kv (dk D)=some k:=by
 unfold gq;rw[h];cases D with
 |nil=>rfl
 |cons y r=>exact qK hc (hD y fA).2 hk
section
variable{μ:H} {o c:Nat} {D:List PyData} {kv:V} {k:PyData}
def E8 (hc:c<=1) (ho:d' μ o=some (.dict<|dk D)) (h:jr μ kv=some k) (h1:fg 6 k) (hk:jK k=c) (hD:HK c D):jt μ .V kv (.g o)=some (decide<|k∈D):=by
 show pA μ kv (.g o)=_;rw[wQ ho,zh hc h hk hD];show some (gf k<|dk D).isSome=_;rw[Dm h1 λy hy=>(hD y hy).1];by_cases q:k∈D
 .rw[fv q,fu q];rfl
 .rw[ff q,fz q];rfl
def IO (hc:c<=1) (ho:d' μ o=some (.dict<|dk D)) (h:jr μ kv=some k) (h1:fg 6 k) (hk:jK k=c) (hD:HK c D):jt μ .ab kv (.g o)=some (!decide (k∈D)):=
 congrArg (Option.map (!·)) (E8 hc ho h h1 hk hD)
def Hj (hc:c<=1) (ho:d' μ o=some (.dict<|dk D)) (h:jr μ kv=some k) (h1:fg 6 k) (hk:jK k=c) (hD:HK c D) (hl:D.length<1000):mg μ (.g o) kv (.a 1)=some (fc μ o<|.dict<|dk<|lH k D):=by
 rw[sf ho (zh hc h hk hD) (ip (by simpa using hl)),Hi h1 (D:=D) λy hy=>(hD y hy).1]
def BO:(lH k D).length<=D.length+1:=by
 unfold lH;split<;>simp
end
noncomputable def fy {κ:Type} [DecidableEq κ] (tr:Nat->V):List κ->Nat->List (Bool×κ)->List V
 |_,_,[]=>[]
 |prev,n,(b,k)::r=>(if b=true\/k∈prev then[tr n]else[])++fy tr (prev++[k]) (n+1) r
section
variable{κ:Type} [DecidableEq κ] {tr:Nat->V}
def w' {b k} {r:List (Bool×κ)} {p:List κ} {n:Nat}:fy tr p n ((b,k)::r)=(if b=true\/k∈p then[tr n]else[])++fy tr (p++[k]) (n+1) r:=rfl
def WW {p q:Prop} [Decidable p] [Decidable q] {α:Type} {x y:α} (h:p↔q):(if p then x else y)=if q then x else y:=by
 by_cases c:p
 .rw[fv c,fv<|h.1 c]
 .rw[ff c,ff<|c ∘ h.2]
theorem E9 (l:List (Bool×κ)):∀(p p':List κ) (n:Nat),(∀x∈l,x.2∈p↔x.2∈p')->(∀x∈l,∀y,y=x.2->True)->fy tr p n l=fy tr p' n l:=by
 induction l with
 |nil=>intro _ _ _ _ _;rfl
 |cons x r ih=>
  intro p p' n h _;obtain⟨b,k⟩:=x;rw[w',w',ih (p++[k]) (p'++[k]) (n+1) (λx hx=>by rw[fL,fL,h x<|gj _ hx]) λZ Z Z Z=>trivial,WW<|or_congr Iff.rfl<|h (b,k) fA]
theorem og:∀(l1 l2:List (Bool×κ)) (p:List κ) (n:Nat),fy tr p n (l1++l2)=fy tr p n l1++fy tr (p++l1.map Prod.snd) (n+l1.length) l2
 |[],l2,p,n=>by
  show fy tr p n l2=fy tr (p++[]) n l2;rw[gk]
 |(b,k)::r,l2,p,n=>by
  show _++fy tr (p++[k]) (n+1) (r++l2)=(_++fy tr (p++[k]) (n+1) r)++_;rw[og r l2 (p++[k])<|n+1,<-gA];congr 1;rw[show p++[k]++r.map Prod.snd=p++((b,k)::r).map Prod.snd from gA ..,show n+1+r.length=n+((b,k)::r).length from (i9 n 1 _)]
def qs (l:List (Bool×κ)) (p:List κ) (n:Nat) (h:∀x∈l,x.2∉p):fy tr p n l=fy tr [] n l:=by
 exact E9 l p [] n (λx hx=>⟨λq=>absurd q<|h x hx,λq=>by cases q⟩) λZ Z Z Z=>trivial
theorem vZ {κ':Type} [DecidableEq κ'] (f:κ->κ') (l:List (Bool×κ)):∀(p:List κ) (n:Nat),(∀x∈l,∀y∈p,f x.2=f y->x.2=y)->(∀x∈l,∀y∈l,f x.2=f y.2->x.2=y.2)->fy tr (p.map f) n (l.map λx=>(x.1,f x.2))=fy tr p n l:=by
 induction l with
 |nil=>intro _ _ _ _;rfl
 |cons x r ih=>
  intro p n h1 h2;obtain⟨b,k⟩:=x;have ih:=ih (p++[k]) (n+1) (λx hx y hy e=>(fL.mp hy).elim (λhy=>h1 x (gj _ hx) y hy e) λhy=>by
   rw[gw.mp hy]at e⊢;exact h2 x (gj _ hx) (b,k) fA e) λx hx y hy=>h2 x (gj _ hx) y<|gj _ hy
  rw[hK]at ih;rw[w',<-ih];show(if b=true\/f k∈p.map f then[tr n]else[])++_=_;rw[WW<|or_congr Iff.rfl ⟨λq=>e8 (fW.mp q) λy hy e=>(show k=y from h1 (b,k) fA y hy e.symm)▸hy,λq=>o9 q⟩];rfl
theorem jM:∀(l:List (Bool×κ)) (p:List κ) (n:Nat),(fy tr p n l).length<=l.length
 |[],_,_=>fX 0
 |(b,k)::r,p,n=>by
  rw[w',fj,ij];exact gR (jM r (p++[k])<|n+1) (by split<;>simp)
end
def xd (T:Nat->List V) (t place:Nat) (b:List Nat):Prop:=(T t).length=b.length/\∀i,i<b.length->∃row,fK (T t) i=some row/\∀μ,f9 μ row (.a place)=some (.a<|b.getD i 0)
noncomputable def gD (b:List Nat) (L i:Nat):Nat:=(b++[L+1]).getD i 0
def Hk (h:i<b.length):gD b L i=b.getD i 0:=by
 unfold gD;simp[nw h]
def RG:gD b L b.length=L+1:=by
 unfold gD;simp
section
variable{μ:H} {K:List (Nat×Nat)} {T:Nat->List V} {d t:Nat} {FF:fb} {E:Env} {ss:List St}
def qZ (h:ev aj FF E e μ=some (.v [a,b],μ')):execs aj FF (.ak [x,y] e::ss) E μ=execs aj FF ss (eP (eP E x a) y b) μ':=by
 exact qR (by rw[ua,h];rfl)
def z7 {n:Nat} {v:V} {o en et:Ex} {dd:Nat} (h:Tb μ K T) (hl:∀t,(T t).length<60) (ho:Ev (aP aj eU<|dd+2) E μ o (.g 108)) (ht:Ev (aP aj eU<|dd+2) E μ et (.a t)) (hn:Ev (aP aj eU<|dd+2) E μ en (.a (n+1:Nat))) (hv:fK (T t) n=some v):Ev (aP aj eU<|dd+2) E μ (.Q o 16 [et,en]) v:=
 oL ho h.s rfl cls2 rfl (.aR ht<|.aR hn .aS) (Ug h (by have:=hl t;lia) hv)
def q6 {o et:Ex} {dd:Nat} (h:Tb μ K T) (hl:∀t,(T t).length<60) (ho:Ev (aP aj eU<|dd+1) E μ o (.g 108)) (ht:Ev (aP aj eU<|dd+1) E μ et (.a t)):Ev (aP aj eU<|dd+1) E μ (.Q o 31 [et]) (.a (T t).length):=
 oL ho h.s rfl cls2 rfl (.aR ht .aS) (qV h (by have:=hl t;lia))
def U9:ga eU 15=some sZ:=rfl
def U':ga eU 16=some uX:=rfl
def K7 {place other:Nat} (h:Tb μ K T) (hl:∀t,(T t).length<60) (hb:xd T t place b) (hi:i<b.length):aP aj eU (d+3) 15 [.g 108,.a t,.a place,.a other,.a (i+1:Nat)] μ=some (.v [.a<|gD b (T other).length i,.a<|gD b (T other).length<|i+1],μ):=by
 refine ia λG kk=>?_
 obtain⟨hb1,hb2⟩:=hb;refine e8 (hb2 i hi) λrow r1 r2=>?_
 let E1:Env:=[(12,.g 108),(3,.a t),(10,.a place),(32,.a other),(22,.a (i+1:Nat))];let E2:Env:=[(33,.a<|gD b (T other).length i),(12,.g 108),(3,.a t),(10,.a place),(32,.a other),(22,.a (i+1:Nat))];apply kk;refine fU (E':=E2) U9 rfl ?_<|.inl rfl;have g1:Ev (aP aj eU<|d+2) E1 μ (.D (.Q (.u 12) 16 [.u 3,.u 22])<|.u 10) (.a<|gD b (T other).length i):=by
  rw[Hk hi];exact fo (z7 h hl (aE rfl) (aE rfl) (aE rfl) r1) (aE rfl)<|r2 μ
 refine(fQ g1).trans ?_;have cnt:Ev (aP aj eU<|d+2) E2 μ (.Q (.u 12) 31 [.u 3]) _:=q6 h hl (aE rfl)<|aE rfl;by_cases hlast:i+1<b.length
 .refine e8 (hb2 _ hlast) λrow' r3 r4=>?_
  have g2:Ev (aP aj eU<|d+2) E2 μ (.D (.Q (.u 12) 16 [.u 3,.I .R (.u 22)<|.y<|.a 1])<|.u 10) (.a<|gD b (T other).length<|i+1):=by
   rw[Hk hlast];exact fo (z7 h hl (aE rfl) (aE rfl) (gL (aE rfl) eT rfl) r3) (aE rfl)<|r4 μ
  refine sd (fG (t:=true) (aE rfl) cnt ?_) rfl<|gP<|gv<|.aR (aE rfl)<|.aR g2 .aS;show some _=_;rw[fu eZ]
 .have he:i+1=b.length:=eZ;refine(gn (fG (t:=false) (aE rfl) cnt ?_) rfl fa).trans ?_
  .show some _=_;rw[fz eZ]
  .refine gP (gv<|.aR (aE rfl)<|.aR (gL (q6 h hl (aE rfl)<|aE rfl) eT ?_) .aS);simp only[lY,he,RG];rfl
noncomputable def tQ:List St:=[.ak [33,34]<|.A 15 [.u 12,.u 3,.u 10,.u 32,.u 22],.M (.Y true [.E .ge (.u 8)<|.u 33,.E .lt (.u 8)<|.u 34]) [.L<|.u 22] []]
def IO5 (t place other n:Nat) (E:Env):Prop:=ci E 12=some (.g 108)/\ci E 3=some (.a t)/\ci E 10=some (.a place)/\ci E 32=some (.a other)/\ci E 8=some (.a n)
theorem RH {place other n:Nat} {b:List Nat} (h:Tb μ K T) (hl:∀t,(T t).length<60) (hb:xd T t place b) {ok:Sg->Bool} (hok:∀s,ok s) {i:Nat} (hi:i<b.length) (h1:gD b (T other).length i<=n) (h2:n<gD b (T other).length (i+1)):∀(m k:Nat) (E:Env),k+m=b.length->k<=i->(∀i',k<=i'->i'<i->¬(gD b (T other).length i'<=n/\n<gD b (T other).length (i'+1)))->IO5 t place other n E->
  ∃E',fS ok (λv (s:Sg)=>match fi s.1 true [22] v with|none=>none|some E'=>execs aj (aP aj eU<|d+3) tQ E' s.2) (gZ (k+1:Nat) m) (E,μ)=some (.L<|.a (i+1:Nat),(E',μ))
 |0,k,E,e,hk,_,_=>absurd hi<|Nat.not_lt_of_le<|e▸hk
 |m+1,k,E,e,hk,hno,hE=>by
  refine Sw hE λq1 q2 q3 q4 q5=>?_
  have hk':k<b.length:=fq hk hi;let x:=gD b (T other).length k;let y:=gD b (T other).length<|k+1;have c15:Ev (aP aj eU<|d+3) (eP E 22<|.a (k+1:Nat)) μ (.A 15 [.u 12,.u 3,.u 10,.u 32,.u 22]) (.v [.a x,.a y]):=fn (.aR (aE q1)<|.aR (aE q2)<|.aR (aE q3)<|.aR (aE q4)<|.aR (aE rfl) .aS)<|K7 (d:=d) h hl hb hk';let E1:=eP (eP (eP E 22<|.a (k+1:Nat)) 33<|.a x) 34<|.a y;have v8:Ev (aP aj eU<|d+3) E1 μ (.u 8) (.a n):=aE q5;have v33:Ev (aP aj eU<|d+3) E1 μ (.u 33) (.a x):=aE rfl;have v34:Ev (aP aj eU<|d+3) E1 μ (.u 34) (.a y):=aE rfl;have v22:Ev (aP aj eU<|d+3) E1 μ (.u 22) (.a (k+1:Nat)):=aE rfl;have cc:Ev (aP aj eU<|d+3) E1 μ (.Y true [.E .ge (.u 8)<|.u 33,.E .lt (.u 8)<|.u 34]) (.O<|decide (x<=n)&&decide (n<y)):=by
   by_cases a:x<=n
   .rw[fu a,Bool.true_and];refine BD (fG (t:=true) v8 v33 ?_) (fG v8 v34 ?_)
    .show some (decide (_<=_))=_;rw[fu eZ]
    .show some (decide ((n:Int)<(y:Int)))=_;by_cases b:n<y
     .rw[fu b,fu eZ]
     .rw[fz b,fz eZ]
   .rw[fz a,Bool.false_and];refine Rq (fG (t:=false) v8 v33 ?_);show some (decide (_<=_))=_;rw[fz eZ]
  show ∃E',fS ok _ (.a (k+1:Nat)::gZ ((k+1:Nat)+1) m) (E,μ)=_;by_cases hki:k=i
  .subst hki;rw[fu h1,fu h2]at cc;refine⟨E1,Bt (hok _) ?_⟩;show execs aj _ tQ (eP E 22 _) μ=_;unfold tQ;rw[qZ c15];exact sd (t:=true) cc rfl (gP v22)
  .have:=hno k (fX _) eZ;have cf:(decide (x<=n)&&decide (n<y))=false:=by
    rw[pU];intro q;rw[jd,decide_eq_true_iff,decide_eq_true_iff]at q;exact this q
   rw[cf]at cc;obtain⟨E',g⟩:=RH h hl hb hok hi h1 h2 m (k+1) E1 eZ eZ (λi' a b=>hno i' (iz ‹_›) b) (jj q1 q2 q3 q4 q5);refine⟨E',f5 (hok _) (s':=(E1,μ)) ?_ (by rw[show(((k+1:Nat):Int)+1)=((k+1+1:Nat):Int)by lia];exact g)⟩;show execs aj _ tQ (eP E 22 _) μ=_;unfold tQ;rw[qZ c15];exact(gn (t:=false) cc rfl fa).trans fa
def K8 {place other n:Nat} (h:Tb μ K T) (hl:∀t,(T t).length<60) (hb:xd T t place b) (hi:i<b.length) (h1:gD b (T other).length i<=n) (h2:n<gD b (T other).length (i+1)) (hno:∀i',i'<i->¬(gD b (T other).length i'<=n/\n<gD b (T other).length (i'+1))):
  aP aj eU (d+4) 16 [.g 108,.a t,.a place,.a other,.a n] μ=some (.a (i+1:Nat),μ):=by
 obtain⟨E',g⟩:=RH h hl hb (λZ=>rfl) hi h1 h2 b.length 0 [(12,.g 108),(3,.a t),(10,.a place),(32,.a other),(8,.a n)] eZ eZ (λi' Z q=>hno i' q)<|jj rfl rfl rfl rfl rfl;refine fU (E':=E') U' rfl ?_<|.inl rfl;have hlen:=hl t;have e2:Ev (aP aj eU<|d+3) [(12,.g 108),(3,.a t),(10,.a place),(32,.a other),(8,.a n)] μ (.I .R (.Q (.u 12) 31 [.u 3])<|.y<|.a 1) (.a ((T t).length+1:Nat)):=gL (q6 h hl (aE rfl)<|aE rfl) eT rfl;refine wW eT e2 ?_ g;have:=KS (μ:=μ) (m:=1) (n:=(T t).length+1) eZ eZ;rw[Nat.add_sub_cancel,hb.1]at this;rw[hb.1];exact this
end
section
variable{μ:H} {K:List (Nat×Nat)} {T:Nat->List V} {d t:Nat} {FF:fb} {E:Env} {ss:List St}
def nc (D:List (PyData×V)):d' (μ++[.dict D]) μ.length=some (.dict D):=hO μ _
def v7 (D D':List (PyData×V)):fc (μ++[.dict D]) μ.length (.dict D')=μ++[.dict D']:=jb μ _ 0 _
noncomputable def sn:List V->List Nat->Prop
 |[],[]=>True
 |v::r,c::cs=>(∀μ,f9 μ v (.a 0)=some (.a c))/\sn r cs
 |_,_=>False
def Tb.ba (h:Tb μ K T) (G:H):Tb (μ++G) K T:=h.mv λk q=>by
 have:k<μ.length:=by
  obtain rfl|rfl|⟨p,hp,rfl⟩:=q
  .exact gh h.s
  .exact gh h.d
  .exact h.lt hp
 exact iZ _ _ _ this
noncomputable def z8:List St:=[.M (.E .V (.D (.u 0)<|.y<|.a 0)<|.u 21) [.F] [],.ae (.u 21) (.D (.u 0)<|.y<|.a 0)<|.y<|.a 1]
def RJ:List St:=[.G 21 .X,.J false [22,0] 1 (.A 6 [.u 12,.u 3]) (.y .B) z8]
theorem RK {ok:Sg->Bool} (hok:∀E (D:List PyData),ok (E,μ++[.dict<|dk D])):∀(rows:List V) (cs:List Nat) (k:Nat) (D:List PyData) (E:Env),sn rows cs->cs.Nodup->(∀c∈cs,(.int c:PyData)∉D)->HK 0 D->D.length+rows.length<900->ci E 21=some (.g μ.length)->ci E 12=some (.g 108)->
  ∃E' D',fS ok (λv (s:Sg)=>match fi s.1 false [22,0] v with|none=>none|some E'=>execs aj FF z8 E' s.2) (kS k rows) (E,μ++[.dict<|dk D])=some (.C,(E',μ++[.dict<|dk D']))/\ci E' 12=some (.g 108)
 |[],_,k,D,E,_,_,_,_,_,_,h12=>⟨E,D,hV<|hok E D,h12⟩
 |v::r,[],k,D,E,h,_,_,_,_,_,_=>h.elim
 |v::r,c::cs,k,D,E,h,hn,hd,hk,hl,h21,h12=>by
  obtain⟨hv,hr⟩:=h;simp only[kh]at hn;have nin:(.int c:PyData)∉D:=hd c fA;have tk:jr (μ++[.dict<|dk D]) (.a c)=some (.int c):=rfl;have okk:fg 6 (.int c):=rfl;have e1:=E8 (c:=0) ay (nc (μ:=μ) (dk D)) tk okk rfl hk;rw[fz nin]at e1;have e2:=Hj (c:=0) ay (nc (μ:=μ) (dk D)) tk okk rfl hk eZ;rw[v7]at e2;simp only[kg]at hl;obtain⟨E',D',g1,g2⟩:=RK hok r cs (k+1) (lH (.int c) D) (eP (eP E 22 (.a k)) 0 v) hr hn.2 (λc' hc' q=>by
   rcases vY.mp q with q|q
   .exact hd c' (gj _ hc') q
   .have:c'=c:=by injection q with q;lia
    exact hn.1 (this▸hc')) (hk.bW okk rfl) (by have:=BO (k:=.int c) (D:=D);lia) (by exact h21) (by exact h12)
  refine⟨E',D',f5 (hok E D) ?_ g1,g2⟩;show execs aj FF z8 (eP (eP E 22 (.a k)) 0 v) (μ++[.dict (dk D)])=_;unfold z8;have es:Ev FF (eP (eP E 22 (.a k)) 0 v) (μ++[.dict (dk D)]) (.D (.u 0) (.y (.a 0))) (.a c):=fo (aE (v:=v) (by rfl)) eT (hv _);have e21:Ev FF (eP (eP E 22 (.a k)) 0 v) (μ++[.dict (dk D)]) (.u 21) (.g μ.length):=aE (by exact h21);exact(gn (t:=false) (fG es e21 e1) rfl fa).trans ((qW eT e21 es e2).trans fa)
def Zc:ga eU 9=some uU:=rfl
def K9 (h:Tb μ K T) (hl:(T t).length<60) (hk:sn (T t) cs) (hn:cs.Nodup) (E:Env) (h12:ci E 12=some (.g 108)):∃E' o,execs aj (aP aj eU<|d+1) RJ (eP E 3<|.a t) μ=some (.C,(E',μ++[o]))/\ci E' 12=some (.g 108):=by
 refine ia λG kk=>?_
 have h1:=h.ba [.dict []];obtain⟨x,c1,c2,c3,_,c5⟩:=nM h1;have c2':im (μ++[.dict []]) 1 x .B=some (kS 0<|T t):=by rw[c2,<-lG];rfl
 obtain⟨E',D',g1,g2⟩:=RK (ok:=λs:Sg=>fZ 1 x _ s.2) (λE D=>mH h1 c5 (λa ha=>by
  have:=h.lt<|l4 ha;rw[iZ _ _ _ this,iZ _ _ _ this])<|.inr rfl) _ cs 0 [] (eP (eP E 3 _) 21 (.g μ.length)) hk hn (λZ Z q=>by cases q) (λZ q=>by cases q) (by grind) (by rfl) (by exact h12)
 apply kk;refine⟨E',.dict (dk D'),?_,g2⟩;exact(gK (fn (.aR (aE (by exact h12)) (.aR (aE (by rfl)) .aS)) c1) eT c2' g1).trans fa
def MT (h:Tb μ K T) (hl:∀t,(T t).length<60) (h18:sn (T 18) c1) (n1:c1.Nodup) (h21:sn (T 21) c2) (n2:c2.Nodup) (x:V):∃G,aP aj eU (d+2) 9 [.g 108,x] μ=some (.B,μ++G):=by
 refine ia λG kk=>?_
 obtain⟨E1,o1,g1,k1⟩:=K9 h (hl 18) h18 n1 [(12,.g 108),_] rfl;obtain⟨E2,o2,g2,k2⟩:=K9 (h.ba _) (hl 21) h21 n2 E1 k1;apply kk;rw[gA]at g2;refine⟨[o1]++[o2],fU (E':=E2) Zc rfl ?_<|.inr ⟨rfl,rfl⟩⟩;refine(gK (gv<|.aR fJ<|.aR fJ .aS) eT rfl ?_).trans fa;exact f5 rfl g1<|f5 rfl g2<|hV rfl
end
section
variable{μ ν:H} {K:List (Nat×Nat)} {T:Nat->List V} {d t n:Nat} {FF:fb} {E:Env} {ss:List St}
def Dn (h:j4 (λs=>evC aj FF s.1 (some c) s.2) (λs=>execs aj FF body s.1 s.2) 80 (E,μ)=some (.C,(E',μ'))):execs aj FF (.ao c body::ss) E μ=execs aj FF ss E' μ':=by
 simp[i7,FL,h]
def z9 (h1:ci E x=some (.a i)) (h:ev aj FF E e μ=some (.a j,μ')):execs aj FF (.az x .R e::ss) E μ=execs aj FF ss (eP E x<|.a<|i+j) μ':=by
 simp[i7,Pn,h1,h]
def xe {t:Bool} (h:Ev FF E μ c (.O t)):evC aj FF E (some c) μ=some (t,μ):=by
 simp[Ta,h,ix]
def RL {a b c:Ex} {t:Bool} (h1:Ev FF E μ a (.O true)) (h2:Ev FF E μ b (.O true)) (h3:Ev FF E μ c (.O t)):Ev FF E μ (.Y true [a,b,c]) (.O t):=by
 show evB aj FF E true [a,b,c] μ=_;rw[nV,h1];show evB aj FF E true [b,c] μ=_;rw[nV,h2];exact h3
def MU {a b c:Ex} (h1:Ev FF E μ a (.O false)):Ev FF E μ (.Y true [a,b,c]) (.O false):=by
 show evB aj FF E true [a,b,c] μ=_;rw[nV,h1];rfl
noncomputable def BP:List St:=[.M (.E .V (.D (.u 0)<|.y<|.a 0)<|.u 59) [.F] [.ae (.u 59) (.D (.u 0)<|.y<|.a 0)<|.D (.u 0)<|.y<|.a 1]]
noncomputable def Hl:Ex:=.Y true [.E .V (.u 60)<|.u 59,.E .ne (.u 60)<|.D (.u 0)<|.y<|.a 0,.E .le (.u 61)<|.len<|.u 59]
noncomputable def La:List St:=[.G 60<|.D (.u 59)<|.u 60,.az 61 .R<|.y<|.a 1]
def BQ:List St:=[.G 60<|.D (.u 0)<|.y<|.a 1,.G 61<|.y<|.a 0,.ao Hl La,.M (.E .eq (.u 60)<|.D (.u 0)<|.y<|.a 0) [.F] []]
def MV:oT.body=[.G 59 .X,.J false [22,0] 1 (.A 6 [.u 12,.S 36<|.a 41]) (.y .B) BP,.J false [22,0] 1 (.A 6 [.u 12,.S 36<|.a 41]) (.y .B) BQ]:=rfl
noncomputable abbrev lJ (a b:Nat):V:=.v [.a a,.a b]
abbrev IN (n:Nat) (E:Env):Prop:=ci E 12=some (.g 108)/\ci E 59=some (.g n)
def ns1 {a b k:Nat} (hE:IN n E) (h1:jt ν .V (.a a) (.g n)=some false) (h2:mg ν (.g n) (.a a) (.a b)=some ν'):(match fi E false [22,0] (.v [.a k,lJ a b])with|none=>none|some E'=>execs aj FF BP E' ν)=some (.C,(eP (eP E 22<|.a k) 0<|lJ a b,ν')):=by
 have es:Ev FF (eP (eP E 22<|.a k) 0<|lJ a b) ν (.D (.u 0) _) _:=fo (aE (v:=lJ a b) rfl) eT<|pP ν;have e59:Ev FF (eP (eP E 22<|.a k) 0<|lJ a b) ν (.u 59) (.g n):=aE hE.2;exact(gn (fG es e59 h1) rfl<|(qW (fo (aE (v:=lJ a b) rfl) eT<|sI ν) e59 es h2).trans fa).trans fa
def Hn {a b c:Nat} {E':Env} (hc:c≠a) (q0:ci E' 60=some (.a c)) (q:ci E' 0=some (lJ a b)):execs aj FF [.M (.E .eq (.u 60)<|.D (.u 0)<|.y<|.a 0) [.F] []] E' ν=some (.C,(E',ν)):=
 (gn (fG (o:=.eq) (t:=false) (aE q0) (fo (aE q) eT<|pP ν)<|congrArg some<|fz λe=>hc<|Int.ofNat_inj.mp e) rfl fa).trans fa
def gwF {test:Sg->Option (Bool×H)} {turn:Sg->Option (Flow×Sg)} {m:Nat} {s:Sg} {μ:H} (h:test s=some (false,μ)):j4 test turn (m+1) s=some (.C,(s.1,μ)):=by
 show(match test s with
  |none=>none
  |some (false,μ)=>some (Flow.C,(s.1,μ))
  |some (true,μ)=>match turn (s.1,μ)with
   |none=>none
   |some (.L u,s')=>some (.L u,s')
   |some (_,s')=>j4 test turn m s')=_
 rw[h]
def gwT {test:Sg->Option (Bool×H)} {turn:Sg->Option (Flow×Sg)} {m:Nat} {s s':Sg} {μ:H} (h:test s=some (true,μ)) (h2:turn (s.1,μ)=some (.C,s')):j4 test turn (m+1) s=j4 test turn m s':=by
 show(match test s with
  |none=>none
  |some (false,μ)=>some (Flow.C,(s.1,μ))
  |some (true,μ)=>match turn (s.1,μ)with
   |none=>none
   |some (.L u,s')=>some (.L u,s')
   |some (_,s')=>j4 test turn m s')=_
 rw[h];dsimp only;rw[h2]
def Do {b:Nat} {E':Env} {m:Nat} (q0:ci E' 60=some (.a b)) (q:ci E' 59=some (.g n)) (h:jt ν .V (.a b) (.g n)=some false):j4 (λs=>evC aj FF s.1 (some Hl) s.2) (λs=>execs aj FF La s.1 s.2) (m+1) (E',ν)=some (.C,(E',ν)):=by
 have:evC aj FF E' (some Hl) ν=some _:=xe<|MU<|fG (aE q0) (aE q) h;exact gwF this
def ns2 {a b k:Nat} (hE:IN n E) (hab:b≠a) (h:jt ν .V (.a b) (.g n)=some false\/∃(c:Nat) (D:List (PyData×V)),d' ν n=some (.dict D)/\jJ D/\D.length<900/\jt ν .V (.a b) (.g n)=some true/\f9 ν (.g n) (.a b)=some (.a c)/\jt ν .V (.a c) (.g n)=some false/\c≠a):
  ∃E',(match fi E false [22,0] (.v [.a k,lJ a b])with|none=>none|some E'=>execs aj FF BQ E' ν)=some (.C,(E',ν))/\IN n E':=by
 let E2:=eP (eP (eP (eP E 22<|.a k) 0<|lJ a b) 60<|.a b) 61<|.a 0;have start:∀{R},execs aj FF [.ao Hl La,.M (.E .eq (.u 60) (.D (.u 0) (.y (.a 0)))) [.F] []] E2 ν=R->(match fi E false [22,0] (.v [.a k,lJ a b])with|none=>none|some E'=>execs aj FF BQ E' ν)=R:=λh=>Eq.trans (fQ (fo (aE (v:=lJ a b) (by rfl)) eT (sI ν))) (Eq.trans (fQ eT) h)
 obtain h|⟨c,D,hD,hi,hl,g1,g2,g3,g4⟩:=h
 .exact⟨E2,start ((Dn (Do (E':=E2) rfl hE.2 h)).trans (Hn hab rfl rfl)),hE.1,hE.2⟩
 .refine⟨eP (eP E2 60 (.a c)) 61 (.a (0+1)),start ((Dn ?_).trans (Hn g4 rfl rfl)),hE.1,hE.2⟩;have k59:ci E2 59=some (.g n):=hE.2;have el:Ev FF E2 ν (.len (.u 59)) (.a D.length):=by
    simp only[Ev,mY,rD,k59,hD,hi,ip (fB hl ay),Bool.and_self]
  have t1:evC aj FF E2 (some Hl) ν=some (true,ν):=by
    refine xe (RL (fG (aE (v:=.a b) rfl) (aE k59) g1) (fG (aE (v:=.a b) rfl) (fo (aE (v:=lJ a b) rfl) eT (pP ν)) ?_) (fG (aE (v:=.a 0) rfl) el (congrArg some (fu (Int.natCast_nonneg _)):jt ν .le (.a 0) (.a D.length)=some true)));show(nU ν (.a b) (.a a)).map (!·)=some true;have:nU ν (.a b) (.a a)=some (decide ((b:Int)=a)):=rfl;rw[this,fz (λe=>hab (Int.ofNat_inj.mp e))];rfl
  have t2:execs aj FF La E2 ν=some (.C,(eP (eP E2 60 (.a c)) 61 (.a (0+1)),ν)):=Eq.trans (fQ (fo (aE k59) (aE (by rfl)) g2)) (Eq.trans (z9 (by rfl) eT) fa);rw[gwT t1 t2];exact Do (E':=eP (eP E2 60 (.a c)) 61 (.a (0+1))) rfl hE.2 g3
def Va:ga eU 23=some oT:=rfl
def tR (h:Tb μ K T) (x:V)
  (g1:∀ok:Sg->Bool,(∀E D',ok (E,μ++[.dict D']))->∀E,IN μ.length E->∃E',fS ok (λv (s:Sg)=>match fi s.1 false [22,0] v with|none=>none|some E'=>execs aj (aP aj eU<|d+1) BP E' s.2) (kS 0<|T 41) (E,μ++[.dict []])=some (.C,(E',μ++[.dict D]))/\IN μ.length E')
  (g2:∀ok:Sg->Bool,(∀E D',ok (E,μ++[.dict D']))->∀E,IN μ.length E->∃E',fS ok (λv (s:Sg)=>match fi s.1 false [22,0] v with|none=>none|some E'=>execs aj (aP aj eU<|d+1) BQ E' s.2) (kS 0<|T 41) (E,μ++[.dict D])=some (.C,(E',μ++[.dict D]))/\IN μ.length E'):
  ∃G,aP aj eU (d+2) 23 [.g 108,x] μ=some (.B,μ++G):=by
 have h1:=h.ba [.dict []];have h2:=h.ba [.dict D];have keepA:∀(D1 D':List (PyData×V)) (a:Nat),kf K 41=some a->d' (μ++[.dict D']) a=d' (μ++[.dict D1]) a:=λD1 D' a ha=>by
  have:=h.lt<|l4 ha;rw[iZ _ _ _ this,iZ _ _ _ this]
 obtain⟨x1,c1,c2,c3,_,c5⟩:=nM (d:=d) (t:=41) h1;have c2':im (μ++[.dict []]) 1 x1 .B=some (kS 0<|T 41):=by rw[c2,<-lG];rfl
 obtain⟨x2,d1,d2,d3,_,d5⟩:=nM (d:=d) (t:=41) h2;have d2':im (μ++[.dict D]) 1 x2 .B=some (kS 0<|T 41):=by rw[d2,<-lG];rfl
 obtain⟨E1,a1,a2⟩:=g1 (λs:Sg=>fZ 1 x1 (src (μ++[.dict []]) x1) s.2) (λE D'=>mH h1 c5 (keepA [] D')<|.inr rfl) [(59,.g μ.length),(12,.g 108),(18,x)] ⟨rfl,rfl⟩;obtain⟨E2,b1,b2⟩:=g2 (λs:Sg=>fZ 1 x2 (src (μ++[.dict D]) x2) s.2) (λE D'=>mH h2 d5 (keepA D D')<|.inr rfl) E1 a2;refine⟨[.dict D],fU (fl:=.C) (E:=[(12,.g 108),(18,x)]) (E':=E2) Va rfl ?_<|.inr ⟨rfl,rfl⟩⟩;rw[MV];exact(fQ (v:=.g μ.length) (μ':=μ++[.dict []]) (by simp only[LM])).trans<|(gK (single:=false) (t:=[22,0]) (k:=1) (a:=.A 6 [.u 12,.S 36 (.a 41)]) (b:=.y .B) (body:=BP) (E:=[(59,.g μ.length),(12,.g 108),(18,x)]) (y:=.B) (μ1:=μ++[.dict []]) (μ':=μ++[.dict []]) (fn (.aR (aE rfl) (.aR fJ .aS)) c1) eT c2' a1).trans<|(gK (y:=.B) (μ1:=μ++[.dict D]) (μ':=μ++[.dict D]) (fn (.aR (aE a2.1) (.aR fJ .aS)) d1) eT d2' b1).trans fa
theorem RM {D:List (PyData×V)} {a:Nat} (hi:jJ D):gq μ (.a a) D=some (.int a):=by
 cases D with
 |nil=>rfl
 |cons y r=>obtain⟨y,u⟩:=y;cases y<;>first|rfl|cases hi
def Lb {D:List (PyData×V)} {a:Nat} (hi:jJ D):jt (μ++[.dict D]) .V (.a a) (.g μ.length)=some (gf (.int a) D).isSome:=by
 show pA (μ++[.dict D]) (.a a) (.g μ.length)=_;rw[wQ<|nc D,RM hi];rfl
abbrev Ho (d:Nat) (μ:H) (body:List St) (D D':List (PyData×V)) (a b:Nat):Prop:=∀(E:Env) (k:Nat),IN μ.length E->∃E',(match fi E false [22,0] (.v [.a k,lJ a b])with|none=>none|some E'=>execs aj (aP aj eU<|d+1) body E'<|μ++[.dict D])=some (.C,(E',μ++[.dict D']))/\IN μ.length E'
def IP {D:List (PyData×V)} {a b:Nat} (hi:jJ D) (hl:D.length<900) (hf:(gf (.int a) D).isSome=false):Ho d μ BP D (jn (.int a) (.a b) D) a b:=λE k hE=>
 ⟨_,ns1 hE (by rw[Lb hi,hf]) (by rw[sf (nc D) (RM hi)<|ip<|fB hl ay,v7]),hE.1,hE.2⟩
def IQ {D:List (PyData×V)} {a b:Nat} (hi:jJ D) (hl:D.length<900) (hab:b≠a) (hf:(gf (.int b) D).isSome=false\/∃c:Nat,gf (.int b) D=some (.a c)/\(gf (.int c) D).isSome=false/\c≠a):Ho d μ BQ D D a b:=λE k hE=>
 ns2 hE hab (hf.imp (λhf=>by rw[Lb hi,hf]) λh=>h.elim λc f=>⟨c,D,nc D,hi,hl,by rw[Lb hi,f.1];rfl,by rw[wR (nc D)<|RM hi,f.1],by rw[Lb hi,f.2.1],f.2.2⟩)
def RN {body:List St} {D D1:List (PyData×V)} {a b:Nat} (s:Ho d μ body D D1 a b) (e:T 41=[lJ a b]) (ok:Sg->Bool) (hok:∀E D',ok (E,μ++[.dict D'])) (E:Env) (hE:IN μ.length E):∃E',fS ok (λv (s:Sg)=>match fi s.1 false [22,0] v with|none=>none|some E'=>execs aj (aP aj eU<|d+1) body E' s.2) (kS 0<|T 41) (E,μ++[.dict D])=some (.C,(E',μ++[.dict D1]))/\IN μ.length E':=
 (s E 0 hE).elim λE1 p=>⟨E1,by rw[e];exact f5 (hok _ _) p.1<|hV<|hok _ _,p.2⟩
def RO {body:List St} {D D1 D2:List (PyData×V)} {a b a' b':Nat} (s:Ho d μ body D D1 a b) (s':Ho d μ body D1 D2 a' b') (e:T 41=[lJ a b,lJ a' b']) (ok:Sg->Bool) (hok:∀E D',ok (E,μ++[.dict D'])) (E:Env) (hE:IN μ.length E):∃E',fS ok (λv (s:Sg)=>match fi s.1 false [22,0] v with|none=>none|some E'=>execs aj (aP aj eU<|d+1) body E' s.2) (kS 0<|T 41) (E,μ++[.dict D])=some (.C,(E',μ++[.dict D2]))/\IN μ.length E':=
 (s E 0 hE).elim λE1 p=>(s' E1 1 p.2).elim λE2 q=>⟨E2,by rw[e];exact f5 (hok _ _) p.1<|f5 (hok _ _) q.1<|hV<|hok _ _,q.2⟩
def IS (h:Tb μ K T) (x:V) {a b:Nat} (e:T 41=[lJ a b]) (hab:b≠a):∃G,aP aj eU (d+2) 23 [.g 108,x] μ=some (.B,μ++G):=
 tR (d:=d) h x (D:=[(.int a,.a b)]) (RN (IP (D:=[]) rfl ay rfl) e) (RN (IQ rfl (by decide:1<900) hab (.inl (by
    show(match pZ (.int a) (.int b)with|true=>some (V.a b)|false=>none).isSome=false;rw[qU,fz λq=>hab q.symm];rfl))) e)
def RP (h:Tb μ K T) (x:V) {b:Nat} (e:T 41=[lJ 3 2,lJ 4 b]) (hb:b=2\/b=3):∃G,aP aj eU (d+2) 23 [.g 108,x] μ=some (.B,μ++G):=
 tR (d:=d) h x (D:=[(.int 3,.a 2),(.int 4,.a b)]) (RO (IP (D:=[]) rfl ay rfl) (IP (D:=[(.int 3,.a 2)]) rfl ay (by decide+kernel)) e) (RO (IQ rfl (by decide:2<900) ay<|.inl (by obtain rfl|rfl:=hb<;>rfl)) (IQ rfl (by decide:2<900) (by rcases hb with rfl|rfl<;>decide) (by
    obtain rfl|rfl:=hb
    .exact .inl rfl
    .exact .inr ⟨2,rfl,rfl,ay⟩)) e)
def Hp (hw:fR w) (h:Tb μ K T) (h41:T 41=jT w 1++jT w 2) (x:V):∃G,aP aj eU (d+2) 23 [.g 108,x] μ=some (.B,μ++G):=by
 obtain rfl|rfl|rfl|rfl|rfl|rfl:=hw
 .exact tR (d:=d) h x (D:=[]) (λok hok E hE=>⟨E,by rw[h41];exact hV<|hok _ _,hE⟩) λok hok E hE=>⟨E,by rw[h41];exact hV<|hok _ _,hE⟩
 .exact IS h x (a:=3) (b:=2) h41 ay
 .exact IS h x (a:=4) (b:=2) h41 ay
 .exact RP h x (b:=2) h41 (.inl rfl)
 .exact IS h x (a:=4) (b:=3) h41 ay
 .exact RP h x (b:=3) h41 (.inr rfl)
end
def hp (μ:H) (r:Nat) (L:List V) (D:List PyData):H:=fc μ r (.j L)++[.dict<|dk D]
section
variable{μ:H} {K:List (Nat×Nat)} {T:Nat->List V} {d t r:Nat} {L:List V} {D:List PyData} {FF:fb} {E:Env} {ss:List St}
def x7:d' (hp μ r L D) μ.length=some (.dict<|dk D):=by
 have:=hO (fc μ r<|.j L)<|.dict<|dk D;rw[ig]at this;exact this
def MW (hr:r<μ.length):d' (hp μ r L D) r=some (.j L):=fh<|iW hr
def mT (hk:k<μ.length) (hn:k≠r):d' (hp μ r L D) k=d' μ k:=by
 unfold hp;rw[iZ _ _ _ (by rw[ig];exact hk),fT λe=>hn e.symm]
def MX (hr:r<μ.length) (L':List V):fc (hp μ r L D) r (.j L')=hp μ r L' D:=by
 unfold hp;rw[xL _ _ _ _ (by rw[ig];exact hr),qm]
def RQ (D':List PyData):fc (hp μ r L D) μ.length (.dict<|dk D')=hp μ r L D':=by
 have:=jb (fc μ r<|.j L) [.dict<|dk D] 0<|.dict<|dk D';rw[Nat.add_zero,ig]at this;exact this
def xf (h:Tb μ K T) (hr:ic r L K μ) (L':List V):Tb (hp μ r L' D) K T:=h.mv λk q=>by
 refine oq hr λh1 h2 h3=>?_
 obtain rfl|rfl|⟨p,hp',rfl⟩:=q
 .exact mT (gh h.s) eZ
 .exact mT (gh h.d) eZ
 .exact mT (h.lt hp') (h2 p hp')
noncomputable def qt {ι:Type} (mk:Nat->ι->V):Nat->List ι->List V
 |_,[]=>[]
 |n,x::r=>mk n x::qt mk (n+1) r
theorem pg {ι:Type} (f:ι->V):∀(n:Nat) (l:List ι),kS n (l.map f)=qt (λn x=>.v [.a n,f x]) n l
 |_,[]=>rfl
 |n,x::r=>by
  show V.v [.a n,f x]::kS (n+1) (r.map f)=_;rw[pg f (n+1) r];rfl
theorem qC {ι:Type}:∀(n:Nat) (l:List ι),gZ (n:Int) l.length=qt (λn Z=>.a n) n l
 |_,[]=>rfl
 |n,x::r=>by
  show V.a n::gZ ((n:Int)+1) r.length=_;rw[show(n:Int)+1=((n+1:Nat):Int)by lia,qC (n+1) r];rfl
theorem Lc {ι σ:Type} {ok:σ->Bool} {turn:V->σ->Option (Flow×σ)} (mk:Nat->ι->V) (I:List ι->σ->Prop) (hok:∀l s,I l s->ok s) {all:List ι} {n:Nat} (ht:∀d x z s {G:Prop},d++x::z=all->I d s->(∀s',turn (mk (n+d.length) x) s=some (.C,s')->I (d++[x]) s'->G)->G):∀z d s,d++z=all->I d s->∀{G:Prop},(∀s',fS ok turn (qt mk (n+d.length) z) s=some (.C,s')->I all s'->G)->G:=by
 intro z
 induction z with
 |nil=>
  intro d s e h G k;rw[gk]at e;subst e;exact k s (hV<|hok _ _ h) h
 |cons x z ih=>
  intro d s e h G k;refine ht d x z s e h λs1 a b=>ih (d++[x]) s1 (by rw[<-e,gA];rfl) b λs2 c g=>k s2 (f5 (hok _ _ h) a ?_) g
  rw[fj]at c;exact c
def Dp {α β:Type} {f:α->β} {d z l:List α} {x:α} (h:(l.map f).Nodup) (e:d++x::z=l):f x∉d.map f:=λq=>by
 rw[<-e,hK] at h;exact(List.nodup_append.mp h).2.2 _ q _ fA rfl
def x8 {α:Type} {d z l:List α} {x:α} (e:d++x::z=l):l[d.length]?=some x:=by
 rw[<-e,nz<|fX _,Nat.sub_self];rfl
def zi {κ:Type} [DecidableEq κ] {tr:Nat->V} (l:List (Bool×κ)) (n:Nat) (b:Bool×κ):fy tr [] n (l++[b])=fy tr [] n l++if b.1=true\/b.2∈l.map Prod.snd then[tr<|n+l.length]else[]:=by
 rw[og];exact congrArg (fy tr [] n l++·)<|gk _
def uK {ι:Type} {c n:Nat} (mk:Nat->ι->V) (tr:Nat->V) (bk:ι->Bool×PyData) {ok:Sg->Bool} {turn:V->Sg->Option (Flow×Sg)} (I:Env->Prop) (hok:∀E L D,ok (E,hp μ r L D)) {l:List ι} (hl:L.length+l.length<900) (hk:∀x∈l,fg 6 (bk x).2/\jK (bk x).2=c)
  (ht:∀d x z E L D {G:Prop},d++x::z=l->I E->HK c D->(∀y,y∈D↔y∈(d.map bk).map Prod.snd)->L.length<900->D.length<900->(∀E',turn (mk (n+d.length) x) (E,hp μ r L D)=some (.C,(E',hp μ r (L++if(bk x).1=true\/(bk x).2∈D then[tr<|n+d.length]else[])<|lH (bk x).2 D))->I E'->G)->G) {E:Env} (hE:I E) {G:Prop}
  (kk:∀E' D',fS ok turn (qt mk n l) (E,hp μ r L [])=some (.C,(E',hp μ r (L++fy tr [] n (l.map bk)) D'))->I E'->HK c D'->(∀x,x∈D'↔x∈(l.map bk).map Prod.snd)->D'.length<=l.length->G):G:=by
 refine Lc (all:=l) (ok:=ok) (turn:=turn) mk (λd (σ:Sg)=>∃D',σ.2=hp μ r (L++fy tr [] n (d.map bk)) D'/\I σ.1/\HK c D'/\(∀y,y∈D'↔y∈(d.map bk).map Prod.snd)/\D'.length<=d.length) (λd σ h=>h.elim λD' h=>(congrArg (λμ=>ok (σ.1,μ)) h.1).trans<|hok _ _ _) (n:=n) (λd x z σ G e h k=>?_) l [] (E,hp μ r L []) rfl ⟨[],by rw[show fy tr [] n (List.map bk [])=[]from rfl,gk],hE,(λZ q=>(jw q).elim:HK c []),λZ=>Iff.rfl,fX _⟩ λσ g h=>h.elim λD' h=>kk σ.1 D' (by rw[<-h.1];exact g) h.2.1 h.2.2.1 h.2.2.2.1 h.2.2.2.2
 obtain⟨E1,μ1⟩:=σ;refine h.elim λD' h=>?_
 have e1:μ1=_:=h.1;subst e1;have hd:d.length<=l.length:=by rw[<-e,fj];exact gV _ _
 have hd':(fy tr [] n<|d.map bk).length<=d.length:=by have:=jM (tr:=tr) (d.map bk) [] n;rw[fk]at this;exact this
 have q:=hk x<|e▸fL.mpr (.inr fA);refine ht d x z E1 _ D' e h.2.1 h.2.2.1 h.2.2.2.1 (by rw[fj];exact fq (ik (al_81 hd' hd) _) hl) (fq (al_81 h.2.2.2.2 hd)<|fq (k9 _ _) hl) λE' a b=>k (E',_) a ⟨lH (bk x).2 D',?_,b,h.2.2.1.bW q.1 q.2,λy=>?_,?_⟩
 .rw[show(d++[x]).map bk=d.map bk++[bk x]from hK,zi,fk,gA];simp only[h.2.2.2.1]
 .rw[vY,h.2.2.2.1,show(d++[x]).map bk=d.map bk++[bk x]from hK,hK,fL];exact or_congr_right gw.symm
 .rw[fj];exact al_81 BO<|lf h.2.2.2.2
def Vb:ga eU 22=some s6:=rfl
noncomputable def BR:St:=.H<|.Z (.u 18)<|.v [.S 57<|.a 25,.I .R (.u 22)<|.y<|.a 1,.y<|.z [105,109,112,108]]
def Hq:List St:=[.ak [3,8]<|.A 2 [.S 58<|.a 4,.D (.u 0)<|.y<|.a 1],.M (.Y false [.E .ne (.u 3)<|.S 41<|.a 6,.E .ne (.A 16 [.u 12,.S 37<|.a 2,.y<|.a 5,.S 41<|.a 6,.u 8])<|.D (.u 0)<|.y<|.a 0]) [BR] [.M (.E .V (.v [.D (.u 0)<|.y<|.a 0,.D (.u 0)<|.y<|.a 2])<|.u 21) [BR] []],.ae (.u 21) (.v [.D (.u 0)<|.y<|.a 0,.D (.u 0)<|.y<|.a 2])<|.y<|.a 1]
noncomputable def je (a b:Nat):PyData:=.tuple [.int a,.int b]
def pq (a b:Nat):fg 6 (je a b)/\jK (je a b)=1:=⟨rfl,rfl⟩
def x9 (a b:Nat):jr μ (.v [.a a,.a b])=some (je a b):=rfl
def ne_int (i j:Int):jt μ .ne (.a i) (.a j)=some (!decide (i=j)):=rfl
def rg (w:Hm) (i j:Nat):V:=match fK w.r131 i with
 |some (.v l)=>(fK l j).getD .B
 |_=>.B
def tk (w:Hm) (i:Nat):Nat:=match rg w i 1 with
 |.a t=>t.toNat
 |_=>0
def zj (w:Hm) (i a b:Nat):V:=.v [rg w i 0,.a<|tk w i,.a (0:Nat),rg w i 3,.a a,.a b]
def r131 (hw:fR w):w.r131=[zj w 0 1 1,zj w 1 1 1,zj w 2 1 3,zj w 3 1 5]:=by
 obtain rfl|rfl|rfl|rfl|rfl|rfl:=hw<;>rfl
def Ld {ms:List Nat} (hw:fR w) (h:i6 w T tx bl ms PE PP PI Q):xd T 2 5 [1,1,3,5]/\xd T 2 4 [1,1,1,1]:=by
 have e:T 2=_:=h.t2.trans<|r131 hw;refine⟨⟨congrArg List.length e,λi hi=>?_⟩,⟨congrArg List.length e,λi hi=>?_⟩⟩
 .rw[e]
  match i,hi with
  |0,_|1,_|2,_|3,_=>exact⟨_,rfl,λZ=>rfl⟩
 .rw[e]
  match i,hi with
  |0,_|1,_|2,_|3,_=>exact⟨_,rfl,λZ=>rfl⟩
def Zd:∀b:Nat,b<6->(gD [1,1,3,5] 6 (b/2+1)<=b+1/\b+1<gD [1,1,3,5] 6 (b/2+2)/\(∀i',i'<b/2+1->¬(gD [1,1,3,5] 6 i'<=b+1/\b+1<gD [1,1,3,5] 6 (i'+1))))/\b/2+1<4:=by decide
def RR {w:Hm} {tx bl:List V} {ms:List Nat} {PE:List (Nat×ER)} {PP:List (Nat×PR)} {PI:List (Nat×IR)} {Q:List QI} (hw:fR w) (hs:i6 w T tx bl ms PE PP PI Q) (h:Tb μ K T) (hl:∀t,(T t).length<60) (b:Nat) (hb:b<6):aP aj eU (d+4) 16 [.g 108,.a 2,.a 5,.a 6,.a (b+1:Nat)] μ=some (.a (b/2+2:Nat),μ):=by
 have q:=Zd b hb;rw[<-BN hw hs]at q;exact K8 (d:=d) (other:=6) (n:=b+1) h hl (Ld hw hs).1 (i:=b/2+1) q.2 q.1.1 q.1.2.1 q.1.2.2
noncomputable abbrev kX (n:Nat):V:=.v [.a 25,.a (n+1:Nat),.z [105,109,112,108]]
def mt (ms:List Nat) (p:Nat×IR):Bool×PyData:=(!decide (p.2.1/2=p.1),je (p.1+2)<|2*jf ms 1 (p.2.2+1)+1)
abbrev II (n r:Nat) (E:Env):Prop:=ci E 12=some (.g 108)/\ci E 21=some (.g n)/\ci E 18=some (.g r)
abbrev Hr (kv:V) (k:PyData):Prop:=(∀μ,jr μ kv=some k)/\fg 6 k/\jK k=1
def Fa {kv:V} {k:PyData} {kx:Ex} (q:Hr kv k) (hD:HK 1 D) (ek:Ev FF E (hp μ r L D) kx kv) (e21:ci E 21=some (.g μ.length)):Ev FF E (hp μ r L D) (.E .V kx<|.u 21) (.O<|decide<|k∈D):=fG ek (aE e21)<|E8 ay x7 (q.1 _) q.2.1 q.2.2 hD
def qu {kv:V} {k:PyData} {kx:Ex} (q:Hr kv k) (hD:HK 1 D) (hd:D.length<900) (ek:Ev FF E (hp μ r L D) kx kv) (e21:ci E 21=some (.g μ.length)):execs aj FF [.ae (.u 21) kx<|.y<|.a 1] E (hp μ r L D)=some (.C,(E,hp μ r L<|lH k D)):=by
 have:=Hj ay (x7 (μ:=μ) (r:=r) (L:=L)) (q.1 _) q.2.1 q.2.2 hD<|fB hd ay;rw[RQ]at this;exact(qW eT (aE e21) ek this).trans fa
def xg {row:Ex} {u:V} (rl:r<μ.length) (hL:L.length<900) (e18:ci E 18=some (.g r)) (er:Ev FF E (hp μ r L D) row u):execs aj FF (.H (.Z (.u 18) row)::ss) E (hp μ r L D)=execs aj FF ss E (hp μ r (L++[u]) D):=by
 rw[gi<|nL (aE e18) er (MW rl)<|fB hL ay,MX rl]
def Hs {kv u:V} {k:PyData} {kx row:Ex} (rl:r<μ.length) (hL:L.length<900) (hd:D.length<900) (q:Hr kv k) (hD:HK 1 D) (ek:∀{μ'},Ev FF E μ' kx kv) (e21:ci E 21=some (.g μ.length)) (e18:ci E 18=some (.g r)) (er:Ev FF E (hp μ r L D) row u):
  execs aj FF [.M (.E .V kx<|.u 21) [.H<|.Z (.u 18) row] [],.ae (.u 21) kx<|.y<|.a 1] E (hp μ r L D)=some (.C,(E,hp μ r (L++if false=true\/k∈D then[u]else[])<|lH k D)):=by
 have inn:=Fa (r:=r) (L:=L) q hD ek e21;by_cases hk:k∈D
 .rw[fu hk]at inn;rw[fv<|.inr hk];exact(gn inn rfl<|(xg rl hL e18 er).trans fa).trans<|qu q hD hd ek e21
 .rw[fz hk]at inn;rw[ff λh=>h.elim nofun hk,gk];exact(gn inn rfl fa).trans<|qu q hD hd ek e21
def MY {ms:List Nat} (hw:fR w) (hs:i6 w T tx bl ms PE PP PI Q) (h:Tb μ K T) (hl:∀t,(T t).length<60) (hr:ic r L0 K μ) (p:Nat×IR) (hp3:p.1<3) (hpo:mJ p.2) (n:Nat) (E:Env) (L:List V) (D:List PyData) (hE:II μ.length r E) (hD:HK 1 D) (hL:L.length<900) (hd:D.length<900) {G:Prop}
  (kk:∀E',(match fi E false [22,0] (.v [.a n,mq ms p])with|none=>none|some E'=>execs aj (aP aj eU<|d+5) Hq E'<|hp μ r L D)=some (.C,(E',hp μ r (L++if(mt ms p).1=true\/(mt ms p).2∈D then[kX n]else[])<|lH (mt ms p).2 D))->II μ.length r E'->G):G:=by
 have rl:=gh hr.2.2;have ht:=xf (L':=L) (D:=D) h hr;have q:Hr (.v [.a (p.1+2:Nat),.a (2*jf ms 1 (p.2.2+1)+1:Nat)]) (mt ms p).2:=⟨λZ=>x9 _ _,pq _ _⟩;refine kk (eP (eP (eP (eP E 22<|.a n) 0<|mq ms p) 3<|.a 6) 8<|.a (p.2.1+1:Nat)) ?_ ⟨hE.1,hE.2.1,hE.2.2⟩;let E2:=eP (eP (eP (eP E 22<|.a n) 0<|mq ms p) 3<|.a 6) 8<|.a (p.2.1+1:Nat);refine(qZ<|fn (.aR fJ<|.aR (fo (aE (E:=eP (eP E 22<|.a n) 0<|mq ms p) (v:=mq ms p) (x:=0) rfl) eT<|sI _) .aS) (Ul (p.2.1+1) (by have:=hpo.1;lia))).trans ?_;have e0:∀{μ':H},Ev (aP aj eU (d+5)) E2 μ' (.D (.u 0) (.y (.a 0))) (.a (p.1+2:Nat)):=fo (aE (v:=mq ms p) rfl) eT (pP _);have ek:∀{μ':H},Ev (aP aj eU (d+5)) E2 μ' (.v [.D (.u 0) (.y (.a 0)),.D (.u 0) (.y (.a 2))]) (.v [.a (p.1+2:Nat),.a (2*jf ms 1 (p.2.2+1)+1:Nat)]):=gv (.aR e0 (.aR (fo (aE (v:=mq ms p) rfl) eT (zf _)) .aS));have bad:Ev (aP aj eU (d+5)) E2 (hp μ r L D) (.Y false [.E .ne (.u 3) (.S 41 (.a 6)),.E .ne (.A 16 [.u 12,.S 37 (.a 2),.y (.a 5),.S 41 (.a 6),.u 8]) (.D (.u 0) (.y (.a 0)))]) (.O (mt ms p).1):=by
  refine mG (fG (aE (v:=.a 6) rfl) fJ (by rw[ne_int];rfl)) (fG (fn (.aR (aE hE.1) (.aR fJ (.aR eT (.aR fJ (.aR (aE rfl) .aS))))) (RR hw hs ht hl p.2.1 hpo.1)) e0 ?_);show some (!decide _)=some (!decide _);by_cases q:p.2.1/2=p.1
  .rw[fu q,q,fu rfl]
  .rw[fz q,fz (λe=>q (Nat.add_right_cancel (Int.ofNat_inj.mp e)))]
 have tell:∀ss,execs aj (aP aj eU (d+5)) (BR::ss) E2 (hp μ r L D)=execs aj (aP aj eU (d+5)) ss E2 (hp μ r (L++[kX n]) D):=λss=>xg rl hL hE.2.2 (gv (.aR fJ (.aR (gL (aE (v:=.a n) rfl) eT lY) (.aR eT .aS))))
 have inn:=Fa (r:=r) (L:=L) q hD ek (E:=E2) hE.2.1;cases hb:(mt ms p).1 with
 |true=>
  rw[hb]at bad;rw[fv (.inl rfl)];exact(gn bad rfl ((tell []).trans fa)).trans (qu q hD hd ek hE.2.1)
 |false=>
  rw[hb]at bad;by_cases hk:(mt ms p).2∈D
  .rw[fu hk]at inn;rw[fv (.inr hk)];exact(gn bad rfl ((gn inn rfl ((tell []).trans fa)).trans fa)).trans (qu q hD hd ek hE.2.1)
  .rw[fz hk]at inn;rw[ff (λh=>h.elim nofun hk),gk];exact(gn bad rfl ((gn inn rfl fa).trans fa)).trans (qu q hD hd ek hE.2.1)
def Vc {ms:List Nat} (hw:fR w) (hs:i6 w T tx bl ms PE PP PI Q) (h:Tb μ K T) (hl:∀t,(T t).length<60) (hr:ic r L K μ) (hL:L.length<500):
  ∃G,aP aj eU (d+6) 22 [.g 108,.g r] μ=some (.B,fc μ r (.j<|L++fy kX [] 0 (PI.map<|mt ms))++G):=by
 have e0:μ++[.dict<|dk []]=hp μ r L []:=by unfold hp;rw[mj _ _ _ hr.2.2]
 have h1:=xf (L':=L) (D:=[]) h hr;refine my (nM (d:=d+4) (t:=25) h1) λx c1 c2 c3 Z c5=>?_
 have c2':im (hp μ r L []) 1 x .B=some (qt (λn p=>.v [.a n,mq ms p]) 0 PI):=by rw[c2,show(0:Int)=((0:Nat):Int)from rfl,lG,hs.t25,pg]
 refine uK (L:=L) (c:=1) (n:=0) (λn p=>.v [.a (n:Nat),mq ms p]) kX (mt ms) (ok:=λs:Sg=>fZ 1 x (src (hp μ r L []) x) s.2) (turn:=λv (s:Sg)=>match fi s.1 false [22,0] v with|none=>none|some E'=>execs aj (aP aj eU<|d+5) Hq E' s.2) (II μ.length r) (λE L' D'=>mH h1 c5 (λa ha=>by
  have hm:=l4 ha;rw[mT (h.lt hm)<|hr.2.1 _ hm,mT (h.lt hm)<|hr.2.1 _ hm])<|.inr rfl) (l:=PI) (fB (qE hL hs.li) ay) (λp Z=>pq _ _) (λdn p z E L D G e hE hD Z hL hd k=>by
   have m:=hs.t25' p<|e▸fL.mpr (.inr fA);exact MY (d:=d) hw hs h hl hr p m.2.1 m.2.2 (0+dn.length) E L D hE hD hL hd k) (E:=[(21,.g μ.length),(12,.g 108),(18,.g r)]) ⟨rfl,rfl,rfl⟩ λE' D' g1 g2 Z Z Z=>⟨[.dict<|dk D'],fU (E':=E') Vb rfl ?_ (.inr ⟨rfl,rfl⟩)⟩
 exact(fQ (μ':=hp μ r L []) (by rw[<-e0];rfl)).trans<|(gK (fn (.aR (aE rfl) (.aR fJ .aS)) c1) eT c2' g1).trans fa
end
noncomputable def vo (a b n:Nat):Nat:=if n<=a then 0 else if n<=a+b then 1 else 2
noncomputable def mapG:Nat->Nat->List Nat->List (Nat×Nat)
 |_,_,[]=>[]
 |j,o,0::r=>mapG (j+1) o r
 |j,o,(a+1)::r=>(j,o+1)::mapG (j+1) (o+(a+1)) r
noncomputable def jG:Nat->Nat->List Nat->Nat->Nat
 |j,_,[],_=>j
 |j,o,a::r,n=>if n<=o+a then j else jG (j+1) (o+a) r n
def gG (a b c:Nat):List (Nat×Nat):=mapG 0 0 [a,b,c]
noncomputable abbrev md (p:Nat×Nat):V:=.v [.a (p.1+2:Nat),.a p.2]
def BS {α:Type} (e0 e1 e2:List α):ET e0 e1 e2=(gG e0.length e1.length e2.length).map md:=by
 have g:∀(j o:Nat) (l:List α) (r:List Nat),(mapG j o (l.length::r)).map md=nP j (o+1) l++(mapG (j+1) (o+l.length) r).map md:=λj o l r=>by cases l<;>rfl
 show _=(mapG 0 0 [_,_,_]).map md;rw[g,g,g,gJ,gJ,show(mapG 3 (e0.length+e1.length+e2.length) []).map md=[]from rfl,gk];exact gA _ _ _
abbrev bG (j o:Nat) (gs:List Nat) (i:Nat):Nat:=gD ((mapG j o gs).map Prod.snd) (o+gs.sum) i
def oh (j o a:Nat) (r:List Nat) (i:Nat):bG j o ((a+1)::r) (i+1)=bG (j+1) (o+(a+1)) r i:=by
 show gD ((mapG (j+1) (o+(a+1)) r).map Prod.snd) (o+((a+1)+r.sum)) i=_;exact congrArg (λN=>gD ((mapG (j+1) (o+(a+1)) r).map Prod.snd) N i) (jg o (a+1) r.sum).symm
def q7 (j o:Nat) (r:List Nat) (i:Nat):bG j o (0::r) i=bG (j+1) o r i:=by
 show gD ((mapG (j+1) o r).map Prod.snd) (o+(0+r.sum)) i=_;rw[gJ]
theorem oj:∀(gs:List Nat) (j o:Nat),bG j o gs 0=o+1
 |[],_,_=>rfl
 |0::r,j,o=>(q7 j o r 0).trans<|oj r (j+1) o
 |(a+1)::r,_,_=>rfl
theorem tS {n:Nat}:∀(gs:List Nat) (j o:Nat),o<n->n<=o+gs.sum->∀{G:Prop},(∀i s,(mapG j o gs)[i]?=some (jG j o gs n,s)->n<bG j o gs (i+1)->(∀i',i'<=i->bG j o gs i'<=n)->G)->G
 |[],_,o,h1,h2,_,_=>absurd h1<|Nat.not_lt.mpr h2
 |0::r,j,o,h1,h2,G,k=>tS r (j+1) o h1 (by have h2:n<=o+(0+r.sum):=h2;rw[gJ]at h2;exact h2) λi s e1 e2 e3=>k i s (e1.trans<|congrArg (λx=>some (x,s)) (ff<|show¬n<=o+0 from Nat.not_le_of_lt h1).symm) ((q7 j o r _).symm▸e2) λi' q=>(q7 j o r i').symm▸e3 i' q
 |(a+1)::r,j,o,h1,h2,G,k=>by
  by_cases q:n<=o+(a+1)
  .refine k 0 (o+1) ?_ ?_ λi' q=>?_
   .show some _=some (if _ then _ else _,_);rw[fv q]
   .rw[oh,oj];exact mO q
   .rw[Nat.le_zero.mp q];exact h1
  .refine tS r (j+1) (o+(a+1)) (Nat.not_le.mp q) (by rw[jg];exact h2) λi s e1 e2 e3=>k (i+1) s (e1.trans ?_) ((oh j o a r _).symm▸e2) λi' q=>?_
   .show _=some (if _ then _ else _,_);rw[ff q]
   .cases i' with
    |zero=>exact h1
    |succ i'=>rw[oh];exact e3 i'<|Nat.le_of_succ_le_succ q
theorem tU:∀(gs:List Nat) (j o i:Nat),i<(mapG j o gs).length->o+1<=bG j o gs i/\bG j o gs i<=bG j o gs (i+1)/\bG j o gs (i+1)<=o+gs.sum+1
 |[],_,_,_,h=>absurd h<|Nat.not_lt_zero _
 |0::r,j,o,i,h=>by
  rw[q7,q7,show(0::r).sum=r.sum from gJ _];exact tU r (j+1) o i h
 |(a+1)::r,j,o,0,h=>by
  rw[oh,oj,oj];exact⟨fX _,lf<|gV _ _,lf<|ik (gV _ _) o⟩
 |(a+1)::r,j,o,i+1,h=>by
  rw[oh,oh,show o+((a+1)::r).sum=o+(a+1)+r.sum from(jg _ _ _).symm];have:=tU r (j+1) (o+(a+1)) i<|sM h;exact⟨al_81 (lf<|gV _ _) this.1,this.2⟩
theorem sq:∀(gs:List Nat) (j o:Nat),(∀p∈mapG j o gs,j<=p.1/\p.1<j+gs.length)/\((mapG j o gs).map λp=>p.1+2).Nodup
 |[],_,_=>⟨λZ h=>(jw h).elim,pW⟩
 |0::r,j,o=>have h:=sq r (j+1) o;⟨λp hp=>⟨Nat.le_of_succ_le (h.1 p hp).1,by have:=(h.1 p hp).2;rw[i9]at this;exact this⟩,h.2⟩
 |(a+1)::r,j,o=>have h:=sq r (j+1)<|o+(a+1);⟨λp hp=>(gC.mp hp).elim (λe=>by rw[e];exact⟨fX _,Nat.lt_add_of_pos_right<|j5 _⟩) λhp=>⟨Nat.le_of_succ_le (h.1 p hp).1,by have:=(h.1 p hp).2;rw[i9]at this;exact this⟩,kh.mpr ⟨λq=>by
  obtain⟨p,hp,e⟩:=fW.mp q;exact absurd (h.1 p hp).1 (by rw[Nat.add_right_cancel e];exact Nat.not_succ_le_self j),h.2⟩⟩
def Fb (a b c:Nat):0+[a,b,c].sum=a+b+c:=by
 show 0+(a+(b+(c+0)))=_;rw[gJ,Nat.add_zero,jg]
def jG3 {a b c n:Nat} (h:n<=a+b+c):jG 0 0 [a,b,c] n=vo a b n:=by
 show(if n<=0+a then 0 else if n<=0+a+b then 1 else if n<=0+a+b+c then 2 else 3)=vo a b n;rw[gJ,fv h];rfl
def MZ (a b c n:Nat) (h1:1<=n) (h2:n<=a+b+c) {G:Prop} (k:∀i s,(gG a b c)[i]?=some (vo a b n,s)->gD ((gG a b c).map Prod.snd) (a+b+c) i<=n->n<gD ((gG a b c).map Prod.snd) (a+b+c) (i+1)->(∀i',i'<i->¬(gD ((gG a b c).map Prod.snd) (a+b+c) i'<=n/\n<gD ((gG a b c).map Prod.snd) (a+b+c) (i'+1)))->G):G:=by
 rw[<-Fb]at k;exact tS [a,b,c] 0 0 h1 ((Fb a b c).symm▸h2) λi s e1 e2 e3=>k i s (by rw[jG3 h2]at e1;exact e1) (e3 i<|fX _) e2 λi' q w=>Nat.not_lt_of_le (e3 (i'+1) q) w.2
section
variable{μ:H} {K:List (Nat×Nat)} {T:Nat->List V} {d t r:Nat} {L:List V} {D:List PyData} {FF:fb} {E:Env} {ss:List St}
theorem mu {α:Type} (f:α->V):∀(l:List α) (i:Nat) (x:α),l[i]?=some x->fK (l.map f) i=some (f x)
 |a::r,0,x,h=>by cases h;rfl
 |a::r,i+1,x,h=>mu f r i x (by simpa using h)
def BU (h:T t=(gG a b c).map md):xd T t 1 ((gG a b c).map Prod.snd):=by
 refine⟨by rw[h];simp,λi hi=>?_⟩;have hi':i<(gG a b c).length:=by simpa using hi
 refine⟨md (gG a b c)[i],by rw[h];exact mu _ _ _ _<|ka hi',λμ=>?_⟩;have:((gG a b c).map Prod.snd).getD i 0=(gG a b c)[i].2:=by simp[ka hi']
 rw[this];exact sI μ
def Vd:ga eU 21=some oH:=rfl
def Le (tt m:Nat) (hm:(tt=20/\m=18)\/(tt=23/\m=21)) (h:Tb μ K T) (hl:∀t,(T t).length<60) (hM:T m=(gG a b c).map md) (hL:(T tt).length=a+b+c) (h1:1<=n) (h2:n<=a+b+c):aP aj eU (d+5) 21 [.g 108,.a tt,.a n] μ=some (.a (vo a b n+2:Nat),μ):=by
 refine MZ a b c n h1 h2 λi s f1 f2 f3 f4=>?_
 have hi:=(ke.mp f1).1;have ow:=K8 (d:=d) (other:=tt) (n:=n) h hl (BU hM) (by simpa using hi);rw[hL]at ow;have ow':=ow f2 f3 f4;have g:fK (T m) i=some (md (vo a b n,s)):=by rw[hM];exact mu _ _ _ _ f1
 let E2:Env:=[(22,.a (i+1:Nat)),(56,.a m),(12,.g 108),(3,.a tt),(8,.a n)];refine fU (E':=E2) Vd rfl ?_ (.inl rfl);have em:Ev (aP aj eU (d+4)) [(12,.g 108),(3,.a tt),(8,.a n)] μ (.au (.E .eq (.u 3) (.S 43 (.a 20))) (.S 19 (.a 18)) (.S 20 (.a 21))) (.a m):=by
  obtain⟨rfl,rfl⟩|⟨rfl,rfl⟩:=hm
  .exact mZ (fG (aE rfl) fJ (by rfl)) rfl fJ
  .exact mZ (fG (aE rfl) fJ (by rfl)) rfl fJ
 refine(fQ em).trans<|(fQ (fn (.aR (aE rfl) (.aR (aE rfl) (.aR eT (.aR (aE rfl) (.aR (aE rfl) .aS))))) ow')).trans<|(gn (fG (t:=false) (aE rfl) eT ?_) rfl fa).trans ?_
 .show some _=_;rw[fz eZ]
 .exact gP (fo (z7 h hl (aE rfl) (aE rfl) (aE rfl) g) eT (pP μ))
def Lf (bits tt:Nat) (hb:(tt=20/\(bits=8\/bits=16))\/(tt=23/\(bits=2\/bits=1))):aP aj eU (d+1) 20 [.a bits,.a tt] μ=some (.O true,μ):=by
 obtain⟨rfl,rfl|rfl⟩|⟨rfl,rfl|rfl⟩:=hb<;>kernel_rfl
end
noncomputable abbrev RS:List Nat:=[115,101,109,97,110,116,105,99,115]
abbrev l5 (n:Nat):V:=.v [.a 24,.a (n+1:Nat),.z RS]
abbrev Dq (n:Nat):V:=.v [.a 20,.a n,.z RS]
def jP (q:QI):Bool×PyData:=(!decide (q.2.1/2=q.2.2.2),je q.1 q.2.2.1)
def QJ (a b c a' b' c':Nat) (q:QI):Prop:=q.2.1<6/\(((q.1=8\/q.1=16)/\∃n,q.2.2.1=2*n/\1<=n/\n<=a+b+c/\q.2.2.2=vo a b n)\/((q.1=2\/q.1=1)/\∃n,q.2.2.1=2*n+1/\1<=n/\n<=a'+b'+c'/\q.2.2.2=vo a' b' n))
def j0:Nat->List (Nat×ER)->List V
 |_,[]=>[]
 |n,p::r=>(if p.2.2.1<0\/p.2.2.2<0 then[Dq n]else[])++j0 (n+1) r
section
variable{μ:H} {K:List (Nat×Nat)} {T:Nat->List V} {d t r:Nat} {L:List V} {D:List PyData} {FF:fb} {E:Env} {ss:List St}
def Ve:ga eU 19=some pC:=rfl
noncomputable def Ht:St:=.H<|.Z (.u 18)<|.v [.S 48<|.a 24,.I .R (.u 22)<|.y<|.a 1,.y<|.z [115,101,109,97,110,116,105,99,115]]
def RT:List St:=[.ak [3,8]<|.A 2 [.S 49<|.a 3,.D (.u 0)<|.y<|.a 2],.M (.Y false [.aD<|.A 20 [.D (.u 0)<|.y<|.a 0,.u 3],.E .V (.v [.D (.u 0)<|.y<|.a 0,.D (.u 0)<|.y<|.a 2])<|.u 21]) [.F] [.M (.E .ne (.A 16 [.u 12,.S 37<|.a 2,.y<|.a 5,.S 41<|.a 6,.D (.u 0)<|.y<|.a 1])<|.A 21 [.u 12,.u 3,.u 8]) [Ht] []],.ae (.u 21) (.v [.D (.u 0)<|.y<|.a 0,.D (.u 0)<|.y<|.a 2])<|.y<|.a 1]
noncomputable def RU:List St:=[.G 50<|.A 1 [.S 49<|.a 3,.S 43<|.a 20,.u 8],.M (.Y false [.E .ab (.v [.S 51<|.a 8,.u 50])<|.u 21,.E .ab (.v [.S 52<|.a 16,.u 50])<|.u 21]) [.H<|.Z (.u 18)<|.v [.S 43<|.a 20,.u 8,.y<|.z [115,101,109,97,110,116,105,99,115]]] []]
def IU {ms:List Nat} (ht:Tb (hp μ r L D) K T) (hl:∀t,(T t).length<60) (hM:T 18=(gG a b c).map md) (hN:T 21=(gG a' b' c').map md) (l20:(T 20).length=a+b+c) (l23:(T 23).length=a'+b'+c') (s20:a+b+c<=11) (s23:a'+b'+c'<=11) (q:QI) (hq:QJ a b c a' b' c' q) {G:Prop}
  (k:∀tt m:Nat,aP aj eU (d+6) 2 [.a 3,.a q.2.2.1] (hp μ r L D)=some (.v [.a tt,.a m],hp μ r L D)->aP aj eU (d+6) 20 [.a q.1,.a tt] (hp μ r L D)=some (.O true,hp μ r L D)->aP aj eU (d+6) 21 [.g 108,.a tt,.a m] (hp μ r L D)=some (.a (q.2.2.2+2:Nat),hp μ r L D)->G):G:=by
 obtain⟨_,⟨p1,m,p2,p3,p4,p5⟩|⟨p1,m,p2,p3,p4,p5⟩⟩:=hq
 .exact k 20 m (by rw[p2];exact Q3 m<|al_81 p4<|al_81 s20 ay) (Lf q.1 20 (.inl ⟨rfl,p1⟩)) (by rw[p5];exact Le 20 18 (.inl ⟨rfl,rfl⟩) ht hl hM l20 p3 p4)
 .exact k 23 m (by rw[p2];exact Q6 m (al_81 p4 (al_81 s23 ay))) (Lf q.1 23 (.inr ⟨rfl,p1⟩)) (by rw[p5];exact Le 23 21 (.inr ⟨rfl,rfl⟩) ht hl hN l23 p3 p4)
def M0 {ms:List Nat} (hw:fR w) (hs:i6 w T tx bl ms PE PP PI Q) (h:Tb μ K T) (hl:∀t,(T t).length<60) (hM:T 18=(gG a b c).map md) (hN:T 21=(gG a' b' c').map md) (l20:(T 20).length=a+b+c) (l23:(T 23).length=a'+b'+c') (s20:a+b+c<=11) (s23:a'+b'+c'<=11) (hr:ic r L0 K μ) (q:QI) (hq:QJ a b c a' b' c' q) (n:Nat) (E:Env) (L:List V) (D:List PyData) (hE:II μ.length r E) (hD:HK 1 D) (hL:L.length<900) (hd:D.length<900) (hf:(jP q).2∉D) {G:Prop}
  (kk:∀E',(match fi E false [22,0] (.v [.a n,vQ q])with|none=>none|some E'=>execs aj (aP aj eU<|d+6) RT E'<|hp μ r L D)=some (.C,(E',hp μ r (L++if(jP q).1=true\/(jP q).2∈D then[l5 n]else[])<|lH (jP q).2 D))->II μ.length r E'->G):G:=by
 have rl:=gh hr.2.2;have ht:=xf (L':=L) (D:=D) h hr;refine IU (d:=d) (ms:=ms) ht hl hM hN l20 l23 s20 s23 q hq λtt m sp rm at'=>?_
 have qk:Hr (.v [.a q.1,.a q.2.2.1]) (jP q).2:=⟨λZ=>x9 _ _,pq _ _⟩;refine kk (eP (eP (eP (eP E 22<|.a n) 0<|vQ q) 3<|.a tt) 8<|.a m) ?_ ⟨hE.1,hE.2.1,hE.2.2⟩;let E2:=eP (eP (eP (eP E 22<|.a n) 0<|vQ q) 3<|.a tt) 8<|.a m;refine(qZ<|fn (.aR fJ<|.aR (fo (aE (E:=eP (eP E 22<|.a n) 0<|vQ q) (v:=vQ q) (x:=0) rfl) eT<|zf _) .aS) sp).trans ?_;have e0:∀{μ':H},Ev (aP aj eU<|d+6) E2 μ' (.D (.u 0)<|.y<|.a 0) (.a q.1):=fo (aE (v:=vQ q) rfl) eT<|pP _;have ek:∀{μ':H},Ev (aP aj eU<|d+6) E2 μ' (.v [.D (.u 0)<|.y<|.a 0,.D (.u 0)<|.y<|.a 2]) (.v [.a q.1,.a q.2.2.1]):=gv<|.aR e0<|.aR (fo (aE (v:=vQ q) rfl) eT<|zf _) .aS;have inn:=Fa (r:=r) (L:=L) qk hD ek (E:=E2) hE.2.1;rw[fz hf]at inn;have g1:=mG (ED (fn (.aR e0<|.aR (aE (x:=3) (v:=.a tt) rfl) .aS) rm) rfl) inn;have bad:Ev (aP aj eU<|d+6) E2 (hp μ r L D) (.E .ne (.A 16 [.u 12,.S 37<|.a 2,.y<|.a 5,.S 41<|.a 6,.D (.u 0)<|.y<|.a 1])<|.A 21 [.u 12,.u 3,.u 8]) (.O (jP q).1):=by
  refine fG (fn (.aR (aE hE.1)<|.aR fJ<|.aR eT<|.aR fJ<|.aR (fo (aE (v:=vQ q) rfl) eT<|sI _) .aS)<|RR hw hs ht hl q.2.1 hq.1) (fn (.aR (aE hE.1)<|.aR (aE rfl)<|.aR (aE rfl) .aS) at') ?_;show some (!decide _)=some (!decide _);by_cases z:q.2.1/2=q.2.2.2
  .rw[fu z,z,fu rfl]
  .rw[fz z,fz λe=>z<|Nat.add_right_cancel<|Int.ofNat_inj.mp e]
 have tell:∀ss,execs aj (aP aj eU<|d+6) (Ht::ss) E2 (hp μ r L D)=execs aj (aP aj eU<|d+6) ss E2 (hp μ r (L++[l5 n]) D):=λss=>xg rl hL hE.2.2<|gv<|.aR fJ<|.aR (gL (aE (v:=.a n) rfl) eT lY)<|.aR eT .aS
 cases hb:(jP q).1 with
 |true=>
  rw[hb]at bad;rw[fv<|.inl rfl];exact(gn g1 rfl<|(gn bad rfl<|(tell []).trans fa).trans fa).trans<|qu qk hD hd ek hE.2.1
 |false=>
  rw[hb]at bad;rw[ff λh=>h.elim nofun hf,gk];exact(gn g1 rfl<|(gn bad rfl fa).trans fa).trans<|qu qk hD hd ek hE.2.1
def Vf {D:List PyData} (hr:ic r L0 K μ) (hD:HK 1 D) {n:Nat} (hn:n<=12) {p:Nat×ER} {E:Env} {L:List V} (hE:II μ.length r E) (hL:L.length<900) (k0:(je 8 (2*n)∈D↔¬p.2.2.1<0)/\(je 16 (2*n)∈D↔¬p.2.2.2<0)):
  execs aj (aP aj eU<|d+6) RU (eP E 8<|.a n) (hp μ r L D)=some (.C,(eP (eP E 8<|.a n) 50<|.a (2*n+0:Nat),hp μ r (L++if p.2.2.1<0\/p.2.2.2<0 then[Dq n]else[]) D)):=by
 have rl:=gh hr.2.2;have no:∀{b:Nat} {z:Int},(je b (2*n)∈D↔¬z<0)->(!decide (je b (2*n+0)∈D))=decide (z<0):=λ{b z} h=>by
  show(!decide (je b (2*n)∈D))=_;by_cases z:z<0
  .rw[fu z,fz (λq=>(h.mp q) z)];rfl
  .rw[fz z,fu (h.mpr z)];rfl
 let E1:=eP (eP E 8 (.a n)) 50 (.a (2*n+0:Nat));have nn:∀{b:Nat} {x:Nat} {z:Int},(je b (2*n)∈D↔¬z<0)->Ev (aP aj eU (d+6)) E1 (hp μ r L D) (.E .ab (.v [.S x (.a b),.u 50]) (.u 21)) (.O (decide (z<0))):=λ{b x z} h=>by
  rw[<-no h];exact fG (gv (.aR fJ (.aR (aE (v:=.a (2*n+0:Nat)) rfl) .aS))) (aE hE.2.1) (IO (c:=1) ay x7 (x9 b (2*n+0)) (pq _ _).1 (pq _ _).2 hD)
 refine(fQ (v:=.a (2*n+0:Nat)) (fn (.aR fJ (.aR fJ (.aR (aE (v:=.a n) (by rfl)) .aS))) (GW (d:=d+4) n hn))).trans ?_;have g1:=nn (x:=51) k0.1;have g2:=nn (x:=52) k0.2;have tell:=xg (ss:=[]) (E:=E1) (D:=D) rl hL hE.2.2 (gv (F:=aP aj eU (d+6)) (.aR (fJ (x:=43) (v:=.a 20)) (.aR (aE (x:=8) (v:=.a n) rfl) (.aR (eT (v:=.z [115,101,109,97,110,116,105,99,115])) .aS))));by_cases z:p.2.2.1<0
 .rw[fu z]at g1;rw[fv (.inl z)];exact(gn (wY g1) rfl (tell.trans fa)).trans fa
 .rw[fz z]at g1;by_cases z':p.2.2.2<0
  .rw[fu z']at g2;rw[fv (.inr z')];exact(gn (mG g1 g2) rfl (tell.trans fa)).trans fa
  .rw[fz z']at g2;rw[ff (λh=>h.elim z z'),gk];exact(gn (mG g1 g2) rfl fa).trans fa
theorem v9:∀(l:List (Nat×ER)) (n:Nat) (p:Nat×ER),j0 n (l++[p])=j0 n l++if p.2.2.1<0\/p.2.2.2<0 then[Dq<|n+l.length]else[]
 |[],_,_=>gk _
 |a::l,n,p=>by
  show _++j0 (n+1) (l++[p])=(_++j0 (n+1) l)++_;rw[v9 l (n+1) p,kg,i9 n 1,gA];rfl
theorem uL:∀(l:List (Nat×ER)) (n:Nat),(j0 n l).length<=l.length
 |[],_=>fX _
 |a::l,n=>by
  show(_++j0 (n+1) l).length<=l.length+1;rw[fj,ij l.length];refine gR ?_<|uL l<|n+1;split
  .exact fX _
  .exact ji _
def Vg {ms:List Nat} (hw:fR w) (hs:i6 w T tx bl ms PE PP PI Q) (h:Tb μ K T) (hl:∀t,(T t).length<60) (hM:T 18=(gG a b c).map md) (hN:T 21=(gG a' b' c').map md) (le:PE.length=a+b+c) (lp:PP.length=a'+b'+c') (hQ:∀q∈Q,QJ a b c a' b' c' q) (hnd:(Q.map λq=>(jP q).2).Nodup)
  (hk:∀i p,PE[i]?=some p->(je 8 (2*(1+i))∈Q.map (λq=>(jP q).2)↔¬p.2.2.1<0)/\(je 16 (2*(1+i))∈Q.map (λq=>(jP q).2)↔¬p.2.2.2<0)) (hr:ic r L K μ) (hL:L.length<500):
  ∃G,aP aj eU (d+7) 19 [.g 108,.g r] μ=some (.B,fc μ r (.j<|L++fy l5 [] 0 (Q.map jP)++j0 1 PE)++G):=by
 have s1:=hs.le;have e0:μ++[.dict<|dk []]=hp μ r L []:=by unfold hp;rw[mj _ _ _ hr.2.2]
 have h1:=xf (L':=L) (D:=[]) h hr;refine my (nM (d:=d+5) (t:=24) h1) λx c1 c2 c3 Z c5=>?_
 have c2':im (hp μ r L []) 1 x .B=some (qt (λn q=>.v [.a n,vQ q]) 0 Q):=by rw[c2,show(0:Int)=((0:Nat):Int)from rfl,lG,hs.t24,pg]
 refine uK (L:=L) (c:=1) (n:=0) (λn q=>.v [.a (n:Nat),vQ q]) l5 jP (ok:=λs:Sg=>fZ 1 x (src (hp μ r L []) x) s.2) (turn:=λv (s:Sg)=>match fi s.1 false [22,0] v with|none=>none|some E'=>execs aj (aP aj eU<|d+6) RT E' s.2) (II μ.length r) (λE L' D'=>mH h1 c5 (λa ha=>by
  have hm:=l4 ha;rw[mT (h.lt hm)<|hr.2.1 _ hm,mT (h.lt hm)<|hr.2.1 _ hm])<|.inr rfl) (l:=Q) (fB (qE hL hs.lq) ay) (λp Z=>pq _ _) (λdn q z E L D G e hE hD hm hL hd k=>M0 (d:=d) hw hs h hl hM hN (by rw[hs.t20.1];exact le) (by rw[hs.t23.1];exact lp) (le▸s1) (lp▸hs.lp) hr q (hQ q<|e▸fL.mpr (.inr fA)) (0+dn.length) E L D hE hD hL hd (λq=>Dp hnd e (by have:=(hm _).mp q;rw[iv]at this;exact this)) k) (E:=[(21,.g μ.length),(12,.g 108),(18,.g r)]) ⟨rfl,rfl,rfl⟩ λE1 D' g1 g2 g3 g4 Z=>?_
 have dl:(fy l5 [] 0 (Q.map jP)).length<=40:=al_81 (jM (tr:=l5) (Q.map jP) [] 0) (by rw[fk];exact hs.lq);have h2:=xf (L':=L++fy l5 [] 0 (Q.map jP)) (D:=D') h hr;refine Lc (all:=PE) (ok:=λs:Sg=>fZ 3 (.a 1) (src (hp μ r (L++fy l5 [] 0 (Q.map jP)) D') (.a 1)) s.2) (turn:=λv (s:Sg)=>match fi s.1 true [8] v with|none=>none|some E'=>execs aj (aP aj eU (d+6)) RU E' s.2) (n:=1) (λn Z=>.a (n:Nat)) (λdn (σ:Sg)=>σ.2=hp μ r (L++fy l5 [] 0 (Q.map jP)++j0 1 dn) D'/\II μ.length r σ.1) (λZ Z Z=>rfl) (λdn p z σ G e hi k=>?_) PE [] (E1,_) rfl ⟨by rw[show j0 1 []=[]from rfl,gk],g2⟩ λσ k1 k2=>?_
 .obtain⟨E2,μ2⟩:=σ;have e2:μ2=_:=hi.1;subst e2;have ld:dn.length<PE.length:=by rw[<-e,fj,kg];exact Nat.lt_add_of_pos_right (j5 _)
  refine k (_,_) (Vf (p:=p) hr g3 (n:=1+dn.length) (by lia) hi.2 ?_ ?_) ⟨by rw[v9];exact congrArg (λl=>hp μ r l D') (gA _ _ _),hi.2⟩
  .have:=uL dn 1;rw[fj,fj];exact fB (qE (qE hL dl) (al_81 this (al_81 (iz ld) s1))) ay
  .have:=hk dn.length p (x8 e);have e:(Q.map jP).map Prod.snd=Q.map λq=>(jP q).2:=iv
   rw[<-e]at this;simp only[g4];exact this
 .obtain⟨E2,μ2⟩:=σ;have e2:μ2=_:=k2.1;subst e2;refine⟨[.dict (dk D')],fU (E':=E2) Ve rfl ?_ (.inr ⟨rfl,rfl⟩)⟩;refine(fQ (μ':=hp μ r L []) (by rw[<-e0];rfl)).trans<|(gK (fn (.aR (aE rfl) (.aR fJ .aS)) c1) eT c2' g1).trans ?_;have e2:Ev (aP aj eU (d+6)) E1 (hp μ r (L++fy l5 [] 0 (Q.map jP)) D') (.I .R (.Q (.u 12) 31 [.S 43 (.a 20)]) (.y (.a 1))) (.a ((T 20).length+1:Nat)):=gL (q6 h2 hl (aE g2.1) fJ) eT (by simp only[lY];rfl);refine(gK eT e2 ?_ k1).trans fa;have l20:=hs.t20.1;have:=KS (μ:=hp μ r (L++fy l5 [] 0 (Q.map jP)) D') (m:=1) (n:=(T 20).length+1) eZ eZ;rw[Nat.add_sub_cancel,l20]at this;rw[l20];exact this.trans (congrArg some (qC 1 PE))
end
structure Wd (μ:H) (K:List (Nat×Nat)) (T:Nat->List V) (tx bl:List V):Prop where
 t:Tb μ K T
 x1:d' μ 110=some (.U 1 [(13,.g 111)])
 x2:d' μ 111=some (.j tx)
 b1:d' μ 116=some (.U 1 [(13,.g 117)])
 b2:d' μ 117=some (.j bl)
 sx:tx.length<900
 sb:bl.length<900
section
variable{μ:H} {K:List (Nat×Nat)} {T:Nat->List V} {tx bl:List V} {d t r:Nat} {L:List V} {D:List PyData} {FF:fb} {E:Env} {ss:List St}
def Wd.mv (h:Wd μ K T tx bl) (hk:∀k,k<μ.length->(k<135\/∃p∈K,p.2=k)->d' μ' k=d' μ k):Wd μ' K T tx bl:=
 ⟨h.t.mv λk q=>by
  obtain rfl|rfl|⟨p,hp,rfl⟩:=q
  .exact hk _ (gh h.t.s) (.inl eZ)
  .exact hk _ (gh h.t.d) (.inl eZ)
  .exact hk _ (h.t.lt hp) (.inr ⟨p,hp,rfl⟩),(hk _ (gh h.x1)<|.inl eZ).trans h.x1,(hk _ (gh h.x2)<|.inl eZ).trans h.x2,(hk _ (gh h.b1)<|.inl eZ).trans h.b1,(hk _ (gh h.b2)<|.inl eZ).trans h.b2,h.sx,h.sb⟩
def Wd.ba (h:Wd μ K T tx bl) (G:H):Wd (μ++G) K T tx bl:=h.mv λk hk Z=>iZ _ _ _ hk
def Wd.set (h:Wd μ K T tx bl) (hr:ic r L K μ) (o:O):Wd (fc μ r o) K T tx bl:=h.mv λk hk q=>fT (by
 obtain q|⟨p,hp,rfl⟩:=q
 .have:=hr.1;lia
 .exact λe=>hr.2.1 p hp e.symm)
def Wd.hp (h:Wd μ K T tx bl) (hr:ic r L K μ) (L':List V) (D:List PyData):Wd (MP.hp μ r L' D) K T tx bl:=(h.set hr _).ba _
def Lv (μ:H) (r:Nat) (L:List V) (ν:H):Prop:=∃G,ν=fc μ r (.j L)++G
def Lv.own (h:Lv μ r L ν) (hr:ic r L0 K μ):ic r L K ν:=by
 obtain⟨G,rfl⟩:=h;exact⟨hr.1,hr.2.1,fh<|iW<|gh hr.2.2⟩
def Lv.wd (h:Lv μ r L ν) (hr:ic r L0 K μ) (hw:Wd μ K T tx bl):Wd ν K T tx bl:=by
 obtain⟨G,rfl⟩:=h;exact(hw.set hr _).ba G
def Lv.aT (h:Lv μ r L ν) (hr:r<μ.length) (h':Lv ν r L' ρ):Lv μ r L' ρ:=by
 obtain⟨G,rfl⟩:=h;obtain⟨G',rfl⟩:=h';exact⟨G++G',by rw[xL _ _ _ _ (by rw[ig];exact hr),qm,gA]⟩
def Lv.hp (D:List PyData):Lv μ r L (MP.hp μ r L D):=⟨_,rfl⟩
def Lv.ba (h:Lv μ r L ν) (G:H):Lv μ r L (ν++G):=by
 obtain⟨G',rfl⟩:=h;exact⟨G'++G,by rw[gA]⟩
def Lv.aZ (hr:ic r L K μ):Lv μ r L μ:=⟨[],by simp only[mj _ _ _ hr.2.2,gk]⟩
def Lv.keep (h:Lv μ r L ν) (hk:k<μ.length) (hn:k≠r):d' ν k=d' μ k:=by
 obtain⟨G,rfl⟩:=h;rw[iZ _ _ _ (by rw[ig];exact hk),fT λe=>hn e.symm]
def Ze:ga eU 7=some sW:=rfl
def Zf:ga eU 8=some sY:=rfl
def q8 (h:Wd μ K T tx bl) (hi:fK tx i=some (.z s)):aP aj eU (d+2) 7 [.g 110,.a i] μ=some (.z s,μ):=by
 refine fU (E':=[(14,.g 110),(15,.a i)]) Ze rfl ?_<|.inl rfl;exact gP<|oL (aE rfl) h.x1 rfl nK rfl (.aR (aE rfl) .aS)<|GV h.x1 h.x2 h.sx hi
def M1 (h:Wd μ K T tx bl) (hi:fK bl i=some (.v l)) (hl:l.length<900):aP aj eU (d+2) 8 [.g 116,.a i] μ=some (.v l,μ):=by
 refine fU (E':=[(17,.g 116),(15,.a i)]) Zf rfl ?_<|.inl rfl;have g:Ev (aP aj eU<|d+1) [(17,.g 116),(15,.a i)] μ (.Q (.u 17) 16 [.u 15]) _:=oL (aE rfl) h.b1 rfl nK rfl (.aR (aE rfl) .aS)<|GV h.b1 h.b2 h.sb hi;refine gP ?_;have:Ev (aP aj eU<|d+1) [(17,.g 116),(15,.a i)] μ (.aA<|.Q (.u 17) 16 [.u 15]) (.v l):=by
  simp[Ev]at g⊢;rw[wh,g];simp[items,ip<|show l.length<1000 by lia]
 exact this
noncomputable abbrev RW:List Nat:=[116,119,105,99,101]
abbrev tV (o n:Nat):V:=.v [.a o,.a n,.z RW]
structure wa (T:Nat->List V) (tx bl:List V) (other np:Nat) (sp:Int) (X:List (V×PyData)):Prop where
 len:(T other).length=X.length
 at':∀(n:Nat) x,X[n]?=some x->∃(row:V) (i:Nat) (s:List Nat) (sg:List V),fK (T other) n=some row/\(∀μ,f9 μ row (.a np)=some (.a i))/\fK tx i=some (.z s)/\x.1=.v [.z s,.v sg]/\
  ((sp= -1/\sg=[])\/(0<=sp/\∃b:Nat,(∀μ,f9 μ row (.a sp)=some (.a b))/\fK bl b=some (.v sg)/\sg.length<900))
 key:∀x∈X,(∀μ,jr μ x.1=some x.2)/\fg 6 x.2/\jK x.2=1
noncomputable def IV:List St:=[.G 0<|.Q (.u 12) 16 [.u 32,.u 8],.G 47<|.au (.E .ge (.u 46)<|.y<|.a 0) (.A 8 [.u 17,.D (.u 0)<|.u 46])<|.v [],.G 38<|.v [.A 7 [.u 14,.D (.u 0)<|.u 45],.u 47],.M (.E .V (.u 38)<|.u 21) [.H<|.Z (.u 18)<|.v [.u 32,.u 8,.y<|.z [116,119,105,99,101]]] [],.ae (.u 21) (.u 38)<|.y<|.a 1]
def Lg:List St:=[.ak [33,34]<|.A 15 [.u 12,.u 3,.u 10,.u 32,.u 22],.G 21 .X,.J true [8] 3 (.u 33) (.u 34) IV]
structure IM (r t place other np:Nat) (sp:Int) (E:Env):Prop where
 a12:ci E 12=some (.g 108)
 a14:ci E 14=some (.g 110)
 a17:ci E 17=some (.g 116)
 a18:ci E 18=some (.g r)
 a3:ci E 3=some (.a t)
 a10:ci E 10=some (.a place)
 a32:ci E 32=some (.a other)
 a45:ci E 45=some (.a np)
 a46:ci E 46=some (.a sp)
end
section
variable{μ:H} {K:List (Nat×Nat)} {T:Nat->List V} {tx bl:List V} {d t r:Nat} {L:List V} {D:List PyData} {FF:fb} {E:Env} {ss:List St}
def M2 {place other np:Nat} (hw:Wd μ K T tx bl) (hl:∀t,(T t).length<60) (hr:ic r L0 K μ) (hX:wa T tx bl other np sp X) (hx:X[n]?=some x) (E:Env) (L:List V) (D:List PyData) (hE:IM r t place other np sp E) (h21:ci E 21=some (.g μ.length)) (hD:HK 1 D) (hL:L.length<900) (hd:D.length<900) {G:Prop}
  (kk:∀E',(match fi E true [8] (.a (n+1:Nat))with|none=>none|some E'=>execs aj (aP aj eU<|d+3) IV E'<|hp μ r L D)=some (.C,(E',hp μ r (L++if false=true\/x.2∈D then[tV other<|n+1]else[])<|lH x.2 D))->IM r t place other np sp E'/\ci E' 21=some (.g μ.length)->G):G:=by
 refine(hX.at' n x hx).elim λrow h=>h.elim λi h=>h.elim λs h=>h.elim λsg h=>?_
 have ht:=hw.hp hr L D;refine kk (eP (eP (eP (eP E 8<|.a (n+1:Nat)) 0 row) 47<|.v sg) 38 x.1) ?_ ⟨⟨hE.a12,hE.a14,hE.a17,hE.a18,hE.a3,hE.a10,hE.a32,hE.a45,hE.a46⟩,h21⟩;let E2:=eP (eP E 8<|.a (n+1:Nat)) 0 row;let E3:=eP E2 47<|.v sg;have e47:Ev (aP aj eU (d+3)) E2 (hp μ r L D) (.au (.E .ge (.u 46) (.y (.a 0))) (.A 8 [.u 17,.D (.u 0) (.u 46)]) (.v [])) (.v sg):=by
  obtain⟨q1,q2⟩|⟨q,b,q1,q2,q3⟩:=h.2.2.2.2
  .rw[q2];exact mZ (fG (aE hE.a46) eT (by rw[q1];rfl)) rfl (gv .aS)
  .refine mZ (fG (t:=true) (aE hE.a46) eT ?_) rfl (fn (.aR (aE hE.a17) (.aR (fo (aE (v:=row) rfl) (aE hE.a46) (q1 _)) .aS)) (M1 ht q2 q3));show some (decide ((0:Int)<=sp))=_;rw[fu q]
 have e38:Ev (aP aj eU (d+3)) E3 (hp μ r L D) (.v [.A 7 [.u 14,.D (.u 0) (.u 45)],.u 47]) x.1:=by
  rw[h.2.2.2.1];exact gv (.aR (fn (.aR (aE hE.a14) (.aR (fo (aE (v:=row) rfl) (aE hE.a45) (h.2.1 _)) .aS)) (q8 ht h.2.2.1)) (.aR (aE rfl) .aS))
 refine Eq.trans (fQ (z7 ht.t hl (aE hE.a12) (aE hE.a32) (aE rfl) h.1)) (Eq.trans (fQ e47) (Eq.trans (fQ e38) ?_));exact Hs (gh hr.2.2) hL hd (hX.key x (lL hx)) hD (aE rfl) h21 hE.a18 (gv (.aR (aE hE.a32) (.aR (aE rfl) (.aR eT .aS))))
def jv (other:Nat) (X:List (V×PyData)) (s e:Nat):List V:=fy (tV other) [] s<|((X.drop<|s-1).take<|e-s).map λx=>(false,x.2)
def IW {place other np:Nat} (hw:Wd μ K T tx bl) (hl:∀t,(T t).length<60) (hr:ic r L K μ) (hX:wa T tx bl other np sp X) (hb:xd T t place b) (hi:i<b.length) (h1:1<=gD b (T other).length i) (h2:gD b (T other).length i<=gD b (T other).length (i+1)) (h3:gD b (T other).length (i+1)<=(T other).length+1) (hL:L.length<500) (E:Env) (hE:IM r t place other np sp E) {G:Prop}
  (kk:∀E' ν,(match fi E true [22] (.a (i+1:Nat))with|none=>none|some E'=>execs aj (aP aj eU<|d+4) Lg E' μ)=some (.C,(E',ν))->Lv μ r (L++jv other X (gD b (T other).length i) (gD b (T other).length<|i+1)) ν->IM r t place other np sp E'->G):G:=by
 have lr:=K7 (d:=d+1) (other:=other) hw.t hl hb hi;generalize gD b (T other).length i=s at h1 h2 lr kk;generalize gD b (T other).length (i+1)=e at h2 h3 lr kk;have lo:=hl other;let E1:=eP E 22<|.a (i+1:Nat);let E3:=eP (eP (eP E1 33<|.a s) 34<|.a e) 21<|.g μ.length;have e0:μ++[.dict []]=hp μ r L []:=by unfold hp;rw[mj _ _ _ hr.2.2];rfl
 let l:=(X.drop<|s-1).take<|e-s;have ll:l.length=e-s:=by
  have:=hX.len;simp only[l,List.length_take,List.length_drop];exact ar1 h1<|this▸h3
 refine uK (L:=L) (c:=1) (n:=s) (λn Z=>.a (n:Nat)) (tV other) (λx:V×PyData=>(false,x.2)) (ok:=λs':Sg=>fZ 3 (.a s) (src (hp μ r L [])<|.a s) s'.2) (turn:=λv (s:Sg)=>match fi s.1 true [8] v with|none=>none|some E'=>execs aj (aP aj eU<|d+4) IV E' s.2) (λE'=>IM r t place other np sp E'/\ci E' 21=some (.g μ.length)) (λZ Z Z=>rfl) (l:=l) (by rw[ll];exact fB (Nat.add_lt_add hL<|fq (WL h1 h3) lo) ay) (λx hx=>(hX.key x<|List.mem_of_mem_drop<|List.mem_of_mem_take hx).2) (λdn x z E L D G e' hE hD Z hL hd k=>by
   have hj:=x8 e';have h4:dn.length<e-s:=by rw[<-ll];exact(ke.mp hj).1
   have hx':X[s-1+dn.length]?=some x:=by
    rw[<-hj,List.getElem?_take_of_lt h4,List.getElem?_drop]
   rw[show s+dn.length=s-1+dn.length+1 from ar6 h1]at k;exact M2 (d:=d+1) hw hl hr hX hx' E L D hE.1 hE.2 hD hL hd k) (E:=E3) ⟨⟨hE.a12,hE.a14,hE.a17,hE.a18,hE.a3,hE.a10,hE.a32,hE.a45,hE.a46⟩,rfl⟩ λE' D' g1 g2 Z Z Z=>kk E' _ ?_ (Lv.hp D') g2.1
 refine Eq.trans (qZ<|fn (.aR (aE hE.a12) (.aR (aE hE.a3) (.aR (aE hE.a10) (.aR (aE hE.a32) (.aR (aE rfl) .aS))))) lr) (Eq.trans (fQ (v:=.g μ.length) (μ':=hp μ r L []) (by rw[<-e0];rfl)) ?_);have it:=KS (μ:=hp μ r L []) eZ h2;rw[<-ll,qC]at it;exact(gK (aE (E:=E3) (x:=33) rfl) (aE (x:=34) rfl) it g1).trans fa
def ky (other:Nat) (X:List (V×PyData)) (b:List Nat) (N:Nat):Nat->Nat->List V
 |_,0=>[]
 |i,m+1=>jv other X (gD b N i) (gD b N<|i+1)++ky other X b N (i+1) m
def BV (other:Nat) (X:List (V×PyData)) (s e:Nat):(jv other X s e).length<=e-s:=by
 have:=jM (tr:=tV other) (((X.drop<|s-1).take<|e-s).map λx=>(false,x.2)) [] s;simp only[fk,List.length_take]at this;exact al_81 this<|Nat.min_le_left _ _
theorem Zg {place other np:Nat} {sp:Int} {X:List (V×PyData)} {b:List Nat} (hl:∀t,(T t).length<60) (hX:wa T tx bl other np sp X) (hb:xd T t place b) (hm:∀i,i<b.length->1<=gD b (T other).length i/\gD b (T other).length i<=gD b (T other).length (i+1)/\gD b (T other).length (i+1)<=(T other).length+1) {ok:Sg->Bool} (hok:∀s,ok s):∀(m i:Nat) (μ:H) (L:List V) (E:Env),i+m=b.length->Wd μ K T tx bl->ic r L K μ->L.length+60*m<500->IM r t place other np sp E->∀{G:Prop},
  (∀E' ν,fS ok (λv (s:Sg)=>match fi s.1 true [22] v with|none=>none|some E'=>execs aj (aP aj eU<|d+4) Lg E' s.2) (gZ (i+1:Nat) m) (E,μ)=some (.C,(E',ν))->Lv μ r (L++ky other X b (T other).length i m) ν->G)->G:=by
 intro m
 induction m with
 |zero=>
  intro i μ L E _ hw hr _ hE G k;exact k E μ (hV<|hok _) (by rw[show ky other X b (T other).length i 0=[]from rfl,gk];exact Lv.aZ hr)
 |succ m ih=>
  intro i μ L E he hw hr hL hE G k;have hi:i<b.length:=by lia
  have q:=hm i hi;refine IW (d:=d) hw hl hr hX hb hi q.1 q.2.1 q.2.2 (by lia) E hE λE1 ν a1 a2 a3=>?_
  have lo:=hl other;have ls:=BV other X (gD b (T other).length i) (gD b (T other).length (i+1));refine ih (i+1) ν _ E1 (by lia) (a2.wd hr hw) (a2.own hr) (by rw[fj];exact ar5 hL (al_81 (al_81 ls (WL q.1 q.2.2)) (iz lo))) a3 λE2 ρ b1 b2=>k E2 ρ (f5 (v:=.a (i+1:Nat)) (hok _) a1 b1) ?_
  have:=a2.aT (gh hr.2.2) b2;rw[gA]at this;exact this
def Vh:ga eU 18=some qa:=rfl
def Aa {place other np:Nat} (hl:∀t,(T t).length<60) (hX:wa T tx bl other np sp X) (hb:xd T t place b) (hm:∀i,i<b.length->1<=gD b (T other).length i/\gD b (T other).length i<=gD b (T other).length (i+1)/\gD b (T other).length (i+1)<=(T other).length+1) (hw:Wd μ K T tx bl) (hr:ic r L K μ) (hL:L.length+60*b.length<500)
  {G:Prop} (kk:∀ν,aP aj eU (d+5) 18 [.g 108,.g 110,.g 116,.g r,.v [.a t,.a place,.a other],.a np,.a sp] μ=some (.B,ν)->Lv μ r (L++ky other X b (T other).length 0 b.length) ν->G):G:=by
 let E1:Env:=[(32,.a other),(10,.a place),(3,.a t),(12,.g 108),(14,.g 110),(17,.g 116),(18,.g r),(44,.v [.a t,.a place,.a other]),(45,.a np),(46,.a sp)];refine Zg (d:=d) hl hX hb hm (ok:=λs:Sg=>fZ 3 (.a 1) (src μ<|.a 1) s.2) (λZ=>rfl) b.length 0 μ L E1 (gJ _) hw hr hL ⟨rfl,rfl,rfl,rfl,rfl,rfl,rfl,rfl,rfl⟩ λE' ν g1 g2=>kk ν (fU (E':=E') Vh rfl ?_<|.inr ⟨rfl,rfl⟩) g2
 have e2:Ev (aP aj eU<|d+4) E1 μ (.I .R (.Q (.u 12) 31 [.u 3])<|.y<|.a 1) (.a ((T t).length+1:Nat)):=gL (q6 hw.t hl (aE rfl)<|aE rfl) eT rfl;refine(gK eT e2 ?_ g1).trans fa;have lt:=hl t;have:=KS (μ:=μ) (m:=1) (n:=(T t).length+1) eZ eZ;rw[Nat.add_sub_cancel,hb.1]at this;rw[hb.1];exact this
end
section
variable{μ:H} {K:List (Nat×Nat)} {T:Nat->List V} {tx bl:List V} {d t r:Nat} {L:List V} {D:List PyData} {FF:fb} {E:Env} {ss:List St}
theorem wb {κ:Type} [DecidableEq κ] {tr:Nat->V}:∀(l:List (Bool×κ)) (p:List κ) (n:Nat),(∀x∈l,x.1=false/\x.2∉p)->(l.map Prod.snd).Nodup->fy tr p n l=[]
 |[],_,_,_,_=>rfl
 |(b,k)::rs,p,n,h,hn=>by
  simp only[hW,kh]at hn;obtain⟨h1,h2⟩:=h (b,k) fA;have e:fy tr p n ((b,k)::rs)=(if b=true\/k∈p then[tr n]else[])++fy tr (p++[k]) (n+1) rs:=rfl;rw[e,ff (by dsimp only at h1 h2;simp[h1,h2]),k8];refine wb rs (p++[k]) (n+1) (λx hx=>⟨(h x<|gj _ hx).1,λq=>?_⟩) hn.2;rcases fL.mp q with q|q
  .exact(h x (gj _ hx)).2 q
  .rw[gw]at q;exact hn.1 (by simp only[<-q];exact o9 hx)
def jN (w:Hm):List (Nat×Nat):=(if hj w 1=0 then[]else[(3,hj w 1+1)])++(if hj w 2=0 then[]else[(4,hj w 2+1)])
def IX (w:Hm):jT w 1++jT w 2=(jN w).map λp=>lJ p.1 p.2:=by
 unfold jT jN;split<;>split<;>rfl
noncomputable abbrev jU (P:List (Nat×Nat)):List (PyData×V):=P.map λp=>(.int p.1,.a p.2)
theorem BW:∀(P:List (Nat×Nat)) (a b:Nat),a∉P.map Prod.fst->jn (.int a) (.a b) (jU P)=jU (P++[(a,b)])
 |[],_,_,_=>rfl
 |(x,y)::rs,a,b,h=>by
  simp only[hW,gC,not_or]at h;show(match pZ (.int x) (.int a)with|true=>_|false=>_)=_;rw[qU,fz λe=>h.1 e.symm];show(PyData.int x,V.a y)::jn (.int a) (.a b) (jU rs)=_;rw[BW rs a b h.2];rfl
def vp (P:List (Nat×Nat)) (a:Nat):gq μ (.a a) (jU P)=some (.int a):=by cases P<;>rfl
noncomputable def xh:List St:=[.ae (.u 35) (.D (.u 0)<|.y<|.a 0)<|.D (.u 0)<|.y<|.a 1]
theorem Lh {ok:Sg->Bool} (hok:∀E P,ok (E,μ++[.dict<|jU P])):∀(rows P:List (Nat×Nat)) (E:Env),((P++rows).map Prod.fst).Nodup->P.length+rows.length<900->ci E 35=some (.g μ.length)->
  ∃E',fS ok (λv (s:Sg)=>match fi s.1 true [0] v with|none=>none|some E'=>execs aj FF xh E' s.2) (rows.map λp=>lJ p.1 p.2) (E,μ++[.dict<|jU P])=some (.C,(E',μ++[.dict<|jU<|P++rows]))/\∀y,y≠0->ci E' y=ci E y
 |[],P,E,_,_,_=>⟨E,by rw[gk];exact hV<|hok E P,λZ Z=>rfl⟩
 |(a,b)::rows,P,E,hn,hl,h35=>by
  simp only[kg]at hl;have hna:a∉P.map Prod.fst:=λq=>by
   rw[hK,List.nodup_append]at hn;exact hn.2.2 a q a fF rfl
  have st:mg (μ++[.dict<|jU P]) (.g μ.length) (.a a) (.a b)=some (μ++[.dict<|jU<|P++[(a,b)]]):=by
   rw[sf (nc _) (vp ..)<|ip<|show(jU P).length<1000 by simp;lia,BW P a b hna,v7]
  refine e8 (Lh hok rows (P++[(a,b)]) (eP E 0<|lJ a b) (by simpa using hn) (by simp;lia) (by exact h35)) λE' g1 g2=>⟨E',f5 (s':=(eP E 0 (lJ a b),μ++[.dict (jU (P++[(a,b)]))])) (hok E P) ?_ (by simpa using g1),λy hy=>?_⟩
  .show execs aj FF xh (eP E 0 (lJ a b)) _=_;unfold xh;have e0:Ev FF (eP E 0 (lJ a b)) (μ++[.dict (jU P)]) (.u 0) (lJ a b):=aE (by rfl);exact(qW (fo e0 eT (sI _)) (aE (by exact h35)) (fo e0 eT (pP _)) st).trans fa
  .simp only[g2 y hy,jz,show Nat.beq 0 y=false from pU.mpr λq=>hy (mW q).symm]
def Hu (w:Hm):((jN w).map Prod.fst).Nodup:=by
 unfold jN;split<;>split<;>simp
theorem zk:∀(P:List (Nat×Nat)) (a:Nat),gf (.int a) (jU P)=(kf P a).map λb=>.a b
 |[],_=>rfl
 |(x,y)::rs,a=>by
  show(match pZ (.int x) (.int a)with|true=>some (V.a y)|false=>gf (.int a)<|jU rs)=_;rw[qU];unfold kf;by_cases h:x=a
  .rw[fu h,fv h];rfl
  .rw[fz h,ff h];exact zk rs a
abbrev TD:=V×Nat×List Nat×Nat
noncomputable def RX (x:TD):V:=.v [.a x.2.2.2,.z [],.z x.2.2.1]
noncomputable def qv (x:TD):PyData:=.tuple [.int x.2.2.2,.str ⟨⟨[]⟩⟩,.str ⟨⟨x.2.2.1⟩⟩]
structure RY (w:Hm) (T:Nat->List V) (tx:List V) (X:List TD):Prop where
 rows:T 2=X.map Prod.fst
 at':∀(i:Nat) x,X[i]?=some x->(∀μ,f9 μ x.1 (.a 2)=some (.a (0:Nat)))/\(∀μ,f9 μ x.1 (.a 1)=some (.a x.2.1))/\fK tx x.2.1=some (.z x.2.2.1)/\x.2.2.2=(kf (jN w) (i+1)).getD 0/\nR x.2.2.1=true
 zero:fK tx 0=some (.z [])
def BX (h:nR x.2.2.1):(∀μ,jr μ (RX x)=some (qv x))/\fg 6 (qv x)/\jK (qv x)=1:=by
 have e:fg 6 (qv x):=by
  show(true&&(nR []&&(nR x.2.2.1&&true)))=true;rw[h];rfl
 refine⟨λμ=>?_,e,rfl⟩;have t1:gI μ 6 (RX x)=some (qv x):=congrArg (Option.map PyData.tuple)<|gM (f:=gI μ 5) (v:=.a x.2.2.2) rfl<|gM (f:=gI μ 5) (v:=.z []) rfl<|gM (f:=gI μ 5) (v:=.z x.2.2.1) (e:=.str ⟨⟨x.2.2.1⟩⟩) (HR h) rfl;show(match gI μ 6 _ with|some d=>_|none=>_)=_;have t1':gI μ 6 (.v _)=some _:=t1;rw[t1'];dsimp only;rw[e]
end
noncomputable def tW:V->Nat
 |.v (_::.a t::_)=>t.toNat
 |_=>0
def qD (tx:List V) (i:Nat):List Nat:=match fK tx i with
 |some (.z s)=>s
 |_=>[]
def qw (w:Hm):List TD:=match w.r131 with
 |[a,b,c,d]=>[(a,tW a,qD w.tx0<|tW a,(kf (jN w) 1).getD 0),(b,tW b,qD w.tx0<|tW b,(kf (jN w) 2).getD 0),(c,tW c,qD w.tx0<|tW c,(kf (jN w) 3).getD 0),(d,tW d,qD w.tx0<|tW d,(kf (jN w) 4).getD 0)]
 |_=>[]
section
variable{μ:H} {K:List (Nat×Nat)} {T:Nat->List V} {tx bl:List V} {d t r:Nat} {L:List V} {D:List PyData} {FF:fb} {E:Env} {ss:List St}
def Hv (hw:fR w):qw w=[(zj w 0 1 1,tk w 0,qD w.tx0<|tk w 0,(kf (jN w) 1).getD 0),(zj w 1 1 1,tk w 1,qD w.tx0<|tk w 1,(kf (jN w) 2).getD 0),(zj w 2 1 3,tk w 2,qD w.tx0<|tk w 2,(kf (jN w) 3).getD 0),(zj w 3 1 5,tk w 3,qD w.tx0<|tk w 3,(kf (jN w) 4).getD 0)]:=by
 unfold qw;rw[r131 hw];rfl
abbrev Li (w:Hm) (k:Nat):Prop:=fK w.tx0 k=some (.z<|qD w.tx0 k)/\nR (qD w.tx0 k)=true
def Vi (hw:fR w):(Li w (tk w 0)/\Li w (tk w 1))/\(Li w (tk w 2)/\Li w (tk w 3))/\fK w.tx0 0=some (.z []):=by
 obtain rfl|rfl|rfl|rfl|rfl|rfl:=hw<;>exact⟨⟨⟨rfl,rfl⟩,rfl,rfl⟩,⟨⟨rfl,rfl⟩,rfl,rfl⟩,rfl⟩
def RZ (hw:fR w) (h2:T 2=w.r131) (z:List V):RY w T (w.tx0++z) (qw w):=by
 have n:=Vi hw;refine⟨by rw[h2,Hv hw,r131 hw];rfl,λi x hx=>?_,ju z n.2.2⟩;rw[Hv hw]at hx;cases i with
 |zero=>cases hx;exact⟨λZ=>rfl,λZ=>rfl,ju z n.1.1.1,rfl,n.1.1.2⟩
 |succ i=>cases i with
  |zero=>cases hx;exact⟨λZ=>rfl,λZ=>rfl,ju z n.1.2.1,rfl,n.1.2.2⟩
  |succ i=>cases i with
   |zero=>cases hx;exact⟨λZ=>rfl,λZ=>rfl,ju z n.2.1.1.1,rfl,n.2.1.1.2⟩
   |succ i=>cases i with
    |zero=>cases hx;exact⟨λZ=>rfl,λZ=>rfl,ju z n.2.1.2.1,rfl,n.2.1.2.2⟩
    |succ i=>first|exact fe hx|exact nomatch hx
abbrev sJ (n:Nat):V:=tV 2<|n+1
structure IT (n r oe:Nat) (E:Env):Prop where
 a12:ci E 12=some (.g 108)
 a14:ci E 14=some (.g 110)
 a17:ci E 17=some (.g 116)
 a18:ci E 18=some (.g r)
 a21:ci E 21=some (.g n)
 a35:ci E 35=some (.g oe)
noncomputable def IY:List St:=[.G 38<|.v [.av (.u 35) (.I .R (.u 22)<|.y<|.a 1)<|.y<|.a 0,.A 7 [.u 14,.D (.u 0)<|.y<|.a 2],.A 7 [.u 14,.D (.u 0)<|.y<|.a 1]],.M (.E .V (.u 38)<|.u 21) [.H<|.Z (.u 18)<|.v [.S 37<|.a 2,.I .R (.u 22)<|.y<|.a 1,.y<|.z [116,119,105,99,101]]] [],.ae (.u 21) (.u 38)<|.y<|.a 1]
noncomputable def IZ:List St:=[.G 38<|.v [.D (.u 0)<|.y<|.a 0,.A 7 [.u 14,.D (.u 0)<|.y<|.a 2],.A 7 [.u 14,.D (.u 0)<|.y<|.a 1]],.M (.E .V (.u 38)<|.u 21) [.F] [],.ae (.u 21) (.u 38)<|.y<|.a 1]
def M3:pB.body=[.G 35 .X,.J true [0] 0 (.A 6 [.u 12,.S 36<|.a 41]) (.y .B) xh,.G 21 .X,.J false [22,0] 1 (.A 6 [.u 12,.S 37<|.a 2]) (.y .B) IY,.G 21 .X,.J false [22,0] 1 (.A 6 [.u 12,.S 39<|.a 1]) (.y .B) IZ,
  .H (.A 18 [.u 12,.u 14,.u 17,.u 18,.v [.S 37<|.a 2,.y<|.a 4,.S 40<|.a 4],.y<|.a 1,.y<|.a 2]),.H<|.A 18 [.u 12,.u 14,.u 17,.u 18,.v [.S 37<|.a 2,.y<|.a 5,.S 41<|.a 6],.y<|.a 3,.y<|.a 4],
  .H (.A 18 [.u 12,.u 14,.u 17,.u 18,.v [.S 20<|.a 21,.y<|.a 1,.S 42<|.a 23],.y<|.a 1,.y<|.a 2]),.H<|.A 18 [.u 12,.u 14,.u 17,.u 18,.v [.S 19<|.a 18,.y<|.a 1,.S 43<|.a 20],.y<|.a 1,.aC<|.y<|.a 1]]:=rfl
def M4 (hw:Wd μ K T tx bl) (hr:ic r L0 K μ) (hoe:oe≠r/\d' μ oe=some (.dict<|jU<|jN w)) (hX:RY w T tx X) {n:Nat} (hx:X[n]?=some x) (E:Env) (L:List V) (D:List PyData) (hE:IT μ.length r oe E) (hD:HK 1 D) (hL:L.length<900) (hd:D.length<900) {G:Prop}
  (kk:∀E',(match fi E false [22,0] (.v [.a n,x.1])with|none=>none|some E'=>execs aj (aP aj eU<|d+2) IY E'<|hp μ r L D)=some (.C,(E',hp μ r (L++if false=true\/qv x∈D then[sJ n]else[])<|lH (qv x) D))->IT μ.length r oe E'->G):G:=by
 have f:=hX.at' n x hx;have ht:=hw.hp hr L D;have ge:d' (hp μ r L D) oe=some _:=(mT (gh hoe.2) hoe.1).trans hoe.2;refine kk (eP (eP (eP E 22<|.a n) 0 x.1) 38<|RX x) ?_ ⟨hE.a12,hE.a14,hE.a17,hE.a18,hE.a21,hE.a35⟩;have e1:Ev (aP aj eU<|d+2) (eP (eP E 22<|.a n) 0 x.1) (hp μ r L D) (.av (.u 35) (.I .R (.u 22)<|.y<|.a 1)<|.y<|.a 0) (.a x.2.2.2):=by
  have i35:ci (eP (eP E 22<|.a n) 0 x.1) 35=some (.g oe):=hE.a35;have c22:ci (eP (eP E 22<|.a n) 0 x.1) 22=some (.a n):=rfl;have hd:gf _ _=(kf (jN w)<|n+1).map λb=>.a b:=zk _ _
  have tk:=vp (μ:=hp μ r L D) (jN w)<|n+1;have e:((n:Int)+1)=((n+1:Nat):Int):=rfl;simp only[Ev,zJ,mY,FG,zM,i35,sS,ge,c22,lY,e,tk,hd];rw[f.2.2.2.1];cases kf _ _<;>rfl
 exact Eq.trans (fQ<|gv<|.aR e1<|.aR (fn (.aR (aE hE.a14)<|.aR (fo (aE (v:=x.1) rfl) eT<|f.1 _) .aS)<|q8 ht hX.zero)<|.aR (fn (.aR (aE hE.a14)<|.aR (fo (aE (v:=x.1) rfl) eT<|f.2.1 _) .aS)<|q8 ht f.2.2.1) .aS)<|Hs (gh hr.2.2) hL hd (BX f.2.2.2.2) hD (aE rfl) hE.a21 hE.a18<|gv<|.aR fJ<|.aR (gL (aE (v:=.a n) rfl) eT lY)<|.aR eT .aS
abbrev TR:=V×Nat×List Nat
noncomputable def R0 (x:TR):V:=.v [.a 6,.z [],.z x.2.2]
noncomputable def vq (x:TR):PyData:=.tuple [.int 6,.str ⟨⟨[]⟩⟩,.str ⟨⟨x.2.2⟩⟩]
structure R1 (T:Nat->List V) (tx:List V) (X:List TR):Prop where
 rows:T 1=X.map Prod.fst
 at':∀x∈X,(∀μ,f9 μ x.1 (.a 2)=some (.a (0:Nat)))/\(∀μ,f9 μ x.1 (.a 1)=some (.a x.2.1))/\(∀μ,f9 μ x.1 (.a 0)=some (.a 6))/\fK tx x.2.1=some (.z x.2.2)/\nR x.2.2=true
 zero:fK tx 0=some (.z [])
 nd:(X.map vq).Nodup
def Hw (h:nR x.2.2):(∀μ,jr μ (R0 x)=some (vq x))/\fg 6 (vq x)/\jK (vq x)=1:=BX (x:=(x.1,x.2.1,x.2.2,6)) h
def M5 (hw:Wd μ K T tx bl) (hr:ic r L0 K μ) (hX:R1 T tx X) (x:TR) (hx:x∈X) (n:Nat) (E:Env) (L:List V) (D:List PyData) (hE:IT μ.length r oe E) (hD:HK 1 D) (hd:D.length<900) (hf:vq x∉D) {G:Prop}
  (kk:∀E',(match fi E false [22,0] (.v [.a n,x.1])with|none=>none|some E'=>execs aj (aP aj eU<|d+2) IZ E'<|hp μ r L D)=some (.C,(E',hp μ r (L++if false=true\/vq x∈D then[sJ n]else[])<|lH (vq x) D))->IT μ.length r oe E'->G):G:=by
 have f:=hX.at' x hx;have ht:=hw.hp hr L D;refine kk (eP (eP (eP E 22<|.a n) 0 x.1) 38<|R0 x) ?_ ⟨hE.a12,hE.a14,hE.a17,hE.a18,hE.a21,hE.a35⟩;refine Eq.trans (fQ<|gv<|.aR (fo (aE (v:=x.1) rfl) eT<|f.2.2.1 _)<|.aR (fn (.aR (aE hE.a14)<|.aR (fo (aE (v:=x.1) rfl) eT<|f.1 _) .aS)<|q8 ht hX.zero)<|.aR (fn (.aR (aE hE.a14)<|.aR (fo (aE (v:=x.1) rfl) eT<|f.2.1 _) .aS)<|q8 (d:=d) ht f.2.2.2.1) .aS) ?_;have q:=Hw f.2.2.2.2;have inn:=Fa (FF:=aP aj eU<|d+2) (E:=eP (eP (eP E 22<|.a n) 0 x.1) 38<|R0 x) (r:=r) (L:=L) (kx:=.u 38) q hD (aE rfl) hE.a21;rw[fz hf]at inn;rw[ff λh=>h.elim nofun hf,gk];exact(gn inn rfl fa).trans<|qu q hD hd (aE rfl) hE.a21
end
section
variable{μ:H} {K:List (Nat×Nat)} {T:Nat->List V} {tx bl:List V} {d t r:Nat} {L:List V} {D:List PyData} {FF:fb} {E:Env} {ss:List St}
def Lj (r:PR):V:=.v [.z [r.1],uG r]
noncomputable def vr (r:PR):PyData:=.tuple [.str ⟨⟨[r.1]⟩⟩,.tuple [.int<|if r.2.2.1 % 2=1 then 8 else 40,.int 0,.tuple [.int<|if r.2.1=7 then 8 else 10],.tuple []]]
noncomputable def Lk (r:ER):V:=.v [.z [r.1],.v []]
noncomputable def vt (r:ER):PyData:=.tuple [.str ⟨⟨[r.1]⟩⟩,.tuple []]
def XP (P:List (Nat×PR)):List (V×PyData):=P.map λp=>(Lj p.2,vr p.2)
def XE (P:List (Nat×ER)):List (V×PyData):=P.map λp=>(Lk p.2,vt p.2)
def Ll (hv:v=.v l) (h1:∀μ,gI μ 6 v=some k) (h2:fg 6 k):∀μ,jr μ v=some k:=λμ=>by
 subst hv;show(match gI μ 6 _ with|some d=>_|none=>none)=_;rw[h1 μ];dsimp only;rw[h2]
def R2 {r:PR} (h:i5 r):(∀μ,jr μ (Lj r)=some (vr r))/\fg 6 (vr r)/\jK (vr r)=1:=by
 obtain⟨a,b,c,d⟩:=r;obtain rfl|rfl:=h.1<;>exact⟨Ll rfl (λμ=>rfl) rfl,rfl,rfl⟩
def R3 {r:ER} (h:jY r):(∀μ,jr μ (Lk r)=some (vt r))/\fg 6 (vt r)/\jK (vt r)=1:=by
 obtain⟨a,b,c⟩:=r;obtain rfl|rfl:=h.1<;>exact⟨Ll rfl (λμ=>rfl) rfl,rfl,rfl⟩
def Zh (h:qq tx bl (T 23) P) (ho:∀p∈P,i5 p.2):wa T tx bl 23 1 2 (XP P):=by
 refine⟨by rw[h.1];simp[XP],λn x hx=>?_,λx hx=>?_⟩
 .simp only[XP,List.getElem?_map]at hx;obtain⟨p,hp,rfl⟩:=Option.map_eq_some_iff.mp hx;exact kF (h.2 n p hp) λi b a1 a2 a3=>⟨_,i,_,_,a1,sI,a2,rfl,.inr ⟨ay,b,zf,a3,fF⟩⟩
 .obtain⟨p,hp,rfl⟩:=fW.mp hx;exact R2<|ho p hp
def Zi (h:qp tx (T 20) P) (ho:∀p∈P,jY p.2):wa T tx bl 20 1 (-1) (XE P):=by
 refine⟨by rw[h.1];simp[XE],λn x hx=>?_,λx hx=>?_⟩
 .simp only[XE,List.getElem?_map]at hx;obtain⟨p,hp,rfl⟩:=Option.map_eq_some_iff.mp hx;exact e8 (h.2 n p hp) λi a1 a2=>⟨_,i,_,[],a1,sI,a2,rfl,.inl ⟨rfl,rfl⟩⟩
 .obtain⟨p,hp,rfl⟩:=fW.mp hx;exact R3<|ho p hp
noncomputable abbrev kM:PyData:=.tuple [.str ⟨⟨[109]⟩⟩,.tuple [.int 32,.int 0,.tuple [.int 1],.tuple []]]
noncomputable abbrev kN:PyData:=.tuple [.str ⟨⟨[110]⟩⟩,.tuple [.int 0,.int 0,.tuple [.int 1],.tuple []]]
abbrev xM:V×PyData:=(.v [.z [109],bt 32 1],kM)
abbrev xN:V×PyData:=(.v [.z [110],bt 0 1],kN)
def XM:List (V×PyData):=[xM,xN,xM,xN,xM,xN]
noncomputable def BY (k b:Nat):V:=.v [.a (0:Nat),.a (0:Nat),.a (0:Nat),.a k,.a b,.a (1:Nat)]
def r134 (hw:fR w) (z:List V):∃k,w.r134=[BY k 1,BY (k+1) 2,BY k 1,BY (k+1) 2,BY k 1,BY (k+1) 2]/\fK (w.tx0++z) k=some (.z [109])/\fK (w.tx0++z) (k+1)=some (.z [110]):=by
 obtain rfl|rfl|rfl|rfl|rfl|rfl:=hw<;>first|exact⟨6,rfl,rfl,rfl⟩|exact⟨7,rfl,rfl,rfl⟩
def Zj (hw:fR w) (h6:T 6=w.r134) (z y:List V):wa T (w.tx0++z) ([.ah,bt 32 1,bt 0 1]++y) 6 3 4 XM:=by
 refine gT (r134 hw z) λk e g1 g2=>?_
 rw[e]at h6;have row:∀{n k b:Nat} {s:List Nat} {sg:List V},fK (T 6) n=some (BY k b)->fK (w.tx0++z) k=some (.z s)->fK ([.ah,bt 32 1,bt 0 1]++y) b=some (.v sg)->sg.length<900->∃(row:V) (i:Nat) (s':List Nat) (sg':List V),fK (T 6) n=some row/\(∀μ,f9 μ row (.a (3:Nat))=some (.a i))/\fK (w.tx0++z) i=some (.z s')/\V.v [.z s,.v sg]=.v [.z s',.v sg']/\(((4:Int)= -1/\sg'=[])\/(0<=(4:Int)/\∃b:Nat,(∀μ,f9 μ row (.a 4)=some (.a b))/\fK ([.ah,bt 32 1,bt 0 1]++y) b=some (.v sg')/\sg'.length<900)):=λ{n k b s sg} a1 a2 a3 a4=>⟨_,k,s,sg,a1,λZ=>rfl,a2,rfl,.inr ⟨ay,b,λZ=>rfl,a3,a4⟩⟩
 refine⟨by rw[h6];rfl,λn x hx=>?_,λx hx=>?_⟩
 .match n,hx with
  |0,hx|2,hx|4,hx=>cases hx;exact row (by rw[h6];rfl) g1 rfl ay
  |1,hx|3,hx|5,hx=>cases hx;exact row (by rw[h6];rfl) g2 rfl ay
 .have kk:(∀μ,jr μ xM.1=some kM)/\fg 6 kM/\jK kM=1:=⟨λZ=>rfl,rfl,rfl⟩;have kn:(∀μ,jr μ xN.1=some kN)/\fg 6 kN/\jK kN=1:=⟨λZ=>rfl,rfl,rfl⟩;have:x=xM\/x=xN:=by
   simp[XM,gC,jw,or_false]at hx;obtain h|h|h|h|h|h:=hx<;>first|exact .inl h|exact .inr h
  obtain rfl|rfl:=this
  .exact kk
  .exact kn
def yb (a b c:Nat):∀i,i<((gG a b c).map Prod.snd).length->1<=gD ((gG a b c).map Prod.snd) (a+b+c) i/\gD ((gG a b c).map Prod.snd) (a+b+c) i<=gD ((gG a b c).map Prod.snd) (a+b+c) (i+1)/\gD ((gG a b c).map Prod.snd) (a+b+c) (i+1)<=a+b+c+1:=by
 intro i hi;rw[fk]at hi;rw[<-Fb];exact tU [a,b,c] 0 0 i hi
def Vj:ky 4 [] [1,1,1,1] 0 0 4=[]:=by rfl
def Vk:ky 6 XM [1,1,3,5] 6 0 4=[]:=by
 have n2:([kM,kN]:List PyData).Nodup:=fF;have s2:∀s,fy (tV 6) ([]:List PyData) s [(false,kM),(false,kN)]=[]:=λs=>wb _ _ _ fF n2
 have e1:jv 6 XM 1 1=[]:=by rfl
 have e2:jv 6 XM 1 3=[]:=s2 1;have e3:jv 6 XM 3 5=[]:=s2 3;have e4:jv 6 XM 5 7=[]:=s2 5;show jv 6 XM 1 1++(jv 6 XM 1 3++(jv 6 XM 3 5++(jv 6 XM 5 7++[])))=[];simp only[e1,e2,e3,e4];rfl
def Vl:ga eU 17=some pB:=rfl
def R4 {ms:List Nat} (hw:fR w) (hs:i6 w T tx bl ms PE PP PI Q) (hz:tx=w.tx0++z):∃X,R1 T tx X/\X.length<=2:=by
 have z0:fK tx 0=some (.z []):=by rw[hz];obtain rfl|rfl|rfl|rfl|rfl|rfl:=hw<;>rfl
 have z3:fK tx 3=some (.z [79,98,106,101,99,116]):=by rw[hz];obtain rfl|rfl|rfl|rfl|rfl|rfl:=hw<;>rfl
 obtain e|⟨i,e,hi⟩:=hs.t1
 .refine⟨[(pM,3,[79,98,106,101,99,116])],⟨e,λx hx=>?_,z0,fF⟩,fF⟩;rw[gw.mp hx];exact⟨λZ=>rfl,λZ=>rfl,λZ=>rfl,z3,rfl⟩
 .refine⟨[(pM,3,[79,98,106,101,99,116]),(.v _,i,za)],⟨e,λx hx=>?_,z0,by simp[vq]⟩,fF⟩;simp[gC,jw,or_false]at hx;obtain rfl|rfl:=hx
  .exact(jj (λZ=>rfl) (λZ=>rfl) (λZ=>rfl) z3 rfl)
  .exact(jj zf sI pP hi rfl)
end
section
variable{μ:H} {K:List (Nat×Nat)} {T:Nat->List V} {tx bl:List V} {d t r:Nat} {L:List V} {D:List PyData} {FF:fb} {E:Env} {ss:List St}
def yc (hw:fR w):(qw w).length=4:=by obtain rfl|rfl|rfl|rfl|rfl|rfl:=hw<;>rfl
def lK (w:Hm):List V:=fy sJ [] 0<|(qw w).map λx=>(false,qv x)
def tX (w:Hm) (PE:List (Nat×ER)) (PP:List (Nat×PR)) (a b c a' b' c':Nat):List V:=lK w++ky 23 (XP PP) ((gG a' b' c').map Prod.snd) (a'+b'+c') 0 ((gG a' b' c').map Prod.snd).length++ky 20 (XE PE) ((gG a b c).map Prod.snd) (a+b+c) 0 ((gG a b c).map Prod.snd).length
def sr (a b c:Nat):(gG a b c).length<=3:=by
 have g:∀(j o a:Nat) (r:List Nat),(mapG j o (a::r)).length<=(mapG (j+1) (o+a) r).length+1:=λj o a r=>by
  cases a with
  |zero=>exact kj _
  |succ a=>exact fX _
 exact al_81 (g _ _ _ _)<|lf<|al_81 (g _ _ _ _)<|lf<|g _ _ _ _
theorem BZ (o:Nat) (X:List (V×PyData)) (b:List Nat) (N:Nat) (hb:∀i,i<b.length->gD b N (i+1)<=60):∀(m i:Nat),i+m<=b.length->(ky o X b N i m).length<=60*m
 |0,_,_=>ji _
 |m+1,i,h=>by
  have h1:=BZ o X b N hb m (i+1) eZ;have h2:=BV o X (gD b N i)<|gD b N<|i+1;have h3:=hb i eZ;show(jv o X (gD b N i) (gD b N<|i+1)++ky o X b N (i+1) m).length<=_;rw[fj,ij,Nat.mul_succ];exact gR h1<|al_81 h2<|al_81 (Nat.sub_le _ _) h3
def Dr {ι:Type} {oe g t:Nat} (body:List St) (X:List ι) (row:ι->V) (bk:ι->Bool×PyData) (w1:Wd μ K T tx bl) (o1:ic r L K μ) {E:Env} (hE:∀n,IT n r oe<|eP E 21<|.g n) (rows:T t=X.map row) (hl:X.length<=10) (hL:L.length<100) (hk:∀x∈X,fg 6 (bk x).2/\jK (bk x).2=1)
  (ht:∀dn x z E L' D {G:Prop},dn++x::z=X->IT μ.length r oe E->HK 1 D->(∀y,y∈D↔y∈(dn.map bk).map Prod.snd)->L'.length<900->D.length<900->(∀E',(match fi E false [22,0] (.v [.a (0+dn.length:Nat),row x])with|none=>none|some E'=>execs aj (aP aj eU<|d+6) body E'<|hp μ r L' D)=some (.C,(E',hp μ r (L'++if(bk x).1=true\/(bk x).2∈D then[sJ<|0+dn.length]else[])<|lH (bk x).2 D))->IT μ.length r oe E'->G)->G) {G:Prop}
  (kk:∀E' D',(∀{ss},execs aj (aP aj eU<|d+6) (.G 21 .X::.J false [22,0] 1 (.A 6 [.u 12,.S g<|.a t]) (.y .B) body::ss) E μ=execs aj (aP aj eU<|d+6) ss E' (hp μ r (L++fy sJ [] 0 (X.map bk)) D'))->IT μ.length r oe E'->G):G:=by
 have e1:μ++[.dict<|dk []]=hp μ r L []:=by unfold hp;rw[mj _ _ _ o1.2.2]
 have t1:=(w1.hp o1 L []).t;refine my (nM (d:=d+5) (t:=t) t1) λx c1 c2 c3 Z c5=>?_
 have c2':im (hp μ r L []) 1 x .B=some (qt (λn x=>.v [.a n,row x]) 0 X):=by rw[c2,show(0:Int)=((0:Nat):Int)from rfl,lG,rows,pg]
 refine uK (L:=L) (c:=1) (n:=0) (λn x=>.v [.a (n:Nat),row x]) sJ bk (ok:=λs:Sg=>fZ 1 x (src (hp μ r L []) x) s.2) (turn:=λv (s:Sg)=>match fi s.1 false [22,0] v with|none=>none|some E'=>execs aj (aP aj eU<|d+6) body E' s.2) (IT μ.length r oe) (λE L' D'=>mH t1 c5 (λa ha=>by
  have hm:=l4 ha;rw[mT (w1.t.lt hm)<|o1.2.1 _ hm,mT (w1.t.lt hm) (o1.2.1 _ hm)]) (.inr rfl)) (l:=X) (fB (qE hL hl) ay) hk ht (hE μ.length) λE' D' g1 g2 Z Z Z=>kk E' D' (λ{ss}=>?_) g2
 exact Eq.trans (fQ (v:=.g μ.length) (μ':=hp μ r L []) (by rw[<-e1];rfl)) (gK (fn (.aR (aE (hE μ.length).a12) (.aR fJ .aS)) c1) eT c2' g1)
def I0 {ms:List Nat} (hw:fR w) (hs:i6 w T tx bl ms PE PP PI Q) (hz:tx=w.tx0++z) (hy:bl=[.ah,bt 32 1,bt 0 1]++y) (hd:Wd μ K T tx bl) (hl:∀t,(T t).length<60) (hM:T 18=(gG a b c).map md) (hN:T 21=(gG a' b' c').map md) (le:PE.length=a+b+c) (lp:PP.length=a'+b'+c') (oE:∀p∈PE,jY p.2) (oP:∀p∈PP,i5 p.2) (hr:ic r L K μ) (hL:L=[])
  {G:Prop} (kk:∀ν,aP aj eU (d+7) 17 [.g 108,.g 110,.g 116,.g r] μ=some (.B,ν)->Lv μ r (tX w PE PP a b c a' b' c') ν->G):G:=by
 subst hL;have rl:=gh hr.2.2;have d1:=hd.ba [.dict<|jU []];refine my (nM (d:=d+5) (t:=41) d1.t) λx1 q1 q2 q3 Z q5=>?_
 have r41:T 41=(jN w).map λp=>lJ p.1 p.2:=by rw[hs.t41,IX]
 have le41:(jN w).length<=2:=by unfold jN;split<;>split<;>simp
 refine e8 (Lh (FF:=aP aj eU<|d+6) (μ:=μ) (ok:=λs:Sg=>fZ 0 x1 (src (μ++[.dict<|jU []]) x1) s.2) (λE P=>mH d1.t q5 (λa ha=>by
  have:=hd.t.lt<|l4 ha;show d' (μ++[.dict<|jU P]) a=d' (μ++[.dict<|jU []]) a;rw[iZ _ _ _ this,iZ _ _ _ this])<|.inl rfl) (jN w) [] [(35,.g μ.length),(12,.g 108),(14,.g 110),(17,.g 116),(18,.g r)] (Hu w) (by rw[nC,gJ];exact fB (mO le41) ay) rfl) λE1 g1 g2=>?_
 have l1:Lv μ r [] (μ++[.dict<|jU<|jN w]):=Lv.ba (Lv.aZ hr) _;have w1:=l1.wd hr hd;have o1:=l1.own hr;have oe:d' (μ++[.dict<|jU<|jN w]) μ.length=some (.dict<|jU<|jN w):=hO _ _;have pre:∀{ss},execs aj (aP aj eU (d+6)) (.G 35 .X::.J true [0] 0 (.A 6 [.u 12,(.S 36 (.a 41))]) (.y .B) xh::ss) [(12,.g 108),(14,.g 110),(17,.g 116),(18,.g r)] μ=execs aj (aP aj eU (d+6)) ss E1 (μ++[.dict (jU (jN w))]):=λ{ss}=>
  Eq.trans (fQ (v:=.g μ.length) (μ':=μ++[.dict []]) rfl) (gK (fn (.aR (aE rfl) (.aR fJ .aS)) q1) eT (by rw[<-r41];exact q3) g1)
 generalize μ++[.dict (jU (jN w))]=μ1 at l1 w1 o1 oe pre;have tdo:=RZ (T:=T) hw hs.t2 z;rw[<-hz]at tdo;refine Dr (d:=d) (g:=37) (t:=2) (oe:=μ.length) IY (qw w) Prod.fst (λx:TD=>(false,qv x)) w1 o1 (E:=E1) (λn=>⟨g2 12 ay,g2 14 ay,g2 17 ay,g2 18 ay,rfl,g2 35 ay⟩) tdo.rows (by rw[yc hw];decide) ay (λx hx=>by
   obtain⟨i,hi,e⟩:=List.getElem_of_mem hx;exact(BX (tdo.at' i x (by rw[ka hi,e])).2.2.2.2).2) (λdn x z E L D G e hE hD Z hL hd' k=>M4 (d:=d+4) w1 o1 ⟨Nat.ne_of_gt rl,oe⟩ tdo ((congrArg ((qw w)[·]?) (gJ dn.length)).trans (x8 e)) E L D hE hD hL hd' k) λE2 D2 h1 h2=>?_
 have ltd:(lK w).length<=4:=al_81 (jM (tr:=sJ) ((qw w).map λx=>(false,qv x)) [] 0) (by rw[fk,yc hw];exact fX _);have l2:Lv μ1 r (lK w) (hp μ1 r ([]++fy sJ [] 0 ((qw w).map λx=>(false,qv x))) D2):=Lv.hp D2;have w2:=l2.wd o1 w1;have o2:=l2.own o1;have L2:=l1.aT rl l2;generalize hp μ1 r ([]++fy sJ [] 0 ((qw w).map λx=>(false,qv x))) D2=μ2 at h1 l2 w2 o2 L2;refine e8 (R4 hw hs hz) λX hX hXl=>Dr (d:=d) (g:=39) (t:=1) (oe:=μ.length) IZ X Prod.fst (λx:TR=>(false,vq x)) w2 o2 (E:=E2) (λn=>⟨h2.a12,h2.a14,h2.a17,h2.a18,rfl,h2.a35⟩) hX.rows (al_81 hXl ay) (fq ltd ay) (λx hx=>(Hw (hX.at' x hx).2.2.2.2).2) (λdn x z E L D G e hE hD hm hL hd' k=>M5 (d:=d+4) w2 o2 hX x (e▸fL.mpr (.inr fA)) (0+dn.length) E L D hE hD hd' (λq=>Dp hX.nd e (by have:=(hm _).mp q;rw[iv]at this;exact this)) k) λE3 D3 k1 k2=>?_
 have nil3:fy sJ [] 0 (X.map λx=>(false,vq x))=[]:=wb _ _ _ (λx hx=>by
  obtain⟨u,_,rfl⟩:=fW.mp hx;exact⟨rfl,jw⟩) (by rw[iv];exact hX.nd)
 rw[nil3,gk]at k1;have l3:Lv μ2 r (lK w) (hp μ2 r (lK w) D3):=Lv.hp D3;have w3:=l3.wd o2 w2;have o3:=l3.own o2;have L3:=L2.aT rl l3;generalize hp μ2 r (lK w) D3=μ3 at k1 w3 o3 L3;have t4:T 4=[]:=hs.other 4 ay ay ay ay ay ay ay ay ay ay ay ay;have l6:=BN hw hs;have bd:=Ld hw hs;have lt:(lK w).length<500-60*4:=fq ltd ay;refine Aa (d:=d+1) (μ:=μ3) (t:=2) (place:=4) (other:=4) (np:=1) (sp:=2) (X:=[]) hl ⟨by rw[t4];rfl,λn x hx=>(nomatch hx),λx hx=>(jw hx).elim⟩ bd.2 (by rw[t4];exact(ay:∀i,i<4->1<=gD [1,1,1,1] 0 i/\gD [1,1,1,1] 0 i<=gD [1,1,1,1] 0 (i+1)/\gD [1,1,1,1] 0 (i+1)<=1)) w3 o3 (Nat.add_lt_of_lt_sub lt) λν4 p1 p2=>?_
 rw[t4,show ky 4 [] [1,1,1,1] ([]:List V).length 0 [1,1,1,1].length=[]from Vj,gk]at p2;have w4:=p2.wd o3 w3;have o4:=p2.own o3;refine Aa (d:=d+1) (μ:=ν4) (t:=2) (place:=5) (other:=6) (np:=3) (sp:=4) (X:=XM) hl (by rw[hz,hy];exact Zj hw hs.t6 z y) bd.1 (by rw[l6];exact(ay:∀i,i<4->1<=gD [1,1,3,5] 6 i/\gD [1,1,3,5] 6 i<=gD [1,1,3,5] 6 (i+1)/\gD [1,1,3,5] 6 (i+1)<=7)) w4 o4 (Nat.add_lt_of_lt_sub lt) λν5 p3 p4=>?_
 rw[l6,show ky 6 XM [1,1,3,5] 6 0 [1,1,3,5].length=[]from Vk,gk]at p4;have w5:=p4.wd o4 w4;have o5:=p4.own o4;have L5:=(L3.aT rl p2).aT rl p4;have l23:(T 23).length=a'+b'+c':=hs.t23.1.trans lp;have l20:(T 20).length=a+b+c:=hs.t20.1.trans le;have lm:((gG a b c).map Prod.snd).length<=3:=by rw[fk];exact sr a b c
 have lm':((gG a' b' c').map Prod.snd).length<=3:=by rw[fk];exact sr a' b' c'
 refine Aa (d:=d+1) (μ:=ν5) (t:=21) (place:=1) (other:=23) (np:=1) (sp:=2) (X:=XP PP) hl (Zh hs.t23 oP) (BU hN) (by rw[l23];exact yb a' b' c') w5 o5 (by lia) λν6 p5 p6=>?_
 rw[l23]at p6;have w6:=p6.wd o5 w5;have o6:=p6.own o5;have mm:=yb a' b' c';have s23:=hl 23;have sl:=BZ 23 (XP PP) ((gG a' b' c').map Prod.snd) (a'+b'+c') (λi hi=>al_81 (mm i hi).2.2 (by rw[<-l23];exact s23)) ((gG a' b' c').map Prod.snd).length 0 (la (gJ _));refine Aa (d:=d+1) (μ:=ν6) (t:=18) (place:=1) (other:=20) (np:=1) (sp:= -1) (X:=XE PE) hl (Zi hs.t20 oE) (BU hM) (by rw[l20];exact yb a b c) w6 o6 (by rw[fj];lia) λν7 p7 p8=>?_
 rw[l20]at p8;refine kk ν7 (fU (fl:=.C) (E:=[(12,.g 108),(14,.g 110),(17,.g 116),(18,.g r)]) (E':=E3) Vl rfl ?_ (.inr ⟨rfl,rfl⟩)) ((L5.aT rl p6).aT rl p8);rw[M3];have call:∀{x1 x2:Nat} {place:Nat} {np sp:V} {t o ν ν'} {e:Ex} {ss},aP aj eU (d+6) 18 [.g 108,.g 110,.g 116,.g r,.v [.a t,.a place,.a o],np,sp] ν=some (.B,ν')->Ev (aP aj eU (d+6)) E3 ν e sp->execs aj (aP aj eU (d+6)) (.H (.A 18 [(.u 12),(.u 14),(.u 17),(.u 18),(.v [(.S x1 (.a t)),(.y (.a place)),(.S x2 (.a o))]),(.y np),e])::ss) E3 ν=execs aj (aP aj eU (d+6)) ss E3 ν':=λp q=>
  gi (v:=.B) (fn (.aR (aE k2.a12) (.aR (aE k2.a14) (.aR (aE k2.a17) (.aR (aE k2.a18) (.aR (gv (.aR fJ (.aR eT (.aR fJ .aS)))) (.aR eT (.aR q .aS))))))) p)
 exact pre.trans (h1.trans (k1.trans ((call p1 eT).trans ((call p3 eT).trans ((call p5 eT).trans ((call p7 (EC eT)).trans fa))))))
end
section
variable{μ:H} {d:Nat} {FF:fb} {E:Env} {ss:List St}
structure Ds (l:List V) (ds:List PyData):Prop where
 len:l.length=ds.length
 at':∀(i:Nat) v,l[i]?=some v->∃k,ds[i]?=some k/\(∀μ,gI μ gN v=some k)/\fg 6 k=true
def Ds.aS:Ds [] []:=⟨rfl,λi v h=>by simp at h⟩
def Ds.aR (h:∀μ,gI μ gN v=some k) (hk:fg 6 k) (r:Ds l ds):Ds (v::l) (k::ds):=by
 refine⟨by simp[r.len],λi u hu=>?_⟩;cases i with
 |zero=>cases hu;exact⟨k,Jf rfl h hk⟩
 |succ i=>exact r.at' i u ‹_›
theorem Ds.cA {α:Type} {f:α->V} {g:α->PyData}:∀(l:List α),(∀x∈l,(∀μ,gI μ gN (f x)=some (g x))/\fg 6 (g x))->Ds (l.map f) (l.map g)
 |[],_=>Ds.aS
 |x::r,h=>Ds.aR (h x fA).1 (h x fA).2<|Ds.cA r λy hy=>h y<|gj _ hy
def Ds.cB (h:Ds l ds) (n:Nat):Ds (l.take n) (ds.take n):=by
 refine⟨by simp[h.len],λi v hv=>?_⟩;have hi:=(ke.mp hv).1;have hin:i<n:=by simp at hi;lia
 rw[List.getElem?_take_of_lt hin]at hv;exact gT (h.at' i v hv) λk h1 h2 h3=>⟨k,by rw[List.getElem?_take_of_lt hin];exact h1,h2,h3⟩
theorem Dt {k:PyData} (hk:fg 6 k):∀{l:List V} {ds:List PyData},Ds l ds->sR μ k l=some (decide<|k∈ds)
 |[],[],_=>congrArg some (fz jw).symm
 |v::r,k'::ds,h=>by
  refine gT (h.at' 0 v rfl) λk1 e1 h1 h2=>?_
  cases e1;have hr:Ds r ds:=⟨by simpa using h.len,λi u hu=>by simpa using h.at' (i+1) u (by simpa using hu)⟩;rw[Ak,h1 μ];dsimp only;rw[Dt hk hr];dsimp only;rw[Kl (ub 6 h2 hk)];by_cases e:k'=k
  .subst e;simp
  .have:¬k=k':=λq=>e q.symm
   simp[e,this]
 |[],k'::ds,h=>by have:=h.len;simp at this
 |v::r,[],h=>by have:=h.len;simp at this
def Hx (h1:∀μ,gI μ gN v=some k) (hk:fg 6 k) (h:Ds l ds):nE μ v l=some (decide<|k∈ds):=by
 unfold nE;rw[h1 μ];exact Dt hk h
theorem zl (tr:Nat->V) (all:List PyData):∀(suf prev:List PyData),all=prev++suf->((List.range' prev.length suf.length).filter λi=>decide<|all.getD i .none∈all.take i).map (λi=>tr<|i+1)=fy tr prev (prev.length+1) (suf.map λk=>(false,k))
 |[],prev,_=>rfl
 |k::r,prev,e=>by
  have ih:=zl tr all r (prev++[k]) (by rw[e];simp);have g1:all.getD prev.length .none=k:=by rw[e];simp
  have g2:all.take prev.length=prev:=by rw[e];simp
  simp only[fj,kg,nC,gJ]at ih;simp only[kg,List.range'_succ,List.filter_cons,g1,g2,hW];have e2:fy tr prev (prev.length+1) ((false,k)::r.map λk=>(false,k))=(if false=true\/k∈prev then[tr (prev.length+1)]else[])++fy tr (prev++[k]) (prev.length+1+1) (r.map λk=>(false,k)):=rfl;simp only[e2,<-ih];by_cases q:k∈prev
  .rw[fv (by simp[q]),fv (.inr q)];rfl
  .rw[ff (by simp[q]),ff (by simp[q])];rfl
def Fc (n:Nat):gZ 0 n=(List.range n).map λi:Nat=>V.a i:=by
 have h:∀(n k:Nat),gZ (k:Int) n=(List.range' k n).map λi:Nat=>V.a i:=by
  intro n
  induction n with
  |zero=>intro k;rfl
  |succ n ih=>
   intro k;simp only[List.range'_succ,hW,<-ih _];show V.a k::gZ _ n=_;rw[show(k:Int)+1=((k+1:Nat):Int)by lia]
 have:=h n 0;simp only[show(0:Int)=((0:Nat):Int)from rfl,this,List.range_eq_range']
def Vm:ga eU 87=some nW:=rfl
abbrev kY (t n:Nat):V:=.v [.a t,.a n,.z RW]
def su (μ:H) (v:V) (l:List V):Prop:=v=.w l\/∃k,v=.g k/\d' μ k=some (.j l)
def su.ba (h:su μ v l) (G:H):su (μ++G) v l:=by
 obtain h|⟨k,h1,h2⟩:=h
 .exact .inl h
 .exact .inr ⟨k,h1,fh h2⟩
def Hy (h:Ev FF E μ e v) (hv:su μ v l) (hl:l.length<900):Ev FF E μ (.len e) (.a l.length):=by
 obtain rfl|⟨k,rfl,hk⟩:=hv
 .simp[Ev]at h⊢;simp[rD,h,ip<|show l.length<1000 by lia]
 .exact qn h hk (nA ‹_› ay)
def R5 (hv:su μ v l) {i:Nat} (hi:i<=1000):f9 μ v (.a i)=fK l i:=by
 obtain rfl|⟨k,rfl,hk⟩:=hv
 .exact wS (nB ‹_› ay)
 .exact jO hk (nB ‹_› ay)
def R6 (n i:Nat):part n (.a i)=some i:=rfl
def M6 (hv:su μ v l) (hl:l.length<900) (i:Nat):qF μ v .B (.a i)=some (.w<|l.take i):=by
 have:rB l .B (.a i)=some (.w<|l.take i):=by
  unfold rB;simp only[show part 0 .B=some 0 from rfl,R6,ip<|show l.length<1000 by lia];simp
 obtain rfl|⟨k,rfl,hk⟩:=hv
 .exact this
 .simp[qF,hk];exact this
theorem Hz:∀(l:List V) (i:Nat),fK l i=l[i]?
 |[],i=>by cases i<;>rfl
 |a::r,0=>rfl
 |a::r,i+1=>by
  show fK r i=_;rw[Hz r i];simp
def sv (hv:su μ v l) (h:Ds l ds) (hl:l.length<800) (t:Nat):aP aj eU (d+1) 87 [v,.a t] μ=some (.g μ.length,μ++[.j<|fy (kY t) [] 1<|ds.map λk=>(false,k)]):=by
 let E0:Env:=[(201,v),(3,.a t)];refine fU (E':=E0) Vm rfl ?_<|.inl rfl;have:=qY (FF:=aP aj eU d) (E:=E0) (single:=true) (t:=[8]) (a:=.len<|.u 201) (c:=some<|.E .V (.D (.u 201)<|.u 8)<|.aq (.u 201) (.y .B)<|.u 8) (e:=.v [.u 3,.I .R (.u 8)<|.y<|.a 1,.y<|.z [116,119,105,99,101]]) (λi:Nat=>.a i) (λi:Nat=>kY t _) (λi=>decide<|ds.getD i .none∈ds.take i)
  (Hy (aE rfl) hv<|nA ‹_› ay) eT (by rw[GT<|nA ‹_› ay,Fc]) (λZ=>rfl) (λi hi=>by
   have hi':i<l.length:=by simpa using hi
   refine⟨[(8,.a i),(201,v),(3,.a t)],rfl,λL=>⟨?_,λZ=>?_⟩⟩
   .have hv':=hv.ba [.j L];refine gT (h.at' i l[i]<|ka hi') λk k1 k2 k3=>xe<|fG (fo (aE rfl) (aE rfl)<|(R5 hv' eZ).trans<|(Hz l i).trans<|ka hi') ?_ (?_:jt _ .V l[i] (.w<|l.take i)=_)
    .have hs:=M6 hv' (nA ‹_› ay) i;show ev aj _ _ _ _=_;simp only[zJ,mY,CG,ci,hs]
    .have e1:jt (μ++[.j L]) .V l[i] (.w (l.take i))=nE (μ++[.j L]) l[i] (l.take i):=by
      cases l[i]<;>first|rfl|(simp only[gI]at t1;cases t1)
     rw[e1,Hx k2 k3 (h.cB i)];have:ds.getD i .none=k:=by
      have hd:i<ds.length:=by rw[<-h.len];exact hi'
      rw[ka hd]at k1;have k1':=Option.some.inj k1;simp[ka hd,k1']
     rw[this]
   .exact gv (.aR (aE rfl) (.aR (gL (aE rfl) eT (by simp only[lY];rfl)) (.aR eT .aS)))) (by simp;lia)
 rw[show((List.range l.length).filter λi=>decide (ds.getD i .none∈ds.take i)).map (λi:Nat=>kY t _)=fy _ [] 1 _ by
  have:=zl (kY t) ds ds [] rfl;simp only[h.len,List.range_eq_range'];exact this]at this
 have e1:execs aj _ nW.body E0 μ=some _:=gP this;exact e1
end
section
variable{μ:H} {d:Nat} {FF:fb} {E:Env} {ss:List St}
abbrev vN (x:Nat):V:=.a x
noncomputable abbrev dN (x:Nat):PyData:=.int x
def Vn:ga eU 89=some pD:=rfl
noncomputable def yd:List St:=[.az 8 .R<|.y<|.a 1,.M (.Y false [.E .ne (.I .W (.u 137)<|.y<|.a 2)<|.u 197,.E .V (.u 205)<|.u 21]) [.H<|.Z (.u 144)<|.v [.y<|.a 25,.u 8,.y<|.z [105,109,112,108]]] [],.H<|.Z (.u 21)<|.u 205]
def Lm:List St:=[.G 21<|.N [],.J false [137,205] 0 (.D (.u 123)<|.u 197) (.y .B) yd]
def M7:pD.body=[.G 144<|.N [],.G 8<|.y<|.a 0,.J true [197] 2 (.y<|.a 3) (.y .B) Lm,.L<|.u 144]:=rfl
noncomputable def j3 (μ:H) (out:List V) (G:H) (seen:List Nat):H:=μ++([.j out]++(G++[.j<|seen.map vN]))
def M8:d' (j3 μ out G seen) μ.length=some (.j out):=by
 have:=jH μ ([.j out]++(G++[.j<|seen.map vN])) 0;exact this
def B0:d' (j3 μ out G seen) (μ.length+(1+G.length))=some (.j<|seen.map vN):=by
 unfold j3;rw[jH μ];rw[ij 1];exact hO G _
def I1:fc (j3 μ out G seen) μ.length (.j out')=j3 μ out' G seen:=jb μ _ 0 _
def I2:fc (j3 μ out G seen) (μ.length+(1+G.length)) (.j<|seen'.map vN)=j3 μ out G seen':=by
 unfold j3;rw[jb μ];congr 1;rw[ij 1];show O.j out::fc (G++_) G.length _=_;rw[show fc _ G.length _=G++_ from jb G _ 0 _];rfl
def M9 (h:k<μ.length):d' (j3 μ out G seen) k=d' μ k:=iZ _ _ _ h
def M' (seen:List Nat):Ds (seen.map vN) (seen.map dN):=by
 have h:=Ds.cA (f:=vN) seen λx Z=>⟨λZ=>rfl,rfl⟩
 exact h
def Na (x:Nat) (seen:List Nat):nE μ (.a x) (seen.map vN)=some (decide<|x∈seen):=by
 rw[Hx (λZ=>rfl) rfl<|M' seen];by_cases h:x∈seen
 .rw[fu h,fu<|o9 h]
 .rw[fz h,fz (λq=>by
   refine e8 (fW.mp q) λy hy e=>?_
   have:y=x:=by injection e with e;lia
   exact h<|this▸hy)]
def Ln (b k:Nat) (hk:0<k):Int.fdiv (b:Int) (k:Int)=((b/k:Nat):Int):=by
 rw[fd' _ eZ];rfl
structure KL (E:Env) (j n o s:Nat):Prop where
 a123:ci E 123=some kV
 a197:ci E 197=some (.a j)
 a8:ci E 8=some (.a n)
 a144:ci E 144=some (.g o)
 a21:ci E 21=some (.g s)
noncomputable abbrev nu (j:Nat) (r:IR):Bool×Nat:=(!decide (r.1/2=j),r.2)
theorem li1 {j n:Nat} {G:H} (r:IR) {out:List V} {seen:List Nat} {E:Env} (h:KL E j n μ.length (μ.length+(1+G.length))) (ho:out.length<1000) (hs:seen.length<1000) {P:Prop}
  (kk:∀E',(match fi E false [137,205] (vI r)with|none=>none|some E'=>execs aj FF yd E'<|j3 μ out G seen)=some (.C,(E',j3 μ (out++if(nu j r).1=true\/(nu j r).2∈seen then[kX n]else[]) G<|seen++[r.2]))->KL E' j (n+1) μ.length (μ.length+(1+G.length))->P):P:=by
 let E1:=eP (eP (eP E 137<|.a r.1) 205<|.a r.2) 8<|.a (n+1:Nat);have k1:KL E1 j (n+1) μ.length (μ.length+(1+G.length)):=⟨h.a123,h.a197,rfl,h.a144,h.a21⟩;have hb:∀{μ':H},Ev FF E1 μ' (.E .ne (.I .W (.u 137)<|.y (.a (2))) (.u 197)) (.O (nu j r).1):=λ{μ'}=>by
  refine fG (gL (aE (v:=.a r.1) rfl) eT (mF ay ay)) (aE k1.a197) ?_;rw[show Int.fdiv (r.1:Int) 2=((r.1/2:Nat):Int)from Ln r.1 2 ay,ne_int];by_cases q:r.1/2=j
  .rw[q,fu rfl];show some (!true)=some (!decide (r.1/2=j));rw[fu q]
  .rw[fz (λe=>q (Int.ofNat_inj.mp e))];show some (!false)=some (!decide (r.1/2=j));rw[fz q]
 have hi:Ev FF E1 (j3 μ out G seen) (.E .V (.u 205) (.u 21)) (.O (decide (r.2∈seen))):=
  fG (aE (v:=.a r.2) rfl) (aE k1.a21) ((GJ B0).trans (Na _ _))
 have last:∀out',execs aj FF [.H (.Z (.u 21) (.u 205))] E1 (j3 μ out' G seen)=some (.C,(E1,j3 μ out' G (seen++[r.2]))):=λout'=>by
  refine Eq.trans (gi (nL (aE k1.a21) (aE (v:=.a r.2) rfl) B0 (by rw[fk];exact hs))) ?_;rw[show seen.map vN++[V.a r.2]=(seen++[r.2]).map vN from (show seen.map vN++[r.2].map vN=_ from hK.symm),I2];exact fa
 have tell:execs aj FF [.H (.Z (.u 144) (.v [.y (.a 25),.u 8,.y (.z [105,109,112,108])]))] E1 (j3 μ out G seen)=some (.C,(E1,j3 μ (out++[kX n]) G seen)):=by
  refine Eq.trans (gi (nL (aE k1.a144) (gv (.aR eT (.aR (aE k1.a8) (.aR eT .aS)))) M8 ho)) ?_;rw[I1];exact fa
 have fin:∀{b out'},Ev FF E1 (j3 μ out G seen) (.Y false [.E .ne (.I .W (.u 137) (.y (.a 2))) (.u 197),.E .V (.u 205) (.u 21)]) (.O b)->execs aj FF (if b then[.H (.Z (.u 144) (.v [.y (.a 25),.u 8,.y (.z [105,109,112,108])]))] else[]) E1 (j3 μ out G seen)=some (.C,(E1,j3 μ out' G seen))->execs aj FF yd (eP (eP E 137 (.a r.1)) 205 (.a r.2)) (j3 μ out G seen)=some (.C,(E1,j3 μ out' G (seen++[r.2]))):=λ{b out'} a c=>
  Eq.trans (z9 (i:=n) (j:=1) (by exact h.a8) eT) (Eq.trans (gn a rfl (by cases b<;>exact c)) (last out'))
 refine kk E1 ?_ k1;show execs aj FF yd (eP (eP E 137 (.a r.1)) 205 (.a r.2)) _=_;generalize (nu j r).1=b at hb⊢;cases b with
 |true=>rw[fv (.inl rfl)];exact fin (wY hb) tell
 |false=>
  by_cases z:r.2∈seen
  .rw[fv (.inr z)];rw[fu z]at hi;exact fin (mG hb hi) tell
  .rw[ff (λq=>q.elim nofun z),gk];rw[fz z]at hi;exact fin (mG hb hi) fa
def Zk {j n:Nat} {G:H} {ok:Sg->Bool} (hok:∀E out seen,ok (E,j3 μ out G seen)) (rows:List IR) {out:List V} {E:Env} (hE:KL E j n μ.length (μ.length+(1+G.length))) (h1:out.length+rows.length<900) {P:Prop}
  (kk:∀E',fS ok (λv (s:Sg)=>match fi s.1 false [137,205] v with|none=>none|some E'=>execs aj FF yd E' s.2) (rows.map vI) (E,j3 μ out G [])=some (.C,(E',j3 μ (out++fy kX [] n (rows.map<|nu j)) G<|rows.map Prod.snd))->KL E' j (n+rows.length) μ.length (μ.length+(1+G.length))->P):P:=by
 refine nr (all:=rows) (ok:=ok) (turn:=λv (s:Sg)=>match fi s.1 false [137,205] v with|none=>none|some E'=>execs aj FF yd E' s.2) vI (λd (σ:Sg)=>σ.2=j3 μ (out++fy kX [] n (d.map<|nu j)) G (d.map Prod.snd)/\KL σ.1 j (n+d.length) μ.length (μ.length+(1+G.length))) (λd σ h=>(congrArg (λμ=>ok (σ.1,μ)) h.1).trans<|hok _ _ _) (λd r z σ P e' hi k=>?_) rows [] (E,j3 μ out G []) rfl ⟨congrArg (λo=>j3 μ o G []) (gk out).symm,hE⟩ λσ g hi=>?_
 .obtain⟨E1,μ1⟩:=σ;have e1:μ1=_:=hi.1;subst e1;have l:d.length<=rows.length:=by rw[<-e',fj];exact gV _ _
  have q:=jM (tr:=kX) (d.map<|nu j) [] n;rw[fk]at q;refine li1 (FF:=FF) r hi.2 (by rw[fj];exact fq (ik (al_81 q l) _)<|fB h1 ay) (by rw[fk];exact fq (al_81 l<|k9 _ _)<|fB h1 ay) λE2 a b=>k (E2,_) a ⟨?_,by rw[fj];exact b⟩
  show j3 μ _ _ _=j3 μ _ _ _;rw[show(d++[r]).map (nu j)=d.map (nu j)++[nu j r]from hK,zi,fk,gA out,show(d++[r]).map Prod.snd=d.map Prod.snd++[r.2]from hK,show(d.map<|nu j).map Prod.snd=d.map Prod.snd from iv]
 .obtain⟨E1,μ1⟩:=σ;have e1:μ1=_:=hi.1;subst e1;exact kk E1 g hi.2
def xj (i0 i1 i2:List IR):List V:=fy kX [] 0 (i0.map λr=>(!decide (r.1/2=0),r.2))++fy kX [] i0.length (i1.map λr=>(!decide (r.1/2=1),r.2))++fy kX [] (i0.length+i1.length) (i2.map λr=>(!decide (r.1/2=2),r.2))
def B1 {j n:Nat} (hj:j<3) {rows:List IR} {G:H} {out:List V} (hs:d' μ (6+j)=some (.j<|rows.map vI)) {E:Env} (h1:ci E 123=some kV) (h2:ci E 8=some (.a n)) (h3:ci E 144=some (.g μ.length)) (hl:out.length+rows.length<900) {P:Prop}
  (kk:∀E' seen,(match fi E true [197] (.a j)with|none=>none|some E'=>execs aj FF Lm E'<|μ++([.j out]++G))=some (.C,(E',μ++([.j<|out++fy kX [] n (rows.map<|nu j)]++(G++[.j seen]))))->ci E' 123=some kV->ci E' 8=some (.a (n+rows.length:Nat))->ci E' 144=some (.g μ.length)->P):P:=by
 let E1:=eP (eP E 197<|.a j) 21<|.g<|μ.length+(1+G.length);have k1:KL E1 j n μ.length (μ.length+(1+G.length)):=⟨h1,rfl,h2,h3,rfl⟩;have hs':∀out seen,d' (j3 μ out G seen) (6+j)=some (.j<|rows.map vI):=λout seen=>(M9<|gh hs).trans hs
 refine Zk (FF:=FF) (ok:=λs:Sg=>fZ 0 (.g<|6+j) (src (j3 μ out G [])<|.g<|6+j) s.2) (λE out' seen=>by
  rw[kB<|hs' out []];exact i4 (hs' out' seen)<|kQ C9 rows) rows k1 hl λE' g1 q=>kk E' _ (Eq.trans (fQ (v:=.g<|μ.length+(1+G.length)) (μ':=j3 μ out G []) ?_)<|Eq.trans (gK (nJ k1.a123 k1.a197 hj) eT (by simp only[im,items,hs']) g1) fa) q.a123 q.a8 q.a144
 rw[qH,lU];show some (V.g (μ++([O.j out]++G)).length,(μ++([O.j out]++G))++[O.j []])=_;rw[gA,gA,fj,fj];rfl
def I3 (h0:d' μ 6=some (.j (i0.map vI))) (h1:d' μ 7=some (.j (i1.map vI))) (h2:d' μ 8=some (.j (i2.map vI))) (hl:i0.length+i1.length+i2.length<100) {P:Prop}
  (kk:∀G,aP aj eU (d+1) 89 [kV] μ=some (.g μ.length,μ++G)->d' (μ++G) μ.length=some (.j (xj i0 i1 i2))->P):P:=by
 have b1:=jM (tr:=kX) (i0.map (nu 0)) ([]:List Nat) 0;have b2:=jM (tr:=kX) (i1.map (nu 1)) ([]:List Nat) (0+i0.length);rw[fk]at b1 b2;refine B1 (FF:=aP aj eU d) (j:=0) ay (out:=[]) (G:=[]) (n:=0) h0 (E:=[(8,.a 0),(144,.g μ.length),(123,kV)]) rfl rfl rfl (by show 0+_<_;rw[gJ];exact lc (lA (lA hl)) ay) λE1 s1 g1 a1 a2 a3=>B1 (FF:=aP aj eU d) (j:=1) ay (G:=[]++[.j s1]) (out:=fy kX [] 0 (i0.map (nu 0))) h1 a1 a2 a3 (lc (fq (oF b1 _) (lA hl)) ay) λE2 s2 g2 c1 c2 c3=>B1 (FF:=aP aj eU d) (j:=2) ay (G:=([]++[.j s1])++[.j s2]) (out:=fy kX [] 0 (i0.map (nu 0))++fy kX [] (0+i0.length) (i1.map (nu 1))) h2 c1 c2 c3 (by rw[fj];exact lc (fq (oF (gR b1 b2) _) hl) ay) λE3 s3 g3 d1 d2 d3=>kk ([.j _]++(([.j s1]++[.j s2])++[.j s3])) (fU (E':=E3) Vn rfl ?_ (.inl rfl)) (jH μ ([O.j (fy kX [] 0 (i0.map (nu 0))++fy kX [] i0.length (i1.map (nu 1))++fy kX [] (i0.length+i1.length) (i2.map (nu 2)))]++_) 0)
 rw[gJ]at g2 g3;rw[M7];exact Eq.trans (fQ (v:=.g μ.length) (μ':=μ++[.j []]) (by rw[qH,lU])) (Eq.trans (fQ eT) ((gK (eT (v:=.a 3)) eT rfl (f5 rfl g1 (f5 rfl g2 (f5 rfl g3 (hV rfl))))).trans (gP (aE d3))))
end
section
variable{μ:H} {d:Nat} {FF:fb} {E:Env} {ss:List St}
def Vo:ga eU 88=some lN:=rfl
noncomputable def R7 (ec:Ex):List St:=[.M (.E .ge (.u 128)<|.y<|.a 0) [.H<|.Z (.u 13)<|.v [ec,.len<|.u 13,.E .eq (.I .W (.u 128)<|.y<|.a 2)<|.u 197]] []]
noncomputable abbrev ecE:Ex:=.I .aw (.y<|.a 2)<|.u 204
noncomputable abbrev ecP:Ex:=.I .R (.I .aw (.y<|.a 2)<|.u 8)<|.y<|.a 1
def Fd (ec:Ex):St:=.J true [128] 0 (.v [.u 199,.u 200]) (.y .B)<|R7 ec
def Fe:List St:=[.az 204 .R<|.y<|.a 1,Fd ecE,.M (.Y false [.E .lt (.u 199)<|.y<|.a 0,.E .lt (.u 200)<|.y<|.a 0]) [.H<|.Z (.u 203)<|.v [.y<|.a 20,.u 204,.y<|.z [115,101,109,97,110,116,105,99,115]]] []]
def I4:List St:=[.az 8 .R<|.y<|.a 1,Fd ecP]
def Ab:List St:=[.J false [111,199,200] 0 (.D (.u 125)<|.u 197) (.y .B) Fe,.J false [111,185,199,200] 0 (.D (.u 124)<|.u 197) (.y .B) I4]
noncomputable def Ac:List St:=[.G 13<|.am<|.u 13,.L<|.I .R (.ai true [8] 2 (.len<|.u 13) (.y .B) (some<|.aD<|.D (.D (.u 13)<|.u 8)<|.y<|.a 2)<|.v [.y<|.a 24,.I .R (.u 8)<|.y<|.a 1,.y<|.z [115,101,109,97,110,116,105,99,115]])<|.u 203]
def Nb:lN.body=.ak [124,125,123] (.u 202)::.G 13 (.N [])::.G 203 (.N [])::.G 8 (.y<|.a 0)::.G 204 (.y<|.a 0)::.J true [197] 2 (.y<|.a 3) (.y .B) Ab::Ac:=rfl
noncomputable def B2 (k:Nat) (q:QI):V:=.v [.a q.2.2.1,.a k,.O<|decide<|q.2.1/2=q.2.2.2]
def gQ:Nat->List QI->List V
 |_,[]=>[]
 |k,q::r=>B2 k q::gQ (k+1) r
theorem oR:∀(k:Nat) (Q:List QI),(gQ k Q).length=Q.length
 |_,[]=>rfl
 |k,_::r=>congrArg Nat.succ (oR (k+1) r)
theorem zm:∀(k:Nat) (l m:List QI),gQ k (l++m)=gQ k l++gQ (k+l.length) m
 |_,[],_=>rfl
 |k,a::r,m=>by
  show B2 k a::gQ (k+1) (r++m)=_;simp only[zm (k+1) r m,show k+1+r.length=k+(a::r).length by simp;lia];rfl
noncomputable def ie (μ:H) (R S:List V):H:=μ++[.j R,.j S]
def Ff:d' (ie μ R S) μ.length=some (.j R):=jH μ _ 0
def Lo:d' (ie μ R S) (μ.length+1)=some (.j S):=jH μ _ 1
def I5:fc (ie μ R S) μ.length (.j R')=ie μ R' S:=jb μ _ 0 _
def I6:fc (ie μ R S) (μ.length+1) (.j S')=ie μ R S':=jb μ _ 1 _
def Du (h:k<μ.length):d' (ie μ R S) k=d' μ k:=iZ _ _ _ h
structure KQ (E:Env) (o j n e:Nat):Prop where
 a124:ci E 124=some mL
 a125:ci E 125=some mM
 a13:ci E 13=some (.g o)
 a203:ci E 203=some (.g (o+1))
 a197:ci E 197=some (.a j)
 a8:ci E 8=some (.a n)
 a204:ci E 204=some (.a e)
def KQ.up {y:Nat} {v:V} {o j n e:Nat} (h:KQ E o j n e) (hy:y=128\/y=111\/y=185\/y=199\/y=200):KQ (eP E y v) o j n e:=by
 rcases hy with rfl|rfl|rfl|rfl|rfl<;>exact⟨h.a124,h.a125,h.a13,h.a203,h.a197,h.a8,h.a204⟩
def Dv {ec:Ex} {cd j n e:Nat} {E:Env} (hec:∀E μ',KQ E μ.length j n e->Ev FF E μ' ec (.a cd)) (z:Int) (bits:Nat) (Q:List QI) (S:List V) (hQ:Q.length<300) (hE:KQ E μ.length j n e):execs aj FF (R7 ec) (eP E 128<|.a z) (ie μ (gQ 0 Q) S)=some (.C,(eP E 128<|.a z,ie μ (gQ 0<|Q++gB bits z cd j) S)):=by
 have k1:KQ (eP E 128 (.a z)) μ.length j n e:=hE.up (.inl rfl);by_cases h0:z<0
 .rw[show gB bits z cd j=[]from fv h0,gk];exact(gn (fG (o:=.ge) (t:=false) (aE (v:=.a z) (by rfl)) (eT (v:=.a 0)) (congrArg some (fz (Int.not_le.mpr h0)))) rfl fa).trans fa
 .rw[show gB bits z cd j=_ from ff h0,zm,gJ];have ez:z=((z.toNat:Nat):Int):=(Int.toNat_of_nonneg (Int.not_lt.mp h0)).symm;have el:=qn (F:=FF) (aE k1.a13) (Ff (R:=gQ 0 Q) (S:=S)) (by rw[oR];exact fB hQ ay);rw[oR]at el;have eq':Ev FF (eP E 128 (.a z)) (ie μ (gQ 0 Q) S) (.E .eq (.I .W (.u 128) (.y (.a 2))) (.u 197)) (.O (decide (z.toNat/2=j))):=by
    refine fG (gL (aE (by rfl)) eT (mF ay ay)) (aE k1.a197) ?_;rw[show Int.fdiv z 2=((z.toNat/2:Nat):Int)from(congrArg (Int.fdiv · 2) ez).trans (Ln z.toNat 2 ay),uw];by_cases q:z.toNat/2=j
    .rw[fu q,q,fu rfl]
    .rw[fz q,fz (λe=>q (Int.ofNat_inj.mp e))]
  refine Eq.trans (gn (E':=eP E 128 (.a z)) (μ'':=ie μ (gQ 0 Q++[B2 Q.length (bits,z.toNat,cd,j)]) S) (fG (o:=.ge) (t:=true) (aE (v:=.a z) (by rfl)) (eT (v:=.a 0)) (congrArg some (fu (Int.not_lt.mp h0)))) rfl ?_) fa;refine Eq.trans (gi (nL (aE k1.a13) (gv (.aR (hec _ _ k1) (.aR el (.aR eq' .aS)))) Ff (by rw[oR];exact fB hQ ay))) ?_;rw[I5];exact fa
def B3 {ec:Ex} {cd j n e:Nat} {E:Env} (hec:∀E μ',KQ E μ.length j n e->Ev FF E μ' ec (.a cd)) (z1 z2:Int) (b1 b2:Nat) (Q:List QI) (S:List V) (hQ:Q.length<290) (hE:KQ E μ.length j n e) (a1:ci E 199=some (.a z1)) (a2:ci E 200=some (.a z2)):execs aj FF (Fd ec::ss) E (ie μ (gQ 0 Q) S)=execs aj FF ss (eP (eP E 128<|.a z1) 128<|.a z2) (ie μ (gQ 0<|Q++gB b1 z1 cd j++gB b2 z2 cd j) S):=
 gK (gv<|.aR (aE a1)<|.aR (aE a2) .aS) eT rfl (f5 rfl (Dv hec z1 b1 Q S (fB hQ ay) hE)<|f5 rfl (Dv hec z2 b2 (Q++gB b1 z1 cd j) S (by rw[fj];exact fB (qE hQ<|i8 _ _ _ _) ay)<|hE.up<|.inl rfl)<|hV rfl)
theorem xk (j:Nat):∀(l:List ER) (n:Nat),(QE j n l).length<=2*l.length
 |[],_=>fX _
 |p::l,n=>by
  show(_++_++QE j (n+1) l).length<=2*(l.length+1);rw[fj,fj,ij];exact gR (xk j l<|n+1)<|gR (i8 _ _ _ _)<|i8 _ _ _ _
theorem B4 (j:Nat):∀(l:List PR) (n:Nat),(QP j n l).length<=2*l.length
 |[],_=>fX _
 |p::l,n=>by
  show(_++_++QP j (n+1) l).length<=2*(l.length+1);rw[fj,fj,ij];exact gR (B4 j l<|n+1)<|gR (i8 _ _ _ _)<|i8 _ _ _ _
theorem Dw:∀(n:Nat) (a b:List (Nat×ER)),j0 n (a++b)=j0 n a++j0 (n+a.length) b
 |_,[],_=>rfl
 |n,p::r,b=>by
  show _++j0 (n+1) (r++b)=_;simp only[Dw (n+1) r b,show n+1+r.length=n+(p::r).length by simp;lia];exact(gA ..).symm
def Vp {j n e:Nat} (r:ER) {Q:List QI} {S:List V} {E:Env} (hE:KQ E μ.length j n e) (hQ:Q.length<290) (hS:S.length<300) (he:e<900) {G:Prop}
  (kk:∀E',(match fi E false [111,199,200] (vE r)with|none=>none|some E'=>execs aj FF Fe E'<|ie μ (gQ 0 Q) S)=some (.C,(E',ie μ (gQ 0<|Q++gB 8 r.2.1 (2*(e+1)) j++gB 16 r.2.2 (2*(e+1)) j)<|S++if r.2.1<0\/r.2.2<0 then[Dq<|e+1]else[]))->KQ E' μ.length j n (e+1)->G):G:=by
 let E2:=eP (eP (eP (eP E 111<|.z [r.1]) 199<|.a r.2.1) 200<|.a r.2.2) 204<|.a (e+1:Nat);have k2:KQ E2 μ.length j n (e+1):=⟨hE.a124,hE.a125,hE.a13,hE.a203,hE.a197,hE.a8,rfl⟩;let E3:=eP (eP E2 128<|.a r.2.1) 128<|.a r.2.2;have k3:KQ E3 μ.length j n (e+1):=(k2.up (.inl rfl)).up (.inl rfl);refine kk E3 ?_ k3;refine Eq.trans (z9 (i:=e) (j:=1) (by exact hE.a204) eT) (Eq.trans (B3 (FF:=FF) (μ:=μ) (E:=E2) (j:=j) (n:=n) (e:=e+1) (λE μ' k=>gL eT (aE k.a204) (by rw[Bu ay (ut _ (by lia))];rfl)) r.2.1 r.2.2 8 16 Q S hQ k2 rfl rfl) ?_);have c1:∀{μ'},Ev FF E3 μ' (.E .lt (.u 199) (.y (.a 0))) (.O (decide (r.2.1<0))):=fG (aE (v:=.a r.2.1) rfl) eT rfl;have c2:∀{μ'},Ev FF E3 μ' (.E .lt (.u 200) (.y (.a 0))) (.O (decide (r.2.2<0))):=fG (aE (v:=.a r.2.2) rfl) eT rfl;have tell:∀{Q' S'},S'.length<300->execs aj FF [.H (.Z (.u 203) (.v [.y (.a 20),.u 204,.y (.z [115,101,109,97,110,116,105,99,115])]))] E3 (ie μ (gQ 0 Q') S')=some (.C,(E3,ie μ (gQ 0 Q') (S'++[Dq (e+1)]))):=λ{Q' S'} hS=>by
  refine Eq.trans (gi (nL (aE k3.a203) (gv (.aR eT (.aR (aE k3.a204) (.aR eT .aS)))) Lo (fB hS ay))) ?_;rw[I6];exact fa
 by_cases z:r.2.1<0
 .rw[fv (.inl z)];rw[fu z]at c1;exact(gn (wY c1) rfl (tell hS)).trans fa
 .rw[fz z]at c1;by_cases z':r.2.2<0
  .rw[fv (.inr z')];rw[fu z']at c2;exact(gn (mG c1 c2) rfl (tell hS)).trans fa
  .rw[ff (λh=>h.elim z z'),gk];rw[fz z']at c2;exact(gn (mG c1 c2) rfl fa).trans fa
def R8 {j n e:Nat} {ok:Sg->Bool} (hok:∀E R S,ok (E,ie μ R S)) (rows:List ER) {Q:List QI} {S:List V} {E:Env} (hE:KQ E μ.length j n e) (h1:Q.length+2*rows.length<280) (h2:S.length+rows.length<280) (h3:e+rows.length<900) {G:Prop}
  (kk:∀E',fS ok (λv (s:Sg)=>match fi s.1 false [111,199,200] v with|none=>none|some E'=>execs aj FF Fe E' s.2) (rows.map vE) (E,ie μ (gQ 0 Q) S)=some (.C,(E',ie μ (gQ 0<|Q++QE j (e+1) rows)<|S++j0 (e+1) (rows.map λr=>(j,r))))->KQ E' μ.length j n (e+rows.length)->G):G:=by
 refine nr (all:=rows) (ok:=ok) (turn:=λv (s:Sg)=>match fi s.1 false [111,199,200] v with|none=>none|some E'=>execs aj FF Fe E' s.2) vE (λd (σ:Sg)=>σ.2=ie μ (gQ 0<|Q++QE j (e+1) d) (S++j0 (e+1) (d.map λr=>(j,r)))/\KQ σ.1 μ.length j n (e+d.length)) (λd σ h=>(congrArg (λμ=>ok (σ.1,μ)) h.1).trans<|hok _ _ _) (λd r z σ G e' hi k=>?_) rows [] (E,ie μ (gQ 0 Q) S) rfl ⟨by show ie _ _ _=ie _ (gQ 0<|Q++[]) (S++[]);rw[gk,gk],hE⟩ λσ g hi=>?_
 .obtain⟨E1,μ1⟩:=σ;have e1:μ1=_:=hi.1;subst e1;have l:d.length<rows.length:=by rw[<-e',fj,kg];exact Nat.lt_add_of_pos_right<|j5 _
  have q1:=xk j d<|e+1;have q2:=uL (d.map λr=>(j,r))<|e+1;rw[fk]at q2;refine Vp r hi.2 (by rw[fj];exact lc (fq (ik (al_81 q1<|mP 2<|iz l) _) h1) ay) (by rw[fj];exact lc (fq (ik (al_81 q2<|iz l) _) h2) ay) (lc (Nat.add_lt_add_left l e) h3) λE2 a b=>k (E2,_) a ⟨?_,by rw[fj];exact b⟩
  rw[hK];show ie μ _ _=ie μ _ (S++j0 (e+1) (_++[(j,r)]));rw[xW,v9,fk,i9 e 1,gA S]
 .obtain⟨E1,μ1⟩:=σ;have e1:μ1=_:=hi.1;subst e1;exact kk E1 g hi.2
def R9 {j n e:Nat} {S:List V} {ok:Sg->Bool} (hok:∀E R S,ok (E,ie μ R S)) (rows:List PR) {Q:List QI} {E:Env} (hE:KQ E μ.length j n e) (h1:Q.length+2*rows.length<280) (h3:n+rows.length<900) {G:Prop}
  (kk:∀E',fS ok (λv (s:Sg)=>match fi s.1 false [111,185,199,200] v with|none=>none|some E'=>execs aj FF I4 E' s.2) (rows.map vP) (E,ie μ (gQ 0 Q) S)=some (.C,(E',ie μ (gQ 0<|Q++QP j (n+1) rows) S))->KQ E' μ.length j (n+rows.length) e->G):G:=by
 refine nr (all:=rows) (ok:=ok) (turn:=λv (s:Sg)=>match fi s.1 false [111,185,199,200] v with|none=>none|some E'=>execs aj FF I4 E' s.2) vP (λd (σ:Sg)=>σ.2=ie μ (gQ 0<|Q++QP j (n+1) d) S/\KQ σ.1 μ.length j (n+d.length) e) (λd σ h=>(congrArg (λμ=>ok (σ.1,μ)) h.1).trans<|hok _ _ _) (λd r z σ G e' hi k=>?_) rows [] (E,ie μ (gQ 0 Q) S) rfl ⟨by show ie _ _ _=ie _ (gQ 0<|Q++[]) S;rw[gk],hE⟩ λσ g hi=>?_
 .obtain⟨E1,μ1⟩:=σ;have e1:μ1=_:=hi.1;subst e1;have h:=hi.2;have l:d.length<rows.length:=by rw[<-e',fj,kg];exact Nat.lt_add_of_pos_right<|j5 _
  have q1:=B4 j d<|n+1;let E2:=eP (eP (eP (eP (eP E1 111<|.z [r.1]) 185<|.a r.2.1) 199<|.a r.2.2.1) 200<|.a r.2.2.2) 8<|.a (n+d.length+1:Nat);have k2:KQ E2 μ.length j (n+d.length+1) e:=⟨h.a124,h.a125,h.a13,h.a203,h.a197,rfl,h.a204⟩;refine k (eP (eP E2 128 (.a r.2.2.1)) 128 (.a r.2.2.2),_) (Eq.trans (z9 (i:=(n+d.length:Nat)) (j:=1) (by exact h.a8) eT) (Eq.trans (B3 (FF:=FF) (μ:=μ) (E:=E2) (j:=j) (n:=n+d.length+1) (e:=e) (cd:=2*(n+d.length+1)+1) (λE μ' k=>gL (x:=.a (2*(n+d.length+1):Nat)) (gL eT (aE k.a8) (by rw[Bu ay (ut _ (iz (lc (Nat.add_lt_add_right (lc (Nat.add_lt_add_left l n) h3) 1) ay)))];rfl)) eT (by simp only[lY];rfl)) r.2.2.1 r.2.2.2 2 1 _ S (by rw[fj];exact lc (fq (ik (al_81 q1 (mP 2 (iz l))) _) h1) ay) k2 rfl rfl) fa)) ⟨?_,by rw[fj];exact(k2.up (.inl rfl)).up (.inl rfl)⟩;show ie μ _ _=ie μ _ _;rw[xX,i9 n 1]
 .obtain⟨E1,μ1⟩:=σ;have e1:μ1=_:=hi.1;subst e1;exact kk E1 g hi.2
end
noncomputable def sK (tr:Nat->V):Nat->List Bool->List V
 |_,[]=>[]
 |n,b::r=>(if b=true then[tr n]else[])++sK tr (n+1) r
theorem zR {α:Type}:∀(p:List α) (k:Nat),gZ (k:Int) p.length=(p.zipIdx k).map λx=>V.a x.2
 |[],_=>rfl
 |x::r,k=>congrArg (V.a k::·)<|zR r<|k+1
theorem zF {α:Type} (g:α->Bool) (tr:Nat->V):∀(p:List α) (k:Nat),((p.zipIdx k).filter λx=>!g x.1).map (λx=>tr x.2)=sK tr k (p.map λx=>!g x)
 |[],_=>rfl
 |x::r,k=>by
  rw[List.zipIdx_cons,List.filter_cons];show _=(if (!g x)=true then[tr k]else[])++sK tr (k+1) (r.map λx=>!g x);rw[<-zF g tr r (k+1)];cases g x<;>rfl
def zL {α:Type} (g:α->Bool) (tr:Nat->V) (p:List α):(sK tr 0<|p.map λx=>!g x).length<=p.length:=by
 rw[<-zF,fk];exact al_81 (List.length_filter_le _ _)<|la List.length_zipIdx
theorem Dx {κ:Type} [DecidableEq κ] (tr:Nat->V):∀(l:List (Bool×κ)) (p:List κ) (n:Nat),(∀x∈l,x.2∉p)->(l.map Prod.snd).Nodup->fy tr p n l=sK tr n (l.map Prod.fst)
 |[],_,_,_,_=>rfl
 |(b,k)::r,p,n,h,hn=>by
  simp only[hW,kh]at hn;have h0:k∉p:=h (b,k) fA;have e:fy tr p n ((b,k)::r)=(if b=true\/k∈p then[tr n]else[])++fy tr (p++[k]) (n+1) r:=rfl;simp only[e,Dx tr r (p++[k]) (n+1) (λx hx q=>by
   rcases fL.mp q with q|q
   .exact h x (gj _ hx) q
   .rw[gw]at q;exact hn.1 (by simp only[<-q];exact o9 hx)) hn.2]
  show _=(if b=true then[tr n]else[])++sK tr (n+1) (r.map Prod.fst);simp[h0]
section
variable{μ:H} {d:Nat} {FF:fb} {E:Env} {ss:List St}
def HA {k:Nat} {l:List V} (h:d' μ k=some (.j l)) (R S:List V):im (ie μ R S) 0 (.g k) .B=some l:=by
 exact jc ((Du (gh h)).trans h)
def zn {k:Nat} {l:List V} (h:d' μ k=some (.j l)) (v:vsames l l) (R S R' S':List V):fZ 0 (.g k) (src (ie μ R S)<|.g k) (ie μ R' S'):=by
 have g:∀R S,d' (ie μ R S) k=some (.j l):=λR S=>(Du<|gh h).trans h
 rw[kB<|g R S];exact i4 (g R' S') v
def B5 {j n e:Nat} (hj:j<3) {er:List ER} {pr:List PR} (h1:d' μ (3+j)=some (.j<|er.map vE)) (h2:d' μ (0+j)=some (.j<|pr.map vP)) {E:Env} {Q:List QI} {S:List V}
  (a124:ci E 124=some mL) (a125:ci E 125=some mM) (a13:ci E 13=some (.g μ.length)) (a203:ci E 203=some (.g<|μ.length+1)) (a8:ci E 8=some (.a n)) (a204:ci E 204=some (.a e)) (hl:(Q++QE j (e+1) er).length+2*pr.length<280) (hq:Q.length+2*er.length<280) (hS:S.length+er.length<280) (he:e+er.length<900) (hn:n+pr.length<900) {G:Prop}
  (kk:∀E',(match fi E true [197] (.a j)with|none=>none|some E'=>execs aj FF Ab E'<|ie μ (gQ 0 Q) S)=some (.C,(E',ie μ (gQ 0<|Q++QE j (e+1) er++QP j (n+1) pr)<|S++j0 (e+1) (er.map λr=>(j,r))))->KQ E' μ.length j (n+pr.length) (e+er.length)->G):G:=
 R8 (FF:=FF) (ok:=λs:Sg=>fZ 0 (.g<|3+j) (src (ie μ (gQ 0 Q) S)<|.g<|3+j) s.2) (λE R S'=>zn h1 (kQ xQ er) _ _ R S') er (Q:=Q) (S:=S) (E:=eP E 197<|.a j) ⟨a124,a125,a13,a203,rfl,a8,a204⟩ hq hS he λE2 b1 b2=>
 R9 (FF:=FF) (ok:=λs:Sg=>fZ 0 (.g<|0+j) (src (ie μ (gQ 0<|Q++QE j (e+1) er)<|S++j0 (e+1) (er.map λr=>(j,r)))<|.g<|0+j) s.2) (λE R S'=>zn h2 (kQ xP pr) _ _ R S') pr b2 hl hn λE3 c1 c2=>
 kk E3 (Eq.trans (gK (nJ (by exact a125) rfl hj) eT (HA h1 _ _) b1)<|Eq.trans (gK (nJ b2.a124 b2.a197 hj) eT (HA h2 _ _) c1) fa) c2
theorem Sa:∀(k:Nat) (Q:List QI),fY (oz mX) (gQ k Q)=some (Hd k Q)
 |_,[]=>rfl
 |k,_::r=>gM rfl (Sa (k+1) r)
def Fg (Q:List QI):jx (gQ 0 Q)=lg (gQ 0 Q) (jC<|ps Q):=by
 cases Q with
 |nil=>rfl
 |cons q r=>
  have h1:fY mX (gQ 0 (q::r))=none:=rfl;simp[jx,h1,Sa]
theorem zo:∀(Q:List QI) (k i:Nat) (h:i<Q.length),(gQ k Q).getD i .B=B2 (k+i) Q[i]
 |q::r,k,0,_=>rfl
 |q::r,k,i+1,h=>by
  have:=zo r (k+1) i (by simpa using h);rw[show k+(i+1)=k+1+i by lia];exact this
def pO.rows (h:pO Q p):jx (gQ 0 Q)=some (p.map λi=>B2 i<|Q.getD i dQ):=by
 simp only[Fg,h.by' _<|oR 0 Q];congr 1;refine List.map_congr_left λi hi=>?_
 have hi':i<Q.length:=by simpa using h.perm.mem_iff.mp hi
 simp only[zo Q 0 i hi',gJ];simp[ka hi']
def I7 {a:Ex} {x y:V} (h:Ev FF E μ a x) (h2:mA μ x=some y):Ev FF E μ (.am a) y:=by
 show ev _ _ _ _ _=_;rw[vw,h];dsimp only;rw[h2]
def Lp {μ1 μ2:H} {a b:Ex} {k m:Nat} {l r:List V} (h1:ev aj FF E a μ=some (.g k,μ1)) (h2:ev aj FF E b μ1=some (.g m,μ2)) (g1:d' μ2 k=some (.j l)) (g2:d' μ2 m=some (.j r)) (hl:l.length+r.length<1000):ev aj FF E (.I .R a b) μ=some (.w<|l++r,μ2):=by
 rw[zM,h1];dsimp only;rw[h2];simp only[mK,g1,g2,ip hl]
def I8 {α:Type} {p:List α} {f:α->V} {g:α->Bool} (hg:∀x μ,f9 μ (f x) (.a 2)=some (.O<|g x)) (hp:p.length<60) {R S:List V} (vs:jx R=some (p.map f)) (hS:S.length<300) {E:Env} (h13:ci E 13=some (.g μ.length)) (h203:ci E 203=some (.g<|μ.length+1)) {P:Prop}
  (kk:∀G E',execs aj FF Ac E (ie μ R S)=some (.L<|.w<|sK l5 0 (p.map λx=>!g x)++S,(E',μ++G))->P):P:=by
 have es:Ev FF E (ie μ R S) (.am<|.u 13) (.w (p.map f)):=I7 (aE h13) (by simp only[mA,Ff,vs];rfl);have c:=qY (FF:=FF) (μ:=ie μ R S) (E:=eP E 13 (.w (p.map f))) (single:=true) (t:=[8]) (k:=2) (a:=.len (.u 13)) (b:=.y .B) (c:=some (.aD (.D (.D (.u 13) (.u 8)) (.y (.a 2))))) (e:=.v [.y (.a 24),.I .R (.u 8) (.y (.a 1)),.y (.z [115,101,109,97,110,116,105,99,115])]) (x:=.a (p.map f).length) (y:=.B) (l:=p.zipIdx 0) (λx=>.a x.2) (λx=>l5 x.2) (λx=>!g x.1)
  (Hy (aE rfl) (.inl rfl) (by rw[fk];exact fB hp ay)) eT (by rw[fk,GT (fB hp ay)];exact congrArg some (zR p 0)) (λZ=>rfl) (λx hx=>⟨eP (eP E 13 (.w (p.map f))) 8 (.a x.2),rfl,λL'=>by
   have hx:=List.mem_zipIdx_iff_getElem?.1 hx;exact⟨xe (ED (fo (fo (aE rfl) (aE rfl) ((wS (iz (fB (List.getElem?_eq_some_iff.1 hx).1 (al_81 (iz hp) (iw rfl))))).trans (mu f p x.2 _ hx))) eT (hg _ _)) rfl),λZ=>gv (.aR eT (.aR (gL (aE rfl) eT lY) (.aR eT .aS)))⟩⟩) (by rw[List.length_zipIdx];exact fB hp ay)
 rw[zF g l5 p 0]at c;have r:=gP (ss:=[]) (Lp c (aE (x:=203) (by exact h203)) (hO _ _) (fh Lo) (fB (Nat.add_lt_add_of_le_of_lt (al_81 (zL g l5 p) (iz hp)) hS) ay));rw[show ie μ R S++[O.j (sK l5 0 (p.map λx=>!g x))]=μ++([.j R,.j S]++[.j (sK l5 0 (p.map λx=>!g x))])from gA _ _ _]at r;exact kk _ _ ((fQ es).trans r)
def I9 {Q:List QI} {a:Nat} (h:Q.length<=a) (j n m:Nat) (er:List ER) (pr:List PR):(Q++QE j n er).length<=a+2*er.length/\(Q++QE j n er++QP j m pr).length<=a+2*er.length+2*pr.length:=by
 rw[fj (as:=_++_),fj];exact⟨gR h<|xk ..,gR (gR h<|xk ..)<|B4 ..⟩
def I' {S:List V} {a:Nat} (h:S.length<=a) (n j:Nat) (er:List ER):(S++j0 n (er.map λr=>(j,r))).length<=a+er.length:=by
 rw[fj];exact gR h<|al_81 (uL _ _)<|la<|fk _
def Vq:execs aj FF lN.body [(202,qT)] μ=execs aj FF (.J true [197] 2 (.y<|.a 3) (.y .B) Ab::Ac) [(204,.a 0),(8,.a 0),(203,.g<|μ.length+1),(13,.g μ.length),(123,kV),(125,mM),(124,mL),(202,qT)] (ie μ [] []):=by
 exact Eq.trans (b:=execs aj FF (.G 13 (.N [])::.G 203 (.N [])::.G 8 (.y<|.a 0)::.G 204 (.y<|.a 0)::.J true [197] 2 (.y<|.a 3) (.y .B) Ab::Ac) [(123,kV),(125,mM),(124,mL),(202,qT)] μ) ((congrArg (execs aj FF · _ _) Nb).trans (by rw[i7,ua];rfl))<|(fQ (v:=.g μ.length) (μ':=μ++[.j []]) (by simp only[qH,lU])).trans<|Eq.trans (fQ (v:=.g (μ.length+1)) (μ':=ie μ [] []) (by simp only[qH,lU,fj,ie,gA];rfl))<|(fQ eT).trans (fQ eT)
def nb {a b c x y z:Nat} (h:a+b+c+(x+y+z)<=11):0+2*x+2*a+2*y+2*b+2*z+2*c<=22/\0+x+y+z<=11/\0+a+b+c<=11:=by lia
def xl {q n a:Nat} (h:q<=n) (k:n+a<=22):q+a<280:=fq (oF h _)<|fq k ay
def Dy {n:Nat} (k:n<=11):n<900:=fq k ay
def Sb (h0:d' μ 0=some (.j<|p0.map vP)) (h1:d' μ 1=some (.j<|p1.map vP)) (h2:d' μ 2=some (.j<|p2.map vP)) (h3:d' μ 3=some (.j<|e0.map vE)) (h4:d' μ 4=some (.j<|e1.map vE)) (h5:d' μ 5=some (.j<|e2.map vE))
  (hl:p0.length+p1.length+p2.length+(e0.length+e1.length+e2.length)<=11) (hs:pO (FQ p0 p1 p2 e0 e1 e2) p) {P:Prop}
  (kk:∀G,aP aj eU (d+1) 88 [qT] μ=some (.w<|sK l5 0 (p.map λi=>(jP<|(FQ p0 p1 p2 e0 e1 e2).getD i dQ).1)++j0 1 (FE e0 e1 e2),μ++G)->P):P:=by
 have q1:=I9 (Q:=[]) (fX 0) 0 (0+1) (0+1) e0 p0;have q2:=I9 q1.2 1 (0+e0.length+1) (0+p0.length+1) e1 p1;have q3:=I9 q2.2 2 (0+e0.length+e1.length+1) (0+p0.length+p1.length+1) e2 p2;have s1:=I' (S:=[]) (fX 0) (0+1) 0 e0;have s2:=I' s1 (0+e0.length+1) 1 e1;have s3:=I' s2 (0+e0.length+e1.length+1) 2 e2;have eQ:[]++QE 0 (0+1) e0++QP 0 (0+1) p0++QE 1 (0+e0.length+1) e1++QP 1 (0+p0.length+1) p1++QE 2 (0+e0.length+e1.length+1) e2++QP 2 (0+p0.length+p1.length+1) p2=FQ p0 p1 p2 e0 e1 e2:=by simp only[gJ];rfl
 have eS:[]++j0 (0+1) (e0.map λr=>(0,r))++j0 (0+e0.length+1) (e1.map λr=>(1,r))++j0 (0+e0.length+e1.length+1) (e2.map λr=>(2,r))=j0 1 (FE e0 e1 e2):=by
  simp only[FE,Dw,fj,fk,k8,gJ,ij 1]
 obtain⟨n5,m2,l2⟩:=nb hl;have n4:=nv n5;have n3:=nv n4;have n2:=nv n3;have n1:=nv n2;have m1:=nv m2;have m0:=nv m1;have l1:=nv l2;have l0:=nv l1;have t:∀{k},k<=11->k<=22:=λh=>al_81 h ay
 refine B5 (FF:=aP aj eU d) (j:=0) ay h3 h0 (E:=[(204,.a 0),(8,.a 0),(203,.g<|μ.length+1),(13,.g μ.length),(123,kV),(125,mM),(124,mL),(202,qT)]) (n:=0) (e:=0) (Q:=[]) (S:=[]) rfl rfl rfl rfl rfl rfl (xl q1.1 n1) (xl (fX 0)<|nv n1) (xl (fX 0)<|t m0) (Dy m0) (Dy l0) λE2 g1 k1=>B5 (FF:=aP aj eU d) (j:=1) ay h4 h1 k1.a124 k1.a125 k1.a13 k1.a203 k1.a8 k1.a204 (xl q2.1 n3) (xl q1.2 n2) (xl s1<|t m1) (Dy m1) (Dy l1) λE3 g2 k2=>B5 (FF:=aP aj eU d) (j:=2) ay h5 h2 k2.a124 k2.a125 k2.a13 k2.a203 k2.a8 k2.a204 (xl q3.1 n5) (xl q2.2 n4) (xl s2<|t m2) (Dy m2) (Dy l2) λE4 g3 k3=>?_
 rw[eQ,eS]at g3;refine I8 (FF:=aP aj eU d) (g:=λi=>decide<|((FQ p0 p1 p2 e0 e1 e2).getD i dQ).2.1/2=((FQ p0 p1 p2 e0 e1 e2).getD i dQ).2.2.2) (λZ Z=>rfl) ?_ hs.rows (fq (eS▸s3)<|fq m2 ay) k3.a13 k3.a203 λG E5 g4=>kk G<|fU Vo rfl (Vq.trans<|(gK (eT (v:=.a 3)) eT rfl<|f5 rfl g1<|f5 rfl g2<|f5 rfl g3<|hV rfl).trans g4)<|.inl rfl
 rw[hs.perm.length_eq,List.length_range];exact fq (eQ▸q3.2)<|fq n5 ay
end
noncomputable def kz (q:QI):Nat×Nat:=(q.1,q.2.2.1)
def pQ (h:q∈gB b z cd j):q=(b,z.toNat,cd,j)/\¬z<0:=by
 unfold gB at h;split at h
 .cases h
 .rename_i hz;exact⟨gw.mp h,hz⟩
def B6 (h:¬z<0):(b,z.toNat,cd,j)∈gB b z cd j:=by
 unfold gB;rw[ff h];simp
def QG:Nat->List (Nat×ER)->List QI
 |_,[]=>[]
 |n,p::ps=>gB 8 p.2.2.1 (2*n) p.1++gB 16 p.2.2.2 (2*n) p.1++QG (n+1) ps
def PG:Nat->List (Nat×PR)->List QI
 |_,[]=>[]
 |n,p::ps=>gB 2 p.2.2.2.1 (2*n+1) p.1++gB 1 p.2.2.2.2 (2*n+1) p.1++PG (n+1) ps
theorem xm (j:Nat):∀(l:List ER) (n:Nat),QE j n l=QG n (l.map λr=>(j,r))
 |[],_=>rfl
 |r::l,n=>congrArg (_++·)<|xm j l<|n+1
theorem xn (j:Nat):∀(l:List PR) (n:Nat),QP j n l=PG n (l.map λr=>(j,r))
 |[],_=>rfl
 |r::l,n=>congrArg (_++·)<|xn j l<|n+1
theorem B7:∀(l l':List (Nat×ER)) (n:Nat),QG n (l++l')=QG n l++QG (n+l.length) l'
 |[],_,_=>rfl
 |p::l,l',n=>by
  show _++QG (n+1) (l++l')=_++QG (n+1) l++_;rw[B7 l l'<|n+1,kg,i9 n 1];exact(gA _ _ _).symm
theorem B8:∀(l l':List (Nat×PR)) (n:Nat),PG n (l++l')=PG n l++PG (n+l.length) l'
 |[],_,_=>rfl
 |p::l,l',n=>by
  show _++PG (n+1) (l++l')=_++PG (n+1) l++_;rw[B8 l l'<|n+1,kg,i9 n 1];exact(gA _ _ _).symm
theorem xp:∀{l:List (Nat×ER)} {n:Nat} {q:QI},q∈QG n l->∃i p,l[i]?=some p/\((q=(8,p.2.2.1.toNat,2*(n+i),p.1)/\¬p.2.2.1<0)\/(q=(16,p.2.2.2.toNat,2*(n+i),p.1)/\¬p.2.2.2<0))
 |p::l,n,q,h=>(fL.mp h).elim (λh=>⟨0,p,rfl,(fL.mp h).elim (λh=>.inl<|pQ h) λh=>.inr<|pQ h⟩) λh=>(xp h).elim λi h=>h.elim λp' h=>⟨i+1,p',h.1,by have:=h.2;rw[jg,ij 1 i]at this;exact this⟩
theorem HB:∀{l:List (Nat×ER)} {n i:Nat} {p:Nat×ER},l[i]?=some p->(¬p.2.2.1<0->(8,p.2.2.1.toNat,2*(n+i),p.1)∈QG n l)/\(¬p.2.2.2<0->(16,p.2.2.2.toNat,2*(n+i),p.1)∈QG n l)
 |x::l,n,0,p,h=>by
  cases h;exact⟨λz=>fL.mpr<|.inl<|fL.mpr<|.inl<|B6 z,λz=>fL.mpr<|.inl<|fL.mpr<|.inr<|B6 z⟩
 |x::l,n,i+1,p,h=>by
  have:=HB (n:=n+1) (l:=l) (i:=i) (p:=p) h;rw[jg,ij 1 i]at this;exact⟨λz=>fL.mpr<|.inr<|this.1 z,λz=>fL.mpr<|.inr<|this.2 z⟩
theorem B9:∀{l:List (Nat×PR)} {n:Nat} {q:QI},q∈PG n l->∃i p,l[i]?=some p/\(q=(2,(p.2.2.2.1:Int).toNat,2*(n+i)+1,p.1)\/q=(1,p.2.2.2.2.toNat,2*(n+i)+1,p.1))
 |p::l,n,q,h=>(fL.mp h).elim (λh=>⟨0,p,rfl,(fL.mp h).elim (λh=>.inl (pQ h).1) λh=>.inr (pQ h).1⟩) λh=>(B9 h).elim λi h=>h.elim λp' h=>⟨i+1,p',h.1,by have:=h.2;rw[jg,ij 1 i]at this;exact this⟩
def Ad {q:QI} {b z c j:Nat} (h:q=(b,z,c,j)):kz q=(b,c):=by rw[h];rfl
def Lq {l:List (Nat×ER)} {n:Nat} {x:Nat×Nat} (h:x∈(QG n l).map kz):(x.1=8\/x.1=16)/\∃i,x.2=2*(n+i):=by
 obtain⟨q,hq,rfl⟩:=fW.mp h;refine(xp hq).elim λi h=>h.elim λp h=>h.2.elim (λh=>?_) λh=>?_<;>rw[Ad h.1]
 .exact⟨.inl rfl,i,rfl⟩
 .exact⟨.inr rfl,i,rfl⟩
def Fi {l:List (Nat×PR)} {n:Nat} {x:Nat×Nat} (h:x∈(PG n l).map kz):(x.1=2\/x.1=1)/\∃i,x.2=2*(n+i)+1:=by
 obtain⟨q,hq,rfl⟩:=fW.mp h;refine(B9 hq).elim λi h=>h.elim λp h=>h.2.elim (λh=>?_) λh=>?_<;>rw[Ad h]
 .exact⟨.inl rfl,i,rfl⟩
 .exact⟨.inr rfl,i,rfl⟩
def uM {b c j:Nat} {z:Int} {x:Nat×Nat} (h:x∈(gB b z c j).map kz):x=(b,c):=by
 obtain⟨q,hq,rfl⟩:=fW.mp h;exact Ad (pQ hq).1
def Dz (b:Nat) (z:Int) (cd j:Nat):((gB b z cd j).map kz).Nodup:=by
 unfold gB;split<;>simp
def HC {b b' c j:Nat} {z z':Int} {l:List QI} (hb:b≠b') (hl:(l.map kz).Nodup) (hc:∀x∈l.map kz,x.2≠c):((gB b z c j++gB b' z' c j++l).map kz).Nodup:=by
 rw[hK,hK];exact List.nodup_append.mpr ⟨List.nodup_append.mpr ⟨Dz _ _ _ _,Dz _ _ _ _,λx hx y hy e=>hb (by have:=(uM hx).symm.trans<|e.trans (uM hy);exact congrArg Prod.fst this)⟩,hl,λx hx y hy e=>hc y hy (by rw[<-e];exact(fL.mp hx).elim (λh=>by rw[uM h]) λh=>by rw[uM h])⟩
theorem Lr:∀(l:List (Nat×ER)) (n:Nat),((QG n l).map kz).Nodup
 |[],_=>pW
 |p::l,n=>HC ay (Lr l<|n+1) λx hx e=>(Lq hx).2.elim λi h=>by lia
theorem Ls:∀(l:List (Nat×PR)) (n:Nat),((PG n l).map kz).Nodup
 |[],_=>pW
 |p::l,n=>HC ay (Ls l<|n+1) λx hx e=>(Fi hx).2.elim λi h=>by lia
section
variable{p0 p1 p2:List PR} {e0 e1 e2:List ER}
def Vr {α:Type} (a b c d e f:List α):(a++b++c++d++e++f).Perm ((a++c++e)++(b++d++f)):=by
 have h:∀x y z:List α,(x++y++z).Perm (x++z++y):=λx y z=>by rw[gA,gA];exact List.Perm.append_left x List.perm_append_comm
 have h1:(a++b++c++d++e++f).Perm (a++c++b++d++e++f):=(((h a b c).append_right d).append_right e).append_right f;have h2:(a++c++b++d++e++f).Perm (a++c++e++(b++d)++f):=by
  have:=(h (a++c) (b++d) e).append_right f;rw[<-gA]at this;exact this
 refine h1.trans<|h2.trans ?_;rw[gA]
def rc:(FQ p0 p1 p2 e0 e1 e2).Perm (QG 1 (FE e0 e1 e2)++PG 1 (FP p0 p1 p2)):=by
 have:=Vr (QE 0 1 e0) (QP 0 1 p0) (QE 1 (e0.length+1) e1) (QP 1 (p0.length+1) p1) (QE 2 (e0.length+e1.length+1) e2)<|QP 2 (p0.length+p1.length+1) p2;have a:QG 1 (FE e0 e1 e2)=QE 0 1 e0++QE 1 (e0.length+1) e1++QE 2 (e0.length+e1.length+1) e2:=by
  unfold FE;rw[B7,B7,fj,fk,fk,xm,xm,xm,ij 1,ij 1]
 have b:PG 1 (FP p0 p1 p2)=QP 0 1 p0++QP 1 (p0.length+1) p1++QP 2 (p0.length+p1.length+1) p2:=by
  unfold FP;rw[B8,B8,fj,fk,fk,xn,xn,xn,ij 1,ij 1]
 rw[a,b];exact this
def Vs:((FQ p0 p1 p2 e0 e1 e2).map kz).Nodup:=by
 rw[(rc.map kz).nodup_iff,hK];exact List.nodup_append.mpr ⟨Lr _ _,Ls _ _,λx hx y hy e=>(Lq hx).2.elim λi h=>(Fi hy).2.elim λk h'=>by rw[e]at h;lia⟩
def Sc {α:Type} {x0 x1 x2:List α} {i:Nat} {p:Nat×α} (h:((x0.map λr=>(0,r))++(x1.map λr=>(1,r))++(x2.map λr=>(2,r)))[i]?=some p):i<x0.length+x1.length+x2.length/\p.1=vo x0.length x1.length (1+i):=by
 have hl:=(ke.mp h).1;simp only[fj,fk]at hl;refine⟨hl,?_⟩;have g:∀{j:Nat} {l:List α} {k:Nat},(l.map λr=>(j,r))[k]?=some p->p.1=j:=λ{j l k} h=>by
  rw[List.getElem?_map]at h;obtain⟨r,_,rfl⟩:=Option.map_eq_some_iff.mp h;rfl
 by_cases h0:i<x0.length
 .rw[nw (by simp only[fj,fk];lia),nw (by rw[fk];exact h0)]at h;exact(g h).trans (if_pos (by lia)).symm
 .by_cases h1:i<x0.length+x1.length
  .rw[nw (by simp only[fj,fk];exact h1),nz (by rw[fk];exact Nat.not_lt.mp h0)]at h;exact(g h).trans ((if_neg (by lia)).trans (if_pos (by lia))).symm
  .rw[nz (by simp only[fj,fk];exact Nat.not_lt.mp h1)]at h;exact(g h).trans ((if_neg (by lia)).trans (if_neg (by lia))).symm
def Ae {α:Type} {ok:α->Prop} {x0 x1 x2:List α} (o0:∀r∈x0,ok r) (o1:∀r∈x1,ok r) (o2:∀r∈x2,ok r):∀p∈(x0.map λr=>(0,r))++(x1.map λr=>(1,r))++(x2.map λr=>((2:Nat),r)),ok p.2:=λp hp=>by
 have g:∀{j:Nat} {l:List α},(∀r∈l,ok r)->p∈l.map (λr=>(j,r))->ok p.2:=λ{j l} o h=>by
  obtain⟨r,hr,rfl⟩:=fW.mp h;exact o r hr
 exact(fL.mp hp).elim (λhp=>(fL.mp hp).elim (g o0)<|g o1)<|g o2
def tn {z:Int} (h: z<6):z.toNat<6:=by lia
def Sd (oe0:∀r∈e0,jY r) (oe1:∀r∈e1,jY r) (oe2:∀r∈e2,jY r) (op0:∀r∈p0,i5 r) (op1:∀r∈p1,i5 r) (op2:∀r∈p2,i5 r):∀q∈FQ p0 p1 p2 e0 e1 e2,QJ e0.length e1.length e2.length p0.length p1.length p2.length q:=by
 intro q hq;obtain hq|hq:=fL.mp<|rc.mem_iff.mp hq
 .refine(xp hq).elim λi h=>h.elim λp h=>?_
  have o:=Ae oe0 oe1 oe2 p<|lL h.1;have g:=Sc h.1;obtain⟨e,_⟩|⟨e,_⟩:=h.2<;>rw[e]
  .exact⟨tn o.2.1.2,.inl ⟨.inl rfl,1+i,rfl,gV _ _,by lia,g.2⟩⟩
  .exact⟨tn o.2.2.2,.inl ⟨.inr rfl,1+i,rfl,gV _ _,by lia,g.2⟩⟩
 .refine(B9 hq).elim λi h=>h.elim λp h=>?_
  have o:=Ae op0 op1 op2 p<|lL h.1;have g:=Sc h.1;obtain e|e:=h.2<;>rw[e]
  .exact⟨tn<|Int.ofNat_lt.mpr o.2.2.1,.inr ⟨.inl rfl,1+i,rfl,gV _ _,by lia,g.2⟩⟩
  .exact⟨tn o.2.2.2.2,.inr ⟨.inr rfl,1+i,rfl,gV _ _,by lia,g.2⟩⟩
def Sf (h:(FE e0 e1 e2)[i]?=some p):((8,2*(1+i))∈(FQ p0 p1 p2 e0 e1 e2).map kz↔¬p.2.2.1<0)/\((16,2*(1+i))∈(FQ p0 p1 p2 e0 e1 e2).map kz↔¬p.2.2.2<0):=by
 have back:∀{b:Nat},(b=8\/b=16)->(b,2*(1+i))∈(FQ p0 p1 p2 e0 e1 e2).map kz->(b=8/\¬p.2.2.1<0)\/(b=16/\¬p.2.2.2<0):=λ{b} hb hx=>by
  refine(fW.mp hx).elim λq h'=>?_
  obtain hq|hq:=fL.mp<|rc.mem_iff.mp h'.1
  .refine(xp hq).elim λk h2=>h2.elim λp' h2=>?_
   have e:∀{b' z c j},q=(b',z,c,j)->b'=b/\c=2*(1+i):=λe=>by
    have:=(Ad e).symm.trans h'.2;exact⟨congrArg Prod.fst this,congrArg Prod.snd this⟩
   have pp:k=i->p'=p:=λe=>by subst e;exact Option.some.inj<|h2.1.symm.trans h
   obtain⟨e1,z⟩|⟨e1,z⟩:=h2.2
   .rw[pp (by have:=(e e1).2;lia)]at z;exact .inl ⟨(e e1).1.symm,z⟩
   .rw[pp (by have:=(e e1).2;lia)]at z;exact .inr ⟨(e e1).1.symm,z⟩
  .have:=Fi (o9 hq);rw[h'.2]at this;exact this.2.elim λk h=>by have h:2*(1+i)=2*(1+k)+1:=h;lia
 have m:=HB (n:=1) h;have put:∀{b z j:Nat},(b,z,2*(1+i),j)∈QG 1 (FE e0 e1 e2)->(b,2*(1+i))∈(FQ p0 p1 p2 e0 e1 e2).map kz:=λ{b z j} hq=>fW.mpr ⟨_,rc.mem_iff.mpr (fL.mpr (.inl hq)),rfl⟩
 exact⟨⟨λhx=>(back (.inl rfl) hx).elim (·.2) λh=>absurd h.1 ay,λz=>put (m.1 z)⟩,⟨λhx=>(back (.inr rfl) hx).elim (λh=>absurd h.1 ay) (·.2),λz=>put (m.2 z)⟩⟩
end
def Ja (o:Nat) (X:List (V×PyData)) (s:Nat):jv o X s s=[]:=by
 unfold jv;rw[Nat.sub_self,List.take_zero];rfl
theorem xq (o:Nat) (X:List (V×PyData)) (s:Nat) (b:List Nat) (N:Nat):∀m i,ky o X (s::b) N (i+1) m=ky o X b N i m
 |0,_=>rfl
 |m+1,i=>congrArg (jv o X (gD b N i) (gD b N<|i+1)++·)<|xq o X s b N m<|i+1
def Fj (o:Nat) (X:List (V×PyData)):Nat->List Nat->List V
 |_,[]=>[]
 |k,a::r=>jv o X (k+1) (k+a+1)++Fj o X (k+a) r
theorem B' (o:Nat) (X:List (V×PyData)):∀(gs:List Nat) (j k:Nat),ky o X ((mapG j k gs).map Prod.snd) (k+gs.sum) 0 (mapG j k gs).length=Fj o X k gs
 |[],_,_=>rfl
 |0::r,j,k=>by
  show ky o X ((mapG (j+1) k r).map Prod.snd) (k+(0+r.sum)) 0 (mapG (j+1) k r).length=jv o X (k+1) (k+1)++Fj o X k r;rw[gJ,Ja];exact B' o X r (j+1) k
 |(a+1)::r,j,k=>by
  show jv o X (bG j k ((a+1)::r) 0) (bG j k ((a+1)::r) 1)++ky o X ((k+1)::(mapG (j+1) (k+(a+1)) r).map Prod.snd) (k+((a+1)+r.sum)) 1 (mapG (j+1) (k+(a+1)) r).length=_;rw[oh,oj,oj,xq];exact congrArg (jv o X (k+1) (k+(a+1)+1)++·)<|(congrArg (λN=>ky o X ((mapG (j+1) (k+(a+1)) r).map Prod.snd) N 0 (mapG (j+1) (k+(a+1)) r).length) (jg k (a+1) r.sum).symm).trans<|B' o X r (j+1)<|k+(a+1)
def Jb (o:Nat) (X:List (V×PyData)) (a b c:Nat):ky o X ((gG a b c).map Prod.snd) (a+b+c) 0 ((gG a b c).map Prod.snd).length=jv o X 1 (a+1)++jv o X (a+1) (a+b+1)++jv o X (a+b+1) (a+b+c+1):=by
 have h:=B' o X [a,b,c] 0 0;rw[Fb,show Fj o X 0 [a,b,c]=jv o X (0+1) (0+a+1)++(jv o X (0+a+1) (0+a+b+1)++(jv o X (0+a+b+1) (0+a+b+c+1)++[]))from rfl,gJ,gJ,gk]at h;rw[fk,gA];exact h
section
variable{κ:Type} [DecidableEq κ]
def Fk {α β:Type} (f:α->β) (x0 x1 x2:List α):((x0++x1++x2).map f).take x0.length=x0.map f/\(((x0++x1++x2).map f).drop x0.length).take x1.length=x1.map f/\(((x0++x1++x2).map f).drop<|x0.length+x1.length).take x2.length=x2.map f:=by
 refine⟨?_,?_,?_⟩
 .rw[gA,hK,List.take_append_of_le_length fF];rw[List.take_of_length_le fF]
 .rw[gA,hK,List.drop_append_of_le_length fF,List.drop_of_length_le fF,k8,hK,List.take_append_of_le_length fF];rw[List.take_of_length_le fF]
 .rw[hK,List.drop_append_of_le_length fF,List.drop_of_length_le fF,k8,List.take_of_length_le fF]
def Lu {α:Type} (f:α->PyData) (g:Nat->α->κ) (x0 x1 x2:List α) (n:Nat) (hd:∀j j' x x',j≠j'->g j x≠g j' x') (hfg:∀j,∀x∈x0++x1++x2,∀y∈x0++x1++x2,f x=f y↔g j x=g j y):
  fy tr [] n (x0.map λx=>(false,f x))++fy tr [] (n+x0.length) (x1.map λx=>(false,f x))++fy tr [] (n+(x0.length+x1.length)) (x2.map λx=>(false,f x))=fy tr [] n ((x0.map λx=>(false,g 0 x))++(x1.map λx=>(false,g 1 x))++(x2.map λx=>(false,g 2 x))):=by
 have eq:∀j n (l:List α) (p:List α),(∀x∈l,x∈x0++x1++x2)->(∀x∈p,x∈x0++x1++x2)->fy tr (p.map f) n (l.map λx=>(false,f x))=fy tr (p.map<|g j) n (l.map λx=>(false,g j x)):=by
  intro j n l
  induction l generalizing n with
  |nil=>intro p _ _;rfl
  |cons x r ih=>
   intro p hl hp;have e1:fy tr (p.map f) n ((x::r).map λx=>(false,f x))=(if false=true\/f x∈p.map f then[tr n]else[])++fy tr ((p++[x]).map f) (n+1) (r.map λx=>(false,f x)):=by simp only[hK];rfl
   have e2:fy tr (p.map<|g j) n ((x::r).map λx=>(false,g j x))=(if false=true\/g j x∈p.map (g j)then[tr n]else[])++fy tr ((p++[x]).map<|g j) (n+1) (r.map λx=>(false,g j x)):=by simp only[hK];rfl
   have hx:=hl x fA;simp only[e1,e2,ih _ _ (λy hy=>hl y<|gj _ hy) (λy hy=>by
    obtain hy|hy:=fL.mp hy
    .exact hp y hy
    .rw[gw.mp hy];exact hx)]
   have:f x∈p.map f↔g j x∈p.map (g j):=by
    simp only[fW];constructor
    .rintro⟨y,hy,e⟩
     exact⟨y,hy,(hfg j y (hp y hy) x hx).mp e⟩
    .rintro⟨y,hy,e⟩
     exact⟨y,hy,(hfg j y (hp y hy) x hx).mpr e⟩
   simp only[this]
 have sub0:∀x∈x0,x∈x0++x1++x2:=λx h=>by simp[h]
 have sub1:∀x∈x1,x∈x0++x1++x2:=λx h=>by simp[h]
 have sub2:∀x∈x2,x∈x0++x1++x2:=λx h=>by simp[h]
 have no:∀x∈([]:List α),x∈x0++x1++x2:=λx h=>by cases h
 have q0:=eq 0 n x0 [] sub0 no;have q1:=eq 1 (n+x0.length) x1 [] sub1 no;have q2:=eq 2 (n+(x0.length+x1.length)) x2 [] sub2 no;simp only[List.map_nil]at q0 q1 q2;simp only[q0,q1,q2,og,og];have k1:fy tr ([]++(x0.map λx=>(false,g 0 x)).map Prod.snd) (n+(x0.map λx=>(false,g 0 x)).length) (x1.map λx=>(false,g 1 x))=fy tr [] (n+x0.length) (x1.map λx=>(false,g 1 x)):=by
  rw[fk];refine qs _ _ _ λx hx q=>?_
  obtain⟨y,_,rfl⟩:=fW.mp hx;simp only[k8,iv,fW]at q;exact e8 q λz Z e=>hd 0 1 z y ay e
 have k2:fy tr ([]++((x0.map λx=>(false,g 0 x))++(x1.map λx=>(false,g 1 x))).map Prod.snd) (n+((x0.map λx=>(false,g 0 x))++(x1.map λx=>(false,g 1 x))).length) (x2.map λx=>(false,g 2 x))=fy tr [] (n+(x0.length+x1.length)) (x2.map λx=>(false,g 2 x)):=by
  simp only[fj,fk,fk];refine qs _ _ _ λx hx q=>?_
  obtain⟨y,_,rfl⟩:=fW.mp hx;simp only[k8,hK,iv,fL,fW]at q;obtain⟨z,_,e⟩|⟨z,_,e⟩:=q
  .exact hd 0 2 z y ay e
  .exact hd 1 2 z y ay e
 simp only[k1,k2]
end
noncomputable def mU (j:Nat) (r:PR):PyData:=.tuple [.int j,.str ⟨⟨[r.1]⟩⟩,.int r.2.1,.int (r.2.2.1 % 2:Nat)]
noncomputable def mV (j:Nat) (r:ER):PyData:=.tuple [.int j,.str ⟨⟨[r.1]⟩⟩]
noncomputable def rd (j:Nat) (r:PR):V:=.v [.a j,.z [r.1],.a r.2.1,.a (r.2.2.1 % 2:Nat)]
noncomputable def tY (j:Nat) (r:ER):V:=.v [.a j,.z [r.1]]
def Nc:mU j r=mU j s↔r.1=s.1/\r.2.1=s.2.1/\r.2.2.1 % 2=s.2.2.1 % 2:=by
 unfold mU;constructor
 .intro h;simp[oo,om,pc,true_and]at h;obtain⟨h1,h2,h3⟩:=h;refine⟨?_,eZ,eZ⟩;simpa using h1
 .rintro⟨h1,h2,h3⟩
  rw[h1,h2,h3]
def Nd (hr:i5 r) (hs:i5 s):vr r=vr s↔r.1=s.1/\r.2.1=s.2.1/\r.2.2.1 % 2=s.2.2.1 % 2:=by
 unfold vr;refine oq hr λZ k1 Z=>oq hs λZ k2 Z=>?_
 constructor
 .intro h;simp[oo,om,pc,and_true]at h;obtain⟨h1,h2,h3⟩:=h;refine⟨by simpa using h1,?_,?_⟩
  .split at h3<;>split at h3<;>lia
  .split at h2<;>split at h2<;>lia
 .rintro⟨h1,h2,h3⟩
  rw[h1,h2,h3]
def Nf:mV j r=mV j s↔r.1=s.1:=by
 unfold mV;constructor
 .intro h;simpa using h
 .intro h;rw[h]
def Ng:vt r=vt s↔r.1=s.1:=by
 unfold vt;constructor
 .intro h;simpa using h
 .intro h;rw[h]
def Lw {α:Type} (o:Nat) (kv:α->V) (kk:α->PyData) (x0 x1 x2:List α):ky o ((x0++x1++x2).map λr=>(kv r,kk r)) ((gG x0.length x1.length x2.length).map Prod.snd) (x0.length+x1.length+x2.length) 0 ((gG x0.length x1.length x2.length).map Prod.snd).length=
  fy (tV o) [] 1 (x0.map λx=>(false,kk x))++fy (tV o) [] (1+x0.length) (x1.map λx=>(false,kk x))++fy (tV o) [] (1+(x0.length+x1.length)) (x2.map λx=>(false,kk x)):=by
 have t:=Fk (λr=>(kv r,kk r)) x0 x1 x2;have g:∀{s n:Nat} {l:List α} {X:List (V×PyData)},(X.drop s).take n=l.map (λr=>(kv r,kk r))->jv o X (s+1) (s+n+1)=fy (tV o) [] (1+s) (l.map λx=>(false,kk x)):=λ{s n l X} h=>by
  unfold jv;rw[Nat.add_sub_cancel,i9 s n 1,Nat.add_sub_cancel_left,h,iv,ij s 1];rfl
 have g0:=g (s:=0) (n:=x0.length) t.1;rw[gJ,gJ,Nat.add_zero]at g0;rw[Jb,g t.2.1,g t.2.2,g0]
def Vt (p0 p1 p2:List PR):XP (FP p0 p1 p2)=(p0++p1++p2).map λr=>(Lj r,vr r):=by simp only[XP,FP,Function.comp_def,hK,iv]
def Vu (p0 p1 p2:List ER):XE (FE p0 p1 p2)=(p0++p1++p2).map λr=>(Lk r,vt r):=by simp only[XE,FE,Function.comp_def,hK,iv]
def Jc (o0:∀r∈p0,i5 r) (o1:∀r∈p1,i5 r) (o2:∀r∈p2,i5 r):ky 23 (XP<|FP p0 p1 p2) ((gG p0.length p1.length p2.length).map Prod.snd) (p0.length+p1.length+p2.length) 0 ((gG p0.length p1.length p2.length).map Prod.snd).length=fy (kY 23) [] 1 ((p0.map λr=>(false,mU 0 r))++(p1.map λr=>(false,mU 1 r))++(p2.map λr=>(false,mU 2 r))):=by
 have ok:∀x∈p0++p1++p2,i5 x:=λx hx=>(fL.mp hx).elim (λh=>(fL.mp h).elim (o0 x)<|o1 x)<|o2 x
 rw[Vt];exact(Lw 23 Lj vr p0 p1 p2).trans (Lu vr mU p0 p1 p2 1 (λj j' x x' hj e=>by
  unfold mU at e;simp only[oo,om,pc]at e;exact hj<|Int.ofNat_inj.mp e.1) λj x hx y hy=>(Nd (ok x hx)<|ok y hy).trans Nc.symm)
def Jd:ky 20 (XE<|FE p0 p1 p2) ((gG p0.length p1.length p2.length).map Prod.snd) (p0.length+p1.length+p2.length) 0 ((gG p0.length p1.length p2.length).map Prod.snd).length=fy (kY 20) [] 1 ((p0.map λr=>(false,mV 0 r))++(p1.map λr=>(false,mV 1 r))++(p2.map λr=>(false,mV 2 r))):=by
 rw[Vu];exact(Lw 20 Lk vt p0 p1 p2).trans (Lu vt mV p0 p1 p2 1 (λj j' x x' hj e=>by
  unfold mV at e;simp only[oo,om,pc]at e;exact hj<|Int.ofNat_inj.mp e.1) λj x hx y hy=>Ng.trans Nf.symm)
def Nh {ms:List Nat} (h:pN ms) (h1:1<=jf ms 1 m) (e:jf ms 1 m=jf ms 1 m'):m=m':=by
 obtain rfl|rfl|rfl|rfl|rfl:=h<;>simp[jf]at h1 e<;>(repeat' split at h1)<;>(repeat' split at e)<;>lia
def Ni {ms:List Nat} (hm:pN ms) (h:∀p∈FI i0 i1 i2,1<=jf ms 1 (p.2.2+1)):fy kX [] 0 ((FI i0 i1 i2).map<|mt ms)=xj i0 i1 i2:=by
 have one:∀j n (l:List IR),(∀r∈l,1<=jf ms 1 (r.2+1))->fy kX [] n (l.map λr=>mt ms (j,r))=fy kX [] n _:=λj n l hl=>by
  have:=vZ (tr:=kX) (λdc:Nat=>je (j+2) (2*jf ms 1 (dc+1)+1)) (l.map λr=>(!decide (r.1/2=j),r.2)) [] n (λZ Z Z q=>by cases q) (λx hx y hy e=>by
   obtain⟨r,hr,rfl⟩:=fW.mp hx;obtain⟨s,hs,rfl⟩:=fW.mp hy;have e':2*jf ms 1 (r.2+1)+1=2*jf ms 1 (s.2+1)+1:=by
    have e2:=e;unfold je at e2;simp only[oo,om,pc]at e2;lia
   have:=Nh hm (hl r hr) (show jf ms 1 (r.2+1)=jf ms 1 (s.2+1)by lia);lia)
  rw[<-this,iv];rfl
 have h0:∀r∈i0,1<=jf ms 1 _:=λr hr=>h (0,r) (by simp[FI,hr])
 have h1:∀r∈i1,1<=jf ms 1 (r.2+1):=λr hr=>h (1,r) (by simp[FI,hr])
 have h2:∀r∈i2,1<=jf ms 1 (r.2+1):=λr hr=>h (2,r) (by simp[FI,hr])
 unfold FI xj;simp only[hK,hK,iv,iv,iv,og,og];have e0:(mt ms∘λr=>(0,r))=λr:IR=>mt ms (0,r):=rfl
 have e1:(mt ms∘λr=>(1,r))=λr:IR=>mt ms (1,r):=rfl
 have e2:(mt ms∘λr=>(2,r))=λr:IR=>mt ms (2,r):=rfl
 rw[e0,e1,e2];have kne:∀j j' x y,j≠j'->(mt ms (j,x)).2≠(mt ms (j',y)).2:=λj j' x y hj e=>by
  have e2:je (j+2) (2*jf ms 1 (x.2+1)+1)=je (j'+2) (2*jf ms 1 (y.2+1)+1):=e;unfold je at e2;simp only[oo,om,pc]at e2;lia
 rw[qs (i1.map λr=>mt ms (1,r)) _ _ (λx hx q=>by
  obtain⟨y,_,rfl⟩:=fW.mp hx;simp only[k8,iv,fW]at q;exact e8 q λz Z e=>kne 0 1 z y ay e),qs (i2.map λr=>mt ms (2,r)) _ _ (λx hx q=>by
  obtain⟨y,_,rfl⟩:=fW.mp hx;simp only[k8,hK,iv,fL,fW]at q;obtain⟨z,_,e⟩|⟨z,_,e⟩:=q
  .exact kne 0 2 z y ay e
  .exact kne 1 2 z y ay e)]
 simp only[one 0 0 i0 h0,one 1 _ i1 h1,one 2 _ i2 h2];simp only[fj,fk,gJ]
def me (w:Hm):List (Nat×List Nat):=match w.names with
 |.w [.z a,.z b,.z c]=>[(hj w 0,a),(hj w 1,b),(hj w 2,c)]
 |_=>[]
noncomputable def vu (p:Nat×List Nat):V:=.v [.a p.1,.z p.2]
noncomputable def vv (p:Nat×List Nat):PyData:=.tuple [.int p.1,.str ⟨⟨p.2⟩⟩]
theorem wc {κ:Type} [DecidableEq κ]:∀(l:List (Bool×κ)) (p:List κ) (n:Nat),∃ns:List Nat,∀tr:Nat->V,fy tr p n l=ns.map tr
 |[],_,_=>⟨[],λZ=>rfl⟩
 |(b,k)::r,p,n=>by
  obtain⟨ns,h⟩:=wc r (p++[k])<|n+1;have e:∀tr:Nat->V,fy tr p n ((b,k)::r)=(if b=true\/k∈p then[tr n]else[])++fy tr (p++[k]) (n+1) r:=λZ=>rfl
  by_cases q:b=true\/k∈p
  .exact⟨n::ns,λtr=>by rw[e,fv q,h];rfl⟩
  .exact⟨ns,λtr=>by rw[e,ff q,h];rfl⟩
def Vv (hw:fR w):fy (λn=>kY 2<|n+1) [] 1 ((me w).map λp=>(false,vv p))=lK w:=by
 have e1:=vZ (tr:=λn=>kY 2<|n+1) vv ((me w).map λp=>(false,p)) [] 1 (λZ Z Z q=>by cases q) (λx Z y Z e=>by
  obtain⟨_,a,b⟩:=x;obtain⟨_,a',b'⟩:=y;simp[vv,oo,om,pc]at e;obtain⟨h1,h2⟩:=e;have h3:b=b':=by simpa using h2
  have h4:a=a':=eZ;rw[h3,h4])
 let f:Nat×List Nat->PyData:=λp=>.tuple [.int p.1,.str ⟨⟨[]⟩⟩,.str ⟨⟨p.2⟩⟩]
 have e2:=vZ (tr:=sJ) f ((qw w).map λx=>(false,(x.2.2.2,x.2.2.1))) [] 0 (λZ Z Z q=>by cases q) (λx Z y Z e=>by
  obtain⟨_,a,b⟩:=x;obtain⟨_,a',b'⟩:=y;simp[f,oo,om,pc]at e;obtain⟨h1,h2⟩:=e;have h3:b=b':=by simpa using h2
  have h4:a=a':=eZ;rw[h3,h4])
 rw[iv]at e1 e2;unfold lK;have g1:(me w).map (λp=>(false,vv p))=(me w).map ((λx:Bool×_=>(x.1,vv x.2))∘λp=>(false,p)):=rfl;have g2:(qw w).map (λx=>(false,qv x))=(qw w).map ((λx:Bool×_=>(x.1,f x.2))∘λx=>(false,(x.2.2.2,x.2.2.1))):=rfl;simp[List.map_nil]at e1 e2;simp only[g1,g2,e1,e2];obtain rfl|rfl|rfl|rfl|rfl|rfl:=hw<;>rfl
section
variable{μ:H} {d:Nat} {FF:fb} {E:Env} {ss:List St}
def pR (v:V):Prop:=∃(a b:Int) (s:List Nat),v=.v [.a a,.a b,.z s]/\nR s=true
theorem xr:∀{L:List V},(∀v∈L,pR v)->∃DL:List PyData,(∀μ,fY (gI μ 10) L=some DL)/\∀x∈DL,fg 6 x=true
 |[],_=>⟨[],λZ=>rfl,λx hx=>by cases hx⟩
 |v::r,h=>by
  refine e8 (xr λu hu=>h u<|gj _ hu) λDL h1 h2=>?_
  obtain⟨a,b,s,rfl,hs⟩:=h v fA;refine⟨.tuple [.int a,.int b,.str ⟨⟨s⟩⟩]::DL,λμ=>?_,λx hx=>?_⟩
  .have t:gI μ 10 (.v [.a a,.a b,.z s])=some (.tuple [.int a,.int b,.str ⟨⟨s⟩⟩]):=congrArg (Option.map PyData.tuple)<|gM (f:=gI μ 9) (v:=.a a) rfl<|gM (f:=gI μ 9) (v:=.a b) rfl<|gM (f:=gI μ 9) (v:=.z s) (HR hs) rfl;exact gM t<|h1 μ
  .rcases gC.mp hx with rfl|hx
   .exact(Bool.and_true (nR s)).trans hs
   .exact h2 x hx
theorem qx:∀{l:List PyData},(∀x∈l,fg 6 x)->PyData.eqvAll l l=true
 |[],_=>rfl
 |x::r,h=>by
  have h1:=h x fA;simp only[PyData.eqvAll,Kl<|ub 6 (x:=x) (y:=x) h1 h1,qx λy hy=>h y<|gj _ hy,decide_true,Bool.and_self]
def Nj (h0:d' μ r0=some (.j [])) (h1:d' μ r1=some (.j [])) (h2:d' μ r2=some (.j [])) (h3:d' μ r3=some (.j [])) (h4:d' μ r4=some (.j L4)) (h5:d' μ r5=some (.j L5)) (h6:d' μ r6=some (.j L6)) (k:d' μ k6=some (.j L6)) (t4:∀v∈L4,pR v) (t5:∀v∈L5,pR v) (t6:∀v∈L6,pR v):
  jt μ .eq (.w [.g r0,.g r1,.g r2,.g r3,.g r4,.g r5,.g r6]) (.w [.w [],.w [],.w [],.w [],.w L4,.w L5,.g k6])=some true:=by
 refine ia λG kk=>e8 (xr t4) λD4 a4 b4=>e8 (xr t5) λD5 a5 b5=>e8 (xr t6) λD6 a6 b6=>?_
 have x:gI μ gN (.w [.g r0,.g r1,.g r2,.g r3,.g r4,.g r5,.g r6])=some (.list [.list [],.list [],.list [],.list [],.list D4,.list D5,.list D6]):=by
  show(fY _ _).map PyData.list=_;refine ia λG kk=>?_
  have e:∀{r:Nat} {L:List V} {D:List PyData},d' μ r=some (.j L)->fY _ L=some D->gI μ 11 _=some _:=λ{r L D} hr hD=>by
   have:gI μ 11 (.g r)=match d' μ r with|some (.j l)=>(fY _ l).map .list|_=>none:=rfl
   rw[this,hr];dsimp only;rw[hD];rfl
  apply kk;exact congrArg (Option.map _) (gM (e h0 rfl) (gM (e h1 rfl) (gM (e h2 rfl) (gM (e h3 rfl) (gM (e h4 (a4 μ)) (gM (e h5 (a5 μ)) (gM (e h6 (a6 μ)) rfl)))))))
 have y:gI μ gN (.w [.w [],.w [],.w [],.w [],.w L4,.w L5,.g k6])=some (.list [.list [],.list [],.list [],.list [],.list D4,.list D5,.list D6]):=by
  show(fY _ _).map PyData.list=_;have e:∀{r:Nat} {L:List V} {D:List PyData},d' μ r=some (.j L)->fY _ L=some D->gI μ 11 _=some _:=λ{r L D} hr hD=>by
   have:gI μ 11 (.g r)=match d' μ r with|some (.j l)=>(fY _ l).map .list|_=>none:=rfl
   rw[this,hr];dsimp only;rw[hD];rfl
  have c:∀{L:List V} {D:List PyData},fY _ L=some D->gI μ 11 _=some _:=λ{L D} hD=>by
   have:gI μ 11 (.w L)=(fY _ L).map .list:=rfl;rw[this,hD];rfl
  have z:=c (L:=[]) rfl;exact congrArg (Option.map _) (gM z (gM z (gM z (gM z (gM (c (a4 μ)) (gM (c (a5 μ)) (gM (e k (a6 μ)) rfl)))))))
 have e:nU μ (.w [.g r0,.g r1,.g r2,.g r3,.g r4,.g r5,.g r6]) _=match gI μ gN _ with
  |none=>none
  |some x=>match gI μ gN (.w [.w [],.w [],.w [],.w [],.w L4,.w L5,.g k6])with
   |none=>none
   |some y=>some _:=rfl
 have e0:∀x y:List V,jt μ .eq (.w x) _=nU μ (.w x) (.w y):=λZ Z=>rfl
 apply kk;simp only[e0,e,x,y];simp[PyData.eqv,PyData.eqvAll,qx b4,qx b5,qx b6,Bool.and_self]
def Sh:C8=.G 211 (.A 87 [.ai true [197] 2 (.y<|.a 3) (.y .B) none<|.v [.D (.u 209)<|.u 197,.D (.u 141)<|.u 197],.y<|.a 2])::.G 211 (.ai false [3,8,118] 0 (.u 211) (.y .B) none<|.v [.y<|.a 2,.I .R (.u 8)<|.y<|.a 1,.u 118])::.G 201 (.w [])::.G 212 (.w [])::.J true [197] 2 (.y<|.a 3) (.y .B) [.G 201<|.I .R (.u 201)<|.ai false [111,185,199,200] 0 (.D (.u 124)<|.u 197) (.y .B) none<|.v [.u 197,.u 111,.u 185,.I .ag (.u 199)<|.y<|.a 2],.G 212<|.I .R (.u 212)<|.ai false [111,199,200] 0 (.D (.u 125)<|.u 197) (.y .B) none<|.v [.u 197,.u 111]]::
  [.G 211<|.I .R (.I .R (.u 211)<|.A 87 [.u 201,.y<|.a 23])<|.A 87 [.u 212,.y<|.a 20],.L<|.E .eq (.u 18)<|.w [.w [],.w [],.w [],.w [],.u 211,.A 88 [.u 202],.A 89 [.u 123]]]:=rfl
noncomputable def HD:List St:=[.G 201<|.I .R (.u 201)<|.ai false [111,185,199,200] 0 (.D (.u 124)<|.u 197) (.y .B) none<|.v [.u 197,.u 111,.u 185,.I .ag (.u 199)<|.y<|.a 2],.G 212<|.I .R (.u 212)<|.ai false [111,199,200] 0 (.D (.u 125)<|.u 197) (.y .B) none<|.v [.u 197,.u 111]]
def ye (h1:ev aj FF E a μ=some (.w l,μ1)) (h2:ev aj FF E b μ1=some (.g k,μ2)) (hk:d' μ2 k=some (.j r)) (hl:l.length+r.length<1000):ev aj FF E (.I .R a b) μ=some (.w<|l++r,μ2):=by
 have:mK μ2 .R (.w l) (.g k)=some (.w<|l++r):=by simp[mK,hk,ip hl]
 simp[zM,h1,h2,this]
structure KE (w:Hm) (E:Env) (told:V):Prop where
 a124:ci E 124=some mL
 a125:ci E 125=some mM
 a123:ci E 123=some kV
 a202:ci E 202=some qT
 a209:ci E 209=some w.homes
 a141:ci E 141=some w.names
 a18:ci E 18=some told
def yf {α:Type} {l:List α} {single:Bool} {t:List Nat} {a e:Ex} {k:Nat} (f g:α->V) (h1:Ev FF E μ a (.g k)) (hk:d' μ k=some (.j<|l.map f)) (hf:∀r,jI (f r) (f r)) (h:∀r,∃E',fi E single t (f r)=some E'/\∀L,ev aj FF E' e (μ++[.j L])=some (g r,μ++[.j L])) (hl:l.length<900):ev aj FF E (.ai single t 0 a (.y .B) none e) μ=some (.g μ.length,μ++[.j<|l.map g]):=by
 have c:=qY (FF:=FF) (k:=0) (c:=none) (e:=e) (single:=single) (t:=t) f g (λZ=>true) h1 (eT (v:=.B)) (by exact jc hk) (λL=>by rw[kB hk];exact i4 (fh hk)<|kQ hf l) (λr Z=>(h r).elim λE' h=>⟨E',h.1,λL=>⟨by simp only[zP],λZ=>h.2 L⟩⟩) hl;rw[vj]at c;exact c
def Ca {w:Hm} {told:V} {A B:List V} {t:V} {j:Nat} (hj:j<3) {pr:List PR} {er:List ER} (h1:d' μ (0+j)=some (.j<|pr.map vP)) (h2:d' μ (3+j)=some (.j<|er.map vE)) {E:Env} (h:KE w E told) (a201:ci E 201=some (.w A)) (a212:ci E 212=some (.w B)) (a211:ci E 211=some t) (hA:A.length+pr.length<900) (hB:B.length+er.length<900) {P:Prop}
  (kk:∀E' G,(match fi E true [197] (.a j)with|none=>none|some E'=>execs aj FF HD E' μ)=some (.C,(E',μ++G))->KE w E' told->ci E' 201=some (.w<|A++pr.map (rd j))->ci E' 212=some (.w<|B++er.map (tY j))->ci E' 211=some t->P):P:=by
 have c1:=yf (FF:=FF) (E:=eP E 197<|.a j) (single:=false) (t:=[111,185,199,200]) (e:=.v [.u 197,.u 111,.u 185,.I .ag (.u 199)<|.y<|.a 2]) vP (rd j) (nJ (x:=124) (b:=0) (by exact h.a124) rfl hj) h1 xP (λr=>⟨_,rfl,λL=>gv<|.aR (aE rfl)<|.aR (aE rfl) (.aR (aE rfl) (.aR (gL (aE (v:=.a r.2.2.1) rfl) eT (by rw[mS ay ay,fm _ ay];rfl)) .aS))⟩) (fq (k9 _ _) hA);have c2:=yf (FF:=FF) (E:=eP (eP E 197 (.a j)) 201 (.w (A++pr.map (rd j)))) (single:=false) (t:=[111,199,200]) (e:=.v [.u 197,.u 111]) vE (tY j) (nJ (x:=125) (b:=3) (by exact h.a125) rfl hj) (fh (ν:=[.j (pr.map (rd j))]) h2) xQ (λr=>⟨_,rfl,λL=>gv (.aR (aE rfl) (.aR (aE rfl) .aS))⟩) (fq (k9 _ _) hB);refine kk (eP (eP (eP E 197 (.a j)) 201 (.w (A++pr.map (rd j)))) 212 (.w (B++er.map (tY j)))) ([.j (pr.map (rd j))]++[.j (er.map (tY j))]) (Eq.trans (fQ (ye (aE (by exact a201)) c1 (hO _ _) (by rw[fk];exact fB hA ay))) (Eq.trans (fQ (ye (aE (by exact a212)) c2 (hO _ _) (by rw[fk];exact fB hB ay))) ?_)) ⟨h.a124,h.a125,h.a123,h.a202,h.a209,h.a141,h.a18⟩ rfl rfl a211;rw[<-gA];exact fa
end
section
variable{μ:H} {d:Nat} {FF:fb} {E:Env} {ss:List St}
def Lx (hw:fR w):(w.homes=.v ((me w).map λp=>.a p.1)/\w.names=.w ((me w).map λp=>.z p.2))/\(me w).length=3/\(me w).all (λp=>nR p.2):=by
 obtain rfl|rfl|rfl|rfl|rfl|rfl:=hw<;>exact⟨⟨eV,eV⟩,eV,eV⟩
def Fl (h:∀μ,fY (gI μ 11) l=some D):∀μ,gI μ gN (.v l)=some (.tuple D):=λμ=>by
 have:gI μ gN (.v l)=(fY _ l).map .tuple:=rfl;simp only[this,h μ];rfl
def dsH (l:List (Nat×List Nat)) (h:∀p∈l,nR p.2):Ds (l.map vu) (l.map vv):=Ds.cA l λp hp=>by
 have hs:=h p hp;refine⟨Fl λμ=>gM rfl (gM (HR hs) rfl),(Bool.and_true _).trans hs⟩
def Si (l:List PR) (h:∀r∈l,i5 r):Ds (l.map<|rd j) (l.map<|mU j):=Ds.cA l λr hr=>by
 have h:=(h r hr).1;obtain⟨a,b,c,d⟩:=r;obtain rfl|rfl:=h<;>exact⟨Fl λμ=>rfl,rfl⟩
def Sj (l:List ER) (h:∀r∈l,jY r):Ds (l.map<|tY j) (l.map<|mV j):=Ds.cA l λr hr=>by
 have h:=(h r hr).1;obtain⟨a,b,c⟩:=r;obtain rfl|rfl:=h<;>exact⟨Fl λμ=>rfl,rfl⟩
def Ds.ba {l m:List V} {ds es:List PyData} (h:Ds l ds) (k:Ds m es):Ds (l++m) (ds++es):=by
 refine⟨by simp[h.len,k.len],λi v hv=>?_⟩;by_cases hi:i<l.length
 .rw[nw hi]at hv;obtain⟨x,h1,h2,h3⟩:=h.at' i v hv;exact⟨x,by rw[nw (by rw[<-h.len];exact hi)];exact h1,h2,h3⟩
 .rw[nz eZ]at hv;obtain⟨x,h1,h2,h3⟩:=k.at' _ v hv;exact⟨x,by rw[nz (by rw[<-h.len];lia),<-h.len];exact h1,h2,h3⟩
def Sk {w:Hm} (hw:fR w) (h209:ci E 209=some w.homes) (h141:ci E 141=some w.names):ev aj FF E (.ai true [197] 2 (.y<|.a 3) (.y .B) none<|.v [.D (.u 209)<|.u 197,.D (.u 141)<|.u 197]) μ=some (.g μ.length,μ++[.j<|(me w).map vu]):=by
 have q:=Lx hw;have a1:ci E 209=some (.v<|(me w).map λp=>.a p.1):=h209.trans<|congrArg some q.1.1;have a2:ci E 141=some (.w ((me w).map λp=>.z p.2)):=h141.trans (congrArg some q.1.2);have lt:∀{x},x∈(me w).zipIdx 0->x.2<=1000000000000:=λhx=>iz (fB (List.getElem?_eq_some_iff.1 (List.mem_zipIdx_iff_getElem?.1 hx)).1 (by rw[q.2.1];exact iw rfl))
 have c:=qY (FF:=FF) (μ:=μ) (E:=E) (single:=true) (t:=[197]) (k:=2) (a:=.y (.a 3)) (b:=.y .B) (c:=none) (e:=.v [.D (.u 209) (.u 197),.D (.u 141) (.u 197)]) (y:=.B) (l:=(me w).zipIdx 0) (λx=>.a x.2) (λx=>vu x.1) (λZ=>true) eT eT (by have z:=zR (me w) 0;rw[q.2.1]at z;exact congrArg some z) (λZ=>rfl) (λx hx=>⟨eP E 197 (.a x.2),rfl,λL=>⟨by simp only[zP],λZ=>gv (.aR (fo (aE (by exact a1)) (aE rfl) ((GK (lt hx)).trans (mu (λp:Nat×List Nat=>V.a p.1) _ _ _ (List.mem_zipIdx_iff_getElem?.1 hx)))) (.aR (fo (aE (by exact a2)) (aE rfl) ((wS (lt hx)).trans (mu (λp:Nat×List Nat=>V.z p.2) _ _ _ (List.mem_zipIdx_iff_getElem?.1 hx)))) .aS))⟩⟩) (by rw[List.length_zipIdx,q.2.1];decide);rw[vj,show((me w).zipIdx 0).map (λx=>vu x.1)=(me w).map vu from (iv (g:=vu) (f:=Prod.fst)).symm.trans (congrArg (List.map vu) (List.zipIdx_map_fst 0 _))]at c;exact c
def Zl (n:Nat):jI (kY 2 n) (kY 2 n):=lZ (v:=.a 2) (l:=[.a n,.z RW]) rfl<|lZ (oM _)<|lZ (l:=[]) (GL _) rfl
def tdS {w:Hm} {told:V} (hw:fR w) (h:KE w E told) {P:Prop} (kk:∀(ν:H) (x:V) (t:Nat),(∀{ss},execs aj (aP aj eU<|d+1) (.G 211 (.A 87 [.ai true [197] 2 (.y<|.a 3) (.y .B) none<|.v [.D (.u 209)<|.u 197,.D (.u 141)<|.u 197],.y<|.a 2])::.G 211 (.ai false [3,8,118] 0 (.u 211) (.y .B) none<|.v [.y<|.a 2,.I .R (.u 8)<|.y<|.a 1,.u 118])::ss) E μ=execs aj (aP aj eU<|d+1) ss (eP (eP E 211 x) 211<|.g t) ν)->(∀k o,d' μ k=some o->d' ν k=some o)->d' ν t=some (.j<|lK w)->P):P:=by
 have q:=Lx hw;have d1:=sv (d:=d) (μ:=μ++[.j<|(me w).map vu]) (v:=.g μ.length) (.inr ⟨_,rfl,hO _ _⟩) (dsH (me w)<|List.all_eq_true.mp q.2.2) (by rw[fk,q.2.1];decide) 2;have e:((me w).map vv).map (λk=>(false,k))=(me w).map λp=>(false,vv p):=iv
 rw[e]at d1;refine(wc ((me w).map λp=>(false,vv p)) ([]:List PyData) 1).elim λns hns=>?_
 have ln:=jM (tr:=kY 2) ((me w).map λp=>(false,vv p)) ([]:List PyData) 1;rw[hns,fk,fk,q.2.1]at ln;rw[hns]at d1;have c3:=yf (FF:=aP aj eU<|d+1) (μ:=μ++[O.j<|(me w).map vu]++[O.j<|ns.map<|kY 2]) (E:=eP E 211<|.g (μ++[O.j<|(me w).map vu]).length) (single:=false) (t:=[3,8,118]) (e:=.v [.y<|.a 2,.I .R (.u 8)<|.y<|.a 1,.u 118]) (kY 2) (λn=>kY 2<|n+1) (aE (x:=211) rfl) (hO _ _) Zl (λn=>⟨_,rfl,λL=>gv<|.aR eT<|.aR (gL (aE (v:=.a n) rfl) eT lY)<|.aR (aE rfl) .aS⟩)<|fq ln ay;rw[<-hns λn=>kY 2<|n+1,Vv hw]at c3;exact kk _ _ _ ((fQ<|n8 (eY (Sk hw h.a209 h.a141)<|eY eT gu) d1).trans<|fQ c3) (λk o g=>fh<|fh<|fh g)<|hO _ _
def lk3 {p0 p1 p2:List PR} {e0 e1 e2:List ER} {w:Hm} {told t:V} (h:KE w E told) (a211:ci E 211=some t) (g0:d' μ 0=some (.j<|p0.map vP)) (g1:d' μ 1=some (.j<|p1.map vP)) (g2:d' μ 2=some (.j<|p2.map vP)) (g3:d' μ 3=some (.j<|e0.map vE)) (g4:d' μ 4=some (.j<|e1.map vE)) (g5:d' μ 5=some (.j<|e2.map vE)) (hp:p0.length+p1.length+p2.length<900) (he:e0.length+e1.length+e2.length<900) {P:Prop}
  (kk:∀(E':Env) (ν:H),(∀{ss},execs aj FF (.G 201 (.w [])::.G 212 (.w [])::.J true [197] 2 (.y<|.a 3) (.y .B) HD::ss) E μ=execs aj FF ss E' ν)->(∀k o,d' μ k=some o->d' ν k=some o)->KE w E' told->ci E' 201=some (.w<|p0.map (rd 0)++p1.map (rd 1)++p2.map (rd 2))->ci E' 212=some (.w<|e0.map (tY 0)++e1.map (tY 1)++e2.map (tY 2))->ci E' 211=some t->P):P:=
 have hp1:=fq (gV _ _) hp;have he1:=fq (gV _ _) he
 Ca (FF:=FF) (j:=0) ay g0 g3 (E:=eP (eP E 201<|.w []) 212<|.w []) (A:=[]) (B:=[]) ⟨h.a124,h.a125,h.a123,h.a202,h.a209,h.a141,h.a18⟩ rfl rfl a211 (by rw[List.length_nil,gJ];exact fq (gV _ _) hp1) (by rw[List.length_nil,gJ];exact fq (gV _ _) he1) λE3 G3 q1 q2 q3 q4 q5=>
 Ca (FF:=FF) (j:=1) ay (fh g1) (fh g4) q2 q3 q4 q5 (by show(p0.map<|rd 0).length+_<_;rw[fk];exact hp1) (by show(e0.map (tY 0)).length+_<_;rw[fk];exact he1) λE4 G4 r1 r2 r3 r4 r5=>
 Ca (FF:=FF) (j:=2) ay (fh (fh g2)) (fh (fh g5)) r2 r3 r4 r5 (by show(p0.map (rd 0)++p1.map (rd 1)).length+_<_;rw[fj,fk,fk];exact hp) (by show(e0.map (tY 0)++e1.map (tY 1)).length+_<_;rw[fj,fk,fk];exact he) λE5 G5 s1 s2 s3 s4 s5=>
 kk E5 _ (Eq.trans (fQ (by rw[ph,lU])) (Eq.trans (fQ (by rw[ph,lU])) (gK (eT (v:=.a 3)) eT rfl (f5 rfl q1 (f5 rfl r1 (f5 rfl s1 (hV rfl))))))) (λk o g=>fh (fh (fh g))) s2 s3 s4 s5
def Zm {T LP LE:List V} {dp de:List PyData} {t:Nat} (a211:ci E 211=some (.g t)) (ht:d' μ t=some (.j T)) (hT:T.length<100) (a201:ci E 201=some (.w LP)) (a212:ci E 212=some (.w LE)) (dP:Ds LP dp) (dE:Ds LE de) (lP:dp.length<100) (lE:de.length<100):
  ev aj (aP aj eU<|d+1) E (.I .R (.I .R (.u 211)<|.A 87 [.u 201,.y<|.a 23])<|.A 87 [.u 212,.y<|.a 20]) μ=some (.w<|T++fy (kY 23) [] 1 (dp.map λk=>(false,k))++fy (kY 20) [] 1 (de.map λk=>(false,k)),μ++[.j<|fy (kY 23) [] 1<|dp.map λk=>(false,k)]++[.j<|fy (kY 20) [] 1<|de.map λk=>(false,k)]):=by
 have l1:=jM (tr:=kY 23) (dp.map λk=>(false,k)) [] 1;have l2:=jM (tr:=kY 20) (de.map λk=>(false,k)) [] 1;rw[fk]at l1 l2;refine ye (Lp (aE a211) (fn (.aR (aE a201)<|.aR eT .aS)<|sv (d:=d) (.inl rfl) dP (by rw[dP.len];exact fB lP ay) 23) (fh ht) (hO _ _) ?_) (fn (.aR (aE a212)<|.aR eT .aS)<|sv (d:=d) (.inl rfl) dE (by rw[dE.len];exact fB lE ay) 20) (hO _ _) ?_
 .exact fB (Nat.add_lt_add hT<|fq l1 lP) ay
 .rw[fj];exact fB (Nat.add_lt_add (Nat.add_lt_add hT<|fq l1 lP)<|fq l2 lE) ay
def Sm {told v6:V} {ν1 ν2:H} {L4 L5:List V} {b:Bool} (a18:ci E 18=some told) (a211:ci E 211=some (.w L4)) (a202:ci E 202=some qT) (a123:ci E 123=some kV) (s1:FF 88 [qT] μ=some (.w L5,ν1)) (s2:FF 89 [kV] ν1=some (v6,ν2)) (vd:jt ν2 .eq told (.w [.w [],.w [],.w [],.w [],.w L4,.w L5,v6])=some b):ev aj FF E (.E .eq (.u 18)<|.w [.w [],.w [],.w [],.w [],.u 211,.A 88 [.u 202],.A 89 [.u 123]]) μ=some (.O b,ν2):=by
 have z:∀μ',ev aj FF E (.w []) μ'=some (.w [],μ'):=λZ=>by rw[ph,lU]
 have es:=eY (z μ)<|eY (z μ)<|eY (z μ)<|eY (z μ)<|eY (aE a211)<|eY (fn (.aR (aE a202) .aS) s1)<|eY (fn (.aR (aE a123) .aS) s2) gu;have v18:ev aj FF E (.u 18) μ=some (told,μ):=aE a18;rw[Ki,v18];dsimp only;rw[ph,es];dsimp only;rw[vd]
def Sn {w:Hm} {E:Env} (hw:fR w)
  (g0:d' μ 0=some (.j<|p0.map vP)) (g1:d' μ 1=some (.j<|p1.map vP)) (g2:d' μ 2=some (.j<|p2.map vP)) (g3:d' μ 3=some (.j<|e0.map vE)) (g4:d' μ 4=some (.j<|e1.map vE)) (g5:d' μ 5=some (.j<|e2.map vE)) (g6:d' μ 6=some (.j<|i0.map vI)) (g7:d' μ 7=some (.j<|i1.map vI)) (g8:d' μ 8=some (.j<|i2.map vI))
  (oe0:∀r∈e0,jY r) (oe1:∀r∈e1,jY r) (oe2:∀r∈e2,jY r) (op0:∀r∈p0,i5 r) (op1:∀r∈p1,i5 r) (op2:∀r∈p2,i5 r) (hl:p0.length+p1.length+p2.length+(e0.length+e1.length+e2.length)<=11) (hli:i0.length+i1.length+i2.length<100) (hs:pO (FQ p0 p1 p2 e0 e1 e2) p)
  (h0:d' μ r0=some (.j [])) (h1:d' μ r1=some (.j [])) (h2:d' μ r2=some (.j [])) (h3:d' μ r3=some (.j [])) (h4:d' μ r4=some (.j L4)) (h5:d' μ r5=some (.j L5)) (h6:d' μ r6=some (.j L6)) (t4:∀v∈L4,pR v) (t5:∀v∈L5,pR v) (t6:∀v∈L6,pR v)
  (x4:L4=lK w++fy (kY 23) [] 1 ((p0.map λr=>(false,mU 0 r))++(p1.map λr=>(false,mU 1 r))++(p2.map λr=>(false,mU 2 r)))++fy (kY 20) [] 1 ((e0.map λr=>(false,mV 0 r))++(e1.map λr=>(false,mV 1 r))++(e2.map λr=>(false,mV 2 r))))
  (x5:L5=sK l5 0 (p.map λi=>(jP<|(FQ p0 p1 p2 e0 e1 e2).getD i dQ).1)++j0 1 (FE e0 e1 e2)) (x6:L6=xj i0 i1 i2)
  (hE:KE w E (.w [.g r0,.g r1,.g r2,.g r3,.g r4,.g r5,.g r6])):∃E' μ',execs aj (aP aj eU<|d+1) C8 E μ=some (.L<|.O true,(E',μ')):=by
 refine tdS (μ:=μ) (d:=d) hw hE λν1 x t s1 u1 ht=>lk3 (FF:=aP aj eU<|d+1) (w:=w) (E:=eP (eP E 211 x) 211<|.g t) ⟨hE.a124,hE.a125,hE.a123,hE.a202,hE.a209,hE.a141,hE.a18⟩ rfl (u1 _ _ g0) (u1 _ _ g1) (u1 _ _ g2) (u1 _ _ g3) (u1 _ _ g4) (u1 _ _ g5) (fq (gV _ _)<|fq hl ay) (fq (k9 _ _)<|fq hl ay) λE5 ν2 s2 u2 k5 q201 q212 q211=>?_
 have ltd:(lK w).length<=4:=by
  have:=jM (tr:=sJ) ((qw w).map λx=>(false,qv x)) [] 0;rw[fk,yc hw]at this;exact this
 have b2:=Zm (d:=d) q211 (u2 _ _ ht) (fq ltd ay) q201 q212 (((Si p0 op0).ba<|Si p1 op1).ba<|Si p2 op2) (((Sj e0 oe0).ba<|Sj e1 oe1).ba (Sj e2 oe2)) (by rw[fj,fj,fk,fk,fk];exact fq (gV _ _) (fq hl ay)) (by rw[fj,fj,fk,fk,fk];exact fq (k9 _ _) (fq hl ay));rw[show(p0.map (mU 0)++p1.map (mU 1)++p2.map (mU 2):List PyData).map (λk=>(false,k))=((p0.map λr=>(false,mU 0 r))++(p1.map λr=>(false,mU 1 r))++(p2.map λr=>(false,mU 2 r)):List (Bool×PyData))by simp only[hK,iv];rfl,show(e0.map (mV 0)++e1.map (mV 1)++e2.map (mV 2):List PyData).map (λk=>(false,k))=((e0.map λr=>(false,mV 0 r))++(e1.map λr=>(false,mV 1 r))++(e2.map λr=>(false,mV 2 r)):List (Bool×PyData))by simp only[hK,iv];rfl,<-x4]at b2;generalize fy (κ:=PyData) (kY 23) [] 1 _=DP at b2;generalize fy (κ:=PyData) (kY 20) [] 1 _=DE at b2;have up:∀{k:Nat} {o:O},d' μ k=some o->d' (ν2++[.j DP]++[.j DE]) k=some o:=λh=>fh (fh (u2 _ _ (u1 _ _ h)))
 refine Sb (d:=d) (up g0) (up g1) (up g2) (up g3) (up g4) (up g5) hl hs λG7 s3=>?_
 rw[<-x5]at s3;refine I3 (μ:=ν2++[.j DP]++[.j DE]++G7) (d:=d) (fh (up g6)) (fh (up g7)) (fh (up g8)) hli λG8 s4 s5=>?_
 rw[<-x6]at s5;have uF:∀{k:Nat} {o:O},d' μ k=some o->d' (ν2++[.j DP]++[.j DE]++G7++G8) k=some o:=λh=>fh (fh (up h))
 exact⟨eP E5 211 (.w L4),_,(congrArg (execs aj _ · E μ) Sh).trans (s1.trans (s2.trans ((fQ b2).trans (gP (Sm (by exact k5.a18) rfl (by exact k5.a202) (by exact k5.a123) s3 s4 (Nj (uF h0) (uF h1) (uF h2) (uF h3) (uF h4) (uF h5) (uF h6) s5 t4 t5 t6))))))⟩
end
theorem xu:∀(P:H) (f:Nat->O) (k j:Nat) (o:O),d' P j=some o->d' (uB f k P) j=some (match slot (k+j)with|true=>f (k+j)|false=>o)
 |a::r,f,k,0,o,h=>by
  cases h;rfl
 |a::r,f,k,j+1,o,h=>by
  have:=xu r f (k+1) j o h;rw[show k+(j+1)=k+1+j by lia];exact this
def HE:List V:=[.ah,bt 32 1,bt 0 1]
noncomputable def K0:List (Nat×Nat):=[(2,131),(35,132),(1,133),(6,134)]
def T0 (w:Hm) (t:Nat):List V:=if t=2 then w.r131 else if t=35 then[E7]else if t=1 then[pM]else if t=6 then w.r134 else[]
theorem Vw (l:List V) (h:l.all (λv=>Nat.beq v.ctorIdx 2)):∃l':List Int,l=l'.map V.a:=by
 induction l with
 |nil=>exact⟨[],rfl⟩
 |cons v l ih=>
  have q:=Bool.and_eq_true_iff.1 h;cases v with
  |a i=>exact(ih q.2).elim λl' e=>⟨i::l',congrArg _ e⟩
  |_=>cases q.1
noncomputable def Zn:V->Bool
 |.v l=>l.all λv=>Nat.beq v.ctorIdx 2
 |_=>false
theorem Af {l:List V} (h:l.all Zn) (v) (hv:v∈l):kR v:=by
 have q:=List.all_eq_true.1 h v hv;cases v with
 |v l=>exact(Vw l q).elim λl' e=>⟨l',congrArg _ e⟩
 |_=>cases q
def Nk (hw:fR w):(∀v∈w.r131,kR v)/\(∀v∈w.r134,kR v)/\w.r131≠[]/\w.r134≠[]:=by
 obtain rfl|rfl|rfl|rfl|rfl|rfl:=hw<;>exact iI (Af rfl) (Af rfl) (List.cons_ne_nil _ _)<|List.cons_ne_nil _ _
def WX {α:Type} {P:α->Prop} {a b c d:α} (h1:P a) (h2:P b) (h3:P c) (h4:P d):∀p∈[a,b,c,d],P p:=λp hp=>(gC.mp hp).elim (λe=>e▸h1) λhp=>(gC.mp hp).elim (λe=>e▸h2) λhp=>(gC.mp hp).elim (λe=>e▸h3) λhp=>gw.mp hp▸h4
def WY {P:Nat->List V->Prop} (h2:P 2 w.r131) (h35:P 35 [E7]) (h1:P 1 [pM]) (h6:P 6 w.r134) (t) (hn:P t []):P t (T0 w t):=by
 unfold T0;by_cases q:t=2
 .rw[fv q,q];exact h2
 rw[ff q];by_cases q:t=35
 .rw[fv q,q];exact h35
 rw[ff q];by_cases q:t=1
 .rw[fv q,q];exact h1
 rw[ff q];by_cases q:t=6
 .rw[fv q,q];exact h6
 rw[ff q];exact hn
def Sp (hw:fR w) (F:Fr):Sx.Ok w F ⟨pre w F<|vh w,K0,T0 w,w.tx0,HE,[],0⟩:=by
 refine DC (Nk hw) λo1 o2 o3 o4=>?_
 have t1:T0 w 1=[pM]:=rfl;have tb:Tb (pre w F<|vh w) K0 (T0 w):=
  ⟨rfl,rfl,WX rfl rfl rfl rfl,λt=>WY (P:=λt l=>kf K0 t=none->l=[]) (λe=>nomatch e) (λe=>nomatch e) (λe=>nomatch e) (λe=>nomatch e) t λZ=>rfl,ay,ay,ay,ay,λt=>WY (P:=λZ l=>∀v∈l,kR v) o1 (Af rfl) (Af rfl) o2 t λZ h=>(jw h).elim,WX o3 (List.cons_ne_nil _ _) (List.cons_ne_nil _ _) o4⟩
 have st:gp w F (pre w F<|vh w) K0 (T0 w) w.tx0 HE y9 (mN [] 1):=by
  refine⟨λk o hk hs=>?_,tb,rfl,rfl,rfl,rfl,fX _⟩;let f:Nat->O:=λk=>match Nat.beq k 109 with
   |true=>.dict<|Kd K0
   |false=>match Nat.beq k 111 with
    |true=>.j w.tx0
    |false=>match Nat.beq k 117 with
     |true=>.j HE
     |false=>match Nat.beq k 124 with
      |true=>.dict y9
      |false=>.dict []
  have e:pre w F (vh w)=uB f 0 (ma w F)++(pre w F<|vh w).drop 131:=eV;have h1:=xu _ f 0 k o hk;simp only[gJ,hs]at h1;rw[e];exact fh h1
 exact⟨⟨y9,st,.inl ⟨rfl,t1⟩,λq=>by
   obtain q|q:=q
   .exact absurd rfl q
   .exact absurd rfl q⟩,⟨by show(T0 w 10).length=0;rfl,λv hv=>by
   have hv':=hv;cases hv'⟩,.inl rfl,⟨[],fF,fF,fF⟩,λv hv=>show v∈HE++blobs.drop 3 from List.mem_append_left _ hv,show HE.length<=10+0 by decide,[],rfl⟩
def xw (w:Hm) (h1:t≠2) (h2:t≠35) (h3:t≠1) (h4:t≠6):T0 w t=[]:=by unfold T0;rw[ff h1,ff h2,ff h3,ff h4]
def HG (a b n:Nat):vo a b n<3:=by unfold vo;split<;>(try split)<;>lia
def Cb (h:l=(gG a b c).map md):∀v∈l,∃j n:Nat,v=.v [.a (j+2:Nat),.a n]/\j<3:=λv hv=>by
 rw[h]at hv;obtain⟨p,hp,rfl⟩:=fW.mp hv;exact⟨p.1,p.2,rfl,((sq [a,b,c] 0 0).1 p hp).2⟩
section
variable{w:Hm} {d:Nat} {p0 p1 p2:List PR} {e0 e1 e2:List ER} {i0 i1 i2:List IR}
def Sq (hw:fR w) (oe0:∀r∈e0,jY r) (oe1:∀r∈e1,jY r) (oe2:∀r∈e2,jY r) (op0:∀r∈p0,i5 r) (op1:∀r∈p1,i5 r) (op2:∀r∈p2,i5 r) (oi0:∀r∈i0,mJ r) (oi1:∀r∈i1,mJ r) (oi2:∀r∈i2,mJ r)
  (hl:p0.length+p1.length+p2.length+(e0.length+e1.length+e2.length)<=11) (hli:i0.length+i1.length+i2.length<=20) (hs:pO (FQ p0 p1 p2 e0 e1 e2) p)
  {G:Prop} (kk:∀s1 s2:Sx,aP aj eU (d+21) 81 [.g 107] (pre w (wU ⟨[p0,p1,p2],[e0,e1,e2],[i0,i1,i2]⟩)<|vh w)=some (.B,s1.μ)->aP aj eU (d+21) 84 [.g 107] s1.μ=some (.B,s2.μ)->s2.Ok w (wU ⟨[p0,p1,p2],[e0,e1,e2],[i0,i1,i2]⟩)->
   i6 w s2.T s2.tx s2.bl s2.ms (FE e0 e1 e2) (FP p0 p1 p2) (FI i0 i1 i2) (p.map λi=>(FQ p0 p1 p2 e0 e1 e2).getD i dQ)->s2.T 18=(gG e0.length e1.length e2.length).map md->s2.T 21=(gG p0.length p1.length p2.length).map md->s2.c<=100->G):G:=by
 refine Ha (d:=d) (p0:=p0) (p1:=p1) (p2:=p2) (e0:=e0) (e1:=e1) (e2:=e2) hw rfl oi0 oi1 oi2 hli _ (Sp hw _) rfl (xw w (t:=25) ay ay ay ay) (xw w (t:=41) ay ay ay ay) λs1 a1 a2=>?_
 have z:=λt h1 h2 h3 h4 h5 h6 h7=>(a2.fr t h1 h2 h3 h4).trans<|xw w h5 h6 h1 h7
 have lI:(FI i0 i1 i2).length=i0.length+i1.length+i2.length:=by simp only[FI,fj,fk]
 have hc1:s1.c<=40:=by
  rw[a2.cc,lI];exact(gJ _).symm▸mP 2 hli
 refine RE (d:=d) hw rfl oe0 oe1 oe2 op0 op1 op2 hl s1 a2.ok hc1 (z 18 ay ay ay ay ay ay ay) (z 20 ay ay ay ay ay ay ay) (z 21 ay ay ay ay ay ay ay) (z 23 ay ay ay ay ay ay ay) (z 24 ay ay ay ay ay ay ay) hs λs0 s3 s2 rr n b1 bT bm bc b2 b3 lQ=>?_
 have old:=λt h1 h2 h3 h4 h5 h6 h7 h8 h9=>(b3.fr t h9).trans<|(b2.fr t h1 h5 h6 h7 h8).trans<|(congrFun bT t).trans<|a2.fr t h1 h2 h3 h4
 have ems:s2.ms=s1.ms:=b3.e.2.2.1.trans<|b2.ms.trans bm;have b6:s2.T 18=_:=(b3.fr 18 ay).trans<|b2.tm.trans<|BS _ _ _;have b7:s2.T 21=_:=(b3.fr 21 ay).trans<|b2.tn.trans<|BS _ _ _;have t41:s2.T 41=_:=(b3.fr 41 ay).trans<|(b2.fr 41 ay ay ay ay ay).trans<|(congrFun bT 41).trans a2.t;have t25:s2.T 25=_:=(b3.fr 25 ay).trans<|(b2.fr 25 ay ay ay ay ay).trans<|(congrFun bT 25).trans a2.ri.1;have pl:p.length=(FQ p0 p1 p2 e0 e1 e2).length:=by rw[hs.perm.length_eq,List.length_range]
 refine gT b3.ok.st λtr st ex ex'=>kk s1 s2 a1 b1 b3.ok ⟨?_,ex',old 2 ay ay ay ay ay ay ay ay ay,old 6 ay ay ay ay ay ay ay ay ay,old 35 ay ay ay ay ay ay ay ay ay,b3.ok.mem,b3.ok.mok,t25.trans (by rw[ems]),?_,t41,Cb b6,Cb b7,by rw[b3.e.1,b3.fr 20 ay];exact b2.ev,by rw[b3.e.1,b3.e.2.1,b3.fr 23 ay];exact b2.pr,b3.t.trans (by rw[iv];rfl),?_,?_,?_,by rw[fk,pl];exact al_81 lQ (by decide),by rw[lI];exact hli,?_⟩ b6 b7 bc
 .obtain⟨_,e⟩|⟨_,i,e,h⟩:=ex
  .exact .inl e
  .exact .inr ⟨i,e,h⟩
 .intro q hq;refine⟨by rw[ems];exact a2.ri.2 q hq,?_⟩;simp only[FI,fL,fW]at hq;rcases hq with(⟨r,hr,rfl⟩|⟨r,hr,rfl⟩)|⟨r,hr,rfl⟩
  .exact⟨show 0<3 by decide,oi0 r hr⟩
  .exact⟨show 1<3 by decide,oi1 r hr⟩
  .exact⟨show 2<3 by decide,oi2 r hr⟩
 .intro q hq;obtain⟨i,hi,rfl⟩:=fW.mp hq;have hi':i<(FQ p0 p1 p2 e0 e1 e2).length:=by simpa using hs.perm.mem_iff.mp hi
  have eg:(FQ p0 p1 p2 e0 e1 e2).getD i dQ=(FQ p0 p1 p2 e0 e1 e2)[i]:=by simp[ka hi']
  simp only[eg];have J:=Sd oe0 oe1 oe2 op0 op1 op2 _ (List.getElem_mem hi');obtain⟨j1,j2⟩:=J;obtain⟨c1,n,c2,c3,c4,c5⟩|⟨c1,n,c2,c3,c4,c5⟩:=j2
  .exact⟨j1,by rw[c5];exact HG _ _ _,.inl ⟨c1,n,c2,c3,by simp only[FE,fj,fk];exact c4⟩⟩
  .exact⟨j1,by rw[c5];exact HG _ _ _,.inr ⟨c1,n,c2,c3,by simp only[FP,fj,fk];exact c4⟩⟩
 .simp only[FE,fj,fk];lia
 .simp only[FP,fj,fk];lia
 .intro t h1 h2 h6 h10 h18 h20 h21 h23 h24 h25 h35 h41;exact(old t h1 h10 h25 h41 h20 h23 h18 h21 h24).trans (xw w h2 h35 h1 h6)
end
def Sr:C7=[.G 18<|.w [.N [],.N [],.N [],.N [],.N [],.N [],.N []],.H<|.A 10 [.attr (.u 155) 12,.D (.u 18)<|.y<|.a 0],.H<|.A 13 [.attr (.u 155) 12,.D (.u 18)<|.y<|.a 1],.H<|.A 9 [.attr (.u 155) 12,.D (.u 18)<|.y<|.a 2],.H<|.A 23 [.attr (.u 155) 12,.D (.u 18)<|.y<|.a 3],.H<|.A 17 [.attr (.u 155) 12,.attr (.u 155) 14,.attr (.u 155) 17,.D (.u 18)<|.y<|.a 4],.H<|.A 19 [.attr (.u 155) 12,.D (.u 18)<|.y<|.a 5],.H<|.A 22 [.attr (.u 155) 12,.D (.u 18)<|.y<|.a 6]]:=rfl
def Ss:C6=[.H<|.A 81 [.u 155],.H<|.A 84 [.u 155]]:=rfl
def HH (a b c:Nat):sn ((gG a b c).map md) ((gG a b c).map λp=>p.1+2)/\((gG a b c).map λp=>p.1+2).Nodup:=by
 have k:∀l:List _,sn (l.map md) (l.map λp=>p.1+2):=by
  intro l
  induction l with
  |nil=>trivial
  |cons p r ih=>exact⟨pP,ih⟩
 exact⟨k _,(sq [a,b,c] 0 0).2⟩
def re {κ:Type} [DecidableEq κ] {tr:Nat->V} (h:∀k,pR<|tr k) (l:List (Bool×κ)) (p:List κ) (n:Nat):∀v∈fy tr p n l,pR v:=λv hv=>by
 obtain⟨ns,e⟩:=wc l p n;rw[e tr]at hv;obtain⟨k,_,rfl⟩:=fW.mp hv;exact h k
def Vx (o n:Nat):pR (tV o n):=⟨_,_,_,rfl,rfl⟩
def Ly (o n:Nat):pR (kY o n):=⟨_,_,_,rfl,rfl⟩
def Vy (n:Nat):pR (kX n):=⟨_,_,_,rfl,rfl⟩
def Vz (n:Nat):pR (l5 n):=⟨_,_,_,rfl,rfl⟩
def VA (n:Nat):pR (Dq n):=⟨_,_,_,rfl,rfl⟩
theorem DA:∀(l:List (Nat×ER)) (n:Nat),∀v∈j0 n l,pR v
 |[],_,v,h=>by cases h
 |p::r,n,v,h=>by
  simp only[j0,fL]at h;rcases h with h|h
  .split at h
   .rw[gw.mp h];exact VA n
   .exact absurd h jw
  .exact DA r (n+1) v h
section
variable{w:Hm} {p0 p1 p2:List PR} {e0 e1 e2:List ER} {i0 i1 i2:List IR} {p:List Nat}
def Cc (hs:pO (FQ p0 p1 p2 e0 e1 e2) p):(p.map λi=>(FQ p0 p1 p2 e0 e1 e2).getD i dQ).Perm (FQ p0 p1 p2 e0 e1 e2):=by
 have h:=hs.perm.map λi=>(FQ p0 p1 p2 e0 e1 e2).getD i dQ
 have e:(List.range (FQ p0 p1 p2 e0 e1 e2).length).map (λi=>(FQ p0 p1 p2 e0 e1 e2).getD i dQ)=FQ p0 p1 p2 e0 e1 e2:=by
  apply List.ext_getElem
  .simp
  .intro i h1 h2;simp[ka h2]
 simp only[e]at h;exact h
def Cd (h:je a b=je a' b'):a=a'/\b=b':=by
 unfold je at h;simp[oo,om,pc]at h;lia
def Su (hs:pO (FQ p0 p1 p2 e0 e1 e2) p):((p.map λi=>(FQ p0 p1 p2 e0 e1 e2).getD i dQ).map λq=>(jP q).2).Nodup:=by
 have h1:=((Cc hs).map kz).nodup_iff.mpr Vs;have h2:=List.pairwise_map.mp h1;refine List.pairwise_map.mpr<|h2.imp λ{a b} hab e=>hab ?_
 have:=Cd<|show je a.1 a.2.2.1=je b.1 b.2.2.1 from e
 unfold kz;simp only[this.1,this.2]
def Lz (hs:pO (FQ p0 p1 p2 e0 e1 e2) p) (b m:Nat):je b m∈(p.map λi=>(FQ p0 p1 p2 e0 e1 e2).getD i dQ).map (λq=>(jP q).2)↔(b,m)∈(FQ p0 p1 p2 e0 e1 e2).map kz:=by
 rw[<-((Cc hs).map kz).mem_iff];simp only[fW (f:=λq=>(jP q).2),fW (f:=kz)];constructor
 .rintro⟨q,hq,e⟩
  have:=Cd<|show je q.1 q.2.2.1=je b m from e
  exact⟨q,hq,by unfold kz;rw[this.1,this.2]⟩
 .rintro⟨q,hq,e⟩
  unfold kz at e;refine⟨q,hq,?_⟩;show je q.1 q.2.2.1=je b m;simp only[Prod.mk.injEq]at e;rw[e.1,e.2]
theorem HI:∀(l:List (Nat×ER)) (n:Nat),(QG n l).length<=2*l.length
 |[],_=>fX _
 |p::l,n=>by
  show(_++_++QG (n+1) l).length<=2*(l.length+1);rw[fj,fj,ij];exact gR (HI l<|n+1)<|gR (i8 _ _ _ _)<|i8 _ _ _ _
theorem HJ:∀(l:List (Nat×PR)) (n:Nat),(PG n l).length<=2*l.length
 |[],_=>fX _
 |p::l,n=>by
  show(_++_++PG (n+1) l).length<=2*(l.length+1);rw[fj,fj,ij];exact gR (HJ l<|n+1)<|gR (i8 _ _ _ _)<|i8 _ _ _ _
def HL {α:Type} (x0 x1 x2:List α):((x0.map λr=>((0:Nat),r))++(x1.map λr=>(1,r))++(x2.map λr=>(2,r))).length=x0.length+x1.length+x2.length:=by simp only[fj,fk]
structure Ks (μ0:H) (n:Nat) (K:List (Nat×Nat)) (T:Nat->List V) (tx bl:List V) (L:Nat->List V) (μ:H):Prop where
 wd:Wd μ K T tx bl
 told:∀i,i<7->d' μ (n+i)=some (.j (L i))
 old:∀k o,k<131->d' μ0 k=some o->d' μ k=some o
 ge:135<=n
 nk:∀i,∀q∈K,q.2≠n+i
section
variable{μ0 μ ν:H} {n:Nat} {K:List (Nat×Nat)} {T:Nat->List V} {tx bl:List V} {L:Nat->List V}
def Ks.own (h:Ks μ0 n K T tx bl L μ) (i:Nat) (hi:i<7):ic (n+i) (L i) K μ:=⟨al_81 h.ge<|gV _ _,h.nk i,h.told i hi⟩
def Ks.ba (h:Ks μ0 n K T tx bl L μ) (G:H):Ks μ0 n K T tx bl L (μ++G):=⟨h.wd.ba G,λi hi=>fh<|h.told i hi,λk o hk e=>fh<|h.old k o hk e,h.ge,h.nk⟩
def Ks.lv (h:Ks μ0 n K T tx bl L μ) (i:Nat) (hi:i<7) {L':List V} (v:Lv μ (n+i) L' ν):Ks μ0 n K T tx bl (λx=>if x=i then L' else L x) ν:=by
 have o:=h.own i hi;refine⟨v.wd o h.wd,λk hk=>?_,λk ob hk e=>?_,h.ge,h.nk⟩
 .by_cases e:k=i
  .rw[fv e,e];exact(v.own o).2.2
  .rw[ff e];exact(v.keep (gh<|h.told k hk) λq=>e<|Nat.add_left_cancel q).trans<|h.told k hk
 .have:=h.old k ob hk e;exact(v.keep (gh this)<|jq<|fB (fB hk ay)<|al_81 h.ge<|gV _ _).trans this
end
noncomputable def sw (n:Nat):V:=.w [.g n,.g<|n+1,.g<|n+2,.g<|n+3,.g<|n+4,.g<|n+5,.g<|n+6]
def Nl (n i:Nat) (hi:i<7) (μ:H):f9 μ (sw n) (.a i)=some (.g<|n+i):=
 (wS (l:=(List.range 7).map λi=>.g<|n+i)<|iz<|fB hi ay).trans (mu (λi=>V.g<|n+i) (List.range 7) i i<|List.getElem?_range hi)
abbrev VB (w:Hm) (ms:List Nat) (PE:List (Nat×ER)) (PP:List (Nat×PR)) (PI:List (Nat×IR)) (Q:List QI) (a b c a' b' c':Nat):Nat->List V:=λx=>if x=6 then fy kX [] 0 (PI.map<|mt ms) else if x=5 then fy l5 [] 0 (Q.map jP)++j0 1 PE else if x=4 then tX w PE PP a b c a' b' c' else[]
def VC {T:Nat->List V} {tx bl:List V} {ms:List Nat} {PE:List (Nat×ER)} {PP:List (Nat×PR)} {PI:List (Nat×IR)} {Q:List QI} {a b c a' b' c':Nat} {z y:List V} {μ:H} {K:List (Nat×Nat)} (hw:fR w) (sh:i6 w T tx bl ms PE PP PI Q) (hz:tx=w.tx0++z) (hy:bl=[.ah,bt 32 1,bt 0 1]++y) (hk:Ks μ μ.length K T tx bl (λZ=>[]) (μ++[.j [],.j [],.j [],.j [],.j [],.j [],.j []])) {fs:List (Nat×V)} (g107:d' μ 107=some (.U 3 fs)) (f12:ci fs 12=some (.g 108)) (f14:ci fs 14=some (.g 110)) (f17:ci fs 17=some (.g 116))
  (h18:T 18=(gG a b c).map md) (h21:T 21=(gG a' b' c').map md) (le:PE.length=a+b+c) (lp:PP.length=a'+b'+c') (oE:∀p∈PE,jY p.2) (oP:∀p∈PP,i5 p.2) (hQ:∀q∈Q,QJ a b c a' b' c' q) (hnd:(Q.map λq=>(jP q).2).Nodup)
  (hq:∀i p,PE[i]?=some p->(je 8 (2*(1+i))∈Q.map (λq=>(jP q).2)↔¬p.2.2.1<0)/\(je 16 (2*(1+i))∈Q.map (λq=>(jP q).2)↔¬p.2.2.2<0)) {E:Env} (h155:ci E 155=some (.g 107)) {G:Prop}
  (kk:∀ν,execs aj jZ C7 E μ=some (.C,(eP E 18<|sw μ.length,ν))->Ks μ μ.length K T tx bl (VB w ms PE PP PI Q a b c a' b' c') ν->G):G:=by
 have l18:(T 18).length<=3:=by rw[h18,fk];exact sr _ _ _
 have l21:(T 21).length<=3:=by rw[h21,fk];exact sr _ _ _
 have sm:∀t,(T t).length<60:=sh.sm hw l18 l21;have hT:=MS hw sh;have r0:=MR (d:=35) hk.wd.t hT<|.g<|μ.length+0;have r1:=EZ (d:=35) hk.wd.t (λt=>fB (sm t) ay) hT<|.g<|μ.length+1;have m1:=HH a b c;have m3:=HH a' b' c';refine(MT (d:=37) hk.wd.t sm (by rw[h18];exact m1.1) m1.2 (by rw[h21];exact m3.1) m3.2<|.g<|μ.length+2).elim λG2 r2=>?_
 have k2:=hk.ba G2;refine(Hp (d:=37) hw k2.wd.t sh.t41<|.g<|μ.length+3).elim λG3 r3=>?_
 have k3:=k2.ba G3;refine I0 (d:=32) hw sh hz hy k3.wd sm h18 h21 le lp oE oP (k3.own 4 ay) rfl λμ3 r4 v4=>?_
 have k4:=k3.lv 4 ay v4;refine(Vg (d:=32) hw sh k4.wd.t sm h18 h21 le lp hQ hnd hq (show ic (μ.length+5) [] K μ3 from k4.own 5 ay) ay).elim λG5 r5=>?_
 have k5:=k4.lv 5 ay (L':=fy l5 [] 0 (Q.map jP)++j0 1 PE) ⟨G5,rfl⟩;refine(Vc (d:=33) hw sh k5.wd.t sm (show ic (μ.length+6) [] K _ from k5.own 6 ay) ay).elim λG6 r6=>?_
 have k6:=k5.lv 6 ay (L':=fy kX [] 0<|PI.map<|mt ms) ⟨G6,rfl⟩;refine kk _ ?_ k6;have at7:∀{μ':H} {L},Ks μ μ.length K T tx bl L μ'->∀{x:Nat} {v:V},ci fs x=some v->km [(213,44),(47,45)] x=none->Ev jZ (eP E 18<|sw μ.length) μ' (.attr (.u 155) x) v:=λ{μ' L} h {x v} e m=>fx (aE h155) (h.old 107 _ ay g107) e ii m
 have tk:∀{μ':H} (i:Nat),i<7->Ev jZ (eP E 18<|sw μ.length) μ' (.D (.u 18)<|.y<|.a i) (.g<|μ.length+i):=λi hi=>fo (aE (v:=sw μ.length) rfl) eT<|Nl _ i hi _
 have e18:ev aj jZ E (.w [.N [],.N [],.N [],.N [],.N [],.N [],.N []]) μ=some (sw μ.length,μ++[.j [],.j [],.j [],.j [],.j [],.j [],.j []]):=by
  simp only[qH,ph,lU,pi,fj,kg,nC,gA,List.cons_append,k8,gJ,jg];rfl
 rw[Sr];exact Eq.trans (fQ e18) (Eq.trans (gi<|fn (.aR (at7 hk f12 rfl)<|.aR (tk 0 ay) .aS) r0) (Eq.trans (gi<|fn (.aR (at7 hk f12 rfl)<|.aR (tk 1 ay) .aS) r1) (Eq.trans (gi<|fn (.aR (at7 hk f12 rfl)<|.aR (tk 2 ay) .aS) r2) (Eq.trans (gi<|fn (.aR (at7 k2 f12 rfl)<|.aR (tk 3 ay) .aS) r3)
  (Eq.trans (gi<|fn (.aR (at7 k3 f12 rfl)<|.aR (at7 k3 f14 rfl)<|.aR (at7 k3 f17 rfl)<|.aR (tk 4 ay) .aS) r4)<|Eq.trans (gi<|fn (.aR (at7 k4 f12 rfl)<|.aR (tk 5 ay) .aS) r5)<|Eq.trans (gi<|fn (.aR (at7 k5 f12 rfl)<|.aR (tk 6 ay) .aS) r6) fa)))))
def Fn {st:gp w F μ K T tx bl tr mb} (wd:Wd μ K T tx bl):Ks μ μ.length K T tx bl (λZ=>[]) (μ++[.j [],.j [],.j [],.j [],.j [],.j [],.j []]):=
 ⟨wd.ba _,λi hi=>(jH μ _ i).trans<|nf (P:=λi=>d' (List.replicate 7<|O.j []) i=some (.j [])) rfl (nf rfl<|nf rfl<|nf rfl<|nf rfl<|nf rfl<|nf rfl Nm) i hi,λZ Z Z e=>fh e,st.len,λZ q hq e=>Nat.not_lt_of_le (gV _ _)<|e▸st.t.lt hq⟩
def VD (op0:∀r∈p0,i5 r) (op1:∀r∈p1,i5 r) (op2:∀r∈p2,i5 r):tX w (FE e0 e1 e2) (FP p0 p1 p2) e0.length e1.length e2.length p0.length p1.length p2.length=lK w++fy (kY 23) [] 1 ((p0.map λr=>(false,mU 0 r))++(p1.map λr=>(false,mU 1 r))++(p2.map λr=>(false,mU 2 r)))++fy (kY 20) [] 1 ((e0.map λr=>(false,mV 0 r))++(e1.map λr=>(false,mV 1 r))++(e2.map λr=>(false,mV 2 r))):=by
 unfold tX;rw[Jc op0 op1 op2,Jd]
def rest (hw:fR w) (oe0:∀r∈e0,jY r) (oe1:∀r∈e1,jY r) (oe2:∀r∈e2,jY r) (op0:∀r∈p0,i5 r) (op1:∀r∈p1,i5 r) (op2:∀r∈p2,i5 r) (oi0:∀r∈i0,mJ r) (oi1:∀r∈i1,mJ r) (oi2:∀r∈i2,mJ r)
  (hl:p0.length+p1.length+p2.length+(e0.length+e1.length+e2.length)<=11) (hli:i0.length+i1.length+i2.length<=20) (E:Env) (hE:KM w E) (h155:ci E 155=some (.g 107)):
  ∃E' μ',execs aj jZ (C6++(C7++C8)) E (pre w (wU ⟨[p0,p1,p2],[e0,e1,e2],[i0,i1,i2]⟩)<|vh w)=some (.L<|.O true,(E',μ')):=by
 refine ia λG kk=>?_
 have lE:=HL e0 e1 e2;have lP:=HL p0 p1 p2;have lQ:(FQ p0 p1 p2 e0 e1 e2).length<=22:=by
  rw[rc.length_eq,fj];refine al_81 (gR (HI _ 1)<|HJ _ 1) ?_;rw[show(FE e0 e1 e2).length=_ from lE,show(FP p0 p1 p2).length=_ from lP];lia
 refine(pO.ex (FQ p0 p1 p2 e0 e1 e2)<|al_81 lQ ay).elim λp hs=>Sq (d:=18) hw oe0 oe1 oe2 op0 op1 op2 oi0 oi1 oi2 hl hli hs λs1 s2 a1 a2 a3 sh h18 h21 hc=>e8 a3.st λtr st Z=>gT a3.txs λz hz hzl Z=>a3.bp.elim λy hy=>?_
 have ltx:s2.tx.length<900:=fq (a3.pk.cu hw).2<|fq (ik hc 9) ay;have lbl:s2.bl.length<900:=fq a3.bc<|fq (ik hc 10) ay;have wd:Wd s2.μ s2.K s2.T s2.tx s2.bl:=⟨st.t,st.bs 110 _ rfl rfl,st.x,st.bs 116 _ rfl rfl,st.b,ltx,lbl⟩;refine VC hw sh hz hy (Fn (st:=st) wd) (st.bs 107 _ rfl rfl) rfl rfl rfl h18 h21 lE lP (Ae oe0 oe1 oe2) (Ae op0 op1 op2) (λq hq=>Sd oe0 oe1 oe2 op0 op1 op2 q<|(Cc hs).mem_iff.mp hq) (Su hs) (λi q hq=>by
  have:=Sf (p0:=p0) (p1:=p1) (p2:=p2) hq;exact⟨(Lz hs 8 _).trans this.1,(Lz hs 16 _).trans this.2⟩) h155 λμ5 sG k6=>?_
 have dr:∀(k:Nat) (o:O),k<9->d' (ma w<|wU ⟨[p0,p1,p2],[e0,e1,e2],[i0,i1,i2]⟩) k=some o->MP.slot k=false->d' μ5 k=some o:=λk o hk h hs'=>k6.old k o (fB hk ay)<|st.bs k o h hs'
 have tw:=VD (w:=w) (e0:=e0) (e1:=e1) (e2:=e2) op0 op1 op2;have x5:fy l5 [] 0 ((p.map λi=>(FQ p0 p1 p2 e0 e1 e2).getD i dQ).map jP)++j0 1 (FE e0 e1 e2)=sK l5 0 (p.map λi=>(jP<|(FQ p0 p1 p2 e0 e1 e2).getD i dQ).1)++j0 1 (FE e0 e1 e2):=by
  rw[Dx l5 _ _ _ (λx Z q=>(jw q).elim) (by rw[iv];exact Su hs),iv,iv];rfl
 have e155:∀{μ':H},Ev jZ E μ' (.u 155) (.g 107):=aE h155;refine(Sn (d:=38) (μ:=μ5) hw (dr 0 _ ay rfl rfl) (dr 1 _ ay rfl rfl) (dr 2 _ ay rfl rfl) (dr 3 _ ay rfl rfl) (dr 4 _ ay rfl rfl) (dr 5 _ ay rfl rfl) (dr 6 _ ay rfl rfl) (dr 7 _ ay rfl rfl) (dr 8 _ ay rfl rfl)
  oe0 oe1 oe2 op0 op1 op2 hl (fq hli ay) hs (k6.told 0 ay) (k6.told 1 ay) (k6.told 2 ay) (k6.told 3 ay) (k6.told 4 ay) (k6.told 5 ay) (k6.told 6 ay) (λv hv=>by
   have hv:v∈tX w (FE e0 e1 e2) (FP p0 p1 p2) e0.length e1.length e2.length p0.length p1.length p2.length:=hv;rw[tw]at hv;exact(fL.mp hv).elim (λhv=>(fL.mp hv).elim (re (λk=>Vx 2 (k+1)) _ _ _ v) (re (Ly 23) _ _ _ v)) (re (Ly 20) _ _ _ v)) (λv hv=>(fL.mp hv).elim (re Vz _ _ _ v) (DA _ _ v)) (re Vy _ _ _) tw x5 (Ni sh.mok λq hq=>(sh.t25' q hq).1) (E:=eP E 18 (sw s2.μ.length)) ⟨hE.2.1,hE.2.2.1,hE.2.2.2.1,hE.2.2.2.2.1,hE.2.2.2.2.2.1,hE.2.2.2.2.2.2,rfl⟩).elim λE' h=>h.elim λμ' fin=>kk ⟨E',μ',?_⟩
 have sF:execs aj jZ C6 E (pre w (wU ⟨[p0,p1,p2],[e0,e1,e2],[i0,i1,i2]⟩) (vh w))=some (.C,(E,s2.μ)):=by
  rw[Ss];exact Eq.trans (gi (fn (.aR e155 .aS) a1)) (Eq.trans (gi (fn (.aR e155 .aS) a2)) fa)
 rw[ib sF,ib sG];exact fin
end
section
def Je:EF=.G 209 (.v [.y<|.a 0,.I .ag (.u 206)<|.y<|.a 2,.I .ag (.I .W (.u 206)<|.y<|.a 2)<|.y<|.a 3]):=rfl
def Sv:QS=[.G 206<|.au (.u 195) (.D (.u 195)<|.y<|.a 0)<|.y<|.a 3,.G 202<|.A 86 [.u 195],.ak [124,125,123]<|.u 202]:=rfl
def rk {w:Hm} (hw:fR w) (hH:tL w) (h3:∀F,yY w F) {q:Pl} (hq:q.Ok) (hs:q.bf<=9) (v t:V):∃E' μ',execs aj jZ (yX++(GM++(Bw++(C6++(C7++C8))))) (E2 v t w) (iq w<|Da q)=some (.L<|.O true,(E',μ')):=by
 refine ia λG kk=>e8 (YG (F:=jZ) hH hq (fq hs ay) v t) λE1 d1 d2=>Sy d2 λk1 k2 k3 k4 k5 k6 k7=>gT (YA (h3<|wU q) E1 k1) λE2 e1 e2 e3=>?_
 obtain⟨p0,p1,p2,e0,e1',e2',i0,i1,i2,rfl⟩:=Pl.ex hq;obtain⟨_,_,_,op,oe,oi⟩:=hq;apply kk;simp only[Pl.bf,hW,List.map_nil,List.sum_cons,List.sum_nil]at hs;obtain⟨E',μ',fin⟩:=rest hw (oe _ fF) (oe _ fF) (oe _ fF) (op _ fF) (op _ fF) (op _ fF) (oi _ fF) (oi _ fF) (oi _ fF) (p0:=p0) (p1:=p1) (p2:=p2) (e0:=e0) (e1:=e1') (e2:=e2') (i0:=i0) (i1:=i1) (i2:=i2) (by rw[jg p0.length,jg e0.length];exact al_81 (lC hs) ay) (by rw[jg];exact al_81 (lD hs) ay) E2
  (Zp ((e3 93 ay ay).trans k1) ((e3 124 ay ay).trans k2) ((e3 125 ay ay).trans k3) ((e3 123 ay ay).trans k4) ((e3 202 ay ay).trans k5) ((e3 209 ay ay).trans k6)<|(e3 141 ay ay).trans k7) e2
 refine⟨E',μ',?_⟩;rw[ib d1,<-gA GM,ib e1];exact fin
def VE:tL yP:=⟨⟨_,iI rfl rfl rfl rfl⟩,_,iI rfl rfl rfl rfl⟩
def VF:tL yQ:=⟨⟨_,iI rfl rfl rfl rfl⟩,_,iI rfl rfl rfl rfl⟩
def VG:tL yR:=⟨⟨_,iI rfl rfl rfl rfl⟩,_,iI rfl rfl rfl rfl⟩
def VH:tL yS:=⟨⟨_,iI rfl rfl rfl rfl⟩,_,iI rfl rfl rfl rfl⟩
def VI:tL yT:=⟨⟨_,iI rfl rfl rfl rfl⟩,_,iI rfl rfl rfl rfl⟩
def VJ:tL yU:=⟨⟨_,iI rfl rfl rfl rfl⟩,_,iI rfl rfl rfl rfl⟩
def law_true (ns:List Int) (hn:ns.length<=63):∃μ,aP aj eU 40 90 [.w (ns.map .a)] []=some (.O true,μ):=by
 refine ia λG kk=>?_
 let v:V:=.w (ns.map .a);have ht:∃t:Int,ev aj jZ [(195,v)] (.au (.u 195) (.D (.u 195) (.y (.a (0)))) (.y (.a (3)))) []=some (.a t,[]):=by
  have hv:ix ([]:H) v=some (!(ns.map V.a).isEmpty):=by
   show(match Nat.ble (ns.map V.a).length gH with|true=>some (!(ns.map V.a).isEmpty)|false=>none)=_;rw[ip (by rw[fk];lia)]
  cases ns with
  |nil=>exact⟨3,mZ (t:=false) (aE (v:=v) rfl) hv eT⟩
  |cons a r=>exact⟨a,mZ (t:=true) (aE (v:=v) rfl) hv (fo (aE (v:=v) rfl) eT (C5 ay ay))⟩
 obtain⟨t,ht⟩:=ht;refine gT (TT 38 hn) λq hq hs hp=>?_
 have fnA:ga eU 90=some mC:=rfl;have sA:execs aj jZ QS [(195,v)] []=some (.C,(E0 v (.a t),hP q)):=by
  simp only[Sv];refine(fQ ht).trans<|(fQ (v:=qT) (μ':=hP q) (fn (.aR (aE (v:=v) rfl) .aS) hp)).trans ?_;have e1:execs aj jZ [.ak [124,125,123] (.u 202)] [(202,qT),(206,.a t),(195,v)] (hP q)=some (.C,(E0 v (.a t),hP q)):=by
   simp only[i7];rfl
  exact e1
 have hfr:∃a0 a1 a2 a3 a4 a5 a6 a7 a8:O,hP q=[a0,a1,a2,a3,a4,a5,a6,a7,a8]/\Da q=tI a0 a1 a2 a3 a4 a5 a6 a7 a8:=by
  refine ia λG kk=>?_
  obtain⟨p0,p1,p2,e0,e1,e2,i0,i1,i2,rfl⟩:=Pl.ex hq;apply kk;exact⟨_,_,_,_,_,_,_,_,_,rfl,rfl⟩
 obtain⟨a0,a1,a2,a3,a4,a5,a6,a7,a8,hP',fr'⟩:=hfr;have sB:=Yz a0 a1 a2 a3 a4 a5 a6 a7 a8 v (.a t);apply kk;rw[<-hP']at sB;have e206:∀μ,Ev jZ (E1 v (.a t)) μ (.u 206) (.a t):=λμ=>aE rfl
 have homes:Ev jZ (E1 v (.a t)) (si a0 a1 a2 a3 a4 a5 a6 a7 a8 v (.a t)) (.v [.y (.a (0)),.I .ag (.u 206) (.y (.a (2))),.I .ag (.I .W (.u 206) (.y (.a (2)))) (.y (.a (3)))]) (.v [.a 0,.a (Int.fmod t 2),.a (Int.fmod (Int.fdiv t 2) 3)]):=
  gv (.aR eT (.aR (gL (e206 _) eT (mS ay ay)) (.aR (gL (gL (e206 _) eT (mF ay ay)) eT (mS ay ay)) .aS)))
 have fin:∃E' μ',execs aj jZ (EF::(yW++(yX++(GM++(Bw++(C6++(C7++C8))))))) (E1 v (.a t)) (si a0 a1 a2 a3 a4 a5 a6 a7 a8 v (.a t))=some (.L (.O true),(E',μ')):=by
  simp only[Je,fQ homes];rcases ur t with h1|h1<;>rcases EB (Int.fdiv t 2)with h2|h2|h2<;>rw[h1,h2]
  .obtain⟨E',μ',f⟩:=rk (.inl rfl) VE T5 hq hs v (.a t);exact⟨E',μ',(ib (TU a0 a1 a2 a3 a4 a5 a6 a7 a8 v (.a t))).trans (by rw[<-fr'];exact f)⟩
  .obtain⟨E',μ',f⟩:=rk (.inr (.inr (.inl rfl))) VG T7 hq hs v (.a t);exact⟨E',μ',(ib (TW a0 a1 a2 a3 a4 a5 a6 a7 a8 v (.a t))).trans (by rw[<-fr'];exact f)⟩
  .obtain⟨E',μ',f⟩:=rk (.inr (.inr (.inr (.inr (.inl rfl))))) VI T9 hq hs v (.a t);exact⟨E',μ',(ib (TY a0 a1 a2 a3 a4 a5 a6 a7 a8 v (.a t))).trans (by rw[<-fr'];exact f)⟩
  .obtain⟨E',μ',f⟩:=rk (.inr (.inl rfl)) VF T6 hq hs v (.a t);exact⟨E',μ',(ib (TV a0 a1 a2 a3 a4 a5 a6 a7 a8 v (.a t))).trans (by rw[<-fr'];exact f)⟩
  .obtain⟨E',μ',f⟩:=rk (.inr (.inr (.inr (.inl rfl)))) VH T8 hq hs v (.a t);exact⟨E',μ',(ib (TX a0 a1 a2 a3 a4 a5 a6 a7 a8 v (.a t))).trans (by rw[<-fr'];exact f)⟩
  .obtain⟨E',μ',f⟩:=rk (.inr (.inr (.inr (.inr (.inr rfl))))) VJ Ua hq hs v (.a t);exact⟨E',μ',(ib (TZ a0 a1 a2 a3 a4 a5 a6 a7 a8 v (.a t))).trans (by rw[<-fr'];exact f)⟩
 obtain⟨E',μ',fin⟩:=fin;refine⟨μ',fU (d:=39) (fl:=.L (.O true)) (E:=[(195,v)]) (E':=E') fnA rfl ?_ (.inl rfl)⟩;rw[Iq,ib sA,ib sB];exact fin
end
end
end MP
end
theorem PySem.Challenge.cw_sa0285_01_holds : PySem.Challenge.rw_sa0285_01.Holds :=
 MP.holds_of MP.law_true
