import PyProof.Rows.All
import Wide.All
import OpenK.AllK
import Wide.FinOn
import PySem.Challenge.RW_no0284_01
set_option Elab.async false
set_option maxRecDepth 100000
set_option linter.unusedVariables false
set_option linter.unusedSimpArgs false
set_option compiler.extract_closed false
set_option tactic.hygienic false
noncomputable section
namespace Mine
theorem PO {a b c : Nat} (h : a ≤ b) (k : b ≤ c) : a ≤ c := Nat.le_trans h k
theorem PP {a b c : Nat} (h : a < b) (k : b ≤ c) : a < c := Nat.lt_of_lt_of_le h k
theorem PQ {a b c : Nat} (h : a ≤ b) (k : b < c) : a < c := Nat.lt_of_le_of_lt h k
theorem PR {a b : Nat} (h : a = b) : a ≤ b := Nat.le_of_eq h
theorem PS {α : Sort _} {p : α → Prop} {b : Prop} (h : ∃ x, p x) (k : ∀ a, p a → b) : b := Exists.elim h k
theorem PT {a b c : Prop} (f : a → b → c) (h : a ∧ b) : c := f h.1 h.2
theorem PU {a b c : Prop} (h : a ∨ b) (k : a → c) (l : b → c) : c := Or.elim h k l
theorem PV {α : Sort _} {a b c : α} (h : a = b) (k : b = c) : a = c := Eq.trans h k
theorem PW {c : Prop} {h : Decidable c} (hc : c) {α : Sort _} {t e : α} : ite c t e = t := if_pos hc
theorem PX {c : Prop} {h : Decidable c} (hc : ¬c) {α : Sort _} {t e : α} : ite c t e = e := if_neg hc
theorem PY {α : Type _} {a b : α} (h : some a = some b) : a = b := Option.some.inj h
theorem PZ {x y : Bool} (h : (x && y) = true) : x = true ∧ y = true := Bool.and_eq_true_iff.mp h
theorem P7 {α : Type _} {a b : α} {l : List α} (h : a ∈ b :: l) : a = b ∨ a ∈ l := List.mem_cons.mp h
theorem P8 (p : Prop) : p ∨ ¬p := Classical.em p
theorem jf{P0:Prop}{P1:Prop}{P2:Prop}{g:Prop}(h:P0/\P1/\P2)(k:P0->P1->P2->g):g:=by obtain⟨h0,h1,h2⟩:=h;exact k h0 h1 h2
theorem FE{A0:Sort _}{P0:Prop}{P1:A0->Prop}{g:Prop}(h:P0/\(∃ a0,P1 a0))(k:P0->∀ a0,P1 a0->g):g:=by obtain⟨h0,a0,h2⟩:=h;exact k h0 a0 h2
theorem ao{A0:Sort _}{P0:A0->Prop}{P1:A0->Prop}{g:Prop}(h:∃ a0,P0 a0/\P1 a0)(k:∀ a0,P0 a0->P1 a0->g):g:=by obtain⟨a0,h1,h2⟩:=h;exact k a0 h1 h2
theorem gE{A0:Sort _}{A1:Sort _}{P0:A0->A1->Prop}{g:Prop}(h:∃ a0,∃ a1,P0 a0 a1)(k:∀ a0,∀ a1,P0 a0 a1->g):g:=by obtain⟨a0,a1,h2⟩:=h;exact k a0 a1 h2
theorem cM{P0:Prop}{P1:Prop}{P2:Prop}{P3:Prop}{g:Prop}(h:P0/\P1/\P2/\P3)(k:P0->P1->P2->P3->g):g:=by obtain⟨h0,h1,h2,h3⟩:=h;exact k h0 h1 h2 h3
theorem bj{A0:Sort _}{P0:A0->Prop}{P1:A0->Prop}{P2:A0->Prop}{g:Prop}(h:∃ a0,P0 a0/\P1 a0/\P2 a0)(k:∀ a0,P0 a0->P1 a0->P2 a0->g):g:=by obtain⟨a0,h1,h2,h3⟩:=h;exact k a0 h1 h2 h3
theorem zV{A0:Sort _}{A1:Sort _}{P0:A0->Prop}{P1:A0->A1->Prop}{g:Prop}(h:∃ a0,P0 a0/\(∃ a1,P1 a0 a1))(k:∀ a0,P0 a0->∀ a1,P1 a0 a1->g):g:=by obtain⟨a0,h1,a1,h3⟩:=h;exact k a0 h1 a1 h3
theorem aI{A0:Sort _}{A1:Sort _}{P0:A0->A1->Prop}{P1:A0->A1->Prop}{g:Prop}(h:∃ a0,∃ a1,P0 a0 a1/\P1 a0 a1)(k:∀ a0,∀ a1,P0 a0 a1->P1 a0 a1->g):g:=by obtain⟨a0,a1,h2,h3⟩:=h;exact k a0 a1 h2 h3
theorem eP{A0:Sort _}{A1:Sort _}{A2:Sort _}{P0:A0->A1->A2->Prop}{g:Prop}(h:∃ a0,∃ a1,∃ a2,P0 a0 a1 a2)(k:∀ a0,∀ a1,∀ a2,P0 a0 a1 a2->g):g:=by obtain⟨a0,a1,a2,h3⟩:=h;exact k a0 a1 a2 h3
theorem bo{P0:Prop}{P1:Prop}{P2:Prop}{P3:Prop}{P4:Prop}{g:Prop}(h:P0/\P1/\P2/\P3/\P4)(k:P0->P1->P2->P3->P4->g):g:=by obtain⟨h0,h1,h2,h3,h4⟩:=h;exact k h0 h1 h2 h3 h4
theorem pI{A0:Sort _}{A1:Sort _}{P0:Prop}{P1:A0->A1->Prop}{P2:A0->A1->Prop}{g:Prop}(h:P0/\(∃ a0,∃ a1,P1 a0 a1/\P2 a0 a1))(k:P0->∀ a0,∀ a1,P1 a0 a1->P2 a0 a1->g):g:=by obtain⟨h0,a0,a1,h3,h4⟩:=h;exact k h0 a0 a1 h3 h4
theorem DI{A0:Sort _}{A1:Sort _}{A2:Sort _}{P0:Prop}{P1:A0->A1->A2->Prop}{g:Prop}(h:P0/\(∃ a0,∃ a1,∃ a2,P1 a0 a1 a2))(k:P0->∀ a0,∀ a1,∀ a2,P1 a0 a1 a2->g):g:=by obtain⟨h0,a0,a1,a2,h4⟩:=h;exact k h0 a0 a1 a2 h4
theorem dg{A0:Sort _}{P0:A0->Prop}{P1:A0->Prop}{P2:A0->Prop}{P3:A0->Prop}{g:Prop}(h:∃ a0,P0 a0/\P1 a0/\P2 a0/\P3 a0)(k:∀ a0,P0 a0->P1 a0->P2 a0->P3 a0->g):g:=by obtain⟨a0,h1,h2,h3,h4⟩:=h;exact k a0 h1 h2 h3 h4
theorem DJ{A0:Sort _}{A1:Sort _}{P0:A0->Prop}{P1:A0->Prop}{P2:A0->A1->Prop}{g:Prop}(h:∃ a0,P0 a0/\P1 a0/\(∃ a1,P2 a0 a1))(k:∀ a0,P0 a0->P1 a0->∀ a1,P2 a0 a1->g):g:=by obtain⟨a0,h1,h2,a1,h4⟩:=h;exact k a0 h1 h2 a1 h4
theorem ar{A0:Sort _}{A1:Sort _}{P0:A0->A1->Prop}{P1:A0->A1->Prop}{P2:A0->A1->Prop}{g:Prop}(h:∃ a0,∃ a1,P0 a0 a1/\P1 a0 a1/\P2 a0 a1)(k:∀ a0,∀ a1,P0 a0 a1->P1 a0 a1->P2 a0 a1->g):g:=by obtain⟨a0,a1,h2,h3,h4⟩:=h;exact k a0 a1 h2 h3 h4
theorem uL{A0:Sort _}{A1:Sort _}{A2:Sort _}{P0:A0->A1->A2->Prop}{P1:A0->A1->A2->Prop}{g:Prop}(h:∃ a0,∃ a1,∃ a2,P0 a0 a1 a2/\P1 a0 a1 a2)(k:∀ a0,∀ a1,∀ a2,P0 a0 a1 a2->P1 a0 a1 a2->g):g:=by obtain⟨a0,a1,a2,h3,h4⟩:=h;exact k a0 a1 a2 h3 h4
theorem bp{A0:Sort _}{A1:Sort _}{A2:Sort _}{A3:Sort _}{P0:A0->A1->A2->A3->Prop}{g:Prop}(h:∃ a0,∃ a1,∃ a2,∃ a3,P0 a0 a1 a2 a3)(k:∀ a0,∀ a1,∀ a2,∀ a3,P0 a0 a1 a2 a3->g):g:=by obtain⟨a0,a1,a2,a3,h4⟩:=h;exact k a0 a1 a2 a3 h4
theorem gX{P0:Prop}{P1:Prop}{P2:Prop}{P3:Prop}{P4:Prop}{P5:Prop}{g:Prop}(h:P0/\P1/\P2/\P3/\P4/\P5)(k:P0->P1->P2->P3->P4->P5->g):g:=by obtain⟨h0,h1,h2,h3,h4,h5⟩:=h;exact k h0 h1 h2 h3 h4 h5
theorem Cp{A0:Sort _}{A1:Sort _}{P0:Prop}{P1:Prop}{P2:A0->A1->Prop}{P3:A0->A1->Prop}{g:Prop}(h:P0/\P1/\(∃ a0,∃ a1,P2 a0 a1/\P3 a0 a1))(k:P0->P1->∀ a0,∀ a1,P2 a0 a1->P3 a0 a1->g):g:=by obtain⟨h0,h1,a0,a1,h4,h5⟩:=h;exact k h0 h1 a0 a1 h4 h5
theorem sr{A0:Sort _}{A1:Sort _}{P0:Prop}{P1:A0->A1->Prop}{P2:A0->A1->Prop}{P3:A0->A1->Prop}{g:Prop}(h:P0/\(∃ a0,∃ a1,P1 a0 a1/\P2 a0 a1/\P3 a0 a1))(k:P0->∀ a0,∀ a1,P1 a0 a1->P2 a0 a1->P3 a0 a1->g):g:=by obtain⟨h0,a0,a1,h3,h4,h5⟩:=h;exact k h0 a0 a1 h3 h4 h5
theorem aH{A0:Sort _}{A1:Sort _}{P0:A0->A1->Prop}{P1:A0->A1->Prop}{P2:A0->A1->Prop}{P3:A0->A1->Prop}{g:Prop}(h:∃ a0,∃ a1,P0 a0 a1/\P1 a0 a1/\P2 a0 a1/\P3 a0 a1)(k:∀ a0,∀ a1,P0 a0 a1->P1 a0 a1->P2 a0 a1->P3 a0 a1->g):g:=by obtain⟨a0,a1,h2,h3,h4,h5⟩:=h;exact k a0 a1 h2 h3 h4 h5
theorem bz{A0:Sort _}{A1:Sort _}{A2:Sort _}{P0:A0->A1->A2->Prop}{P1:A0->A1->A2->Prop}{P2:A0->A1->A2->Prop}{g:Prop}(h:∃ a0,∃ a1,∃ a2,P0 a0 a1 a2/\P1 a0 a1 a2/\P2 a0 a1 a2)(k:∀ a0,∀ a1,∀ a2,P0 a0 a1 a2->P1 a0 a1 a2->P2 a0 a1 a2->g):g:=by obtain⟨a0,a1,a2,h3,h4,h5⟩:=h;exact k a0 a1 a2 h3 h4 h5
theorem su{A0:Sort _}{A1:Sort _}{A2:Sort _}{A3:Sort _}{P0:A0->A1->A2->A3->Prop}{P1:A0->A1->A2->A3->Prop}{g:Prop}(h:∃ a0,∃ a1,∃ a2,∃ a3,P0 a0 a1 a2 a3/\P1 a0 a1 a2 a3)(k:∀ a0,∀ a1,∀ a2,∀ a3,P0 a0 a1 a2 a3->P1 a0 a1 a2 a3->g):g:=by obtain⟨a0,a1,a2,a3,h4,h5⟩:=h;exact k a0 a1 a2 a3 h4 h5
theorem xv{A0:Sort _}{A1:Sort _}{A2:Sort _}{A3:Sort _}{A4:Sort _}{P0:A0->A1->A2->A3->A4->Prop}{g:Prop}(h:∃ a0,∃ a1,∃ a2,∃ a3,∃ a4,P0 a0 a1 a2 a3 a4)(k:∀ a0,∀ a1,∀ a2,∀ a3,∀ a4,P0 a0 a1 a2 a3 a4->g):g:=by obtain⟨a0,a1,a2,a3,a4,h5⟩:=h;exact k a0 a1 a2 a3 a4 h5
theorem uM{P0:Prop}{P1:Prop}{P2:Prop}{P3:Prop}{P4:Prop}{P5:Prop}{P6:Prop}{g:Prop}(h:P0/\P1/\P2/\P3/\P4/\P5/\P6)(k:P0->P1->P2->P3->P4->P5->P6->g):g:=by obtain⟨h0,h1,h2,h3,h4,h5,h6⟩:=h;exact k h0 h1 h2 h3 h4 h5 h6
theorem dM{A0:Sort _}{A1:Sort _}{P0:A0->A1->Prop}{P1:A0->A1->Prop}{P2:A0->A1->Prop}{P3:A0->A1->Prop}{P4:A0->A1->Prop}{g:Prop}(h:∃ a0,∃ a1,P0 a0 a1/\P1 a0 a1/\P2 a0 a1/\P3 a0 a1/\P4 a0 a1)(k:∀ a0,∀ a1,P0 a0 a1->P1 a0 a1->P2 a0 a1->P3 a0 a1->P4 a0 a1->g):g:=by obtain⟨a0,a1,h2,h3,h4,h5,h6⟩:=h;exact k a0 a1 h2 h3 h4 h5 h6
theorem iu{A0:Sort _}{A1:Sort _}{A2:Sort _}{P0:A0->A1->A2->Prop}{P1:A0->A1->A2->Prop}{P2:A0->A1->A2->Prop}{P3:A0->A1->A2->Prop}{g:Prop}(h:∃ a0,∃ a1,∃ a2,P0 a0 a1 a2/\P1 a0 a1 a2/\P2 a0 a1 a2/\P3 a0 a1 a2)(k:∀ a0,∀ a1,∀ a2,P0 a0 a1 a2->P1 a0 a1 a2->P2 a0 a1 a2->P3 a0 a1 a2->g):g:=by obtain⟨a0,a1,a2,h3,h4,h5,h6⟩:=h;exact k a0 a1 a2 h3 h4 h5 h6
theorem zW{A0:Sort _}{A1:Sort _}{A2:Sort _}{A3:Sort _}{P0:A0->A1->A2->A3->Prop}{P1:A0->A1->A2->A3->Prop}{P2:A0->A1->A2->A3->Prop}{g:Prop}(h:∃ a0,∃ a1,∃ a2,∃ a3,P0 a0 a1 a2 a3/\P1 a0 a1 a2 a3/\P2 a0 a1 a2 a3)(k:∀ a0,∀ a1,∀ a2,∀ a3,P0 a0 a1 a2 a3->P1 a0 a1 a2 a3->P2 a0 a1 a2 a3->g):g:=by obtain⟨a0,a1,a2,a3,h4,h5,h6⟩:=h;exact k a0 a1 a2 a3 h4 h5 h6
theorem uN{A0:Sort _}{A1:Sort _}{A2:Sort _}{A3:Sort _}{A4:Sort _}{A5:Sort _}{P0:A0->A1->A2->A3->A4->A5->Prop}{g:Prop}(h:∃ a0,∃ a1,∃ a2,∃ a3,∃ a4,∃ a5,P0 a0 a1 a2 a3 a4 a5)(k:∀ a0,∀ a1,∀ a2,∀ a3,∀ a4,∀ a5,P0 a0 a1 a2 a3 a4 a5->g):g:=by obtain⟨a0,a1,a2,a3,a4,a5,h6⟩:=h;exact k a0 a1 a2 a3 a4 a5 h6
theorem dt{α:Type _}{a:α}{g:Prop}(h:none=some a):g:=by cases h
theorem DK{α:Type _}{a:α}{g:Prop}(h:some a=none):g:=by cases h
theorem fH{g:Prop}(h:false=true):g:=absurd h Bool.false_ne_true
theorem xw{α:Type _}{a:α}:a∉([]:List α):=List.not_mem_nil
theorem dj{α:Type _}{P:α->Prop}:∀ b∈([]:List α),P b:=λ_ q=>absurd q List.not_mem_nil
theorem zX{α:Type _}{a b:α}(h:a≠b):a∉[b]:=λq=>h (List.mem_singleton.mp q)
theorem vP{α:Type _}{a b c:α}{g:Prop}(h:a∈[b,c])(k:a=b->g)(k':a=c->g):g:=(P7 h).elim k λq=>k' (List.mem_singleton.mp q)
end Mine
end
noncomputable section
namespace Mine
open PySem PySem.W PySem.Calls PyProof.Rows
section
abbrev pw:Program:=PySem.Challenge.pw_no0284_01
noncomputable def S(x:String)(t:Nat):Value:=.str (Str.ofString x) t
noncomputable def I(i:Int):Value:=.int i 0
noncomputable def gG(c:Value)(l:List Value):Obj:=⟨c,none,.seq l.toArray 0,#[]⟩
noncomputable def az(c:Value)(l:List Value):Obj:=⟨c,none,.fields l.toArray,#[]⟩
noncomputable def Cq(P:Params):Value->Int
 | .str x _=>PyData.keyHash P x
 | _=>0
noncomputable def dw(c:Value)(P:Params)(l:List (Value×Value))(n:Nat):Obj:=⟨c,none,.dict (l.map λe=>⟨Cq P e.1,e.1,e.2⟩).toArray n,#[]⟩
noncomputable def jO(c:Value)(d:Option Addr)(sl:List (Option Value)):Obj:=⟨c,d,.plain,sl.toArray⟩
noncomputable def ki(c:Value)(sl:List (Option Value))(nm:String)(bases mro:List Value)(ns:Addr)(qn:String)(hd:Bool)(sn:List String)(sub:List Value)(ab:Bool)(co:Option Bool)(dl:Bool):Obj:=
 ⟨c,none,.cls { name:=Str.ofString nm,bases,mro,ns,qualname:=Str.ofString qn,hasDict:=hd,slotNames:=sn.map Str.ofString,subclasses:=sub,abstract:=ab,collection:=co,hasDel:=dl },sl.toArray⟩
noncomputable def xx:Option Stmt->Option (Arguments×List Stmt×Scope)
 | some (.FunctionDef _ a b _ _ _ sc _ _ _)=>some (a,b,sc)
 | _=>none
noncomputable def fI(i:Nat):Nat->Option (Arguments×List Stmt×Scope)
 | 0=>xx pw.main.body[i]?
 | j+1=>match pw.main.body[i]? with
  | some (.ClassDef (body:=b) ..)=>xx b[j]?
  | _=>none
noncomputable def iw:Arguments×List Stmt×Scope:=(⟨[],[],none,[],[],none,[]⟩,[],⟨.function,[],false,false,[]⟩)
noncomputable def cK(c:Value)(nm qn:String)(i j:Nat)(g:Addr)(dv kv doc pm:Value)(an:Option Addr)(cd ct:Value)(b:Addr):Obj:=
 ⟨c,none,.func { name:=Str.ofString nm,qualname:=Str.ofString qn,params:=((fI i j).getD iw).1,body:=.stmts ((fI i j).getD iw).2.1,scope:=((fI i j).getD iw).2.2,globals:=g,closure:=[],defaults:=dv,kwdefaults:=kv,doc:=doc,pyModule:=pm,annotations:=an,code:=cd,closureTuple:=ct,builtins:=b },#[]⟩
noncomputable def gH:List (Nat×Obj)->BT->BT
 | [],t=>t
 | (i,o)::r,t=>gH r (t.ins i o)
noncomputable def gI:Env:={ scope:=pw.main.scope,locals:=mainNs,globals:=mainNs,cells:=[],code:=.ref 13,frame:=some 14 }
noncomputable def cE:Code:=.body (behindTheImports pw) gI
noncomputable def m0:Nat:=11
noncomputable def mN:Option Value:=some (.ref 6)
noncomputable def sT(t:BT)(n tk:Nat)(os:OsState):SharedT:=⟨t,n,{},#[],{},tk,os⟩
noncomputable def aP(i n:Nat):List Stmt:=(pw.main.body.drop i).take n
theorem cO:@segRunT=PySem.W.Fast.tw10110043849684766642:=PySem.W.Fast.te10110043849684766642
theorem cP:treeTable=PySem.W.Fast.tw14364793385576792824:=PySem.W.Fast.te14364793385576792824
noncomputable def e0:Obj:=gG (.type "tuple") []
noncomputable def e1:Obj:=az .none []
noncomputable def Fi:Nat->List String->List Value
 | _,[]=>[]
 | n,x::r=>S x n::Fi (n+1) r
noncomputable def tq(n:Nat)(l:List String):Obj:=gG (.type "tuple") (Fi n l)
noncomputable def fs(A:Nat)(x:String)(i j l n t:Nat)(vs:List String)(m:String)(mt:Nat):List Obj:=[e0,e1,tq (t+3) vs,e0,cK .none x x i j 0 .none .none .none .none none .none .none 0,
 az (.type "code") [S x t,S x (t+1),S "/claim/cut.py" (t+2),I l,I n,I 0,I 0,I 3,.ref A,.bool true,I 181,.ref (A+1),.none,.ref (A+2),.ref (A+3),.ref (A+4),I (t+3+vs.length:Nat),I l,S "/claim/cut.py" (t+4+vs.length)],
 cK (.type "function") x x i j 3 .none .none .none (S m mt) none (.ref (A+5)) .none 0]
noncomputable def nb:Nat->List Obj->List (Nat×Obj)
 | _,[]=>[]
 | n,o::r=>(n,o)::nb (n+1) r
noncomputable def gr(x:String)(t a:Nat):Value×Value:=(S x t,.ref a)
noncomputable def gents:List (Value×Value):=[((S "__doc__" 166),.none),((S "__package__" 167),.none),((S "__loader__" 168),(.builtin "__main__.__loader__#opaque")),((S "__spec__" 169),.none),gr "__annotations__" 170 6,gr "__builtins__" 171 4,((S "__file__" 173),(S "/claim/cut.py" 172)),((S "__cached__" 174),.none),gr "_wall" 193 21,gr "F77Error" 224 38,gr "RunFault" 240 51,((S "INTEGER" 244),(.int 0 243)),((S "REAL" 246),(.int 1 245)),((S "DOUBLE" 248),(.int 2 247)),((S "COMPLEX" 250),(.int 3 249)),((S "LOGICAL" 252),(.int 4 251)),((S "CHARACTER" 254),(.int 5 253)),gr "units_of" 261 60,((S "SECOND" 265),(.int 6 264)),gr "Memory" 321 98,gr "need_units" 330 109,gr "read_cell" 340 116,gr "load_number" 350 123,gr "store_number" 360 130,gr "load_text" 370 137,gr "store_text" 380 144,gr "pad" 388 151,gr "unit_size" 396 158,gr "element_place" 413 165,gr "sub_place" 424 172,gr "fit_int" 435 179,gr "int_add" 444 186,gr "int_sub" 453 193,gr "int_mul" 462 200,gr "cut_quotient" 471 207,gr "int_div" 480 214,gr "inverse_power" 488 221,gr "int_power" 499 228,gr "order_of" 507 235,gr "holds" 515 242,gr "int_binary" 526 249,gr "logic_binary" 537 256,gr "NOUGHT" 542 257,((S "GUARD" 544),(.int 8 543)),((S "EXACT_POWER" 546),(.int 64 545)),gr "count_digits" 554 264,gr "strip_zeros" 562 271,gr "round_digits" 575 278,gr "round_real" 586 285,gr "exact_add" 595 292,gr "exact_mul" 603 299,gr "real_neg" 610 306,gr "quotient" 624 313,gr "real_add" 636 320,gr "real_sub" 648 327,gr "real_mul" 660 334,gr "real_div" 672 341,gr "real_compare" 681 348,gr "real_of_int" 690 355,gr "real_to_int" 700 362,gr "raised" 710 369,gr "real_power" 722 376,gr "digits_of" 730 383,gr "real_binary" 743 390,gr "ONE" 750 393,((S "EXACT_COMPLEX_POWER" 752),(.int 16 751)),gr "round_parts" 761 400,gr "complex_add" 771 407,gr "complex_neg" 778 414,gr "complex_sub" 788 421,gr "exact_product" 797 428,gr "complex_mul" 807 435,gr "complex_div" 821 442,gr "guarded_product" 832 449,gr "complex_raised" 843 456,gr "complex_power" 854 463,gr "complex_binary" 867 470,gr "collate" 878 477,gr "text_binary" 889 484,gr "all_operations" 895 491,gr "unary" 905 498,gr "real_as" 916 505,gr "convert" 926 512,gr "Run" 976 529,gr "evaluate" 984 540,gr "named_place" 993 547,gr "bound_of" 1001 554,gr "part_place" 1011 561,gr "place_of" 1017 566,gr "eval_const" 1025 573,gr "eval_place" 1033 580,gr "eval_conv" 1041 587,gr "eval_unary" 1049 594,gr "reckon" 1060 601,gr "eval_binary" 1070 608,gr "eval_compare" 1080 615,gr "eval_cat" 1089 622,gr "plain_expressions" 1097 629,gr "base_expressions" 1104 636,gr "char_expressions" 1110 643,gr "Limits" 1163 661,gr "_law_relations" 1171 672,gr "_law_places" 1177 679,gr "_law_take" 1186 686,gr "_law_number" 1193 693,gr "_law_real" 1200 700,gr "_law_text" 1206 705,gr "_law_const" 1214 712,gr "_law_leaf" 1220 717,gr "_law_index" 1228 724,gr "_law_tree" 1234 729,gr "_law_fit" 1247 736,gr "_law_fraction" 1254 743,gr "_law_whole" 1262 750,gr "_law_toward" 1271 757,gr "_law_power" 1280 764,gr "_law_two" 1295 771,gr "_law_order" 1308 778,gr "_law_held" 1317 785,gr "_law_subscripts" 1323 790,gr "_law_value" 1339 797,gr "_law_part" 1354 804,gr "_law_fill" 1360 809,gr "law" 1366 814]
noncomputable def dN(P:Params)(x:String)(t n:Nat):Obj:=dw (.type "dict") P ((S "__name__" 165,S x t)::gents.take (n - 1)) n
noncomputable def list12:List Value:=[(I 1),(I 0),(.ref 20),(I 5),(I 0),(.ref 27),(I 10),(I 0),(.ref 47),(I 19),(I 0),(.ref 59),(I 27),(I 0),(.ref 66),(I 46),(I 0),(.ref 108),(I 49),(I 0),(.ref 115),(I 54),(I 0),(.ref 122),(I 62),(I 0),(.ref 129),(I 71),(I 0),(.ref 136),(I 77),(I 0),(.ref 143),(I 81),(I 0),(.ref 150),(I 83),(I 0),(.ref 157),(I 87),(I 0),(.ref 164),(I 101),(I 0),(.ref 171),(I 108),(I 0),(.ref 178),(I 113),(I 0),(.ref 185),(I 115),(I 0),(.ref 192),(I 117),(I 0),(.ref 199),(I 119),(I 0),(.ref 206),(I 122),(I 0),(.ref 213),(I 126),(I 0),(.ref 220),(I 132),(I 0),(.ref 227),(I 141),(I 0),(.ref 234),(I 145),(I 0),(.ref 241),(I 159),(I 0),(.ref 248),(I 171),(I 0),(.ref 255),(I 185),(I 0),(.ref 263),(I 195),(I 0),(.ref 270),(I 202),(I 0),(.ref 277),(I 212),(I 0),(.ref 284),(I 220),(I 0),(.ref 291),(I 223),(I 0),(.ref 298),(I 225),(I 0),(.ref 305),(I 227),(I 0),(.ref 312),(I 234),(I 0),(.ref 319),(I 237),(I 0),(.ref 326),(I 240),(I 0),(.ref 333),(I 243),(I 0),(.ref 340),(I 248),(I 0),(.ref 347),(I 253),(I 0),(.ref 354),(I 255),(I 0),(.ref 361),(I 261),(I 0),(.ref 368),(I 271),(I 0),(.ref 375),(I 278),(I 0),(.ref 382),(I 280),(I 0),(.ref 389),(I 297),(I 0),(.ref 399),(I 299),(I 0),(.ref 406),(I 301),(I 0),(.ref 413),(I 303),(I 0),(.ref 420),(I 305),(I 0),(.ref 427),(I 308),(I 0),(.ref 434),(I 310),(I 0),(.ref 441),(I 318),(I 0),(.ref 448),(I 322),(I 0),(.ref 455),(I 334),(I 0),(.ref 462),(I 339),(I 0),(.ref 469),(I 358),(I 0),(.ref 476),(I 361),(I 0),(.ref 483),(I 365),(I 0),(.ref 490),(I 367),(I 0),(.ref 497),(I 377),(I 0),(.ref 504),(I 384),(I 0),(.ref 511),(I 397),(I 0),(.ref 518),(I 415),(I 0),(.ref 539),(I 419),(I 0),(.ref 546),(I 424),(I 0),(.ref 553),(I 428),(I 0),(.ref 560),(I 432),(I 0),(.ref 565),(I 439),(I 0),(.ref 572),(I 441),(I 0),(.ref 579),(I 443),(I 0),(.ref 586),(I 445),(I 0),(.ref 593),(I 447),(I 0),(.ref 600),(I 451),(I 0),(.ref 607),(I 455),(I 0),(.ref 614),(I 459),(I 0),(.ref 621),(I 462),(I 0),(.ref 628),(I 469),(I 0),(.ref 635),(I 475),(I 0),(.ref 642),(I 478),(I 0),(.ref 649),(I 490),(I 0),(.ref 671),(I 492),(I 0),(.ref 678),(I 494),(I 0),(.ref 685),(I 502),(I 0),(.ref 692),(I 504),(I 0),(.ref 699),(I 506),(I 0),(.ref 704),(I 508),(I 0),(.ref 711),(I 514),(I 0),(.ref 716),(I 523),(I 0),(.ref 723),(I 527),(I 0),(.ref 728),(I 554),(I 0),(.ref 735),(I 573),(I 0),(.ref 742),(I 575),(I 0),(.ref 749),(I 577),(I 0),(.ref 756),(I 580),(I 0),(.ref 763),(I 588),(I 0),(.ref 770),(I 602),(I 0),(.ref 777),(I 610),(I 0),(.ref 784),(I 612),(I 0),(.ref 789),(I 621),(I 0),(.ref 796),(I 653),(I 0),(.ref 803),(I 665),(I 0),(.ref 808),(I 682),(I 0),(.ref 813)]
noncomputable def DL(P:Params):BT:=gH [(0,boot_o_0 P),(1,boot_o_1 P),(2,boot_o_2 P),(3,boot_o_3 P),(4,boot_o_4 P),(5,boot_o_5 P),(6,boot_o_6 P),(7,boot_o_7 P),(8,boot_o_8 P),(9,boot_o_9 P),(10,boot_o_10 P)] .nil
noncomputable def T0(P:Params):BT:=gH ([(11,e0),(12,e1),(13,az (.type "code") [(S "<module>" 182),(S "<module>" 183),(S "/claim/cut.py" 184),(I 1),(I 0),(I 0),(I 0),(I 0),(.ref 11),(.bool false),(I 181),(.ref 12),.none,.none,.none,.none,(I 185),(I 1),(S "/claim/cut.py" 186)]),(14,jO (.type "frame") none [(some (.ref 13)),(some (.ref 3)),(some (.ref 3)),none,(some (S "__main__" 164)),none,(some (.ref 0))])]) (DL P)
noncomputable def T1(P:Params):BT:=gH ([(2,dw .none P [((S "type.__subclasses__.Exception.0" 221),(I 38)),((S "type.__subclasses__.Exception.n" 222),(I 1))] 2),(3,dN P "f77.errors" 194 11),(12,az .none (list12.take 6))]++(nb 15 (fs 15 "_wall" 0 0 1 1 187 ["k"] "__main__" 164)++([(22,gG (.type "tuple") [(.type "Exception")]),(23,az (.type "builtin_function_or_method") [(.builtin "type.__prepare__"),(.type "type")]),(24,dw (.type "dict") P [((S "__module__" 203),(S "f77.errors" 194)),((S "__qualname__" 205),(S "F77Error" 204)),((S "__firstlineno__" 207),(.int 5 206)),((S "__init__" 215),(.ref 35)),((S "__static_attributes__" 217),(.ref 36))] 5),(25,e0),(26,az .none [(I 7),(I 4),(.ref 34)]),(27,az (.type "code") [(S "F77Error" 198),(S "F77Error" 199),(S "/claim/cut.py" 200),(I 5),(I 0),(I 0),(I 0),(I 0),(.ref 25),(.bool false),(I 181),(.ref 26),.none,.none,.none,.none,(I 201),(I 5),(S "/claim/cut.py" 202)]),(28,jO (.type "frame") none [(some (.ref 27)),(some (.ref 3)),(some (.ref 24)),none,(some (S "f77.errors" 194)),none,(some (.ref 0))]),(29,e0),(30,e1),(31,tq 211 ["self","text"]),(32,e0),(33,cK .none "__init__" "F77Error.__init__" 2 1 0 .none .none .none .none none .none .none 0),(34,az (.type "code") [(S "__init__" 208),(S "F77Error.__init__" 209),(S "/claim/cut.py" 210),(I 7),(I 2),(I 0),(I 0),(I 3),(.ref 29),(.bool true),(I 181),(.ref 30),.none,(.ref 31),(.ref 32),(.ref 33),(I 213),(I 7),(S "/claim/cut.py" 214)]),(35,cK (.type "function") "__init__" "F77Error.__init__" 2 1 3 .none .none .none (S "f77.errors" 194) none (.ref 34) .none 0),(36,tq 216 ["text"]),(37,dw (.type "dict") P [((S "__module__" 203),(S "f77.errors" 194)),((S "__firstlineno__" 207),(.int 5 206)),((S "__init__" 215),(.ref 35)),((S "__static_attributes__" 217),(.ref 36)),((S "__weakref__" 219),(.ref 39)),((S "__doc__" 220),.none)] 3),(38,ki (.type "type") [(some (.ref 22)),none,(some (S "F77Error" 196)),(some (S "F77Error" 204)),(some (.builtin "Exception.__new__")),(some (.bool true))] "F77Error" [(.type "Exception")] [(.ref 38),(.type "Exception"),(.type "BaseException"),(.type "object")] 37 "F77Error" true [] [] false none false),(39,az (.type "getset_descriptor") [(S "__weakref__" 218),(.ref 38),(.builtin "ExceptionGroup.__weakref__"),.none]),(40,az (.type "super") [(.ref 38),(.ref 38),(.ref 38)]),(41,az (.type "builtin_function_or_method") [(.builtin "object.__init_subclass__"),(.ref 38)])]))) (T0 P)
noncomputable def T2(P:Params):BT:=gH ([(3,dN P "f77.memory" 262 20),(12,az .none (list12.take 12)),(38,ki (.type "type") [(some (.ref 22)),none,(some (S "F77Error" 196)),(some (S "F77Error" 204)),(some (.builtin "Exception.__new__")),(some (.bool true))] "F77Error" [(.type "Exception")] [(.ref 38),(.type "Exception"),(.type "BaseException"),(.type "object")] 37 "F77Error" true [] [(.ref 51)] false none false),(42,gG (.type "tuple") [(.ref 38)]),(43,az (.type "builtin_function_or_method") [(.builtin "type.__prepare__"),(.type "type")]),(44,dw (.type "dict") P [((S "__module__" 232),(S "f77.errors" 194)),((S "__qualname__" 234),(S "RunFault" 233)),((S "__firstlineno__" 236),(.int 10 235)),((S "__static_attributes__" 237),(.ref 49))] 4),(45,e0),(46,e1),(47,az (.type "code") [(S "RunFault" 227),(S "RunFault" 228),(S "/claim/cut.py" 229),(I 10),(I 0),(I 0),(I 0),(I 0),(.ref 45),(.bool false),(I 181),(.ref 46),.none,.none,.none,.none,(I 230),(I 10),(S "/claim/cut.py" 231)]),(48,jO (.type "frame") none [(some (.ref 47)),(some (.ref 3)),(some (.ref 44)),none,(some (S "f77.errors" 194)),none,(some (.ref 0))]),(49,e0),(50,dw (.type "dict") P [((S "__module__" 232),(S "f77.errors" 194)),((S "__firstlineno__" 236),(.int 10 235)),((S "__static_attributes__" 237),(.ref 49)),((S "__doc__" 238),.none)] 2),(51,ki (.type "type") [(some (.ref 42)),none,(some (S "RunFault" 225)),(some (S "RunFault" 233)),(some (.builtin "Exception.__new__")),(some (.bool true))] "RunFault" [(.ref 38)] [(.ref 51),(.ref 38),(.type "Exception"),(.type "BaseException"),(.type "object")] 50 "RunFault" true [] [] false none false),(52,az (.type "super") [(.ref 51),(.ref 51),(.ref 51)]),(53,az (.type "builtin_function_or_method") [(.builtin "object.__init_subclass__"),(.ref 51)])]++(nb 54 (fs 54 "units_of" 11 0 19 1 255 ["kind"] "f77.kinds" 241))) (T1 P)
noncomputable def T3(P:Params):BT:=gH ([(3,dN P "f77.memory" 262 23),(12,az .none (list12.take 21)),(61,e0),(62,az (.type "builtin_function_or_method") [(.builtin "type.__prepare__"),(.type "type")]),(63,dw (.type "dict") P [((S "__module__" 273),(S "f77.memory" 262)),((S "__qualname__" 275),(S "Memory" 274)),((S "__firstlineno__" 277),(.int 27 276)),((S "__init__" 286),(.ref 74)),((S "load" 294),(.ref 81)),((S "store" 303),(.ref 88)),((S "undefine" 311),(.ref 95)),((S "__static_attributes__" 314),(.ref 96))] 8),(64,e0),(65,az .none [(I 29),(I 4),(.ref 73),(I 33),(I 4),(.ref 80),(I 38),(I 4),(.ref 87),(I 44),(I 4),(.ref 94)]),(66,az (.type "code") [(S "Memory" 268),(S "Memory" 269),(S "/claim/cut.py" 270),(I 27),(I 0),(I 0),(I 0),(I 0),(.ref 64),(.bool false),(I 181),(.ref 65),.none,.none,.none,.none,(I 271),(I 27),(S "/claim/cut.py" 272)]),(67,jO (.type "frame") none [(some (.ref 66)),(some (.ref 3)),(some (.ref 63)),none,(some (S "f77.memory" 262)),none,(some (.ref 0))]),(68,e0),(69,e1),(70,tq 281 ["self","numeric","characters"]),(71,e0),(72,cK .none "__init__" "Memory.__init__" 14 1 0 .none .none .none .none none .none .none 0),(73,az (.type "code") [(S "__init__" 278),(S "Memory.__init__" 279),(S "/claim/cut.py" 280),(I 29),(I 3),(I 0),(I 0),(I 3),(.ref 68),(.bool true),(I 181),(.ref 69),.none,(.ref 70),(.ref 71),(.ref 72),(I 284),(I 29),(S "/claim/cut.py" 285)]),(74,cK (.type "function") "__init__" "Memory.__init__" 14 1 3 .none .none .none (S "f77.memory" 262) none (.ref 73) .none 0),(75,e0),(76,e1),(77,tq 290 ["self","place"]),(78,e0),(79,cK .none "load" "Memory.load" 14 2 0 .none .none .none .none none .none .none 0),(80,az (.type "code") [(S "load" 287),(S "Memory.load" 288),(S "/claim/cut.py" 289),(I 33),(I 2),(I 0),(I 0),(I 3),(.ref 75),(.bool true),(I 181),(.ref 76),.none,(.ref 77),(.ref 78),(.ref 79),(I 292),(I 33),(S "/claim/cut.py" 293)]),(81,cK (.type "function") "load" "Memory.load" 14 2 3 .none .none .none (S "f77.memory" 262) none (.ref 80) .none 0),(82,e0),(83,e1),(84,tq 298 ["self","place","value"]),(85,e0),(86,cK .none "store" "Memory.store" 14 3 0 .none .none .none .none none .none .none 0),(87,az (.type "code") [(S "store" 295),(S "Memory.store" 296),(S "/claim/cut.py" 297),(I 38),(I 3),(I 0),(I 0),(I 3),(.ref 82),(.bool true),(I 181),(.ref 83),.none,(.ref 84),(.ref 85),(.ref 86),(I 301),(I 38),(S "/claim/cut.py" 302)]),(88,cK (.type "function") "store" "Memory.store" 14 3 3 .none .none .none (S "f77.memory" 262) none (.ref 87) .none 0),(89,e0),(90,e1),(91,tq 307 ["self","place"]),(92,e0),(93,cK .none "undefine" "Memory.undefine" 14 4 0 .none .none .none .none none .none .none 0),(94,az (.type "code") [(S "undefine" 304),(S "Memory.undefine" 305),(S "/claim/cut.py" 306),(I 44),(I 2),(I 0),(I 0),(I 3),(.ref 89),(.bool true),(I 181),(.ref 90),.none,(.ref 91),(.ref 92),(.ref 93),(I 309),(I 44),(S "/claim/cut.py" 310)]),(95,cK (.type "function") "undefine" "Memory.undefine" 14 4 3 .none .none .none (S "f77.memory" 262) none (.ref 94) .none 0),(96,tq 312 ["characters","numeric"]),(97,dw (.type "dict") P [((S "__module__" 273),(S "f77.memory" 262)),((S "__firstlineno__" 277),(.int 27 276)),((S "__init__" 286),(.ref 74)),((S "load" 294),(.ref 81)),((S "store" 303),(.ref 88)),((S "undefine" 311),(.ref 95)),((S "__static_attributes__" 314),(.ref 96)),((S "__dict__" 316),(.ref 99)),((S "__weakref__" 318),(.ref 100)),((S "__doc__" 319),.none)] 4),(98,ki (.type "type") [none,none,(some (S "Memory" 266)),(some (S "Memory" 274)),(some (.builtin "object.__new__")),(some (.bool true))] "Memory" [(.type "object")] [(.ref 98),(.type "object")] 97 "Memory" true [] [] false none false),(99,az (.type "getset_descriptor") [(S "__dict__" 315),(.ref 98),(.builtin "function.__dict__"),(.builtin "function.__dict__#set")]),(100,az (.type "getset_descriptor") [(S "__weakref__" 317),(.ref 98),(.builtin "ExceptionGroup.__weakref__"),.none]),(101,az (.type "super") [(.ref 98),(.ref 98),(.ref 98)]),(102,az (.type "builtin_function_or_method") [(.builtin "object.__init_subclass__"),(.ref 98)])]++(nb 103 (fs 103 "need_units" 15 0 46 3 322 ["cells","address","count"] "f77.memory" 262)++(nb 110 (fs 110 "read_cell" 16 0 49 3 331 ["cells","address","tag","cell"] "f77.memory" 262)))) (T2 P)
noncomputable def T4(P:Params):BT:=gH ([(3,dN P "f77.ints" 425 35),(12,az .none (list12.take 57))]++(nb 117 (fs 117 "load_number" 17 0 54 3 341 ["cells","kind","address","value"] "f77.memory" 262)++(nb 124 (fs 124 "store_number" 18 0 62 4 351 ["cells","kind","address","value"] "f77.memory" 262)++(nb 131 (fs 131 "load_text" 19 0 71 3 361 ["cells","address","length","signs"] "f77.memory" 262)++(nb 138 (fs 138 "store_text" 20 0 77 3 371 ["cells","address","text","k"] "f77.memory" 262)++(nb 145 (fs 145 "pad" 21 0 81 2 381 ["text","length"] "f77.memory" 262)++(nb 152 (fs 152 "unit_size" 22 0 83 2 389 ["kind","length"] "f77.memory" 262)++(nb 159 (fs 159 "element_place" 23 0 87 2 397 ["place","subscripts","kind","address","length","dims","offset","stride","k","low","high"] "f77.memory" 262)++(nb 166 (fs 166 "sub_place" 24 0 101 3 414 ["place","lo","hi","first","last"] "f77.memory" 262)++(nb 173 (fs 173 "fit_int" 26 0 108 2 427 ["n","width","most"] "f77.ints" 425)++(nb 180 (fs 180 "int_add" 27 0 113 3 436 ["x","y","width"] "f77.ints" 425)++(nb 187 (fs 187 "int_sub" 28 0 115 3 445 ["x","y","width"] "f77.ints" 425)++(nb 194 (fs 194 "int_mul" 29 0 117 3 454 ["x","y","width"] "f77.ints" 425)))))))))))))) (T3 P)
noncomputable def T5(P:Params):BT:=gH ([(3,dN P "f77.reals" 538 49),(12,az .none (list12.take 90))]++(nb 201 (fs 201 "cut_quotient" 30 0 119 2 463 ["x","y","found"] "f77.ints" 425)++(nb 208 (fs 208 "int_div" 31 0 122 3 472 ["x","y","width"] "f77.ints" 425)++(nb 215 (fs 215 "inverse_power" 32 0 126 2 481 ["x","n"] "f77.ints" 425)++(nb 222 (fs 222 "int_power" 33 0 132 3 489 ["x","n","width","found","turn"] "f77.ints" 425)++(nb 229 (fs 229 "order_of" 34 0 141 2 500 ["x","y"] "f77.ints" 425)++(nb 236 (fs 236 "holds" 35 0 145 2 508 ["op","order"] "f77.ints" 425)++(nb 243 (fs 243 "int_binary" 36 0 159 5 516 ["op","kind","x","y","limits"] "f77.ints" 425)++(nb 250 (fs 250 "logic_binary" 37 0 171 5 527 ["op","kind","x","y","limits"] "f77.ints" 425)++([(257,gG (.type "tuple") [(.int 0 540),(.int 0 541)])]++(nb 258 (fs 258 "count_digits" 42 0 185 1 547 ["n","count"] "f77.reals" 538)++(nb 265 (fs 265 "strip_zeros" 43 0 195 2 555 ["m","e"] "f77.reals" 538)++(nb 272 (fs 272 "round_digits" 44 0 202 3 563 ["m","e","digits","drop","power","kept","rest"] "f77.reals" 538)))))))))))))) (T4 P)
noncomputable def T6(P:Params):BT:=gH ([(3,dN P "f77.reals" 538 61),(12,az .none (list12.take 126))]++(nb 279 (fs 279 "round_real" 45 0 212 4 576 ["m","e","digits","top","lead"] "f77.reals" 538)++(nb 286 (fs 286 "exact_add" 46 0 220 2 587 ["x","y","low"] "f77.reals" 538)++(nb 293 (fs 293 "exact_mul" 47 0 223 2 596 ["x","y"] "f77.reals" 538)++(nb 300 (fs 300 "real_neg" 48 0 225 1 604 ["x"] "f77.reals" 538)++(nb 307 (fs 307 "quotient" 49 0 227 4 611 ["over","under","e","digits","shift","kept","rest","m"] "f77.reals" 538)++(nb 314 (fs 314 "real_add" 50 0 234 4 625 ["x","y","digits","top","m","e"] "f77.reals" 538)++(nb 321 (fs 321 "real_sub" 51 0 237 4 637 ["x","y","digits","top","m","e"] "f77.reals" 538)++(nb 328 (fs 328 "real_mul" 52 0 240 4 649 ["x","y","digits","top","m","e"] "f77.reals" 538)++(nb 335 (fs 335 "real_div" 53 0 243 4 661 ["x","y","digits","top","m","e"] "f77.reals" 538)++(nb 342 (fs 342 "real_compare" 54 0 248 2 673 ["x","y","m"] "f77.reals" 538)++(nb 349 (fs 349 "real_of_int" 55 0 253 3 682 ["n","digits","top"] "f77.reals" 538)++(nb 356 (fs 356 "real_to_int" 56 0 255 1 691 ["x","m","e","found"] "f77.reals" 538)))))))))))))) (T5 P)
noncomputable def T7(P:Params):BT:=gH ([(3,dN P "f77.complexes" 744 74),(12,az .none (list12.take 159))]++(nb 363 (fs 363 "raised" 57 0 261 3 701 ["x","n","digits","found"] "f77.reals" 538)++(nb 370 (fs 370 "real_power" 58 0 271 4 711 ["x","n","digits","top","m","e"] "f77.reals" 538)++(nb 377 (fs 377 "digits_of" 59 0 278 2 723 ["kind","limits"] "f77.reals" 538)++(nb 384 (fs 384 "real_binary" 60 0 280 5 731 ["op","kind","x","y","limits","digits","top"] "f77.reals" 538)++([(391,gG (.type "tuple") [(.int 1 746),(.int 0 747)]),(392,gG (.type "tuple") [(.int 0 748),(.int 0 749)]),(393,gG (.type "tuple") [(.ref 391),(.ref 392)])]++(nb 394 (fs 394 "round_parts" 64 0 297 3 753 ["x","digits","top"] "f77.complexes" 744)++(nb 401 (fs 401 "complex_add" 65 0 299 4 762 ["x","y","digits","top"] "f77.complexes" 744)++(nb 408 (fs 408 "complex_neg" 66 0 301 1 772 ["x"] "f77.complexes" 744)++(nb 415 (fs 415 "complex_sub" 67 0 303 4 779 ["x","y","digits","top"] "f77.complexes" 744)++(nb 422 (fs 422 "exact_product" 68 0 305 2 789 ["x","y","across"] "f77.complexes" 744)++(nb 429 (fs 429 "complex_mul" 69 0 308 4 798 ["x","y","digits","top"] "f77.complexes" 744)++(nb 436 (fs 436 "complex_div" 70 0 310 4 808 ["x","y","digits","top","size","whole","across","upward"] "f77.complexes" 744)))))))))))))) (T6 P)
noncomputable def T8(P:Params):BT:=gH ([(3,dN P "f77.plainexpr" 927 84),(12,az .none (list12.take 189))]++(nb 443 (fs 443 "guarded_product" 71 0 318 3 822 ["x","y","digits","found","more"] "f77.complexes" 744)++(nb 450 (fs 450 "complex_raised" 72 0 322 3 833 ["x","n","digits","found","turn"] "f77.complexes" 744)++(nb 457 (fs 457 "complex_power" 73 0 334 4 844 ["x","n","digits","top","found"] "f77.complexes" 744)++(nb 464 (fs 464 "complex_binary" 74 0 339 5 855 ["op","kind","x","y","limits","digits","top"] "f77.complexes" 744)++(nb 471 (fs 471 "collate" 76 0 358 2 870 ["x","y","wide"] "f77.operate" 868)++(nb 478 (fs 478 "text_binary" 77 0 361 5 879 ["op","kind","x","y","limits"] "f77.operate" 868)++(nb 485 (fs 485 "all_operations" 78 0 365 0 890 [] "f77.operate" 868)++(nb 492 (fs 492 "unary" 79 0 367 4 896 ["op","kind","x","limits"] "f77.operate" 868)++(nb 499 (fs 499 "real_as" 80 0 377 4 906 ["value","of","to","limits","digits"] "f77.operate" 868)++(nb 506 (fs 506 "convert" 81 0 384 4 917 ["value","of","to","limits"] "f77.operate" 868)))))))))))) (T7 P)
noncomputable def T9(P:Params):BT:=gH ([(3,dN P "f77.plainexpr" 927 90),(12,az .none (list12.take 207)),(513,e0),(514,az (.type "builtin_function_or_method") [(.builtin "type.__prepare__"),(.type "type")]),(515,dw (.type "dict") P [((S "__module__" 936),(S "f77.plainexpr" 927)),((S "__qualname__" 938),(S "Run" 937)),((S "__firstlineno__" 940),(.int 397 939)),((S "__init__" 953),(.ref 526)),((S "__static_attributes__" 969),(.ref 527))] 5),(516,e0),(517,az .none [(I 399),(I 4),(.ref 525)]),(518,az (.type "code") [(S "Run" 931),(S "Run" 932),(S "/claim/cut.py" 933),(I 397),(I 0),(I 0),(I 0),(I 0),(.ref 516),(.bool false),(I 181),(.ref 517),.none,.none,.none,.none,(I 934),(I 397),(S "/claim/cut.py" 935)]),(519,jO (.type "frame") none [(some (.ref 518)),(some (.ref 3)),(some (.ref 515)),none,(some (S "f77.plainexpr" 927)),none,(some (.ref 0))]),(520,e0),(521,e1),(522,tq 944 ["self","memory","limits","units","world","expressions","statements"]),(523,e0),(524,cK .none "__init__" "Run.__init__" 83 1 0 .none .none .none .none none .none .none 0),(525,az (.type "code") [(S "__init__" 941),(S "Run.__init__" 942),(S "/claim/cut.py" 943),(I 399),(I 7),(I 0),(I 0),(I 3),(.ref 520),(.bool true),(I 181),(.ref 521),.none,(.ref 522),(.ref 523),(.ref 524),(I 951),(I 399),(S "/claim/cut.py" 952)]),(526,cK (.type "function") "__init__" "Run.__init__" 83 1 3 .none .none .none (S "f77.plainexpr" 927) none (.ref 525) .none 0),(527,tq 954 ["active","clears","depth","expressions","flows","frame","limits","loops","memory","operations","places","statements","steps","units","world"]),(528,dw (.type "dict") P [((S "__module__" 936),(S "f77.plainexpr" 927)),((S "__firstlineno__" 940),(.int 397 939)),((S "__init__" 953),(.ref 526)),((S "__static_attributes__" 969),(.ref 527)),((S "__dict__" 971),(.ref 530)),((S "__weakref__" 973),(.ref 531)),((S "__doc__" 974),.none)] 4),(529,ki (.type "type") [none,none,(some (S "Run" 929)),(some (S "Run" 937)),(some (.builtin "object.__new__")),(some (.bool true))] "Run" [(.type "object")] [(.ref 529),(.type "object")] 528 "Run" true [] [] false none false),(530,az (.type "getset_descriptor") [(S "__dict__" 970),(.ref 529),(.builtin "function.__dict__"),(.builtin "function.__dict__#set")]),(531,az (.type "getset_descriptor") [(S "__weakref__" 972),(.ref 529),(.builtin "ExceptionGroup.__weakref__"),.none]),(532,az (.type "super") [(.ref 529),(.ref 529),(.ref 529)]),(533,az (.type "builtin_function_or_method") [(.builtin "object.__init_subclass__"),(.ref 529)])]++(nb 534 (fs 534 "evaluate" 84 0 415 2 977 ["run","tree"] "f77.plainexpr" 927)++(nb 541 (fs 541 "named_place" 85 0 419 2 985 ["run","name","found"] "f77.plainexpr" 927)++(nb 548 (fs 548 "bound_of" 86 0 424 2 994 ["run","tree"] "f77.plainexpr" 927)++(nb 555 (fs 555 "part_place" 87 0 428 2 1002 ["run","tree","base","low"] "f77.plainexpr" 927)++([(562,e0),(563,e1),(564,cK .none "place_of" "place_of" 88 0 0 .none .none .none .none none .none .none 0),(565,az (.type "code") [(S "place_of" 1012),(S "place_of" 1013),(S "/claim/cut.py" 1014),(I 432),(I 2),(I 0),(I 0),(I 3),(.ref 562),(.bool true),(I 181),(.ref 563),.none,.none,.none,(.ref 564),(I 1015),(I 432),(S "/claim/cut.py" 1016)]),(566,cK (.type "function") "place_of" "place_of" 88 0 3 .none .none .none (S "f77.plainexpr" 927) none (.ref 565) .none 0)])))))) (T8 P)
noncomputable def EH(P:Params):BT:=gH ([(3,dN P "f77.limits" 1111 101),(12,az .none (list12.take 240))]++(nb 567 (fs 567 "eval_const" 89 0 439 2 1018 ["run","tree"] "f77.plainexpr" 927)++(nb 574 (fs 574 "eval_place" 90 0 441 2 1026 ["run","tree"] "f77.plainexpr" 927)++(nb 581 (fs 581 "eval_conv" 91 0 443 2 1034 ["run","tree"] "f77.plainexpr" 927)++(nb 588 (fs 588 "eval_unary" 92 0 445 2 1042 ["run","tree"] "f77.plainexpr" 927)++(nb 595 (fs 595 "reckon" 93 0 447 5 1050 ["run","word","kind","left","right"] "f77.plainexpr" 927)++(nb 602 (fs 602 "eval_binary" 94 0 451 2 1061 ["run","tree","left","right"] "f77.plainexpr" 927)++(nb 609 (fs 609 "eval_compare" 95 0 455 2 1071 ["run","tree","left","right"] "f77.plainexpr" 927)++(nb 616 (fs 616 "eval_cat" 96 0 459 2 1081 ["run","tree","left"] "f77.plainexpr" 927)++(nb 623 (fs 623 "plain_expressions" 97 0 462 0 1090 ["found","word"] "f77.plainexpr" 927)++(nb 630 (fs 630 "base_expressions" 98 0 469 0 1098 ["found"] "f77.plainexpr" 927)++(nb 637 (fs 637 "char_expressions" 99 0 475 0 1105 [] "f77.plainexpr" 927))))))))))))) (T9 P)
noncomputable def EI(P:Params):BT:=gH ([(3,dN P "law_no0284_01" 1164 107),(12,az .none (list12.take 258)),(644,e0),(645,az (.type "builtin_function_or_method") [(.builtin "type.__prepare__"),(.type "type")]),(646,dw (.type "dict") P [((S "__module__" 1120),(S "f77.limits" 1111)),((S "__qualname__" 1122),(S "Limits" 1121)),((S "__firstlineno__" 1124),(.int 478 1123)),((S "__init__" 1147),(.ref 658)),((S "__static_attributes__" 1156),(.ref 659))] 5),(647,e0),(648,az .none [(I 480),(I 4),(.ref 657)]),(649,az (.type "code") [(S "Limits" 1115),(S "Limits" 1116),(S "/claim/cut.py" 1117),(I 478),(I 0),(I 0),(I 0),(I 0),(.ref 647),(.bool false),(I 181),(.ref 648),.none,.none,.none,.none,(I 1118),(I 478),(S "/claim/cut.py" 1119)]),(650,jO (.type "frame") none [(some (.ref 649)),(some (.ref 3)),(some (.ref 646)),none,(some (S "f77.limits" 1111)),none,(some (.ref 0))]),(651,gG (.type "tuple") [(.int 32 1125),(.int 7 1126),(.int 15 1127),(.int 38 1128),(.int 1000000 1129),(.int 19 1130),(.int 72 1131),(.int 40 1132)]),(652,e0),(653,e1),(654,tq 1136 ["self","width","real_digits","double_digits","top_exponent","steps","continuations","columns","depth"]),(655,e0),(656,cK .none "__init__" "Limits.__init__" 101 1 0 .none .none .none .none none .none .none 0),(657,az (.type "code") [(S "__init__" 1133),(S "Limits.__init__" 1134),(S "/claim/cut.py" 1135),(I 480),(I 9),(I 0),(I 0),(I 3),(.ref 652),(.bool true),(I 181),(.ref 653),.none,(.ref 654),(.ref 655),(.ref 656),(I 1145),(I 480),(S "/claim/cut.py" 1146)]),(658,cK (.type "function") "__init__" "Limits.__init__" 101 1 3 (.ref 651) .none .none (S "f77.limits" 1111) none (.ref 657) .none 0),(659,tq 1148 ["columns","continuations","depth","double_digits","real_digits","steps","top_exponent","width"]),(660,dw (.type "dict") P [((S "__module__" 1120),(S "f77.limits" 1111)),((S "__firstlineno__" 1124),(.int 478 1123)),((S "__init__" 1147),(.ref 658)),((S "__static_attributes__" 1156),(.ref 659)),((S "__dict__" 1158),(.ref 662)),((S "__weakref__" 1160),(.ref 663)),((S "__doc__" 1161),.none)] 4),(661,ki (.type "type") [none,none,(some (S "Limits" 1113)),(some (S "Limits" 1121)),(some (.builtin "object.__new__")),(some (.bool true))] "Limits" [(.type "object")] [(.ref 661),(.type "object")] 660 "Limits" true [] [] false none false),(662,az (.type "getset_descriptor") [(S "__dict__" 1157),(.ref 661),(.builtin "function.__dict__"),(.builtin "function.__dict__#set")]),(663,az (.type "getset_descriptor") [(S "__weakref__" 1159),(.ref 661),(.builtin "ExceptionGroup.__weakref__"),.none]),(664,az (.type "super") [(.ref 661),(.ref 661),(.ref 661)]),(665,az (.type "builtin_function_or_method") [(.builtin "object.__init_subclass__"),(.ref 661)])]++(nb 666 (fs 666 "_law_relations" 103 0 490 0 1166 [] "law_no0284_01" 1164)++(nb 673 (fs 673 "_law_places" 104 0 492 0 1172 [] "law_no0284_01" 1164)++(nb 680 (fs 680 "_law_take" 105 0 494 2 1178 ["pool","many","digit"] "law_no0284_01" 1164)++(nb 687 (fs 687 "_law_number" 106 0 502 1 1187 ["pool"] "law_no0284_01" 1164)++(nb 694 (fs 694 "_law_real" 107 0 504 1 1194 ["pool"] "law_no0284_01" 1164))))))) (EH P)
noncomputable def EJ(P:Params):BT:=gH ([(3,dN P "law_no0284_01" 1164 120),(12,az .none (list12.take 297)),(701,e0),(702,e1),(703,cK .none "_law_text" "_law_text" 108 0 0 .none .none .none .none none .none .none 0),(704,az (.type "code") [(S "_law_text" 1201),(S "_law_text" 1202),(S "/claim/cut.py" 1203),(I 506),(I 1),(I 0),(I 0),(I 3),(.ref 701),(.bool true),(I 181),(.ref 702),.none,.none,.none,(.ref 703),(I 1204),(I 506),(S "/claim/cut.py" 1205)]),(705,cK (.type "function") "_law_text" "_law_text" 108 0 3 .none .none .none (S "law_no0284_01" 1164) none (.ref 704) .none 0)]++(nb 706 (fs 706 "_law_const" 109 0 508 2 1207 ["pool","kind"] "law_no0284_01" 1164)++([(713,e0),(714,e1),(715,cK .none "_law_leaf" "_law_leaf" 110 0 0 .none .none .none .none none .none .none 0),(716,az (.type "code") [(S "_law_leaf" 1215),(S "_law_leaf" 1216),(S "/claim/cut.py" 1217),(I 514),(I 2),(I 0),(I 0),(I 3),(.ref 713),(.bool true),(I 181),(.ref 714),.none,.none,.none,(.ref 715),(I 1218),(I 514),(S "/claim/cut.py" 1219)]),(717,cK (.type "function") "_law_leaf" "_law_leaf" 110 0 3 .none .none .none (S "law_no0284_01" 1164) none (.ref 716) .none 0)]++(nb 718 (fs 718 "_law_index" 111 0 523 2 1221 ["pool","k"] "law_no0284_01" 1164)++([(725,e0),(726,e1),(727,cK .none "_law_tree" "_law_tree" 112 0 0 .none .none .none .none none .none .none 0),(728,az (.type "code") [(S "_law_tree" 1229),(S "_law_tree" 1230),(S "/claim/cut.py" 1231),(I 527),(I 3),(I 0),(I 0),(I 3),(.ref 725),(.bool true),(I 181),(.ref 726),.none,.none,.none,(.ref 727),(I 1232),(I 527),(S "/claim/cut.py" 1233)]),(729,cK (.type "function") "_law_tree" "_law_tree" 112 0 3 .none .none .none (S "law_no0284_01" 1164) none (.ref 728) .none 0)]++(nb 730 (fs 730 "_law_fit" 113 0 554 3 1235 ["over","under","digits","e","size","m","rest"] "law_no0284_01" 1164)++(nb 737 (fs 737 "_law_fraction" 114 0 573 1 1248 ["x"] "law_no0284_01" 1164)++(nb 744 (fs 744 "_law_whole" 115 0 575 2 1255 ["n","width"] "law_no0284_01" 1164)++(nb 751 (fs 751 "_law_toward" 116 0 577 2 1263 ["over","under","n"] "law_no0284_01" 1164)++(nb 758 (fs 758 "_law_power" 117 0 580 3 1272 ["x","n","width"] "law_no0284_01" 1164)++(nb 765 (fs 765 "_law_two" 118 0 588 5 1281 ["word","kind","x","y","width","a","b","c","d"] "law_no0284_01" 1164)++(nb 772 (fs 772 "_law_order" 119 0 602 3 1296 ["kind","x","y","a","b","c","d"] "law_no0284_01" 1164)++(nb 779 (fs 779 "_law_held" 120 0 610 3 1309 ["held","name","index"] "law_no0284_01" 1164)))))))))))))) (EI P)
noncomputable def DF(P:Params):BT:=gH ([(3,dN P "law_no0284_01" 1164 125),(12,az .none (list12.take 312)),(786,e0),(787,e1),(788,cK .none "_law_subscripts" "_law_subscripts" 121 0 0 .none .none .none .none none .none .none 0),(789,az (.type "code") [(S "_law_subscripts" 1318),(S "_law_subscripts" 1319),(S "/claim/cut.py" 1320),(I 612),(I 3),(I 0),(I 0),(I 3),(.ref 786),(.bool true),(I 181),(.ref 787),.none,.none,.none,(.ref 788),(I 1321),(I 612),(S "/claim/cut.py" 1322)]),(790,cK (.type "function") "_law_subscripts" "_law_subscripts" 121 0 3 .none .none .none (S "law_no0284_01" 1164) none (.ref 789) .none 0)]++(nb 791 (fs 791 "_law_value" 122 0 621 3 1324 ["held","tree","width","word","index","x","over","under","y","order"] "law_no0284_01" 1164)++(nb 798 (fs 798 "_law_part" 123 0 653 3 1340 ["held","tree","width","base","index","length","low","high","whole"] "law_no0284_01" 1164)++([(805,e0),(806,e1),(807,cK .none "_law_fill" "_law_fill" 124 0 0 .none .none .none .none none .none .none 0),(808,az (.type "code") [(S "_law_fill" 1355),(S "_law_fill" 1356),(S "/claim/cut.py" 1357),(I 665),(I 2),(I 0),(I 0),(I 3),(.ref 805),(.bool true),(I 181),(.ref 806),.none,.none,.none,(.ref 807),(I 1358),(I 665),(S "/claim/cut.py" 1359)]),(809,cK (.type "function") "_law_fill" "_law_fill" 124 0 3 .none .none .none (S "law_no0284_01" 1164) none (.ref 808) .none 0),(810,e0),(811,e1),(812,cK .none "law" "law" 125 0 0 .none .none .none .none none .none .none 0),(813,az (.type "code") [(S "law" 1361),(S "law" 1362),(S "/claim/cut.py" 1363),(I 682),(I 1),(I 0),(I 0),(I 3),(.ref 810),(.bool true),(I 181),(.ref 811),.none,.none,.none,(.ref 812),(I 1364),(I 682),(S "/claim/cut.py" 1365)]),(814,cK (.type "function") "law" "law" 125 0 3 .none .none .none (S "law_no0284_01" 1164) none (.ref 813) .none 0)])))) (EJ P)
noncomputable def j3(P:Params):List Obj:=[boot_o_0 P,boot_o_1 P,dw .none P [((S "type.__subclasses__.Exception.0" 221),(I 38)),((S "type.__subclasses__.Exception.n" 222),(I 1))] 2,dN P "law_no0284_01" 1164 125,boot_o_4 P,boot_o_5 P,boot_o_6 P,boot_o_7 P,boot_o_8 P,boot_o_9 P,boot_o_10 P,e0,az .none (list12.take 312),az (.type "code") [(S "<module>" 182),(S "<module>" 183),(S "/claim/cut.py" 184),(I 1),(I 0),(I 0),(I 0),(I 0),(.ref 11),(.bool false),(I 181),(.ref 12),.none,.none,.none,.none,(I 185),(I 1),(S "/claim/cut.py" 186)],jO (.type "frame") none [(some (.ref 13)),(some (.ref 3)),(some (.ref 3)),none,(some (S "__main__" 164)),none,(some (.ref 0))]]++(fs 15 "_wall" 0 0 1 1 187 ["k"] "__main__" 164++([gG (.type "tuple") [(.type "Exception")],az (.type "builtin_function_or_method") [(.builtin "type.__prepare__"),(.type "type")],dw (.type "dict") P [((S "__module__" 203),(S "f77.errors" 194)),((S "__qualname__" 205),(S "F77Error" 204)),((S "__firstlineno__" 207),(.int 5 206)),((S "__init__" 215),(.ref 35)),((S "__static_attributes__" 217),(.ref 36))] 5,e0,az .none [(I 7),(I 4),(.ref 34)],az (.type "code") [(S "F77Error" 198),(S "F77Error" 199),(S "/claim/cut.py" 200),(I 5),(I 0),(I 0),(I 0),(I 0),(.ref 25),(.bool false),(I 181),(.ref 26),.none,.none,.none,.none,(I 201),(I 5),(S "/claim/cut.py" 202)],jO (.type "frame") none [(some (.ref 27)),(some (.ref 3)),(some (.ref 24)),none,(some (S "f77.errors" 194)),none,(some (.ref 0))],e0,e1,tq 211 ["self","text"],e0,cK .none "__init__" "F77Error.__init__" 2 1 0 .none .none .none .none none .none .none 0,az (.type "code") [(S "__init__" 208),(S "F77Error.__init__" 209),(S "/claim/cut.py" 210),(I 7),(I 2),(I 0),(I 0),(I 3),(.ref 29),(.bool true),(I 181),(.ref 30),.none,(.ref 31),(.ref 32),(.ref 33),(I 213),(I 7),(S "/claim/cut.py" 214)],cK (.type "function") "__init__" "F77Error.__init__" 2 1 3 .none .none .none (S "f77.errors" 194) none (.ref 34) .none 0,tq 216 ["text"],dw (.type "dict") P [((S "__module__" 203),(S "f77.errors" 194)),((S "__firstlineno__" 207),(.int 5 206)),((S "__init__" 215),(.ref 35)),((S "__static_attributes__" 217),(.ref 36)),((S "__weakref__" 219),(.ref 39)),((S "__doc__" 220),.none)] 3,ki (.type "type") [(some (.ref 22)),none,(some (S "F77Error" 196)),(some (S "F77Error" 204)),(some (.builtin "Exception.__new__")),(some (.bool true))] "F77Error" [(.type "Exception")] [(.ref 38),(.type "Exception"),(.type "BaseException"),(.type "object")] 37 "F77Error" true [] [(.ref 51)] false none false,az (.type "getset_descriptor") [(S "__weakref__" 218),(.ref 38),(.builtin "ExceptionGroup.__weakref__"),.none],az (.type "super") [(.ref 38),(.ref 38),(.ref 38)],az (.type "builtin_function_or_method") [(.builtin "object.__init_subclass__"),(.ref 38)],gG (.type "tuple") [(.ref 38)],az (.type "builtin_function_or_method") [(.builtin "type.__prepare__"),(.type "type")],dw (.type "dict") P [((S "__module__" 232),(S "f77.errors" 194)),((S "__qualname__" 234),(S "RunFault" 233)),((S "__firstlineno__" 236),(.int 10 235)),((S "__static_attributes__" 237),(.ref 49))] 4,e0,e1,az (.type "code") [(S "RunFault" 227),(S "RunFault" 228),(S "/claim/cut.py" 229),(I 10),(I 0),(I 0),(I 0),(I 0),(.ref 45),(.bool false),(I 181),(.ref 46),.none,.none,.none,.none,(I 230),(I 10),(S "/claim/cut.py" 231)],jO (.type "frame") none [(some (.ref 47)),(some (.ref 3)),(some (.ref 44)),none,(some (S "f77.errors" 194)),none,(some (.ref 0))],e0,dw (.type "dict") P [((S "__module__" 232),(S "f77.errors" 194)),((S "__firstlineno__" 236),(.int 10 235)),((S "__static_attributes__" 237),(.ref 49)),((S "__doc__" 238),.none)] 2,ki (.type "type") [(some (.ref 42)),none,(some (S "RunFault" 225)),(some (S "RunFault" 233)),(some (.builtin "Exception.__new__")),(some (.bool true))] "RunFault" [(.ref 38)] [(.ref 51),(.ref 38),(.type "Exception"),(.type "BaseException"),(.type "object")] 50 "RunFault" true [] [] false none false,az (.type "super") [(.ref 51),(.ref 51),(.ref 51)],az (.type "builtin_function_or_method") [(.builtin "object.__init_subclass__"),(.ref 51)]]++(fs 54 "units_of" 11 0 19 1 255 ["kind"] "f77.kinds" 241++([e0,az (.type "builtin_function_or_method") [(.builtin "type.__prepare__"),(.type "type")],dw (.type "dict") P [((S "__module__" 273),(S "f77.memory" 262)),((S "__qualname__" 275),(S "Memory" 274)),((S "__firstlineno__" 277),(.int 27 276)),((S "__init__" 286),(.ref 74)),((S "load" 294),(.ref 81)),((S "store" 303),(.ref 88)),((S "undefine" 311),(.ref 95)),((S "__static_attributes__" 314),(.ref 96))] 8,e0,az .none [(I 29),(I 4),(.ref 73),(I 33),(I 4),(.ref 80),(I 38),(I 4),(.ref 87),(I 44),(I 4),(.ref 94)],az (.type "code") [(S "Memory" 268),(S "Memory" 269),(S "/claim/cut.py" 270),(I 27),(I 0),(I 0),(I 0),(I 0),(.ref 64),(.bool false),(I 181),(.ref 65),.none,.none,.none,.none,(I 271),(I 27),(S "/claim/cut.py" 272)],jO (.type "frame") none [(some (.ref 66)),(some (.ref 3)),(some (.ref 63)),none,(some (S "f77.memory" 262)),none,(some (.ref 0))],e0,e1,tq 281 ["self","numeric","characters"],e0,cK .none "__init__" "Memory.__init__" 14 1 0 .none .none .none .none none .none .none 0,az (.type "code") [(S "__init__" 278),(S "Memory.__init__" 279),(S "/claim/cut.py" 280),(I 29),(I 3),(I 0),(I 0),(I 3),(.ref 68),(.bool true),(I 181),(.ref 69),.none,(.ref 70),(.ref 71),(.ref 72),(I 284),(I 29),(S "/claim/cut.py" 285)],cK (.type "function") "__init__" "Memory.__init__" 14 1 3 .none .none .none (S "f77.memory" 262) none (.ref 73) .none 0,e0,e1,tq 290 ["self","place"],e0,cK .none "load" "Memory.load" 14 2 0 .none .none .none .none none .none .none 0,az (.type "code") [(S "load" 287),(S "Memory.load" 288),(S "/claim/cut.py" 289),(I 33),(I 2),(I 0),(I 0),(I 3),(.ref 75),(.bool true),(I 181),(.ref 76),.none,(.ref 77),(.ref 78),(.ref 79),(I 292),(I 33),(S "/claim/cut.py" 293)],cK (.type "function") "load" "Memory.load" 14 2 3 .none .none .none (S "f77.memory" 262) none (.ref 80) .none 0,e0,e1,tq 298 ["self","place","value"],e0,cK .none "store" "Memory.store" 14 3 0 .none .none .none .none none .none .none 0,az (.type "code") [(S "store" 295),(S "Memory.store" 296),(S "/claim/cut.py" 297),(I 38),(I 3),(I 0),(I 0),(I 3),(.ref 82),(.bool true),(I 181),(.ref 83),.none,(.ref 84),(.ref 85),(.ref 86),(I 301),(I 38),(S "/claim/cut.py" 302)],cK (.type "function") "store" "Memory.store" 14 3 3 .none .none .none (S "f77.memory" 262) none (.ref 87) .none 0,e0,e1,tq 307 ["self","place"],e0,cK .none "undefine" "Memory.undefine" 14 4 0 .none .none .none .none none .none .none 0,az (.type "code") [(S "undefine" 304),(S "Memory.undefine" 305),(S "/claim/cut.py" 306),(I 44),(I 2),(I 0),(I 0),(I 3),(.ref 89),(.bool true),(I 181),(.ref 90),.none,(.ref 91),(.ref 92),(.ref 93),(I 309),(I 44),(S "/claim/cut.py" 310)],cK (.type "function") "undefine" "Memory.undefine" 14 4 3 .none .none .none (S "f77.memory" 262) none (.ref 94) .none 0,tq 312 ["characters","numeric"],dw (.type "dict") P [((S "__module__" 273),(S "f77.memory" 262)),((S "__firstlineno__" 277),(.int 27 276)),((S "__init__" 286),(.ref 74)),((S "load" 294),(.ref 81)),((S "store" 303),(.ref 88)),((S "undefine" 311),(.ref 95)),((S "__static_attributes__" 314),(.ref 96)),((S "__dict__" 316),(.ref 99)),((S "__weakref__" 318),(.ref 100)),((S "__doc__" 319),.none)] 4,ki (.type "type") [none,none,(some (S "Memory" 266)),(some (S "Memory" 274)),(some (.builtin "object.__new__")),(some (.bool true))] "Memory" [(.type "object")] [(.ref 98),(.type "object")] 97 "Memory" true [] [] false none false,az (.type "getset_descriptor") [(S "__dict__" 315),(.ref 98),(.builtin "function.__dict__"),(.builtin "function.__dict__#set")],az (.type "getset_descriptor") [(S "__weakref__" 317),(.ref 98),(.builtin "ExceptionGroup.__weakref__"),.none],az (.type "super") [(.ref 98),(.ref 98),(.ref 98)],az (.type "builtin_function_or_method") [(.builtin "object.__init_subclass__"),(.ref 98)]]++(fs 103 "need_units" 15 0 46 3 322 ["cells","address","count"] "f77.memory" 262++(fs 110 "read_cell" 16 0 49 3 331 ["cells","address","tag","cell"] "f77.memory" 262++(fs 117 "load_number" 17 0 54 3 341 ["cells","kind","address","value"] "f77.memory" 262++(fs 124 "store_number" 18 0 62 4 351 ["cells","kind","address","value"] "f77.memory" 262++(fs 131 "load_text" 19 0 71 3 361 ["cells","address","length","signs"] "f77.memory" 262++(fs 138 "store_text" 20 0 77 3 371 ["cells","address","text","k"] "f77.memory" 262++(fs 145 "pad" 21 0 81 2 381 ["text","length"] "f77.memory" 262++(fs 152 "unit_size" 22 0 83 2 389 ["kind","length"] "f77.memory" 262++(fs 159 "element_place" 23 0 87 2 397 ["place","subscripts","kind","address","length","dims","offset","stride","k","low","high"] "f77.memory" 262++(fs 166 "sub_place" 24 0 101 3 414 ["place","lo","hi","first","last"] "f77.memory" 262++(fs 173 "fit_int" 26 0 108 2 427 ["n","width","most"] "f77.ints" 425++(fs 180 "int_add" 27 0 113 3 436 ["x","y","width"] "f77.ints" 425++(fs 187 "int_sub" 28 0 115 3 445 ["x","y","width"] "f77.ints" 425++(fs 194 "int_mul" 29 0 117 3 454 ["x","y","width"] "f77.ints" 425++(fs 201 "cut_quotient" 30 0 119 2 463 ["x","y","found"] "f77.ints" 425++(fs 208 "int_div" 31 0 122 3 472 ["x","y","width"] "f77.ints" 425++(fs 215 "inverse_power" 32 0 126 2 481 ["x","n"] "f77.ints" 425++(fs 222 "int_power" 33 0 132 3 489 ["x","n","width","found","turn"] "f77.ints" 425++(fs 229 "order_of" 34 0 141 2 500 ["x","y"] "f77.ints" 425++(fs 236 "holds" 35 0 145 2 508 ["op","order"] "f77.ints" 425++(fs 243 "int_binary" 36 0 159 5 516 ["op","kind","x","y","limits"] "f77.ints" 425++(fs 250 "logic_binary" 37 0 171 5 527 ["op","kind","x","y","limits"] "f77.ints" 425++([gG (.type "tuple") [(.int 0 540),(.int 0 541)]]++(fs 258 "count_digits" 42 0 185 1 547 ["n","count"] "f77.reals" 538++(fs 265 "strip_zeros" 43 0 195 2 555 ["m","e"] "f77.reals" 538++(fs 272 "round_digits" 44 0 202 3 563 ["m","e","digits","drop","power","kept","rest"] "f77.reals" 538++(fs 279 "round_real" 45 0 212 4 576 ["m","e","digits","top","lead"] "f77.reals" 538++(fs 286 "exact_add" 46 0 220 2 587 ["x","y","low"] "f77.reals" 538++(fs 293 "exact_mul" 47 0 223 2 596 ["x","y"] "f77.reals" 538++(fs 300 "real_neg" 48 0 225 1 604 ["x"] "f77.reals" 538++(fs 307 "quotient" 49 0 227 4 611 ["over","under","e","digits","shift","kept","rest","m"] "f77.reals" 538++(fs 314 "real_add" 50 0 234 4 625 ["x","y","digits","top","m","e"] "f77.reals" 538++(fs 321 "real_sub" 51 0 237 4 637 ["x","y","digits","top","m","e"] "f77.reals" 538++(fs 328 "real_mul" 52 0 240 4 649 ["x","y","digits","top","m","e"] "f77.reals" 538++(fs 335 "real_div" 53 0 243 4 661 ["x","y","digits","top","m","e"] "f77.reals" 538++(fs 342 "real_compare" 54 0 248 2 673 ["x","y","m"] "f77.reals" 538++(fs 349 "real_of_int" 55 0 253 3 682 ["n","digits","top"] "f77.reals" 538++(fs 356 "real_to_int" 56 0 255 1 691 ["x","m","e","found"] "f77.reals" 538++(fs 363 "raised" 57 0 261 3 701 ["x","n","digits","found"] "f77.reals" 538++(fs 370 "real_power" 58 0 271 4 711 ["x","n","digits","top","m","e"] "f77.reals" 538++(fs 377 "digits_of" 59 0 278 2 723 ["kind","limits"] "f77.reals" 538++(fs 384 "real_binary" 60 0 280 5 731 ["op","kind","x","y","limits","digits","top"] "f77.reals" 538++([gG (.type "tuple") [(.int 1 746),(.int 0 747)],gG (.type "tuple") [(.int 0 748),(.int 0 749)],gG (.type "tuple") [(.ref 391),(.ref 392)]]++(fs 394 "round_parts" 64 0 297 3 753 ["x","digits","top"] "f77.complexes" 744++(fs 401 "complex_add" 65 0 299 4 762 ["x","y","digits","top"] "f77.complexes" 744++(fs 408 "complex_neg" 66 0 301 1 772 ["x"] "f77.complexes" 744++(fs 415 "complex_sub" 67 0 303 4 779 ["x","y","digits","top"] "f77.complexes" 744++(fs 422 "exact_product" 68 0 305 2 789 ["x","y","across"] "f77.complexes" 744++(fs 429 "complex_mul" 69 0 308 4 798 ["x","y","digits","top"] "f77.complexes" 744++(fs 436 "complex_div" 70 0 310 4 808 ["x","y","digits","top","size","whole","across","upward"] "f77.complexes" 744++(fs 443 "guarded_product" 71 0 318 3 822 ["x","y","digits","found","more"] "f77.complexes" 744++(fs 450 "complex_raised" 72 0 322 3 833 ["x","n","digits","found","turn"] "f77.complexes" 744++(fs 457 "complex_power" 73 0 334 4 844 ["x","n","digits","top","found"] "f77.complexes" 744++(fs 464 "complex_binary" 74 0 339 5 855 ["op","kind","x","y","limits","digits","top"] "f77.complexes" 744++(fs 471 "collate" 76 0 358 2 870 ["x","y","wide"] "f77.operate" 868++(fs 478 "text_binary" 77 0 361 5 879 ["op","kind","x","y","limits"] "f77.operate" 868++(fs 485 "all_operations" 78 0 365 0 890 [] "f77.operate" 868++(fs 492 "unary" 79 0 367 4 896 ["op","kind","x","limits"] "f77.operate" 868++(fs 499 "real_as" 80 0 377 4 906 ["value","of","to","limits","digits"] "f77.operate" 868++(fs 506 "convert" 81 0 384 4 917 ["value","of","to","limits"] "f77.operate" 868++([e0,az (.type "builtin_function_or_method") [(.builtin "type.__prepare__"),(.type "type")],dw (.type "dict") P [((S "__module__" 936),(S "f77.plainexpr" 927)),((S "__qualname__" 938),(S "Run" 937)),((S "__firstlineno__" 940),(.int 397 939)),((S "__init__" 953),(.ref 526)),((S "__static_attributes__" 969),(.ref 527))] 5,e0,az .none [(I 399),(I 4),(.ref 525)],az (.type "code") [(S "Run" 931),(S "Run" 932),(S "/claim/cut.py" 933),(I 397),(I 0),(I 0),(I 0),(I 0),(.ref 516),(.bool false),(I 181),(.ref 517),.none,.none,.none,.none,(I 934),(I 397),(S "/claim/cut.py" 935)],jO (.type "frame") none [(some (.ref 518)),(some (.ref 3)),(some (.ref 515)),none,(some (S "f77.plainexpr" 927)),none,(some (.ref 0))],e0,e1,tq 944 ["self","memory","limits","units","world","expressions","statements"],e0,cK .none "__init__" "Run.__init__" 83 1 0 .none .none .none .none none .none .none 0,az (.type "code") [(S "__init__" 941),(S "Run.__init__" 942),(S "/claim/cut.py" 943),(I 399),(I 7),(I 0),(I 0),(I 3),(.ref 520),(.bool true),(I 181),(.ref 521),.none,(.ref 522),(.ref 523),(.ref 524),(I 951),(I 399),(S "/claim/cut.py" 952)],cK (.type "function") "__init__" "Run.__init__" 83 1 3 .none .none .none (S "f77.plainexpr" 927) none (.ref 525) .none 0,tq 954 ["active","clears","depth","expressions","flows","frame","limits","loops","memory","operations","places","statements","steps","units","world"],dw (.type "dict") P [((S "__module__" 936),(S "f77.plainexpr" 927)),((S "__firstlineno__" 940),(.int 397 939)),((S "__init__" 953),(.ref 526)),((S "__static_attributes__" 969),(.ref 527)),((S "__dict__" 971),(.ref 530)),((S "__weakref__" 973),(.ref 531)),((S "__doc__" 974),.none)] 4,ki (.type "type") [none,none,(some (S "Run" 929)),(some (S "Run" 937)),(some (.builtin "object.__new__")),(some (.bool true))] "Run" [(.type "object")] [(.ref 529),(.type "object")] 528 "Run" true [] [] false none false,az (.type "getset_descriptor") [(S "__dict__" 970),(.ref 529),(.builtin "function.__dict__"),(.builtin "function.__dict__#set")],az (.type "getset_descriptor") [(S "__weakref__" 972),(.ref 529),(.builtin "ExceptionGroup.__weakref__"),.none],az (.type "super") [(.ref 529),(.ref 529),(.ref 529)],az (.type "builtin_function_or_method") [(.builtin "object.__init_subclass__"),(.ref 529)]]++(fs 534 "evaluate" 84 0 415 2 977 ["run","tree"] "f77.plainexpr" 927++(fs 541 "named_place" 85 0 419 2 985 ["run","name","found"] "f77.plainexpr" 927++(fs 548 "bound_of" 86 0 424 2 994 ["run","tree"] "f77.plainexpr" 927++(fs 555 "part_place" 87 0 428 2 1002 ["run","tree","base","low"] "f77.plainexpr" 927++([e0,e1,cK .none "place_of" "place_of" 88 0 0 .none .none .none .none none .none .none 0,az (.type "code") [(S "place_of" 1012),(S "place_of" 1013),(S "/claim/cut.py" 1014),(I 432),(I 2),(I 0),(I 0),(I 3),(.ref 562),(.bool true),(I 181),(.ref 563),.none,.none,.none,(.ref 564),(I 1015),(I 432),(S "/claim/cut.py" 1016)],cK (.type "function") "place_of" "place_of" 88 0 3 .none .none .none (S "f77.plainexpr" 927) none (.ref 565) .none 0]++(fs 567 "eval_const" 89 0 439 2 1018 ["run","tree"] "f77.plainexpr" 927++(fs 574 "eval_place" 90 0 441 2 1026 ["run","tree"] "f77.plainexpr" 927++(fs 581 "eval_conv" 91 0 443 2 1034 ["run","tree"] "f77.plainexpr" 927++(fs 588 "eval_unary" 92 0 445 2 1042 ["run","tree"] "f77.plainexpr" 927++(fs 595 "reckon" 93 0 447 5 1050 ["run","word","kind","left","right"] "f77.plainexpr" 927++(fs 602 "eval_binary" 94 0 451 2 1061 ["run","tree","left","right"] "f77.plainexpr" 927++(fs 609 "eval_compare" 95 0 455 2 1071 ["run","tree","left","right"] "f77.plainexpr" 927++(fs 616 "eval_cat" 96 0 459 2 1081 ["run","tree","left"] "f77.plainexpr" 927++(fs 623 "plain_expressions" 97 0 462 0 1090 ["found","word"] "f77.plainexpr" 927++(fs 630 "base_expressions" 98 0 469 0 1098 ["found"] "f77.plainexpr" 927++(fs 637 "char_expressions" 99 0 475 0 1105 [] "f77.plainexpr" 927++([e0,az (.type "builtin_function_or_method") [(.builtin "type.__prepare__"),(.type "type")],dw (.type "dict") P [((S "__module__" 1120),(S "f77.limits" 1111)),((S "__qualname__" 1122),(S "Limits" 1121)),((S "__firstlineno__" 1124),(.int 478 1123)),((S "__init__" 1147),(.ref 658)),((S "__static_attributes__" 1156),(.ref 659))] 5,e0,az .none [(I 480),(I 4),(.ref 657)],az (.type "code") [(S "Limits" 1115),(S "Limits" 1116),(S "/claim/cut.py" 1117),(I 478),(I 0),(I 0),(I 0),(I 0),(.ref 647),(.bool false),(I 181),(.ref 648),.none,.none,.none,.none,(I 1118),(I 478),(S "/claim/cut.py" 1119)],jO (.type "frame") none [(some (.ref 649)),(some (.ref 3)),(some (.ref 646)),none,(some (S "f77.limits" 1111)),none,(some (.ref 0))],gG (.type "tuple") [(.int 32 1125),(.int 7 1126),(.int 15 1127),(.int 38 1128),(.int 1000000 1129),(.int 19 1130),(.int 72 1131),(.int 40 1132)],e0,e1,tq 1136 ["self","width","real_digits","double_digits","top_exponent","steps","continuations","columns","depth"],e0,cK .none "__init__" "Limits.__init__" 101 1 0 .none .none .none .none none .none .none 0,az (.type "code") [(S "__init__" 1133),(S "Limits.__init__" 1134),(S "/claim/cut.py" 1135),(I 480),(I 9),(I 0),(I 0),(I 3),(.ref 652),(.bool true),(I 181),(.ref 653),.none,(.ref 654),(.ref 655),(.ref 656),(I 1145),(I 480),(S "/claim/cut.py" 1146)],cK (.type "function") "__init__" "Limits.__init__" 101 1 3 (.ref 651) .none .none (S "f77.limits" 1111) none (.ref 657) .none 0,tq 1148 ["columns","continuations","depth","double_digits","real_digits","steps","top_exponent","width"],dw (.type "dict") P [((S "__module__" 1120),(S "f77.limits" 1111)),((S "__firstlineno__" 1124),(.int 478 1123)),((S "__init__" 1147),(.ref 658)),((S "__static_attributes__" 1156),(.ref 659)),((S "__dict__" 1158),(.ref 662)),((S "__weakref__" 1160),(.ref 663)),((S "__doc__" 1161),.none)] 4,ki (.type "type") [none,none,(some (S "Limits" 1113)),(some (S "Limits" 1121)),(some (.builtin "object.__new__")),(some (.bool true))] "Limits" [(.type "object")] [(.ref 661),(.type "object")] 660 "Limits" true [] [] false none false,az (.type "getset_descriptor") [(S "__dict__" 1157),(.ref 661),(.builtin "function.__dict__"),(.builtin "function.__dict__#set")],az (.type "getset_descriptor") [(S "__weakref__" 1159),(.ref 661),(.builtin "ExceptionGroup.__weakref__"),.none],az (.type "super") [(.ref 661),(.ref 661),(.ref 661)],az (.type "builtin_function_or_method") [(.builtin "object.__init_subclass__"),(.ref 661)]]++(fs 666 "_law_relations" 103 0 490 0 1166 [] "law_no0284_01" 1164++(fs 673 "_law_places" 104 0 492 0 1172 [] "law_no0284_01" 1164++(fs 680 "_law_take" 105 0 494 2 1178 ["pool","many","digit"] "law_no0284_01" 1164++(fs 687 "_law_number" 106 0 502 1 1187 ["pool"] "law_no0284_01" 1164++(fs 694 "_law_real" 107 0 504 1 1194 ["pool"] "law_no0284_01" 1164++([e0,e1,cK .none "_law_text" "_law_text" 108 0 0 .none .none .none .none none .none .none 0,az (.type "code") [(S "_law_text" 1201),(S "_law_text" 1202),(S "/claim/cut.py" 1203),(I 506),(I 1),(I 0),(I 0),(I 3),(.ref 701),(.bool true),(I 181),(.ref 702),.none,.none,.none,(.ref 703),(I 1204),(I 506),(S "/claim/cut.py" 1205)],cK (.type "function") "_law_text" "_law_text" 108 0 3 .none .none .none (S "law_no0284_01" 1164) none (.ref 704) .none 0]++(fs 706 "_law_const" 109 0 508 2 1207 ["pool","kind"] "law_no0284_01" 1164++([e0,e1,cK .none "_law_leaf" "_law_leaf" 110 0 0 .none .none .none .none none .none .none 0,az (.type "code") [(S "_law_leaf" 1215),(S "_law_leaf" 1216),(S "/claim/cut.py" 1217),(I 514),(I 2),(I 0),(I 0),(I 3),(.ref 713),(.bool true),(I 181),(.ref 714),.none,.none,.none,(.ref 715),(I 1218),(I 514),(S "/claim/cut.py" 1219)],cK (.type "function") "_law_leaf" "_law_leaf" 110 0 3 .none .none .none (S "law_no0284_01" 1164) none (.ref 716) .none 0]++(fs 718 "_law_index" 111 0 523 2 1221 ["pool","k"] "law_no0284_01" 1164++([e0,e1,cK .none "_law_tree" "_law_tree" 112 0 0 .none .none .none .none none .none .none 0,az (.type "code") [(S "_law_tree" 1229),(S "_law_tree" 1230),(S "/claim/cut.py" 1231),(I 527),(I 3),(I 0),(I 0),(I 3),(.ref 725),(.bool true),(I 181),(.ref 726),.none,.none,.none,(.ref 727),(I 1232),(I 527),(S "/claim/cut.py" 1233)],cK (.type "function") "_law_tree" "_law_tree" 112 0 3 .none .none .none (S "law_no0284_01" 1164) none (.ref 728) .none 0]++(fs 730 "_law_fit" 113 0 554 3 1235 ["over","under","digits","e","size","m","rest"] "law_no0284_01" 1164++(fs 737 "_law_fraction" 114 0 573 1 1248 ["x"] "law_no0284_01" 1164++(fs 744 "_law_whole" 115 0 575 2 1255 ["n","width"] "law_no0284_01" 1164++(fs 751 "_law_toward" 116 0 577 2 1263 ["over","under","n"] "law_no0284_01" 1164++(fs 758 "_law_power" 117 0 580 3 1272 ["x","n","width"] "law_no0284_01" 1164++(fs 765 "_law_two" 118 0 588 5 1281 ["word","kind","x","y","width","a","b","c","d"] "law_no0284_01" 1164++(fs 772 "_law_order" 119 0 602 3 1296 ["kind","x","y","a","b","c","d"] "law_no0284_01" 1164++(fs 779 "_law_held" 120 0 610 3 1309 ["held","name","index"] "law_no0284_01" 1164++([e0,e1,cK .none "_law_subscripts" "_law_subscripts" 121 0 0 .none .none .none .none none .none .none 0,az (.type "code") [(S "_law_subscripts" 1318),(S "_law_subscripts" 1319),(S "/claim/cut.py" 1320),(I 612),(I 3),(I 0),(I 0),(I 3),(.ref 786),(.bool true),(I 181),(.ref 787),.none,.none,.none,(.ref 788),(I 1321),(I 612),(S "/claim/cut.py" 1322)],cK (.type "function") "_law_subscripts" "_law_subscripts" 121 0 3 .none .none .none (S "law_no0284_01" 1164) none (.ref 789) .none 0]++(fs 791 "_law_value" 122 0 621 3 1324 ["held","tree","width","word","index","x","over","under","y","order"] "law_no0284_01" 1164++(fs 798 "_law_part" 123 0 653 3 1340 ["held","tree","width","base","index","length","low","high","whole"] "law_no0284_01" 1164++([e0,e1,cK .none "_law_fill" "_law_fill" 124 0 0 .none .none .none .none none .none .none 0,az (.type "code") [(S "_law_fill" 1355),(S "_law_fill" 1356),(S "/claim/cut.py" 1357),(I 665),(I 2),(I 0),(I 0),(I 3),(.ref 805),(.bool true),(I 181),(.ref 806),.none,.none,.none,(.ref 807),(I 1358),(I 665),(S "/claim/cut.py" 1359)],cK (.type "function") "_law_fill" "_law_fill" 124 0 3 .none .none .none (S "law_no0284_01" 1164) none (.ref 808) .none 0,e0,e1,cK .none "law" "law" 125 0 0 .none .none .none .none none .none .none 0,az (.type "code") [(S "law" 1361),(S "law" 1362),(S "/claim/cut.py" 1363),(I 682),(I 1),(I 0),(I 0),(I 3),(.ref 810),(.bool true),(I 181),(.ref 811),.none,.none,.none,(.ref 812),(I 1364),(I 682),(S "/claim/cut.py" 1365)],cK (.type "function") "law" "law" 125 0 3 .none .none .none (S "law_no0284_01" 1164) none (.ref 813) .none 0]))))))))))))))))))))))))))))))))))))))))))))))))))))))))))))))))))))))))))))))))))))))))))))))))))))))))
theorem Cr(w:World)(os:OsState):segRunT treeTable pw w m0 mN 1 267 (sT (T0 w.params) 15 187 os) (piecesOf (aP 0 3) gI cE ⟨0,0,0,0⟩ [topFrame ⟨0,0,0,0⟩])=some (.next,sT (T1 w.params) 42 225 os,cE,⟨5,0,9,24⟩):=by rw[cO,cP];kernel_rfl
theorem Cs(w:World)(os:OsState):segRunT treeTable pw w m0 mN 1 324 (sT (T1 w.params) 42 225 os) (piecesOf (aP 3 11) gI cE ⟨5,0,9,24⟩ [topFrame ⟨0,0,0,0⟩])=some (.next,sT (T2 w.params) 61 266 os,cE,⟨26,0,26,6⟩):=by rw[cO,cP];kernel_rfl
theorem Ct(w:World)(os:OsState):segRunT treeTable pw w m0 mN 1 385 (sT (T2 w.params) 61 266 os) (piecesOf (aP 14 3) gI cE ⟨26,0,26,6⟩ [topFrame ⟨0,0,0,0⟩])=some (.next,sT (T3 w.params) 117 341 os,cE,⟨49,0,53,18⟩):=by rw[cO,cP];kernel_rfl
theorem Cu(w:World)(os:OsState):segRunT treeTable pw w m0 mN 1 394 (sT (T3 w.params) 117 341 os) (piecesOf (aP 17 13) gI cE ⟨49,0,53,18⟩ [topFrame ⟨0,0,0,0⟩])=some (.next,sT (T4 w.params) 201 463 os,cE,⟨117,0,118,32⟩):=by rw[cO,cP];kernel_rfl
theorem Cv(w:World)(os:OsState):segRunT treeTable pw w m0 mN 1 386 (sT (T4 w.params) 201 463 os) (piecesOf (aP 30 15) gI cE ⟨117,0,118,32⟩ [topFrame ⟨0,0,0,0⟩])=some (.next,sT (T5 w.params) 279 576 os,cE,⟨202,0,211,28⟩):=by rw[cO,cP];kernel_rfl
theorem Cw(w:World)(os:OsState):segRunT treeTable pw w m0 mN 1 390 (sT (T5 w.params) 279 576 os) (piecesOf (aP 45 12) gI cE ⟨202,0,211,28⟩ [topFrame ⟨0,0,0,0⟩])=some (.next,sT (T6 w.params) 363 701 os,cE,⟨255,0,260,37⟩):=by rw[cO,cP];kernel_rfl
theorem Cy(w:World)(os:OsState):segRunT treeTable pw w m0 mN 1 391 (sT (T6 w.params) 363 701 os) (piecesOf (aP 57 14) gI cE ⟨255,0,260,37⟩ [topFrame ⟨0,0,0,0⟩])=some (.next,sT (T7 w.params) 443 822 os,cE,⟨310,0,317,53⟩):=by rw[cO,cP];kernel_rfl
theorem Cz(w:World)(os:OsState):segRunT treeTable pw w m0 mN 1 342 (sT (T7 w.params) 443 822 os) (piecesOf (aP 71 12) gI cE ⟨310,0,317,53⟩ [topFrame ⟨0,0,0,0⟩])=some (.next,sT (T8 w.params) 513 929 os,cE,⟨396,0,396,8⟩):=by rw[cO,cP];kernel_rfl
theorem CA(w:World)(os:OsState):segRunT treeTable pw w m0 mN 1 391 (sT (T8 w.params) 513 929 os) (piecesOf (aP 83 6) gI cE ⟨396,0,396,8⟩ [topFrame ⟨0,0,0,0⟩])=some (.next,sT (T9 w.params) 567 1018 os,cE,⟨432,0,438,16⟩):=by rw[cO,cP];kernel_rfl
theorem CB(w:World)(os:OsState):segRunT treeTable pw w m0 mN 1 345 (sT (T9 w.params) 567 1018 os) (piecesOf (aP 89 12) gI cE ⟨432,0,438,16⟩ [topFrame ⟨0,0,0,0⟩])=some (.next,sT (EH w.params) 644 1113 os,cE,⟨477,0,477,8⟩):=by rw[cO,cP];kernel_rfl
theorem zY(w:World)(os:OsState):segRunT treeTable pw w m0 mN 1 400 (sT (EH w.params) 644 1113 os) (piecesOf (aP 101 7) gI cE ⟨477,0,477,8⟩ [topFrame ⟨0,0,0,0⟩])=some (.next,sT (EI w.params) 701 1201 os,cE,⟨504,0,505,78⟩):=by rw[cO,cP];kernel_rfl
theorem zZ(w:World)(os:OsState):segRunT treeTable pw w m0 mN 1 398 (sT (EI w.params) 701 1201 os) (piecesOf (aP 108 13) gI cE ⟨504,0,505,78⟩ [topFrame ⟨0,0,0,0⟩])=some (.next,sT (EJ w.params) 786 1318 os,cE,⟨610,0,611,32⟩):=by rw[cO,cP];kernel_rfl
theorem z_(w:World)(os:OsState):segRunT treeTable pw w m0 mN 1 154 (sT (EJ w.params) 786 1318 os) (piecesOf (aP 121 5) gI cE ⟨610,0,611,32⟩ [topFrame ⟨0,0,0,0⟩])=some (.next,sT (DF w.params) 815 1367 os,cE,⟨682,0,704,56⟩):=by rw[cO,cP];kernel_rfl
end
section
abbrev rw':OpenLaw:=PySem.Challenge.rw_no0284_01
theorem CC:∀ w:World,(fencedOpening treeTable pw w 9234).map (λs=>(s.heap,s.gens,s.drawn,s.toks))=some (boot_heap w.params,Array.mk [],boot_drawn,boot_toks):=
 boot_open (p:=pw) (N:=9234) (by kernel_rfl) (by decide +kernel) (λs=>by kernel_rfl)
theorem uO:∀ w:World,((boot_heap w.params).isNs mainGlobals&&(Array.mk []:Array GenState).size==0,(boot_heap w.params).objs.size,(boot_heap w.params).nsMap mainGlobals "__annotations__")=(true,m0,mN):=λw=>by kernel_rfl
theorem EK(w:World)(os:OsState):topGo treeTable pw w m0 mN 12 ⟨boot_heap w.params,Array.mk [],boot_drawn,boot_toks,os⟩ (topStub pw)=some ((sT (T0 w.params) 15 187 os).abs,⟨denote treeTable cE,cE,⟨0,0,0,0⟩,[topFrame ⟨0,0,0,0⟩]⟩):=by kernel_rfl
theorem CD(w:World)(os:OsState):segRun treeTable pw w m0 mN 1 1 (sT (T0 w.params) 15 187 os).abs (blockOf (behindTheImports pw) gI cE ⟨0,0,0,0⟩ [topFrame ⟨0,0,0,0⟩])=some (.next,(sT (T0 w.params) 15 187 os).abs,cE,⟨0,0,0,0⟩):=by kernel_rfl
theorem EL(w:World)(os:OsState)(s:SharedT)(p:Pos):topRun treeTable pw w m0 mN 2 s.abs ⟨doneF .next,cE,p,[topFrame ⟨0,0,0,0⟩]⟩=some s.abs:=by kernel_rfl
noncomputable def HE(P:Params):Heap:=⟨(j3 P).toArray,{}⟩
theorem DM(P:Params):absHeap (DF P) 815 {}=HE P:=by kernel_rfl
theorem FG(w:World)(os:OsState):topRun treeTable pw w m0 mN (12+(1+(267+(324+(385+(394+(386+(390+(391+(342+(391+(345+(400+(398+(154+2))))))))))))))) ⟨boot_heap w.params,Array.mk [],boot_drawn,boot_toks,os⟩ (topStub pw)=some (sT (DF w.params) 815 1367 os).abs:=by
 refine go_top (EK w os) ?_;refine piece_block (CD w os) ?_;have hb:behindTheImports pw=(aP 0 3++(aP 3 11++(aP 14 3++(aP 17 13++(aP 30 15++(aP 45 12++(aP 57 14++(aP 71 12++(aP 83 6++(aP 89 12++(aP 101 7++(aP 108 13++(aP 121 5++[]))))))))))))):=by kernel_rfl
 have z:topRun treeTable pw w m0 mN (267+(324+(385+(394+(386+(390+(391+(342+(391+(345+(400+(398+(154+2))))))))))))) (sT (T0 w.params) 15 187 os).abs (restOf (aP 0 3++(aP 3 11++(aP 14 3++(aP 17 13++(aP 30 15++(aP 45 12++(aP 57 14++(aP 71 12++(aP 83 6++(aP 89 12++(aP 101 7++(aP 108 13++(aP 121 5++[]))))))))))))) gI cE ⟨0,0,0,0⟩ [topFrame ⟨0,0,0,0⟩])=some (sT (DF w.params) 815 1367 os).abs:=
  piece_app (rest:=(aP 3 11++(aP 14 3++(aP 17 13++(aP 30 15++(aP 45 12++(aP 57 14++(aP 71 12++(aP 83 6++(aP 89 12++(aP 101 7++(aP 108 13++(aP 121 5++[]))))))))))))) (segRun_of (Cr w os)) (piece_app (rest:=(aP 14 3++(aP 17 13++(aP 30 15++(aP 45 12++(aP 57 14++(aP 71 12++(aP 83 6++(aP 89 12++(aP 101 7++(aP 108 13++(aP 121 5++[])))))))))))) (segRun_of (Cs w os)) (piece_app (rest:=(aP 17 13++(aP 30 15++(aP 45 12++(aP 57 14++(aP 71 12++(aP 83 6++(aP 89 12++(aP 101 7++(aP 108 13++(aP 121 5++[]))))))))))) (segRun_of (Ct w os)) (piece_app (rest:=(aP 30 15++(aP 45 12++(aP 57 14++(aP 71 12++(aP 83 6++(aP 89 12++(aP 101 7++(aP 108 13++(aP 121 5++[])))))))))) (segRun_of (Cu w os)) (piece_app (rest:=(aP 45 12++(aP 57 14++(aP 71 12++(aP 83 6++(aP 89 12++(aP 101 7++(aP 108 13++(aP 121 5++[]))))))))) (segRun_of (Cv w os)) (piece_app (rest:=(aP 57 14++(aP 71 12++(aP 83 6++(aP 89 12++(aP 101 7++(aP 108 13++(aP 121 5++[])))))))) (segRun_of (Cw w os)) (piece_app (rest:=(aP 71 12++(aP 83 6++(aP 89 12++(aP 101 7++(aP 108 13++(aP 121 5++[]))))))) (segRun_of (Cy w os)) (piece_app (rest:=(aP 83 6++(aP 89 12++(aP 101 7++(aP 108 13++(aP 121 5++[])))))) (segRun_of (Cz w os)) (piece_app (rest:=(aP 89 12++(aP 101 7++(aP 108 13++(aP 121 5++[]))))) (segRun_of (CA w os)) (piece_app (rest:=(aP 101 7++(aP 108 13++(aP 121 5++[])))) (segRun_of (CB w os)) (piece_app (rest:=(aP 108 13++(aP 121 5++[]))) (segRun_of (zY w os)) (piece_app (rest:=(aP 121 5++[])) (segRun_of (zZ w os)) (piece_app (rest:=[]) (segRun_of (z_ w os)) (EL w os _ _)))))))))))))
 rw[<-hb]at z;exact z
theorem EM(w:World)(os:OsState):topRun treeTable pw w m0 mN (12+(1+(267+(324+(385+(394+(386+(390+(391+(342+(391+(345+(400+(398+(154+2))))))))))))))) ⟨boot_heap w.params,Array.mk [],boot_drawn,boot_toks,os⟩ (topStub pw)=some ⟨HE w.params,#[],{},1367,os⟩:=by
 have e:(sT (DF w.params) 815 1367 os).abs=⟨absHeap (DF w.params) 815 {},#[],{},1367,os⟩:=by kernel_rfl
 rw[FG,e,DM]
noncomputable def Aa:Stmt:=(pw.main.body[125]?).getD (.Pass ⟨0,0,0,0⟩)
noncomputable def qv:Program:=view pw [125]
noncomputable def BY:List Str:=(["_wall","F77Error","RunFault","INTEGER","REAL","DOUBLE","COMPLEX","LOGICAL","CHARACTER","units_of","SECOND","Memory","need_units","read_cell","load_number","store_number","load_text","store_text","pad","unit_size","element_place","sub_place","fit_int","int_add","int_sub","int_mul","cut_quotient","int_div","inverse_power","int_power","order_of","holds","int_binary","logic_binary","NOUGHT","GUARD","EXACT_POWER","count_digits","strip_zeros","round_digits","round_real","exact_add","exact_mul","real_neg","quotient","real_add","real_sub","real_mul","real_div","real_compare","real_of_int","real_to_int","raised","real_power","digits_of","real_binary","ONE","EXACT_COMPLEX_POWER","round_parts","complex_add","complex_neg","complex_sub","exact_product","complex_mul","complex_div","guarded_product","complex_raised","complex_power","complex_binary","collate","text_binary","all_operations","unary","real_as","convert","Run","evaluate","named_place","bound_of","part_place","place_of","eval_const","eval_place","eval_conv","eval_unary","reckon","eval_binary","eval_compare","eval_cat","plain_expressions","base_expressions","char_expressions","Limits","_law_relations","_law_places","_law_take","_law_number","_law_real","_law_text","_law_const","_law_leaf","_law_index","_law_tree","_law_fit","_law_fraction","_law_whole","_law_toward","_law_power","_law_two","_law_order","_law_held","_law_subscripts","_law_value","_law_part","_law_fill"]:List String).map Str.ofString
noncomputable def DN:Stmt->DefRec
 | .FunctionDef nm a b _ _ _ sc _ _ p=>⟨nm,a,b,sc,p⟩
 | _=>⟨Str.ofString "",iw.1,[],iw.2.2,⟨0,0,0,0⟩⟩
noncomputable def xy:DefRec:=DN Aa
noncomputable def Ab:Nat->List Obj->Frag
 | _,[]=>[]
 | n,o::r=>(n,o)::Ab (n+1) r
noncomputable def KH(P:Params):Frag:=Ab 0 (j3 P)
theorem pJ(L:List Obj):∀ (n a:Nat) (o:Obj),(Ab n L).lookup a=some o->n<=a/\L[a - n]?=some o:=by
 induction L with
 | nil=>intro n a o h;exact nomatch h
 | cons x L ih=>
  intro n a o h;simp only[Ab,List.lookup_cons]at h;refine PU (P8 (a=n)) (λe=>?_) λe=>?_
  ·subst e;rw[beq_self_eq_true]at h;rw[Nat.sub_self];exact⟨Nat.le_refl _,h⟩
  ·rw[beq_eq_false_iff_ne.mpr e]at h;refine PT (λh1 h2=>⟨Nat.le_of_succ_le h1, ?_⟩) (ih (n+1) a o h);rw[(Nat.succ_pred_eq_of_pos (Nat.sub_pos_of_lt h1)).symm,List.getElem?_cons_succ];exact h2
theorem vQ(P:Params):(j3 P).all (λo=>!o.isFreed)=true:=by kernel_rfl
noncomputable def HK:Hook:=⟨List Obj,λs=>s.heap.objs.toList,λw=>j3 w.params,λw h=>(KH w.params).In h,λw s e a o h=>by
 obtain⟨_,h2⟩:=pJ _ _ _ _ h;rw[Nat.sub_zero]at h2;refine Heap.get?_some_iff.mpr ⟨?_, ?_⟩
 ·rw[<-e]at h2;simpa using h2
 ·have:=List.all_eq_true.mp (vQ w.params) o (List.mem_of_getElem? h2)
  simpa using this,λw h h' x k=>Frag.In.keeps x k⟩
abbrev EN(s:Shared):Bool:=xlAt qv [] s&&recOk (RowW.records rw'.row.toRowW) s
noncomputable def sE(w:World)(os:OsState):Shared:=⟨HE w.params,#[],{},1367,os⟩
theorem DO(w:World)(os:OsState):(staticsOk (importedModules pw.main.body) (boot_heap w.params) (HE w.params)&&namesBound pw (HE w.params)&&gensDone (sE w os)&&laidKept (boot_heap w.params) (HE w.params))=true:=by kernel_rfl
theorem DP(w:World)(os:OsState):openSeen qv BY (importedModules pw.main.body) EN true (sE w os)=openGood qv BY:=by kernel_rfl
theorem DQ:LeftO pw qv BY EN HK.obs HK.val 9234:=
 LeftO.of_pieces (H₀:=boot_heap) (H₁:=HE) (gs₀:=Array.mk []) (gs₁:=#[]) (d₀:=boot_drawn) (d₁:={}) (k₀:=boot_toks) (k₁:=1367) CC uO EM (by decide +kernel)
  (λw=>funext λos=>Prod.ext (DO w os) (Prod.ext (DP w os) rfl))
theorem EO:OpenLaw.wellSaid rw'=true:=(congrFun PySem.W.Fast.te9446332074065402090 _).trans (by kernel_rfl)
theorem head(h:WalkO qv BY (XL qv []) HK.says rw'.row.toRowW xy [] (λf vs=>PySem.call f vs)):rw'.Holds:=by refine holds_law EO λok=>?_;refine holds_open (q:=qv) (loose:=BY) (Xt:=EN) (XP:=XL qv []) (Yf:=HK.obs) (Ya:=HK.val) (YP:=HK.says) (d:=xy) (kwd:=[]) (N:=9234) DQ HK.of HK.keeps (λs e=>xl_of s (PZ e).1) XL.keeps (by kernel_rfl) (by kernel_rfl) (by kernel_rfl) (λs e=>recFacts_of (PZ e).2) (by rfl) ok (by decide +kernel) ⟨rfl,rfl,rfl,rfl,rfl,by decide +kernel⟩ ?hw h;exact⟨[.list []],by decide +kernel,by decide +kernel⟩
end
end Mine
end
noncomputable section
namespace Mine
set_option genSizeOfSpec false
set_option genInjectivity false
open PySem PySem.W PySem.Calls PyProof.Rows
inductive D where
 | none | bool (b:Bool) | int (i:Int) | str (s:Str)
 | tup (l:List D) | list (l:List D) | sdict (l:List (Str×D)) | idict (l:List (Int×D))
 | ref (i:Nat) | inst (c:Str) (i:Nat) | fn (x:Str) | blt (x:Str)
 | range (a b:Int) | items (l:List (Str×D))
inductive Cell where
 | list (l:List D) | sdict (l:List (Str×D)) | tdict (l:List (List Int×D))
abbrev St:=List Cell
inductive R(α:Type) where
 | ok (a:α) (σ:St) | exc (σ:St) | stuck
abbrev M(α:Type):=St->R α
noncomputable def ret{α}(a:α):M α:=λσ=>.ok a σ
noncomputable def stuck{α}:M α:=λ_=>.stuck
noncomputable def aQ{α}:M α:=λσ=>.exc σ
noncomputable def bnd{α β}(m:M α)(f:α->M β):M β:=λσ=>match m σ with
 | .ok a σ'=>f a σ'
 | .exc σ'=>.exc σ'
 | .stuck=>.stuck
noncomputable def ef(c:Cell):M Nat:=λσ=>.ok σ.length (σ++[c])
noncomputable def cell(i:Nat):M Cell:=λσ=>match σ[i]? with | some c=>.ok c σ | Option.none=>.stuck
noncomputable def xq(i:Nat)(c:Cell):M Unit:=λσ=>.ok () (σ.set i c)
abbrev af:=List (Str×D)
abbrev Sc:=List (Str×NameKind)
noncomputable def aj:af->Str->D->af
 | [],x,d=>[(x,d)]
 | (y,e)::r,x,d=>if y=x then (y,d)::r else (y,e)::aj r x d
noncomputable def nm(x:String):Str:=Str.ofString x
noncomputable def xr:Nat:=2 ^ 8192
noncomputable def fits(i:Int):Bool:=decide (i.natAbs<xr)
noncomputable def cA:D->M Bool
 | .bool b=>ret b
 | .int i=>ret (i !=0)
 | _=>stuck
noncomputable def dk:D->M D
 | .int i=>ret (.int (-i))
 | _=>stuck
noncomputable def am(n:Nat):Bool:=decide (n<=1000000)
noncomputable def DR(op:Operator)(a b:Int):M D:=match op with
 | .Add=>ret (.int (a+b))
 | .Sub=>ret (.int (a - b))
 | .Mult=>if fits a&&fits b then ret (.int (a*b)) else stuck
 | .FloorDiv=>if b≠0/\fits a/\fits b then ret (.int (a.fdiv b)) else stuck
 | .Mod=>if b≠0 then ret (.int (a.fmod b)) else stuck
 | .Pow=>if 0<=b/\b<=4000/\fits a then ret (.int (a ^ b.toNat)) else stuck
 | .LShift=>if 0<=b/\b<=4000/\fits a then ret (.int (a*2 ^ b.toNat)) else stuck
 | _=>stuck
noncomputable def DS(op:Operator)(a b:Str):M D:=match op with
 | .Add=>if am a.length&&am b.length then ret (.str (a++b)) else stuck
 | _=>stuck
noncomputable def DT(op:Operator)(a:Str)(n:Int):M D:=match op with
 | .Mult=>if a=nm " " ∧ -1000000<=n/\n<=1000000 then ret (.str ⟨Array.replicate n.toNat 32⟩) else stuck
 | _=>stuck
noncomputable def EP(op:Operator)(l:List D)(n:Int):M D:=match l with
 | []=>stuck
 | x::r=>match r with
  | []=>match op with
   | .Mult=>if 0<=n/\n<=1000000 then bnd (ef (.list (List.replicate n.toNat x))) λi=>ret (.ref i) else stuck
   | _=>stuck
  | _::_=>stuck
noncomputable def asInt{α:Type}(a:D)(f:Int->M α):M α:=if h:a.ctorIdx=2 then D.int.elim a h f else stuck
theorem kj{α:Type}{a:D}{f:Int->M α}(P:M α->Prop){C:Prop}(h:P (asInt a f))(k:∀ x,a=.int x->P (f x)->C)(k':P stuck->C):C:=
 if q:a.ctorIdx=2 then D.int.elim (motive_1:=λt=>a=t->P (asInt t f)->C) a q k rfl h else k' ((dif_neg q:asInt a f=stuck) ▸ h)
noncomputable def asStr{α:Type}(a:D)(f:Str->M α):M α:=if h:a.ctorIdx=3 then D.str.elim a h f else stuck
theorem xz{α:Type}{a:D}{f:Str->M α}(P:M α->Prop){C:Prop}(h:P (asStr a f))(k:∀ x,a=.str x->P (f x)->C)(k':P stuck->C):C:=
 if q:a.ctorIdx=3 then D.str.elim (motive_1:=λt=>a=t->P (asStr t f)->C) a q k rfl h else k' ((dif_neg q:asStr a f=stuck) ▸ h)
noncomputable def asBool{α:Type}(a:D)(f:Bool->M α):M α:=if h:a.ctorIdx=1 then D.bool.elim a h f else stuck
theorem vR{α:Type}{a:D}{f:Bool->M α}(P:M α->Prop){C:Prop}(h:P (asBool a f))(k:∀ x,a=.bool x->P (f x)->C)(k':P stuck->C):C:=
 if q:a.ctorIdx=1 then D.bool.elim (motive_1:=λt=>a=t->P (asBool t f)->C) a q k rfl h else k' ((dif_neg q:asBool a f=stuck) ▸ h)
noncomputable def asTup{α:Type}(a:D)(f:List D->M α):M α:=if h:a.ctorIdx=4 then D.tup.elim a h f else stuck
theorem pK{α:Type}{a:D}{f:List D->M α}(P:M α->Prop){C:Prop}(h:P (asTup a f))(k:∀ x,a=.tup x->P (f x)->C)(k':P stuck->C):C:=
 if q:a.ctorIdx=4 then D.tup.elim (motive_1:=λt=>a=t->P (asTup t f)->C) a q k rfl h else k' ((dif_neg q:asTup a f=stuck) ▸ h)
noncomputable def asList{α:Type}(a:D)(f:List D->M α):M α:=if h:a.ctorIdx=5 then D.list.elim a h f else stuck
theorem vS{α:Type}{a:D}{f:List D->M α}(P:M α->Prop){C:Prop}(h:P (asList a f))(k:∀ x,a=.list x->P (f x)->C)(k':P stuck->C):C:=
 if q:a.ctorIdx=5 then D.list.elim (motive_1:=λt=>a=t->P (asList t f)->C) a q k rfl h else k' ((dif_neg q:asList a f=stuck) ▸ h)
noncomputable def ag(op:Operator)(a b:D):M D:=match a with
 | .int a=>asInt b (DR op a)
 | .str a=>match b with
  | .str b=>DS op a b
  | .int n=>DT op a n
  | _=>stuck
 | .list l=>asInt b (EP op l)
 | _=>stuck
mutual
noncomputable def fF(σ:St):D->Option PyData
 | .none=>some .none
 | .bool b=>some (.bool b)
 | .int i=>some (.int i)
 | .str s=>some (.str s)
 | .tup l=>(bN σ l).map .tuple
 | .list l=>(bN σ l).map .list
 | _=>Option.none
noncomputable def bN(σ:St):List D->Option (List PyData)
 | []=>some []
 | x::r=>match fF σ x,bN σ r with
  | some a,some b=>some (a::b)
  | _,_=>Option.none
end
noncomputable def fJ(σ:St):D->D
 | .ref i=>match σ[i]? with
  | some (.list l)=>.list l
  | _=>.ref i
 | d=>d
noncomputable def fM(σ:St):D->D
 | .tup l=>.tup (l.map (fJ σ))
 | d=>fJ σ d
noncomputable def so(a b:D):M Bool:=λσ=>match fF σ (fM σ a),fF σ (fM σ b) with
 | some x,some y=>if SeqAt.shaped x&&SeqAt.shaped y then .ok (PyData.eqv x y) σ else .stuck
 | _,_=>.stuck
noncomputable def isNone:D->Bool
 | .none=>true
 | _=>false
noncomputable def aa:List (Str×D)->Str->Option D
 | [],_=>Option.none
 | (y,d)::r,x=>if y=x then some d else aa r x
noncomputable def gK:List (Int×D)->Int->Option D
 | [],_=>Option.none
 | (y,d)::r,x=>if y=x then some d else gK r x
noncomputable def dy:List (List Int×D)->List Int->Option D
 | [],_=>Option.none
 | (y,d)::r,x=>if y=x then some d else dy r x
noncomputable def fN:List (Str×D)->Str->D->List (Str×D)
 | [],x,d=>[(x,d)]
 | (y,e)::r,x,d=>if y=x then (y,d)::r else (y,e)::fN r x d
noncomputable def xA:List (Int×D)->Int->D->List (Int×D)
 | [],x,d=>[(x,d)]
 | (y,e)::r,x,d=>if y=x then (y,d)::r else (y,e)::xA r x d
noncomputable def gJ:List (List Int×D)->List Int->D->List (List Int×D)
 | [],x,d=>[(x,d)]
 | (y,e)::r,x,d=>if y=x then (y,d)::r else (y,e)::gJ r x d
noncomputable def gL(x y:List Nat):Bool:=decide (x<y)
noncomputable def dY(d:D)(l:List D):M Bool:=λσ=>match fF σ d,bN σ l with
 | some x,some xs=>if PyData.canLay0 x&&PyData.canLayAll0 xs&&decide (PyData.depth x<=64) then .ok (xs.any λy=>PyData.eqv y x) σ else .stuck
 | _,_=>.stuck
noncomputable def mO:D->Bool
 | .fn _ | .blt _=>false
 | _=>true
noncomputable def BZ(d:D):D->M Bool
 | .list l=>dY d l
 | .tup l=>dY d l
 | .idict l=>match d with
  | .int i=>ret (gK l i).isSome
  | _=>stuck
 | .ref i=>
  bnd (cell i) λq0=>match q0,d with
  | .sdict l,.str s=>ret (aa l s).isSome
  | _,_=>stuck
 | _=>stuck
noncomputable def zT(a b:D):M Bool:=match a with
 | .int x=>match b with
  | .int y=>ret (decide (x=y))
  | _=>so a b
 | .str x=>match b with
  | .str y=>ret (decide (x=y))
  | _=>so a b
 | .bool x=>match b with
  | .bool y=>ret (x==y)
  | _=>so a b
 | _=>so a b
noncomputable def EQ(a b:D)(f:Bool->Bool):M Bool:=match b with
 | .none=>if mO a then ret (f (isNone a)) else stuck
 | _=>stuck
noncomputable def Fj(a b:D):M Bool:=match a with
 | .int x=>asInt b λy=>ret (decide (x<y))
 | .str x=>asStr b λy=>ret (gL x.cps.toList y.cps.toList)
 | _=>stuck
noncomputable def Fk(a b:D):M Bool:=match a with
 | .int x=>asInt b λy=>ret (decide (y<x))
 | .str x=>asStr b λy=>ret (gL y.cps.toList x.cps.toList)
 | _=>stuck
noncomputable def ae(op:CmpOp)(a b:D):M Bool:=match op with
 | .Is=>EQ a b id
 | .IsNot=>EQ a b not
 | .In=>BZ a b
 | .NotIn=>bnd (BZ a b) λr=>ret (!r)
 | .Eq=>zT a b
 | .NotEq=>bnd (zT a b) λr=>ret (!r)
 | .Lt=>Fj a b
 | .LtE=>asInt a λx=>asInt b λy=>ret (decide (x<=y))
 | .Gt=>Fk a b
 | .GtE=>asInt a λx=>asInt b λy=>ret (decide (y<=x))
noncomputable def sp{α}(l:List α)(i:Int):Option α:=if 0<=i/\i<=1000000 then l[i.toNat]? else Option.none
noncomputable def dJ:List D->Option (List Int)
 | []=>some []
 | .int i::r=>(dJ r).map (i :: ·)
 | _::_=>Option.none
noncomputable def ac{α}:Option α->M α
 | some a=>ret a
 | Option.none=>stuck
noncomputable def subC(k:D)(c:Cell):M D:=match c with
 | .list l=>asInt k λj=>ac (sp l j)
 | .sdict l=>asStr k λs=>ac (aa l s)
 | .tdict _=>stuck
noncomputable def subD(a k:D):M D:=match a with
 | .tup l=>asInt k λi=>ac (sp l i)
 | .list l=>asInt k λi=>ac (sp l i)
 | .str s=>asInt k λi=>bnd (ac (sp s.cps.toList i)) λc=>ret (.str ⟨#[c]⟩)
 | .sdict l=>asStr k λs=>ac (aa l s)
 | .idict l=>asInt k λi=>ac (gK l i)
 | .ref i=>bnd (cell i) (subC k)
 | _=>stuck
noncomputable def iz(lo hi:D)(n:Nat):Option (Nat×Nat):=match hi with
 | .int b=>match lo with
  | .none=>if 0<=b then some (0,min b.toNat n) else Option.none
  | .int a=>if 0<=a/\0<=b then some (min a.toNat n,min b.toNat n) else Option.none
  | _=>Option.none
 | _=>Option.none
noncomputable def cut{α}(l:List α)(a b:Nat):List α:=(l.drop a).take (b - a)
noncomputable def bt(o lo hi:D):M D:=match o with
 | .str s=>if am s.length then bnd (ac (iz lo hi s.length)) λ(a,b)=>ret (.str ⟨(cut s.cps.toList a b).toArray⟩) else stuck
 | .list l=>if am l.length then bnd (ac (iz lo hi l.length)) λ(a,b)=>ret (.list (cut l a b)) else stuck
 | .ref i=>
  bnd (cell i) λq0=>match q0 with
  | .list l=>if am l.length then bnd (ac (iz lo hi l.length)) λ(a,b)=>ret (.list (cut l a b)) else stuck
  | _=>stuck
 | _=>stuck
noncomputable def ER(i:Nat)(k v:D)(c:Cell):M Unit:=match c with
 | .list l=>asInt k λj=>if 0<=j/\j.toNat<l.length/\am l.length then xq i (.list (l.set j.toNat v)) else stuck
 | .sdict l=>match k with
  | .str s=>if am l.length then xq i (.sdict (fN l s v)) else stuck
  | .tup t=>match l with
   | []=>bnd (ac (dJ t)) λq=>xq i (.tdict [(q,v)])
   | _::_=>stuck
  | _=>stuck
 | .tdict l=>asTup k λt=>bnd (ac (dJ t)) λq=>if am l.length then xq i (.tdict (gJ l q v)) else stuck
noncomputable def cL(o k v:D):M Unit:=match o with
 | .ref i=>bnd (cell i) (ER i k v)
 | _=>stuck
noncomputable def eQ(c:Str):List Str:=
 if c=nm "Memory" then [nm "numeric",nm "characters"]
 else if c=nm "Run" then (["memory","limits","units","world","expressions","statements","frame","depth","steps","places","flows","clears","active","loops","operations"]:List String).map nm
 else if c=nm "Limits" then (["width","real_digits","double_digits","top_exponent","steps","continuations","columns","depth"]:List String).map nm
 else []
noncomputable def aA(o:D)(a:Str):M D:=match o with
 | .inst c i=>
  bnd (cell i) λq0=>match q0 with
  | .sdict l=>if (eQ c).contains a then bnd (ac (aa l a)) λd=>if mO d then ret d else stuck else stuck
  | _=>stuck
 | _=>stuck
noncomputable def eg(o:D)(a:Str)(v:D):M Unit:=match o with
 | .inst c i=>
  bnd (cell i) λq0=>match q0 with
  | .sdict l=>if (eQ c).contains a&&am l.length then xq i (.sdict (fN l a v)) else stuck
  | _=>stuck
 | _=>stuck
noncomputable def range(a b:Int):List D:=(List.range (b - a).toNat).map λ(k:Nat)=>D.int (a+k)
noncomputable def a_:D->M (List D)
 | .tup l=>ret l
 | .list l=>ret l
 | .range a b=>if -100000<=a/\a<=100000 ∧ -100000<=b/\b<=100000 then ret (range a b) else stuck
 | .sdict l=>ret (l.map λx=>.str x.1)
 | _=>stuck
noncomputable def iA:List D->Option (List Str)
 | []=>some []
 | .str s::r=>(iA r).map (s :: ·)
 | _::_=>Option.none
noncomputable def xB:D->M D
 | .tup l=>if am l.length then ret (.int l.length) else stuck
 | .list l=>if am l.length then ret (.int l.length) else stuck
 | .str s=>if am s.length then ret (.int s.length) else stuck
 | .ref i=>
  bnd (cell i) λq0=>match q0 with
  | .list l=>if am l.length then ret (.int l.length) else stuck
  | _=>stuck
 | _=>stuck
noncomputable def sv:D->M D
 | .tup _=>ret (.bool true)
 | _=>stuck
noncomputable def nO:D->M D
 | .bool _=>ret (.bool true)
 | .none=>ret (.bool false)
 | .int _=>ret (.bool false)
 | .str _=>ret (.bool false)
 | .tup _=>ret (.bool false)
 | _=>stuck
noncomputable def one(as:List D)(f:D->M D):M D:=match as with
 | []=>stuck
 | a::r=>match r with
  | []=>f a
  | _::_=>stuck
noncomputable def two(as:List D)(f:D->D->M D):M D:=match as with
 | []=>stuck
 | a::r=>one r (f a)
noncomputable def numB(g:Int->Int->M D)(k:Bool->Bool->M D)(a b:D):M D:=match a with
 | .int x=>asInt b (g x)
 | .bool x=>asBool b (k x)
 | _=>stuck
noncomputable def B0(a:D):M D:=match a with
 | .ref i=>bnd (cell i) λq0=>match q0 with
  | .list l=>if am l.length then ret (.list l) else stuck
  | _=>stuck
 | _=>stuck
noncomputable def xC(a:D):M D:=match a with
 | .list l=>if am l.length then ret (.tup l) else stuck
 | _=>stuck
noncomputable def DU(a b:D):M D:=match b with
 | .blt t=>if t=nm "tuple" then sv a else if t=nm "bool" then nO a else stuck
 | _=>stuck
noncomputable def DV(a b:D):M D:=asInt a λa=>asInt b λb=>if -100000<=a/\b<=100000 then ret (.range a b) else stuck
noncomputable def xD(as:List D):M D:=match as with
 | []=>stuck
 | a::r=>match r with
  | []=>asInt a λb=>if b<=100000 then ret (.range 0 b) else stuck
  | b::r=>two (a::b::r) DV
noncomputable def au(x:Str)(as:List D):M D:=
 if x=nm "len" then one as xB
 else if x=nm "abs" then one as λa=>asInt a λi=>ret (.int i.natAbs)
 else if x=nm "min" then two as (numB (λa b=>ret (.int (if b<a then b else a))) λa b=>ret (.bool (a&&b)))
 else if x=nm "max" then two as (numB (λa b=>ret (.int (if a<b then b else a))) λa b=>ret (.bool (a||b)))
 else if x=nm "range" then xD as
 else if x=nm "divmod" then two as λa b=>asInt a λa=>asInt b λb=>if b≠0/\fits a/\fits b then ret (.tup [.int (a.fdiv b),.int (a.fmod b)]) else stuck
 else if x=nm "list" then one as B0
 else if x=nm "tuple" then one as xC
 else if x=nm "isinstance" then two as DU
 else stuck
noncomputable def jg(c m:Str):Option Str:=
 if c=nm "Memory" then (if m=nm "load" then some (nm "Memory.load") else if m=nm "store" then some (nm "Memory.store") else Option.none) else Option.none
noncomputable def cB(c:Str):Option Str:=
 if c=nm "Memory" then some (nm "Memory.__init__") else if c=nm "Run" then some (nm "Run.__init__") else if c=nm "Limits" then some (nm "Limits.__init__") else Option.none
inductive Mk where
 | pop | get | join | ljust | items | user (f:Str)
noncomputable def aZ(o:D)(m:Str):M Mk:=match o with
 | .str _=>if m=nm "join" then ret .join else if m=nm "ljust" then ret .ljust else stuck
 | .ref i=>
  bnd (cell i) λq0=>match q0 with
  | .list _=>if m=nm "pop" then ret .pop else stuck
  | _=>if m=nm "get" then ret .get else stuck
 | .sdict _=>if m=nm "items" then ret .items else stuck
 | .inst c i=>
  bnd (cell i) λq0=>match q0 with
  | .sdict l=>if (aa l m).isNone then bnd (ac (jg c m)) λf=>ret (.user f) else stuck
  | _=>stuck
 | _=>stuck
section
variable(call:Str->List D->M D)
noncomputable def B3(s:Str)(a:D):M D:=asList a λl=>bnd (ac (iA l)) λys=>if (ys.map (·.length)).sum+ys.length*s.length<=16777216 then ret (.str (Txt.join s ys)) else stuck
noncomputable def xE(s:Str)(a:D):M D:=asInt a λn=>if PadOk n=true then ret (.str (Txt.ljust s n)) else stuck
noncomputable def DW(a:D)(c:Cell):M D:=match c with
 | .list _=>stuck
 | .sdict l=>match a with
  | .str s=>ret ((aa l s).getD .none)
  | .tup t=>match l with
   | []=>bnd (ac (dJ t)) λ_=>ret .none
   | _::_=>stuck
  | _=>stuck
 | .tdict l=>asTup a λt=>bnd (ac (dJ t)) λq=>ret ((dy l q).getD .none)
noncomputable def DX(i:Nat)(a:D)(c:Cell):M D:=match c with
 | .list l=>match l with
  | []=>stuck
  | x::r=>asInt a λn=>if n=0 then if am r.length then bnd (xq i (.list r)) λ_=>ret x else stuck else stuck
 | _=>stuck
noncomputable def xF(l:List (Str×D))(as:List D):M D:=match as with
 | []=>ret (.items l)
 | _::_=>stuck
noncomputable def bd(o:D)(k:Mk)(as:List D):M D:=match k with
 | .join=>asStr o λs=>one as (B3 s)
 | .ljust=>asStr o λs=>one as (xE s)
 | .get=>match o with
  | .ref i=>one as λa=>bnd (cell i) (DW a)
  | _=>stuck
 | .pop=>match o with
  | .ref i=>one as λa=>bnd (cell i) (DX i a)
  | _=>stuck
 | .items=>match o with
  | .sdict l=>xF l as
  | _=>stuck
 | .user f=>match o with
  | .inst c i=>call f (.inst c i::as)
  | _=>stuck
noncomputable def bO(f:D)(as:List D):M D:=match f with
 | .fn x=>match cB x with
  | some g=>
   bnd (ef (.sdict [])) λi=>
   bnd (call g (.inst x i::as)) λr=>
   if isNone r then ret (.inst x i) else stuck
  | Option.none=>if x=nm "law" then stuck else call x as
 | .blt x=>au x as
 | _=>stuck
noncomputable def xG:Const->M D
 | .none=>ret .none
 | .bool b=>ret (.bool b)
 | .int i=>ret (.int i)
 | .str s=>ret (.str s)
 | _=>stuck
variable(ji:Str->Option D)
noncomputable def xH(x:Str):Bool:=!(x==nm "__debug__")&&!(x==nm "__classdict__")
noncomputable def xI(sc:Sc)(fr:af)(x:Str):M D:=if xH x then match sc.lookup x with
 | some .local | some .cell | some .free=>ac (aa fr x)
 | some .globalImplicit=>ac (ji x)
 | _=>stuck else stuck
structure Rc where
 ev:Sc->af->Expr->M D
 tst:Sc->af->Expr->M Bool
noncomputable def onName{α:Type}(e:Expr)(f:Str->α)(o:α):α:=if h:e.ctorIdx=23 then Expr.Name.elim e h λx _=>f x else o
noncomputable def onAttr{α:Type}(e:Expr)(f:Expr->Str->Pos->α)(o:α):α:=if h:e.ctorIdx=20 then Expr.Attribute.elim e h f else o
noncomputable def km{α:Type}(e:Expr)(f:Expr->List Expr->List Keyword->α)(o:α):α:=if h:e.ctorIdx=16 then Expr.Call.elim e h λg as ks _=>f g as ks else o
noncomputable def onTup{α:Type}(e:Expr)(f:List Expr->α)(o:α):α:=if h:e.ctorIdx=25 then Expr.Tuple.elim e h λes _ _=>f es else o
noncomputable def iB{α:Type}(e:Expr)(f:Const->α)(o:α):α:=if h:e.ctorIdx=19 then Expr.Constant.elim e h λc _ _=>f c else o
noncomputable def onSlice{α:Type}(e:Expr)(f:Option Expr->Option Expr->Option Expr->α)(o:α):α:=if h:e.ctorIdx=26 then Expr.Slice.elim e h λa b c _=>f a b c else o
noncomputable def onSub{α:Type}(e:Expr)(f:Expr->Expr->α)(o:α):α:=if h:e.ctorIdx=21 then Expr.Subscript.elim e h λa b _=>f a b else o
noncomputable def fO(e:Expr):Bool:=e.ctorIdx==22
noncomputable def kq(e:Expr):Bool:=e.ctorIdx==7
noncomputable def nP(e:Expr):Bool:=e.ctorIdx==20
noncomputable def xJ(e:Expr):Bool:=e.ctorIdx==23
noncomputable def iD(e:Expr):Bool:=e.ctorIdx==26
noncomputable def kr(e:Expr):Bool:=e.ctorIdx==16
theorem jh{α:Type}{e:Expr}{f:Str->α}{o:α}(P:α->Prop){C:Prop}(h:P (onName e f o))(k:∀ x p,e=.Name x p->P (f x)->C)(k':P o->C):C:=
 if q:e.ctorIdx=23 then Expr.Name.elim (motive_1:=λt=>e=t->P (onName t f o)->C) e q k rfl h else k' ((dif_neg q:onName e f o=o) ▸ h)
theorem vT{α:Type}{e:Expr}{f:Expr->Str->Pos->α}{o:α}(P:α->Prop){C:Prop}(h:P (onAttr e f o))(k:∀ x a p,e=.Attribute x a p->P (f x a p)->C)(k':nP e=false->P o->C):C:=
 if q:e.ctorIdx=20 then Expr.Attribute.elim (motive_1:=λt=>e=t->P (onAttr t f o)->C) e q k rfl h else k' (decide_eq_false q) ((dif_neg q:onAttr e f o=o) ▸ h)
theorem vU{α:Type}{e:Expr}{f:Expr->List Expr->List Keyword->α}{o:α}(P:α->Prop){C:Prop}(h:P (km e f o))(k:∀ g as ks p,e=.Call g as ks p->P (f g as ks)->C)(k':P o->C):C:=
 if q:e.ctorIdx=16 then Expr.Call.elim (motive_1:=λt=>e=t->P (km t f o)->C) e q k rfl h else k' ((dif_neg q:km e f o=o) ▸ h)
theorem xK{α:Type}{e:Expr}{f:List Expr->α}{o:α}(P:α->Prop){C:Prop}(h:P (onTup e f o))(k:∀ es k p,e=.Tuple es k p->P (f es)->C)(k':P o->C):C:=
 if q:e.ctorIdx=25 then Expr.Tuple.elim (motive_1:=λt=>e=t->P (onTup t f o)->C) e q k rfl h else k' ((dif_neg q:onTup e f o=o) ▸ h)
theorem kt{α:Type}{e:Expr}{f:Const->α}{o:α}(P:α->Prop){C:Prop}(h:P (iB e f o))(k:∀ c k p,e=.Constant c k p->P (f c)->C)(k':P o->C):C:=
 if q:e.ctorIdx=19 then Expr.Constant.elim (motive_1:=λt=>e=t->P (iB t f o)->C) e q k rfl h else k' ((dif_neg q:iB e f o=o) ▸ h)
theorem sA{α:Type}{e:Expr}{f:Option Expr->Option Expr->Option Expr->α}{o:α}(P:α->Prop){C:Prop}(h:P (onSlice e f o))(k:∀ a b c p,e=.Slice a b c p->P (f a b c)->C)(k':iD e=false->P o->C):C:=
 if q:e.ctorIdx=26 then Expr.Slice.elim (motive_1:=λt=>e=t->P (onSlice t f o)->C) e q k rfl h else k' (decide_eq_false q) ((dif_neg q:onSlice e f o=o) ▸ h)
theorem xL{α:Type}{e:Expr}{f:Expr->Expr->α}{o:α}(P:α->Prop){C:Prop}(h:P (onSub e f o))(k:∀ a b p,e=.Subscript a b p->P (f a b)->C)(k':P o->C):C:=
 if q:e.ctorIdx=21 then Expr.Subscript.elim (motive_1:=λt=>e=t->P (onSub t f o)->C) e q k rfl h else k' ((dif_neg q:onSub e f o=o) ▸ h)
noncomputable def uP(r:Rc)(sc:Sc)(fr:af):List Expr->M (List D)
 | []=>ret []
 | e::es=>if fO e then stuck else bnd (r.ev sc fr e) λa=>bnd (uP r sc fr es) λl=>ret (a::l)
noncomputable def DG(r:Rc)(sc:Sc)(fr:af):Option Expr->M D
 | some e=>r.ev sc fr e
 | Option.none=>ret .none
noncomputable def uQ(r:Rc)(sc:Sc)(fr:af)(op:BoolOp):List Expr->M D
 | []=>stuck
 | [e]=>r.ev sc fr e
 | e::es=>
  bnd (r.ev sc fr e) λv=>
  bnd (cA v) λb=>
  match op,b with
  | .And,false | .Or,true=>ret v
  | _,_=>uQ r sc fr op es
noncomputable def CE(r:Rc)(sc:Sc)(fr:af)(op:BoolOp):List Expr->M Bool
 | []=>ret (op==.And)
 | e::es=>
  bnd (r.tst sc fr e) λb=>
  match op,b with
  | .And,false=>ret false
  | .Or,true=>ret true
  | _,_=>CE r sc fr op es
noncomputable def ku(r:Rc)(sc:Sc)(fr:af)(a:D):List CmpOp->List Expr->M Bool
 | [op],[e]=>bnd (r.ev sc fr e) λb=>ae op a b
 | op::ops,e::es=>
  bnd (r.ev sc fr e) λb=>
  bnd (ae op a b) λc=>
  if c then ku r sc fr b ops es else ret false
 | _,_=>stuck
noncomputable def fQ(l:List (Str×D)):List D->List D->Option (List (Str×D))
 | [],[]=>some l
 | .str k::ks,v::vs=>fQ (fN l k v) ks vs
 | _,_=>Option.none
noncomputable def fR(l:List (Int×D)):List D->List D->Option (List (Int×D))
 | [],[]=>some l
 | .int k::ks,v::vs=>fR (xA l k v) ks vs
 | _,_=>Option.none
noncomputable def dO(r:Rc)(sc:Sc)(fr:af):List (Option Expr)->List Expr->M (List D×List D)
 | [],[]=>ret ([],[])
 | some k::ks,v::vs=>
  bnd (r.ev sc fr k) λkd=>
  bnd (r.ev sc fr v) λvd=>
  bnd (dO r sc fr ks vs) λ(a,b)=>
  ret (kd::a,vd::b)
 | _,_=>stuck
noncomputable def pL(r:Rc)(sc:Sc)(fr:af)(ks:List (Option Expr))(vs:List Expr):M (List (Str×D) ⊕ List (Int×D)):=
 if ks.length<=15/\ks.length=vs.length/\ks.all (·.isSome)=true then
  bnd (dO r sc fr ks vs) λ(a,b)=>
  match a with
  | .int _::_=>bnd (ac (fR [] a b)) λl=>ret (.inr l)
  | _=>bnd (ac (fQ [] a b)) λl=>ret (.inl l)
 else stuck
noncomputable def bK(sc:Sc)(c:Scope):Bool:=
 c.kind==.function&&c.names.all λx=>x.2 !=.cell&&(x.2 !=.local||c.names.lookup x.1==some .local)&&(x.2 !=.free||sc.lookup x.1==some .cell||sc.lookup x.1==some .free)
noncomputable def dc(e:Expr):Option Str:=onName e some Option.none
noncomputable def bY(cs:Sc)(g:Comprehension):Option Str:=match g with
 | ⟨t,i,ifs,n⟩=>match dc t with
  | some x=>if ifs.isEmpty=true/\n=0/\cs.lookup x=some .local/\kq i=false then some x else Option.none
  | Option.none=>Option.none
noncomputable def aJ(f:D->List D->M (List D)):List D->List D->M (List D)
 | [],acc=>ret acc
 | d::ds,acc=>bnd (f d acc) λacc'=>aJ f ds acc'
noncomputable def gY(r:Rc)(elt:Expr)(cs:Sc):List Comprehension->af->List D->M (List D)
 | [],fr,acc=>bnd (r.ev cs fr elt) λv=>if am acc.length then ret (acc++[v]) else stuck
 | g::gs,fr,acc=>
  bnd (ac (bY cs g)) λx=>
  if (aa fr x).isNone then
  bnd (r.ev cs fr g.iter) λsrc=>
  bnd (a_ src) λitems=>
  aJ (λd acc=>gY r elt cs gs (aj fr x d) acc) items acc
  else stuck
noncomputable def aN(cs:Sc)(fr:af):af:=fr.filter λx=>cs.lookup x.1==some .free
noncomputable def eh(r:Rc)(sc:Sc)(fr:af)(elt:Expr)(gens:List Comprehension)(cs:Sc):M (List D):=match gens with
 | g::gs=>
  bnd (ac (bY cs g)) λx=>
  bnd (r.ev sc fr g.iter) λsrc=>
  bnd (a_ src) λitems=>
  aJ (λd acc=>gY r elt cs gs (aj (aN cs fr) x d) acc) items []
 | []=>stuck
noncomputable def bT(e:Expr):Bool:=km e (λf as ks=>onName f (λx=>!(as.isEmpty&&ks.isEmpty&&x==nm "super")) true) true
noncomputable def cC:List Expr->Bool
 | []=>true
 | e::r=>!fO e&&cC r
noncomputable def sB(r:Rc):Rc where
 ev sc fr e:=match e with
  | .Constant c _ _=>xG c
  | .Name x _=>xI ji sc fr x
  | .BoolOp op vs _=>uQ r sc fr op vs
  | .BinOp l op b _=>bnd (r.ev sc fr l) λx=>bnd (r.ev sc fr b) λy=>ag op x y
  | .UnaryOp .Not x _=>bnd (r.ev sc fr x) λv=>bnd (cA v) λb=>ret (.bool !b)
  | .UnaryOp .USub x _=>bnd (r.ev sc fr x) λv=>dk v
  | .IfExp t a b _=>bnd (r.tst sc fr t) λc=>if c then r.ev sc fr a else r.ev sc fr b
  | .Dict ks vs _=>
   bnd (pL r sc fr ks vs) λq0=>match q0 with
   | .inl l=>ret (.sdict l)
   | .inr l=>ret (.idict l)
  | .List es _=>bnd (uP r sc fr es) λl=>if am l.length then ret (.list l) else stuck
  | .Tuple es _ _=>bnd (uP r sc fr es) λl=>if am l.length then ret (.tup l) else stuck
  | .ListComp elt gens cs _=>if bK sc cs then bnd (eh r sc fr elt gens cs.names) λl=>ret (.list l) else stuck
  | .Compare l ops es _=>if lastMarks ops es=false/\ops.length=es.length then bnd (r.ev sc fr l) λa=>bnd (ku r sc fr a ops es) λb=>ret (.bool b) else stuck
  | .Call f args ks pos=>onAttr f
   (λo m apos=>if ks.isEmpty&&(bT o&&apos.endLine==pos.line&&decide (args.length<20)&&cC args) then
    bnd (r.ev sc fr o) λov=>
    bnd (aZ ov m) λk=>
    bnd (uP r sc fr args) λas=>
    bd call ov k as else stuck)
   (if ks.isEmpty&&cC args then
    bnd (r.ev sc fr f) λfv=>
    bnd (uP r sc fr args) λas=>
    bO call fv as else stuck)
  | .Attribute o a _=>if bT o then bnd (r.ev sc fr o) λov=>aA ov a else stuck
  | .Subscript v i _=>onSlice i
   (λlo hi st=>if xJ v&&st.isNone then
    bnd (r.ev sc fr v) λov=>
    bnd (DG r sc fr lo) λl=>
    bnd (DG r sc fr hi) λh=>
    bt ov l h else stuck)
   (bnd (r.ev sc fr v) λov=>bnd (r.ev sc fr i) λiv=>subD ov iv)
  | _=>stuck
 tst sc fr e:=match e with
  | .UnaryOp .Not x _=>bnd (r.tst sc fr x) λb=>ret (!b)
  | .BoolOp op vs _=>CE r sc fr op vs
  | .IfExp t a b _=>bnd (r.tst sc fr t) λc=>if c then r.tst sc fr a else r.tst sc fr b
  | .Compare l ops es _=>if lastMarks ops es=false/\ops.length=es.length then bnd (r.ev sc fr l) λa=>ku r sc fr a ops es else stuck
  | e=>bnd (r.ev sc fr e) λv=>cA v
noncomputable def ES:Nat->Rc
 | 0=>⟨λ_ _ _=>stuck,λ_ _ _=>stuck⟩
 | n+1=>sB call ji (ES n)
inductive Flow' where
 | next (fr:af) | ret (d:D)
abbrev K':=af->M Flow'
noncomputable def zU(r:Rc)(sc:Sc)(fr:af)(pool:Bool)(e:Expr):M D:=
 if h:e.ctorIdx=6 then Expr.Dict.elim e h λks vs _=>
  bnd (pL r sc fr ks vs) λq0=>match q0 with
  | .inl l=>bnd (ef (.sdict l)) λi=>ret (.ref i)
  | .inr _=>stuck
 else if h:e.ctorIdx=8 then Expr.ListComp.elim e h λelt gens cs _=>
  if !bK sc cs then stuck else if pool then bnd (eh r sc fr elt gens cs.names) λl=>bnd (ef (.list l)) λi=>ret (.ref i) else bnd (eh r sc fr elt gens cs.names) λl=>ret (.list l)
 else if e.ctorIdx=9\/e.ctorIdx=10 then stuck
 else r.ev sc fr e
noncomputable def gM(sc:Sc)(x:Str):Bool:=match sc.lookup x with
 | some .local | some .cell=>true
 | _=>false
noncomputable def aY(sc:Sc)(fr:af)(x:Str)(d:D):M af:=if gM sc x then ret (aj fr x d) else stuck
noncomputable def bc(sc:Sc)(fr:af):List Expr->List D->M af
 | [],[]=>ret fr
 | t::ts,d::ds=>onName t (λx=>bnd (aY sc fr x d) λfr'=>bc sc fr' ts ds) stuck
 | _,_=>stuck
noncomputable def Ac(r:Rc)(sc:Sc)(fr:af)(v:D)(t:Expr):M af:=onSub t (λo i=>
  bnd (r.ev sc fr o) λov=>
  bnd (r.ev sc fr i) λiv=>
  bnd (cL ov iv v) λ_=>
  ret fr) stuck
noncomputable def Ad(r:Rc)(sc:Sc)(fr:af)(v:D)(t:Expr):M af:=onAttr t (λo a _=>
  bnd (r.ev sc fr o) λov=>
  bnd (eg ov a v) λ_=>
  ret fr) (Ac r sc fr v t)
noncomputable def Ae(r:Rc)(sc:Sc)(fr:af)(v:D)(t:Expr):M af:=onTup t (λts=>asTup v (bc sc fr ts)) (Ad r sc fr v t)
noncomputable def gm(r:Rc)(sc:Sc)(fr:af)(v:D)(t:Expr):M af:=onName t (λx=>aY sc fr x v) (Ae r sc fr v t)
noncomputable def aE(body:af->K'->M Flow')(step:af->D->M af):List D->af->K'->M Flow'
 | [],fr,k=>k fr
 | d::ds,fr,k=>
  bnd (step fr d) λfr'=>
  body fr' λfr''=>aE body step ds fr'' k
noncomputable def ay(body:af->K'->M Flow')(test:af->M Bool):Nat->af->K'->M Flow'
 | 0,_,_=>stuck
 | n+1,fr,k=>
  bnd (test fr) λb=>
  if b then body fr λfr'=>ay body test n fr' k else k fr
noncomputable def vV(m:M D)(f:D->M Flow')(h:M Flow'):M Flow':=λσ=>match m σ with
 | .ok v σ'=>f v σ'
 | .exc σ'=>h σ'
 | .stuck=>.stuck
noncomputable def bE:Str:=nm "RunFault"
noncomputable def cD:Nat:=5000
abbrev Sx:=Sc->Stmt->af->K'->M Flow'
noncomputable def gZ(x:Sx)(sc:Sc):List Stmt->af->K'->M Flow'
 | [],fr,k=>k fr
 | s::ss,fr,k=>x sc s fr λfr'=>gZ x sc ss fr' k
noncomputable def xM(e:Expr):Bool:=onName e (· == nm "pool") false
noncomputable def xN:Operator->Bool
 | .Add | .Sub | .Mult | .FloorDiv=>true
 | _=>false
noncomputable def sC(ts vs:List Expr):Bool:=match ts with
 | [t,u]=>match vs with
  | [a,b]=>match dc t with
   | some x=>match dc u with
    | some y=>!(x==y)&&!([a,b].all (PySem.constantsAlone 8))
    | Option.none=>false
   | Option.none=>false
  | _=>false
 | _=>false
noncomputable def sD(t e:Expr):Bool:=onTup t (λts=>onTup e (sC ts) true) true
noncomputable def sF:List Expr->Bool
 | [e]=>iB e (λc=>c.ctorIdx==5) false
 | _=>false
noncomputable def j4(e:Expr):Option Str:=km e (λg as ks=>if sF as=true/\ks.isEmpty=true then dc g else Option.none) Option.none
noncomputable def xO(sc:Sc):Option Str->M Flow'
 | some f=>if f=bE/\sc.lookup f=some .globalImplicit then aQ else stuck
 | Option.none=>stuck
noncomputable def iE{α:Type}(s:Stmt)(f:List Expr->Expr->α)(o:α):α:=if h:s.ctorIdx=5 then Stmt.Assign.elim s h λts e _=>f ts e else o
theorem pM{α:Type}{e:Stmt}{f:List Expr->Expr->α}{o:α}(P:α->Prop){C:Prop}(h:P (iE e f o))(k:∀ ts v p,e=.Assign ts v p->P (f ts v)->C)(k':P o->C):C:=
 if q:e.ctorIdx=5 then Stmt.Assign.elim (motive_2:=λt=>e=t->P (iE t f o)->C) e q k rfl h else k' ((dif_neg q:iE e f o=o) ▸ h)
noncomputable def dz:List Stmt->Option (Str×Expr)
 | [s]=>iE s (λts e=>match ts with
  | [g]=>(dc g).map λz=>(z,e)
  | _=>Option.none) Option.none
 | _=>Option.none
noncomputable def nQ:List ExceptHandler->Option (Str×List Stmt)
 | [.ExceptHandler (some g) Option.none b _]=>(dc g).map λf=>(f,b)
 | _=>Option.none
noncomputable def uR(e:Expr):Bool:=iB e (λc=>c.ctorIdx==0) false
noncomputable def DY(tr:Bool)(r:Rc)(sc:Sc)(fr:af)(k:K')(z:Str)(e:Expr)(f:Str):Option (Str×Expr)->M Flow'
 | some (y,v)=>if uR v=true/\tr=true/\f=bE/\sc.lookup f=some .globalImplicit/\kr e=true then vV (r.ev sc fr e) (λv=>bnd (aY sc fr z v) k) (bnd (aY sc fr y .none) k) else stuck
 | Option.none=>stuck
noncomputable def DZ(tr:Bool)(r:Rc)(sc:Sc)(fr:af)(k:K'):Option (Str×Expr)->Option (Str×List Stmt)->M Flow'
 | some (z,e),some (f,b)=>DY tr r sc fr k z e f (dz b)
 | _,_=>stuck
noncomputable def uS(op:Operator)(old v:D)(k:D->M Flow'):M Flow':=asInt old λa=>asInt v λb=>bnd (ag op (.int a) (.int b)) k
noncomputable def sG(src:D)(f:List D->M Flow'):M Flow':=if h:src.ctorIdx=13 then D.items.elim src h λl=>f (l.map λx=>.tup [.str x.1,x.2]) else stuck
theorem Af{a:D}{f:List D->M Flow'}(P:M Flow'->Prop){C:Prop}(h:P (sG a f))(k:∀ l,a=.items l->P (f (l.map λx=>.tup [.str x.1,x.2]))->C)(k':P stuck->C):C:=
 if q:a.ctorIdx=13 then D.items.elim (motive_1:=λt=>a=t->P (sG t f)->C) a q k rfl h else k' ((dif_neg q:sG a f=stuck) ▸ h)
noncomputable def EU(r:Rc)(x:Sx)(sc:Sc)(t:Expr)(b:List Stmt)(fr:af)(k:K')(src:D):M Flow':=
 onTup t (λ_=>sG src λitems=>aE (gZ x sc b) (λfr d=>gm r sc fr d t) items fr k) <|
 onName t (λ_=>bnd (a_ src) λitems=>aE (gZ x sc b) (λfr d=>gm r sc fr d t) items fr k) stuck
noncomputable def xP(tr:Bool)(r:Rc)(x:Sx):Sx:=λsc st fr k=>match st with
 | .Pass _=>k fr
 | .Return o _=>match o with
  | some e=>bnd (r.ev sc fr e) λv=>ret (.ret v)
  | Option.none=>ret (.ret .none)
 | .Expr e _=>if kr e then bnd (r.ev sc fr e) λ_=>k fr else stuck
 | .Assign ts e _=>match ts with
  | [t]=>if sD t e then
   bnd (zU r sc fr (xM t) e) λv=>
   bnd (gm r sc fr v t) λfr'=>
   k fr' else stuck
  | _=>stuck
 | .AugAssign t op e _=>onName t (λy=>
   if sc.lookup y=some .local/\xN op=true then
   bnd (ac (aa fr y)) λold=>
   bnd (r.ev sc fr e) λv=>
   uS op old v λn=>
   bnd (aY sc fr y n) λfr'=>
   k fr'
   else stuck) stuck
 | .If t a b _=>
  bnd (r.tst sc fr t) λc=>
  if c then gZ x sc a fr k else gZ x sc b fr k
 | .While t b o _=>match o with
  | []=>ay (gZ x sc b) (λfr=>r.tst sc fr t) cD fr k
  | _=>stuck
 | .For t i b o _=>match o with
  | []=>if kq i=false then bnd (r.ev sc fr i) (EU r x sc t b fr k) else stuck
  | _=>stuck
 | .Raise o c _=>match o,c with
  | some e,Option.none=>xO sc (j4 e)
  | _,_=>stuck
 | .Try b hs o fb _=>match o,fb with
  | [],[]=>DZ tr r sc fr k (dz b) (nQ hs)
  | _,_=>stuck
 | _=>stuck
noncomputable def EV(tr:Bool)(r:Rc):Nat->Sx
 | 0=>λ_ _ _ _=>stuck
 | n+1=>xP tr r (EV tr r n)
noncomputable def vW:Nat:=60
noncomputable def aq:M Flow'->M D:=λm=>
 bnd (m) λq0=>match q0 with
 | .ret d=>ret d
 | .next _=>ret .none
end
end Mine
end
noncomputable section
namespace Mine
open PySem PySem.W PySem.Calls PyProof.Rows
section
noncomputable def fnTab:List (Str×Nat×Nat):=([("units_of",11,0),("Memory.__init__",14,1),("Memory.load",14,2),("Memory.store",14,3),("need_units",15,0),("read_cell",16,0),("load_number",17,0),("store_number",18,0),("load_text",19,0),("store_text",20,0),("pad",21,0),("unit_size",22,0),("element_place",23,0),("sub_place",24,0),("fit_int",26,0),("int_add",27,0),("int_sub",28,0),("int_mul",29,0),("cut_quotient",30,0),("int_div",31,0),("inverse_power",32,0),("int_power",33,0),("order_of",34,0),("holds",35,0),("int_binary",36,0),("logic_binary",37,0),("count_digits",42,0),("strip_zeros",43,0),("round_digits",44,0),("round_real",45,0),("exact_add",46,0),("exact_mul",47,0),("real_neg",48,0),("quotient",49,0),("real_add",50,0),("real_sub",51,0),("real_mul",52,0),("real_div",53,0),("real_compare",54,0),("real_of_int",55,0),("real_to_int",56,0),("digits_of",59,0),("real_binary",60,0),("complex_binary",74,0),("collate",76,0),("text_binary",77,0),("all_operations",78,0),("unary",79,0),("real_as",80,0),("convert",81,0),("Run.__init__",83,1),("evaluate",84,0),("named_place",85,0),("bound_of",86,0),("part_place",87,0),("place_of",88,0),("eval_const",89,0),("eval_place",90,0),("eval_conv",91,0),("eval_unary",92,0),("reckon",93,0),("eval_binary",94,0),("eval_compare",95,0),("eval_cat",96,0),("plain_expressions",97,0),("base_expressions",98,0),("char_expressions",99,0),("Limits.__init__",101,1),("_law_relations",103,0),("_law_places",104,0),("_law_take",105,0),("_law_number",106,0),("_law_real",107,0),("_law_text",108,0),("_law_const",109,0),("_law_leaf",110,0),("_law_index",111,0),("_law_tree",112,0),("_law_fit",113,0),("_law_fraction",114,0),("_law_whole",115,0),("_law_toward",116,0),("_law_power",117,0),("_law_two",118,0),("_law_order",119,0),("_law_held",120,0),("_law_subscripts",121,0),("_law_value",122,0),("_law_part",123,0),("_law_fill",124,0),("law",125,0)]:List (String×Nat×Nat)).map λx=>(nm x.1,x.2)
noncomputable def constTab:List (Str×D):=([("INTEGER",.int 0),("REAL",.int 1),("DOUBLE",.int 2),("COMPLEX",.int 3),("LOGICAL",.int 4),("CHARACTER",.int 5),("SECOND",.int 6),("NOUGHT",.tup [.int 0,.int 0]),("GUARD",.int 8),("EXACT_POWER",.int 64),("ONE",.tup [.tup [.int 1,.int 0],.tup [.int 0,.int 0]]),("EXACT_COMPLEX_POWER",.int 16)]:List (String×D)).map λx=>(nm x.1,x.2)
noncomputable def bltTab:List Str:=(["len","abs","min","max","range","divmod","list","tuple","isinstance","bool"]:List String).map nm
noncomputable def vY(x:Str):Option (Arguments×List Stmt×Scope):=(fnTab.lookup x).bind λp=>fI p.1 p.2
noncomputable def ji(x:Str):Option D:=
 match fnTab.lookup x with
 | some (_,0)=>if x=nm "law" then none else some (.fn x)
 | _=>if (cB x).isSome then some (.fn x) else match constTab.lookup x with
  | some d=>some d
  | none=>if bltTab.contains x then some (.blt x) else none
noncomputable def kx:List Expr->Option (List D)
 | []=>some []
 | .Constant (.int i) _ _::r=>(kx r).map (.int i :: ·)
 | _=>none
noncomputable def fk{α:Type}(ps:List Str)(as dv:List α):Option (List (Str×α)):=
 if as.length<=ps.length then
  let dfl:=dv.drop (dv.length - ps.length)
  let first:=ps.length - dfl.length
  let slots:=ps.zip as
  if ((ps.take first).filter λn=>(slots.lookup n).isNone).isEmpty then
   let slots:=((ps.drop first).zip dfl).foldl (λs p=>if (s.lookup p.1).isNone then s++[p] else s) slots
   some (ps.filterMap λn=>(slots.lookup n).map (n,·))
  else none
 else none
noncomputable def iG(a:Arguments)(as:List D):M af:=match a with
 | ⟨[],ps,none,[],[],none,ds⟩=>
  bnd (ac (kx ds)) λdv=>
  bnd (ac (fk (ps.map (·.arg)) as dv)) λbs=>
  ret (bs.foldl (λfr p=>aj fr p.1 p.2) [])
 | _=>stuck
noncomputable def run:Nat->Str->List D->M D
 | 0,_,_=>stuck
 | d+1,x,as=>
  bnd (ac (vY x)) λf=>
  bnd (iG f.1 as) λfr=>
  aq (gZ (EV (x==nm "law") (ES (run d) ji vW) vW) f.2.2.names f.2.1 fr λfr=>ret (.next fr))
end
section
structure Gh where
 B:Addr->Option Obj
 ρ:List Addr
 σ:St
abbrev sk(w:World):=strKind pw w
abbrev ik(w:World):=intKind pw w
noncomputable def iH(w:World)(x:Str):Option Value:=(nsIn (KH w.params) mainGlobals x).join
noncomputable def jB(w:World)(c:Str)(C:Addr):Prop:=nsIn (KH w.params) mainGlobals c=some (some (.ref C))
noncomputable def BDict{w:World}{K:Type}[DecidableEq K](knd:KeyKind pw w K)(B:Addr->Option Obj)(a:Addr)(kvs:List (K×Value)):Prop:=
 ∃ o es ep,B a=some o/\o.ExactDict/\o.data=.dict es ep/\KeysOf knd es/\Pairs knd es.toList kvs/\(kvs.map (·.1)).Nodup
noncomputable def BSeq(B:Addr->Option Obj)(T:String)(a:Addr)(vs:List Value):Prop:=∃ o n,B a=some o/\o.cls=.type T/\o.data=.seq vs.toArray n
mutual
inductive Rep(w:World)(B:Addr->Option Obj)(ρ:List Addr):Value->D->Prop
 | none:Rep w B ρ .none .none
 | bool (b:Bool):Rep w B ρ (.bool b) (.bool b)
 | int (i:Int) (t:Tok):Rep w B ρ (.int i t) (.int i)
 | str (s:Str) (t:Tok):Rep w B ρ (.str s t) (.str s)
 | tup {a:Addr} {vs:List Value} {ds:List D}:BSeq B "tuple" a vs->RepL w B ρ vs ds->Rep w B ρ (.ref a) (.tup ds)
 | list {a:Addr} {vs:List Value} {ds:List D}:BSeq B "list" a vs->RepL w B ρ vs ds->Rep w B ρ (.ref a) (.list ds)
 | sdict {a:Addr} {kvs:List (Str×Value)} {l:List (Str×D)}:a≠sysModules->BDict (sk w) B a kvs->RepS w B ρ kvs l->Rep w B ρ (.ref a) (.sdict l)
 | idict {a:Addr} {kvs:List (Int×Value)} {l:List (Int×D)}:a≠sysModules->BDict (ik w) B a kvs->RepI w B ρ kvs l->Rep w B ρ (.ref a) (.idict l)
 | ref {i:Nat} {a:Addr}:ρ[i]?=some a->Rep w B ρ (.ref a) (.ref i)
 | inst {c:Str} {C x dx:Addr} {i:Nat}:B x=some (instObj C dx)->ρ[i]?=some dx->jB w c C->(cB c).isSome=true->Rep w B ρ (.ref x) (.inst c i)
 | fn {x:Str} {v:Value}:iH w x=some v->Rep w B ρ v (.fn x)
 | blt {x:Str} {v:Value}:bootBuiltins x=some v->Rep w B ρ v (.blt x)
 | range {r:Addr} {a b:Int} {o:Obj} {t u v:Tok}:B r=some o->o={ cls:=.type "range",data:=.fields #[.int a t,.int b u,.int 1 v] }->Rep w B ρ (.ref r) (.range a b)
 | items {r a:Addr} {l:List (Str×D)} {o:Obj}:B r=some o->o={ cls:=.type "dict_items",data:=.fields #[.ref a] }->Rep w B ρ (.ref a) (.sdict l)->Rep w B ρ (.ref r) (.items l)
inductive RepL(w:World)(B:Addr->Option Obj)(ρ:List Addr):List Value->List D->Prop
 | nil:RepL w B ρ [] []
 | cons {v:Value} {d:D} {vs:List Value} {ds:List D}:Rep w B ρ v d->RepL w B ρ vs ds->RepL w B ρ (v::vs) (d::ds)
inductive RepS(w:World)(B:Addr->Option Obj)(ρ:List Addr):List (Str×Value)->List (Str×D)->Prop
 | nil:RepS w B ρ [] []
 | cons {x:Str} {v:Value} {d:D} {vs:List (Str×Value)} {ds:List (Str×D)}:Rep w B ρ v d->RepS w B ρ vs ds->RepS w B ρ ((x,v)::vs) ((x,d)::ds)
inductive RepI(w:World)(B:Addr->Option Obj)(ρ:List Addr):List (Int×Value)->List (Int×D)->Prop
 | nil:RepI w B ρ [] []
 | cons {x:Int} {v:Value} {d:D} {vs:List (Int×Value)} {ds:List (Int×D)}:Rep w B ρ v d->RepI w B ρ vs ds->RepI w B ρ ((x,v)::vs) ((x,d)::ds)
end
noncomputable def EW(w:World)(B:Addr->Option Obj)(ρ:List Addr)(v:Value):D->Prop
 | .none=>v=.none
 | .bool b=>v=.bool b
 | .int i=>∃ t,v=.int i t
 | .str s=>∃ t,v=.str s t
 | .tup ds=>∃ a vs,v=.ref a/\BSeq B "tuple" a vs/\RepL w B ρ vs ds
 | .list ds=>∃ a vs,v=.ref a/\BSeq B "list" a vs/\RepL w B ρ vs ds
 | .sdict l=>∃ a kvs,v=.ref a/\a≠sysModules/\BDict (sk w) B a kvs/\RepS w B ρ kvs l
 | .idict l=>∃ a kvs,v=.ref a/\a≠sysModules/\BDict (ik w) B a kvs/\RepI w B ρ kvs l
 | .ref i=>∃ a,v=.ref a/\ρ[i]?=some a
 | .inst c i=>∃ C x dx,v=.ref x/\B x=some (instObj C dx)/\ρ[i]?=some dx/\jB w c C/\(cB c).isSome=true
 | .fn x=>iH w x=some v
 | .blt x=>bootBuiltins x=some v
 | .range a b=>∃ r t u z,v=.ref r/\B r=some { cls:=.type "range",data:=.fields #[.int a t,.int b u,.int 1 z] }
 | .items l=>∃ r a,v=.ref r/\B r=some { cls:=.type "dict_items",data:=.fields #[.ref a] }/\Rep w B ρ (.ref a) (.sdict l)
theorem Rep.inv{w:World}{B:Addr->Option Obj}{ρ:List Addr}{v:Value}{d:D}(r:Rep w B ρ v d):EW w B ρ v d:=by
 cases r with
 | none=>rfl
 | bool=>rfl
 | int=>exact⟨_,rfl⟩
 | str=>exact⟨_,rfl⟩
 | tup h1 h2=>exact⟨_,_,rfl,h1,h2⟩
 | list h1 h2=>exact⟨_,_,rfl,h1,h2⟩
 | sdict h1 h2 h3=>exact⟨_,_,rfl,h1,h2,h3⟩
 | idict h1 h2 h3=>exact⟨_,_,rfl,h1,h2,h3⟩
 | ref h=>exact⟨_,rfl,h⟩
 | inst h1 h2 h3 h4=>exact⟨_,_,_,rfl,h1,h2,h3,h4⟩
 | fn h=>exact h
 | blt h=>exact h
 | range h e=>exact⟨_,_,_,_,rfl,e ▸ h⟩
 | items h e h2=>exact⟨_,_,rfl,e ▸ h,h2⟩
inductive RepT(w:World)(B:Addr->Option Obj)(ρ:List Addr):List (List Int×Addr×Value)->List (List Int×D)->Prop
 | nil:RepT w B ρ [] []
 | cons {x:List Int} {a:Addr} {v:Value} {d:D} {us:List Value} {vs:List (List Int×Addr×Value)} {ds:List (List Int×D)} :
   BSeq B "tuple" a us->ItemsAre (ik w) x us->Rep w B ρ v d->RepT w B ρ vs ds->RepT w B ρ ((x,a,v)::vs) ((x,d)::ds)
section
variable{w:World}{B:Addr->Option Obj}{ρ:List Addr}
@[elab_as_elim] theorem RepL.ind {P:List Value->List D->Prop} (h0:P [] []) (h1:∀ {v:Value} {d:D} {vs:List Value} {ds:List D},Rep w B ρ v d->RepL w B ρ vs ds->P vs ds->P (v::vs) (d::ds)) {vs:List Value} {ds:List D} (r:RepL w B ρ vs ds):P vs ds:=by refine RepL.rec (motive_1:=λ_ _ _=>True) (motive_2:=λv d _=>P v d) (motive_3:=λ_ _ _=>True) (motive_4:=λ_ _ _=>True) ?_ ?_ ?_ ?_ ?_ ?_ ?_ ?_ ?_ ?_ ?_ ?_ ?_ ?_ ?_ ?_ ?_ ?_ ?_ ?_ r <;> intros <;> first | trivial | exact h0 | (apply h1 <;> assumption)
@[elab_as_elim] theorem RepS.ind {P:List (Str×Value)->List (Str×D)->Prop} (h0:P [] []) (h1:∀ {x:Str} {v:Value} {d:D} {vs:List (Str×Value)} {ds:List (Str×D)},Rep w B ρ v d->RepS w B ρ vs ds->P vs ds->P ((x,v)::vs) ((x,d)::ds)) {vs:List (Str×Value)} {ds:List (Str×D)} (r:RepS w B ρ vs ds):P vs ds:=by refine RepS.rec (motive_1:=λ_ _ _=>True) (motive_2:=λ_ _ _=>True) (motive_3:=λv d _=>P v d) (motive_4:=λ_ _ _=>True) ?_ ?_ ?_ ?_ ?_ ?_ ?_ ?_ ?_ ?_ ?_ ?_ ?_ ?_ ?_ ?_ ?_ ?_ ?_ ?_ r <;> intros <;> first | trivial | exact h0 | (apply h1 <;> assumption)
@[elab_as_elim] theorem RepI.ind {P:List (Int×Value)->List (Int×D)->Prop} (h0:P [] []) (h1:∀ {x:Int} {v:Value} {d:D} {vs:List (Int×Value)} {ds:List (Int×D)},Rep w B ρ v d->RepI w B ρ vs ds->P vs ds->P ((x,v)::vs) ((x,d)::ds)) {vs:List (Int×Value)} {ds:List (Int×D)} (r:RepI w B ρ vs ds):P vs ds:=by refine RepI.rec (motive_1:=λ_ _ _=>True) (motive_2:=λ_ _ _=>True) (motive_3:=λ_ _ _=>True) (motive_4:=λv d _=>P v d) ?_ ?_ ?_ ?_ ?_ ?_ ?_ ?_ ?_ ?_ ?_ ?_ ?_ ?_ ?_ ?_ ?_ ?_ ?_ ?_ r <;> intros <;> first | trivial | exact h0 | (apply h1 <;> assumption)
end
noncomputable def CellAt(w:World)(G:Gh)(h:Heap)(a:Addr):Cell->Prop
 | .list l=>∃ vs n,h.get? a=some { cls:=.type "list",data:=.seq (List.toArray vs) n }/\RepL w G.B G.ρ vs l
 | .sdict l=>∃ kvs,h.DictOf (sk w) a kvs/\RepS w G.B G.ρ kvs l
 | .tdict l=>∃ xs,h.DictOfH (tupleKind (ik w)) a xs/\RepT w G.B G.ρ xs l
structure Inv(w:World)(Gk:Heap)(G:Gh)(h:Heap):Prop where
 stays:∀ b o,G.B b=some o->h.get? b=some o
 base:∀ b o,Gk.get? b=some o->G.B b=some o
 len:G.ρ.length=G.σ.length
 cell:∀ (i:Nat) (a:Addr) (c:Cell),G.ρ[i]?=some a->G.σ[i]?=some c->CellAt w G h a c
 apart:∀ a∈G.ρ,G.B a=none
 nodup:G.ρ.Nodup
 glo:∃ o,G.B mainGlobals=some o
 sys:∀ a∈G.ρ,a≠sysModules
noncomputable def aV(o:Obj):Prop:=∀ vs,o.data≠.fields vs
structure Rn(w:World)(Gk:Heap)(xt:Bool)(Ib:List Addr)(G:Gh)(s:Shared)(G':Gh)(s':Shared):Prop where
 same:∃ h tk,s'={ s with heap:=h,toks:=tk }
 B:∀ b o,G.B b=some o->G'.B b=some o
 newB:∀ b o,G'.B b=some o->G.B b=some o\/s.heap.get? b=none
 ρ:∃ more,G'.ρ=G.ρ++more/\∀ a∈more,s.heap.get? a=none
 inv:Inv w Gk G' s'.heap
 keep:∀ b o,s.heap.get? b=some o->b∉G.ρ->b∉Ib->∃ sl,s'.heap.get? b=some { o with slots:=sl }/\(xt=true\/(∃ vs,o.data=.fields vs)->sl=o.slots)
 there:∀ b o,s.heap.get? b=some o->∃ o',s'.heap.get? b=some o'/\(aV o->aV o')
variable{w:World}{Gk:Heap}{xt:Bool}
theorem Rep.mono{B B':Addr->Option Obj}{ρ ρ':List Addr}(hB:∀ b o,B b=some o->B' b=some o)(hρ:∃ more,ρ'=ρ++more){v:Value}{d:D}(h:Rep w B ρ v d):Rep w B' ρ' v d:=by
 obtain⟨more,rfl⟩:=hρ;have idx:∀ {i a},ρ[i]?=some a->(ρ++more)[i]?=some a:=λ{i a} e=>by refine PV (List.getElem?_append_left (List.getElem?_eq_some_iff.mp e).1) ?_;exact e
 have seq:∀ {T a vs},BSeq B T a vs->BSeq B' T a vs:=λ⟨o,n,h,r⟩=>⟨o,n,hB _ _ h,r⟩;refine Rep.rec (motive_1:=λv d _=>Rep w B' (ρ++more) v d) (motive_2:=λv d _=>RepL w B' (ρ++more) v d) (motive_3:=λv d _=>RepS w B' (ρ++more) v d) (motive_4:=λv d _=>RepI w B' (ρ++more) v d)
  ?_ ?_ ?_ ?_ ?_ ?_ ?_ ?_ ?_ ?_ ?_ ?_ ?_ ?_ ?_ ?_ ?_ ?_ ?_ ?_ h
 ·exact .none
 ·exact .bool
 ·exact .int
 ·exact .str
 ·exact λh _ ih=>.tup (seq h) ih
 ·exact λh _ ih=>.list (seq h) ih
 ·exact λns ⟨o,es,ep,h,r⟩ _ ih=>.sdict ns ⟨o,es,ep,hB _ _ h,r⟩ ih
 ·exact λns ⟨o,es,ep,h,r⟩ _ ih=>.idict ns ⟨o,es,ep,hB _ _ h,r⟩ ih
 ·exact λh=>.ref (idx h)
 ·exact λh1 h2 h3 h4=>.inst (hB _ _ h1) (idx h2) h3 h4
 ·exact λh=>.fn h
 ·exact λh=>.blt h
 ·exact λh e=>.range (hB _ _ h) e
 ·exact λh e _ ih=>.items (hB _ _ h) e ih
 ·exact .nil
 ·exact λ_ _ a b=>.cons a b
 ·exact .nil
 ·exact λ_ _ a b=>.cons a b
 ·exact .nil
 ·exact λ_ _ a b=>.cons a b
theorem RepL.mono{B B':Addr->Option Obj}{ρ ρ':List Addr}(hB:∀ b o,B b=some o->B' b=some o)(hρ:∃ more,ρ'=ρ++more){v:List Value}{d:List D}(r:RepL w B ρ v d):RepL w B' ρ' v d:=RepL.ind .nil (λa _ b=>.cons (a.mono hB hρ) b) r
theorem RepS.mono{B B':Addr->Option Obj}{ρ ρ':List Addr}(hB:∀ b o,B b=some o->B' b=some o)(hρ:∃ more,ρ'=ρ++more){v:List (Str×Value)}{d:List (Str×D)}(r:RepS w B ρ v d):RepS w B' ρ' v d:=RepS.ind .nil (λa _ b=>.cons (a.mono hB hρ) b) r
theorem RepT.mono{B B':Addr->Option Obj}{ρ ρ':List Addr}(hB:∀ b o,B b=some o->B' b=some o)(hρ:∃ more,ρ'=ρ++more){v:List (List Int×Addr×Value)}{d:List (List Int×D)}(r:RepT w B ρ v d):RepT w B' ρ' v d:=by
 induction r with
 | nil=>exact .nil
 | cons h i a _ b=>exact .cons (aI h λo n h r=>⟨o,n,hB _ _ h,r⟩) i (a.mono hB hρ) b
theorem Rn.refl{G:Gh}{s:Shared}{Ib:List Addr}(I:Inv w Gk G s.heap):Rn w Gk xt Ib G s G s:=
 ⟨⟨_,_,rfl⟩,λ_ _ e=>e,λ_ _ e=>.inl e,⟨[],by simp,dj⟩,I,λ_ o e _ _=>⟨o.slots,e,λ_=>rfl⟩,λ_ o e=>⟨o,e,id⟩⟩
theorem Rn.trans{G Gl Gy:Gh}{s Gm Gs:Shared}{Ib:List Addr}(x:Rn w Gk xt Ib G s Gl Gm)(y:Rn w Gk xt Ib Gl Gm Gy Gs):Rn w Gk xt Ib G s Gy Gs:=by
 refine gE x.same λh1 t1 z1=>?_;obtain rfl:=z1;refine gE y.same λh2 t2 z2=>?_;obtain rfl:=z2;refine ao x.ρ λm1 e1 f1=>?_;refine ao y.ρ λm2 e2 f2=>?_;have fresh:∀ b,h1.get? b=none->s.heap.get? b=none:=λb e=>by
  induction q:s.heap.get? b with
  | none=>rfl
  | some o=>refine ao (x.there b o q) λo' h _=>?_;have h:h1.get? b=some o':=h;exact dt (PV (Eq.symm e) h)
 refine⟨⟨h2,t2,rfl⟩,λb o e=>y.B b o (x.B b o e),λb o e=>?_,⟨m1++m2,by simp only[e2,e1,List.append_assoc],λa ha=>?_⟩,y.inv,λb o e h h'=>?_,λb o e=>?_⟩
 ·rcases y.newB b o e with q | q
  ·exact x.newB b o q
  ·exact .inr (fresh b q)
 ·refine PU (List.mem_append.mp ha) (λq=>?_) λq=>?_
  ·exact f1 a q
  ·exact fresh a (f2 a q)
 ·refine ao (x.keep b o e h h') λsl q qx=>?_;have n:b∉Gl.ρ:=by
   rw[e1];intro z;rcases List.mem_append.mp z with z | z
   ·exact h z
   ·replace e:=(f1 b z) ▸ e;exact dt e
  refine ao (y.keep b _ q n h') λsl' q' qx'=>?_;exact⟨sl',q',λz=>(qx' z).trans (qx z)⟩
 ·refine ao (x.there b o e) λo' q z=>?_;refine ao (y.there b o' q) λo'' q' z'=>?_;exact⟨o'',q',λn=>z' (z n)⟩
theorem Rn.weak{G G':Gh}{s s':Shared}{Ib own':List Addr}(x:Rn w Gk xt Ib G s G' s')(k:∀ b∈Ib,b∈own'):Rn w Gk xt own' G s G' s':=
 ⟨x.same,x.B,x.newB,x.ρ,x.inv,λb o e h h'=>x.keep b o e h λz=>h' (k b z),x.there⟩
theorem Rn.slack{G G':Gh}{s s':Shared}{Ib:List Addr}(x:Rn w Gk xt Ib G s G' s'):Rn w Gk false Ib G s G' s':=
 ⟨x.same,x.B,x.newB,x.ρ,x.inv,λb o e h h'=>let ⟨sl,q,qx⟩:=x.keep b o e h h';⟨sl,q,λz=>qx (.inr (z.elim (λz=>(nomatch z)) id))⟩,x.there⟩
theorem Rn.rep{G G':Gh}{s s':Shared}{Ib:List Addr}(x:Rn w Gk xt Ib G s G' s'){v:Value}{d:D}(h:Rep w G.B G.ρ v d):Rep w G'.B G'.ρ v d:=
 h.mono x.B (let ⟨m,e,_⟩:=x.ρ;⟨m,e⟩)
theorem Rn.repL{G G':Gh}{s s':Shared}{Ib:List Addr}(x:Rn w Gk xt Ib G s G' s'){v:List Value}{d:List D}(h:RepL w G.B G.ρ v d):RepL w G'.B G'.ρ v d:=
 h.mono x.B (let ⟨m,e,_⟩:=x.ρ;⟨m,e⟩)
noncomputable def sH(w:World)(C:Addr):Prop:=jB w bE C
noncomputable def ExcAt(w:World)(h:Heap)(G':Gh)(h':Heap)(Lf:Addr)(x:Value):Prop:=
 ∃ e oe vs C a0,x=.ref e/\h.get? e=none/\G'.B e=none/\h'.get? e=some oe/\sH w C/\oe.cls=.ref C/\oe.data=.fields vs/\vs[0]?=some a0 ∧
  (vs[1]?=some .none\/∃ T oT ts,vs[1]?=some (.ref T)/\h.get? T=none/\G'.B T=none/\T≠e/\h'.get? T=some oT/\oT.data=.fields ts/\(ts[3]?=some .none\/ts[3]?=some (rawInt Lf)))
noncomputable def Ok{α β:Type}(w:World)(Gk:Heap)(xt:Bool)(P:Gh->β->α->Prop)(Ib:List Addr)(Lf:Addr)(G:Gh)(s:Shared)(r:R α)(Q:β->Shared->Prop)(E:Value->Shared->Prop):Prop:=
 match r with
 | .ok d σ'=>∀ v s' G',G'.σ=σ'->Rn w Gk xt Ib G s G' s'->P G' v d->Q v s'
 | .exc σ'=>∀ x s' G',G'.σ=σ'->Rn w Gk false Ib G s G' s'->ExcAt w s.heap G' s'.heap Lf x->E x s'
 | .stuck=>False
theorem ExcAt.back{h Gq:Heap}{G':Gh}{h':Heap}{Lf:Addr}{x:Value}(e:ExcAt w Gq G' h' Lf x)(k:∀ b,Gq.get? b=none->h.get? b=none):ExcAt w h G' h' Lf x:=by
 refine eP e λe oe vs z3=>?_;refine gE z3 λC a0 z4=>?_;refine bo z4 λr1 r2 r3 r4 z5=>?_;refine bo z5 λr5 r6 r7 r8 r9=>?_;refine⟨e,oe,vs,C,a0,r1,k _ r2,r3,r4,r5,r6,r7,r8, ?_⟩;rcases r9 with q | ⟨T,oT,ts,q1,q2,q3⟩
 ·exact .inl q
 ·exact .inr ⟨T,oT,ts,q1,k _ q2,q3⟩
theorem Rn.fresh{G Gl:Gh}{s Gm:Shared}{Ib:List Addr}(x:Rn w Gk xt Ib G s Gl Gm)(b:Addr)(e:Gm.heap.get? b=none):s.heap.get? b=none:=by
 induction q:s.heap.get? b with
 | none=>rfl
 | some o=>refine ao (x.there b o q) λo' h _=>?_;rw[e]at h;injection h
section
variable{α β γ δ:Type}{P:Gh->β->α->Prop}{Hf:Gh->δ->γ->Prop}{Ib G7:List Addr}{Lf:Addr}{G:Gh}{s:Shared}{Q:β->Shared->Prop}{E:Value->Shared->Prop}
theorem Ok.shift{Gl:Gh}{Gm:Shared}{r:R α}(x:Rn w Gk xt Ib G s Gl Gm)(h:Ok w Gk xt P Ib Lf G s r Q E):Ok w Gk xt P Ib Lf Gl Gm r Q E:=by
 induction r with
 | ok d σ'=>exact λv s' G' e y p=>h v s' G' e (x.trans y) p
 | exc σ'=>exact λv s' G' e y p=>h v s' G' e (x.slack.trans y) (p.back λb q=>x.fresh b q)
 | stuck=>exact h
theorem Ok.bind{m:M γ}{f:γ->M α}{Gp:δ->Shared->Prop}(sub:∀ b∈G7,b∈Ib)(h:Ok w Gk xt P Ib Lf G s (bnd m f G.σ) Q E)
  (k:∀ v Gm Gl d,Rn w Gk xt G7 G s Gl Gm->Hf Gl v d->Ok w Gk xt P Ib Lf Gl Gm (f d Gl.σ) Q E->Gp v Gm):Ok w Gk xt Hf G7 Lf G s (m G.σ) Gp E:=by
 unfold bnd at h
 induction hm:m G.σ with
 | ok d σ'=>rw[hm]at h;intro v s' G' e x p;subst e;exact k v s' G' d x p (h.shift (x.weak sub))
 | exc σ'=>replace h:=(hm) ▸ h;exact λx s' G' e y p=>h x s' G' e (y.weak sub) p
 | stuck=>rw[hm]at h;exact h
theorem Ok.now{d:α}(I:Inv w Gk G s.heap)(h:Ok w Gk xt P Ib Lf G s (ret d G.σ) Q E){v:β}(p:P G v d):Q v s:=h v s G rfl (.refl I) p
end
end
section
variable{w:World}{Gk:Heap}{xt:Bool}
theorem RepL.length{B:Addr->Option Obj}{ρ:List Addr}:∀ {v:List Value} {d:List D},RepL w B ρ v d->v.length=d.length:=by
 intro v d r;refine RepL.ind ?_ ?_ r
 ·rfl
 ·intro _ _ _ _ _ _ ih;simp only[List.length_cons,List.length_cons,ih]
theorem BSeq.tup{B:Addr->Option Obj}{h:Heap}{a:Addr}{vs:List Value}(k:∀ b o,B b=some o->h.get? b=some o)(x:BSeq B "tuple" a vs):IsTup h a vs.toArray:=
 let ⟨o,n,e,c,d⟩:=x;⟨o,k _ _ e,c,n,d⟩
theorem BSeq.list{B:Addr->Option Obj}{h:Heap}{a:Addr}{vs:List Value}(k:∀ b o,B b=some o->h.get? b=some o)(x:BSeq B "list" a vs):h.IsList a vs.toArray:=
 let ⟨o,n,e,c,d⟩:=x;⟨o,k _ _ e,c,n,d⟩
theorem BDict.dict{K:Type}[DecidableEq K]{knd:KeyKind pw w K}{B:Addr->Option Obj}{h:Heap}{a:Addr}{kvs:List (K×Value)}(k:∀ b o,B b=some o->h.get? b=some o)(x:BDict knd B a kvs):h.DictOf knd a kvs:=
 let ⟨o,es,ep,e,r⟩:=x;⟨o,es,ep,k _ _ e,r⟩
theorem RepT.keys{B:Addr->Option Obj}{ρ:List Addr}{h:Heap}(k:∀ b o,B b=some o->h.get? b=some o):∀ {xs:List (List Int×Addr×Value)} {l:List (List Int×D)},RepT w B ρ xs l->∀ x∈xs,(tupleKind (ik w)).is h x.1 x.2.1:=by
 intro xs l r
 induction r with
 | nil=>intro x m;cases m
 | cons b i _ _ ih=>
  intro x m;rcases P7 m with rfl | m
  ·refine ar b λo n e c d=>?_;exact⟨o,_,n,k _ _ e,c,d,i⟩
  ·exact ih x m
theorem CellAt.move{G G':Gh}{h h':Heap}{a:Addr}{c:Cell}(hB:∀ b o,G.B b=some o->G'.B b=some o)(hρ:∃ more,G'.ρ=G.ρ++more)(ha:h'.get? a=h.get? a)
  (st:∀ b o,G'.B b=some o->h'.get? b=some o) (x:CellAt w G h a c):CellAt w G' h' a c:=by
 induction c with
 | list l=>refine aI x λvs n ho z=>?_;exact⟨vs,n,ha.trans ho,z.mono hB hρ⟩
 | sdict l=>refine ao x λkvs z1 z=>?_;obtain⟨o,es,ep,ho,r⟩:=z1;exact⟨kvs,⟨o,es,ep,ha.trans ho,r⟩,z.mono hB hρ⟩
 | tdict l=>refine ao x λxs z2 z=>?_;obtain⟨o,es,ep,ho,r1,r2,r3,r4,r5⟩:=z2;have z':=z.mono hB hρ;exact⟨xs,⟨o,es,ep,ha.trans ho,r1,r2,r3,z'.keys st,r5⟩,z'⟩
theorem Inv.mem{G:Gh}{h:Heap}(I:Inv w Gk G h){a:Addr}(ha:a∈G.ρ):∃ (i:Nat) (c:Cell),G.ρ[i]?=some a/\G.σ[i]?=some c/\CellAt w G h a c:=by obtain⟨i,hi,rfl⟩:=List.getElem_of_mem ha;have hi':i<G.σ.length:=I.len ▸ hi;exact⟨i,G.σ[i],List.getElem?_eq_getElem hi,List.getElem?_eq_getElem hi',I.cell _ _ _ (List.getElem?_eq_getElem hi) (List.getElem?_eq_getElem hi')⟩
theorem CellAt.obj{G:Gh}{h:Heap}{a:Addr}{c:Cell}(x:CellAt w G h a c):∃ o,h.get? a=some o/\aV o:=by
 induction c with
 | list l=>refine aI x λvs n ho z=>?_;exact⟨_,ho,λvs q=>by injection q⟩
 | sdict l=>refine ao x λkvs z3 z=>?_;obtain⟨o,es,ep,ho,_,r,_⟩:=z3;exact⟨o,ho,λvs q=>by rw[r]at q;cases q⟩
 | tdict l=>refine ao x λkvs z4 z=>?_;obtain⟨o,es,ep,ho,_,r,_⟩:=z4;exact⟨o,ho,λvs q=>by rw[r]at q;cases q⟩
theorem Inv.obj{G:Gh}{h:Heap}(I:Inv w Gk G h){a:Addr}(ha:a∈G.ρ):∃ o,h.get? a=some o/\aV o:=
 let ⟨_,_,_,_,x⟩:=I.mem ha;x.obj
theorem aD(h:Heap):h.get? h.objs.size=none:=by
 induction q:h.get? h.objs.size with
 | none=>rfl
 | some o=>exact absurd (Heap.lt_size q) (Nat.lt_irrefl _)
section
variable{G:Gh}{s:Shared}{Ib:List Addr}
theorem bU(I:Inv w Gk G s.heap)(t:Nat):Rn w Gk xt Ib G s G { s with toks:=t }:={ Rn.refl I with same:=⟨_,_,rfl⟩ }
theorem bL(I:Inv w Gk G s.heap)(o:Obj)(t:Nat):Rn w Gk xt Ib G s G { s with heap:=s.heap.push o,toks:=t }:=by have st:∀ b o',G.B b=some o'->(s.heap.push o).get? b=some o':=λb o' e=>Heap.get?_push_of_some o (I.stays b o' e);refine⟨⟨_,_,rfl⟩,λ_ _ e=>e,λ_ _ e=>.inl e,⟨[],by simp,dj⟩,⟨st,I.base,I.len,λi a c h1 h2=>?_,I.apart,I.nodup,I.glo,I.sys⟩,λb o' e _ _=>⟨o'.slots,Heap.get?_push_of_some o e,λ_=>rfl⟩,λb o' e=>⟨o',Heap.get?_push_of_some o e,id⟩⟩;have x:=I.cell i a c h1 h2;refine ao x.obj λoa ha _=>?_;exact x.move (λ_ _ e=>e) ⟨[],by simp⟩ ((Heap.get?_push_of_some o ha).trans ha.symm) st
noncomputable def Gh.add(G:Gh)(a:Addr)(o:Obj):Gh:={ G with B:=λb=>if b=a then some o else G.B b }
theorem mP(I:Inv w Gk G s.heap)(o:Obj)(hf:o.isFreed=false)(t:Nat) :
  Rn w Gk xt Ib G s (G.add s.heap.objs.size o) { s with heap:=s.heap.push o,toks:=t }/\(G.add s.heap.objs.size o).B s.heap.objs.size=some o:=by
 have hn:G.B s.heap.objs.size=none:=by
  induction q:G.B s.heap.objs.size with
  | none=>rfl
  | some o'=>have:=I.stays _ _ q;rw[aD]at this;injection this
 have sub:∀ b o',G.B b=some o'->(G.add s.heap.objs.size o).B b=some o':=λb o' e=>by show(if b=s.heap.objs.size then some o else G.B b)=some o';refine PV (PX (λq=>by rw[q]at e;replace e:=hn ▸ e;injection e)) ?_;exact e
 have st:∀ b o',(G.add s.heap.objs.size o).B b=some o'->(s.heap.push o).get? b=some o':=λb o' e=>by
  have e2:(if b=s.heap.objs.size then some o else G.B b)=some o':=e
  split at e2
  ·rename_i q;rw[q];obtain rfl:=PY e2;exact Heap.get?_push_size _ hf
  ·exact Heap.get?_push_of_some o (I.stays b o' e2)
 refine⟨⟨⟨_,_,rfl⟩,sub,λb o' e=>?_,⟨[],by simp[Gh.add],λ_ h=>(nomatch h)⟩,⟨st,λb o' e=>sub _ _ (I.base b o' e),I.len,λi a c h1 h2=>?_,λa ha=>?_,I.nodup,let ⟨o',e⟩:=I.glo;⟨o',sub _ _ e⟩,I.sys⟩,λb o' e _ _=>⟨o'.slots,Heap.get?_push_of_some o e,λ_=>rfl⟩,λb o' e=>⟨o',Heap.get?_push_of_some o e,id⟩⟩,PW rfl⟩
 ·have e:(if b=s.heap.objs.size then some o else G.B b)=some o':=e
  split at e
  ·rename_i q;rw[q];exact .inr (aD _)
  ·exact .inl e
 ·have x:=I.cell i a c h1 h2;refine ao x.obj λoa ha _=>?_;exact x.move sub ⟨[],by simp[Gh.add]⟩ ((Heap.get?_push_of_some o ha).trans ha.symm) st
 ·refine ao (I.obj ha) λoa hoa _=>?_;show(if a=s.heap.objs.size then some o else G.B a)=none;refine PV (PX (λq=>by replace hoa:=q ▸ hoa;rw[aD]at hoa;injection hoa)) ?_;exact I.apart a ha
noncomputable def Gh.more(G:Gh)(a:Addr)(c:Cell):Gh:={ G with ρ:=G.ρ++[a],σ:=G.σ++[c] }
theorem pO{h:Heap}(I:Inv w Gk G h){a:Addr}{c:Cell}(hB:G.B a=none)(hρ:a∉G.ρ)(hs:a≠sysModules)(x:CellAt w G h a c):Inv w Gk (G.more a c) h:=by
 refine⟨I.stays,I.base, ?_,λi b d h1 h2=>?_,λb hb=>?_, ?_,I.glo,λb hb=>?_⟩
 ·show(G.ρ++[a]).length=(G.σ++[c]).length;simp only[List.length_append,List.length_append,I.len];rfl
 ·have h1:(G.ρ++[a])[i]?=some b:=h1;have h2:(G.σ++[c])[i]?=some d:=h2
  by_cases q:i<G.ρ.length
  ·replace h1:=(Eq.symm (List.getElem?_append_left q)).trans h1;rw[List.getElem?_append_left (I.len ▸ q)]at h2;exact(I.cell i b d h1 h2).move (G:=G) (G':=G.more a c) (λ_ _ e=>e) ⟨[a],rfl⟩ rfl I.stays
  ·have e:i=G.ρ.length:=by have:=(List.getElem?_eq_some_iff.mp h1).1;simp only[List.length_append]at this;simp at this;lia
   subst e;simp only[List.getElem?_append_right (Nat.le_refl _),Nat.sub_self]at h1;simp only[I.len,List.getElem?_append_right (Nat.le_refl _),Nat.sub_self]at h2;cases h1;cases h2;exact x.move (G:=G) (G':=G.more a c) (λ_ _ e=>e) ⟨[a],rfl⟩ rfl I.stays
 ·rcases List.mem_append.mp hb with q | q
  ·exact I.apart b q
  ·obtain rfl:b=a:=by simpa using q
   exact hB
 ·show(G.ρ++[a]).Nodup;exact List.nodup_append.mpr ⟨I.nodup,by simp,λx hx y hy=>by simp at hy;rw[hy];exact λe=>hρ (e ▸ hx)⟩
 ·rcases List.mem_append.mp hb with q | q
  ·exact I.sys b q
  ·obtain rfl:b=a:=by simpa using q
   exact hs
theorem Inv.size{h:Heap}(I:Inv w Gk G h):mainGlobals<h.objs.size:=let ⟨_,e⟩:=I.glo;Heap.lt_size (I.stays _ _ e)
theorem Inv.fresh_sys{h:Heap}(I:Inv w Gk G h):h.objs.size≠sysModules:=λe=>by have h1:=I.size;rw[e]at h1;exact absurd h1 (by decide)
theorem uT(I:Inv w Gk G s.heap)(o:Obj)(c:Cell)(t:Nat)(hx:∀ h',(∀ b o',G.B b=some o'->h'.get? b=some o')->h'.get? s.heap.objs.size=some o->CellAt w G h' s.heap.objs.size c)(hf:o.isFreed=false) :
  Rn w Gk xt Ib G s (G.more s.heap.objs.size c) { s with heap:=s.heap.push o,toks:=t }:=by
 have R:=bL (xt:=xt) (Ib:=Ib) I o t;have hn:s.heap.objs.size∉G.ρ:=λq=>by refine ao (I.obj q) λo' h _=>?_;rw[aD]at h;injection h
 have hB:G.B s.heap.objs.size=none:=by
  induction q:G.B s.heap.objs.size with
  | none=>rfl
  | some o'=>have:=I.stays _ _ q;rw[aD]at this;injection this
 refine⟨R.same,R.B,R.newB,⟨[s.heap.objs.size],rfl,λa ha=>?_⟩,pO R.inv hB hn I.fresh_sys (hx _ R.inv.stays (Heap.get?_push_size _ hf)),R.keep,R.there⟩;obtain rfl:a=s.heap.objs.size:=List.mem_singleton.mp ha;exact aD _
theorem sI(I:Inv w Gk G s.heap){a:Addr}{h':Heap}(t:Nat)(hs:Heap.SameBut a s.heap h')(ha:a∈Ib)(hB:G.B a=none)(hρ:a∉G.ρ)(hx:∀ o,s.heap.get? a=some o->∃ o',h'.get? a=some o'/\(aV o->aV o')) :
  Rn w Gk xt Ib G s G { s with heap:=h',toks:=t }:=by
 have st:∀ b o',G.B b=some o'->h'.get? b=some o':=λb o' e=>(hs.2 b (λq=>by rw[q]at e;replace e:=hB ▸ e;injection e)).trans (I.stays b o' e);refine⟨⟨_,_,rfl⟩,λ_ _ e=>e,λ_ _ e=>.inl e,⟨[],by simp,λ_ h=>(nomatch h)⟩,⟨st,I.base,I.len,λi b c h1 h2=>?_,I.apart,I.nodup,I.glo,I.sys⟩,λb o' e _ n=>⟨o'.slots,(hs.2 b (λq=>n (q ▸ ha))).trans e,λ_=>rfl⟩,λb o' e=>?_⟩
 ·have hb:b∈G.ρ:=List.mem_of_getElem? h1;exact(I.cell i b c h1 h2).move (λ_ _ e=>e) ⟨[],by simp⟩ (hs.2 b (λq=>hρ (q ▸ hb))) st
 ·by_cases q:b=a
  ·subst q;exact hx o' e
  ·exact⟨o',(hs.2 b q).trans e,id⟩
noncomputable def Gh.turn(G:Gh)(i:Nat)(c:Cell):Gh:={ G with σ:=G.σ.set i c }
theorem gn(I:Inv w Gk G s.heap){i:Nat}{a:Addr}{c:Cell}{h':Heap}(t:Nat)(hi:G.ρ[i]?=some a)(hs:Heap.SameBut a s.heap h')(hx:(∀ b o',G.B b=some o'->h'.get? b=some o')->CellAt w G h' a c) :
  Rn w Gk xt Ib G s (G.turn i c) { s with heap:=h',toks:=t }:=by
 have ha:a∈G.ρ:=List.mem_of_getElem? hi;have st:∀ b o',G.B b=some o'->h'.get? b=some o':=λb o' e=>(hs.2 b (λq=>by rw[q]at e;replace e:=(I.apart a ha) ▸ e;injection e)).trans (I.stays b o' e);have x:=hx st;refine⟨⟨_,_,rfl⟩,λ_ _ e=>e,λ_ _ e=>.inl e,⟨[],by simp[Gh.turn],λ_ h=>(nomatch h)⟩,⟨st,I.base, ?_,λj b d h1 h2=>?_,I.apart,I.nodup,I.glo,I.sys⟩,λb o' e n _=>⟨o'.slots,(hs.2 b (λq=>n (q ▸ ha))).trans e,λ_=>rfl⟩,λb o' e=>?_⟩
 ·show G.ρ.length=(G.σ.set i c).length;simp only[List.length_set];exact I.len
 ·have h1:G.ρ[j]?=some b:=h1;have h2:(G.σ.set i c)[j]?=some d:=h2;rcases P8 (i=j) with q | q
  ·subst q;replace h1:=(hi) ▸ h1;cases h1;replace h2:=(List.getElem?_set_self (by rw[<-I.len];exact(List.getElem?_eq_some_iff.mp hi).1)) ▸ h2;cases h2;exact x.move (λ_ _ e=>e) ⟨[],by simp[Gh.turn]⟩ rfl st
  ·rw[List.getElem?_set_ne q]at h2;have hne:b≠a:=λe=>by subst e;obtain⟨p1,e1⟩:=List.getElem?_eq_some_iff.mp hi;obtain⟨p2,e2⟩:=List.getElem?_eq_some_iff.mp h1;exact q ((List.getElem_inj I.nodup).mp (e1.trans e2.symm))
   exact(I.cell j b d h1 h2).move (λ_ _ e=>e) ⟨[],by simp[Gh.turn]⟩ (hs.2 b hne) st
 ·by_cases q:b=a
  ·rw[q];refine ao x.obj λo1 e1 n1=>?_;exact⟨o1,e1,λ_=>n1⟩
  ·exact⟨o',(hs.2 b q).trans e,id⟩
end
end
section
variable{w:World}{Gk:Heap}{xt:Bool}
abbrev rep(w:World):Gh->Value->D->Prop:=λG v d=>Rep w G.B G.ρ v d
abbrev repL(w:World):Gh->List Value->List D->Prop:=λG v d=>RepL w G.B G.ρ v d
abbrev iI:Gh->Bool->Bool->Prop:=λ_ v d=>v=d
abbrev EX:Gh->Unit->Unit->Prop:=λ_ _ _=>True
theorem gp{i:Int}(h:fits i=true):Builtin.Int.intBits i<=8192:=intBits_le (of_decide_eq_true h)
theorem pP{a b:Int}(ha:fits a=true)(hb:fits b=true):IntMulOk a b:=
 IntMulOk.of_bits (PO (gp ha) (by decide)) (PO (gp hb) (by decide))
theorem fT{a b:Int}(hb:fits b=true):Builtin.divisionGoesByPylong a b=false:=by
 refine PyProof.noPylong_of_log2 ?_;have h:b.natAbs<2 ^ 8192:=of_decide_eq_true hb;rcases Nat.eq_zero_or_pos b.natAbs with h0 | hp
 ·rw[h0];decide +kernel
 ·have:b.natAbs.log2<8192:=(Nat.log2_lt (Nat.ne_of_gt hp)).mpr h;lia
theorem bA:sizeLine=16777216:=by decide +kernel
theorem aW{n:Nat}(h:am n=true):n<=1000000:=of_decide_eq_true h
section
variable{A:Around}{E:Value->Shared->Prop}{s:Shared}{G:Gh}{Ib:List Addr}{Lf:Addr}
theorem Ok.int{i:Int}{Q:Value->Shared->Prop}(I:Inv w Gk G s.heap)(h:Ok w Gk xt (rep w) Ib Lf G s (ret (D.int i) G.σ) Q E)(t tk:Nat):Q (.int i t) { s with toks:=tk }:=
 h _ _ G rfl (bU I tk) (.int i t)
theorem Ok.boolV{b:Bool}{Q:Value->Shared->Prop}(I:Inv w Gk G s.heap)(h:Ok w Gk xt (rep w) Ib Lf G s (ret (D.bool b) G.σ) Q E):Q (.bool b) s:=Ok.now I h (.bool b)
theorem Ok.strV{x:Str}{Q:Value->Shared->Prop}(I:Inv w Gk G s.heap)(h:Ok w Gk xt (rep w) Ib Lf G s (ret (D.str x) G.σ) Q E)(t tk:Nat):Q (.str x t) { s with toks:=tk }:=
 h _ _ G rfl (bU I tk) (.str x t)
theorem dA(I:Inv w Gk G s.heap){h':Heap}(t:Nat)(k:∀ b o,s.heap.get? b=some o->h'.get? b=some o):Rn w Gk xt Ib G s G { s with heap:=h',toks:=t }:=by refine⟨⟨_,_,rfl⟩,λ_ _ e=>e,λ_ _ e=>.inl e,⟨[],by simp,dj⟩,⟨λb o e=>k _ _ (I.stays b o e),I.base,I.len,λi a c h1 h2=>?_,I.apart,I.nodup,I.glo,I.sys⟩,λb o e _ _=>⟨o.slots,k b o e,λ_=>rfl⟩,λb o e=>⟨o,k b o e,id⟩⟩;have x:=I.cell i a c h1 h2;refine ao x.obj λoa ha _=>?_;exact x.move (λ_ _ e=>e) ⟨[],by simp⟩ ((k _ _ ha).trans ha.symm) (λb o e=>k _ _ (I.stays b o e))
theorem Ok.frozen{d:D}{Q:Value->Shared->Prop}(I:Inv w Gk G s.heap)(o:Obj)(hf:o.isFreed=false)(t:Nat)(h:Ok w Gk xt (rep w) Ib Lf G s (ret d G.σ) Q E)
  (r:∀ B:Addr->Option Obj,(∀ b o',G.B b=some o'->B b=some o')->B s.heap.objs.size=some o->Rep w B G.ρ (.ref s.heap.objs.size) d):Q (.ref s.heap.objs.size) { s with heap:=s.heap.push o,toks:=t }:=by
 refine PT (λR e=>?_) (mP (xt:=xt) (Ib:=Ib) I o hf t);exact h _ _ (G.add s.heap.objs.size o) rfl R (r _ R.B e)
theorem pQ(x:Value):∀ n:Nat,(List.replicate n [x]).flatten=List.replicate n x
 | 0=>rfl
 | n+1=>by simp only[List.replicate_succ,List.flatten_cons,pQ x n,List.replicate_succ];rfl
theorem fV{B:Addr->Option Obj}{ρ:List Addr}{v:Value}{d:D}(h:Rep w B ρ v d):∀ n:Nat,RepL w B ρ (List.replicate n v) (List.replicate n d)
 | 0=>.nil
 | n+1=>by simp only[List.replicate_succ,List.replicate_succ];exact .cons h (fV h n)
theorem mj(n:Int):Txt.mul (nm " ") n=⟨Array.replicate n.toNat 32⟩:=by
 refine PU (P8 (n<1)) (λh=>?_) λh=>?_
 ·refine PV (PW h) ?_;have:n.toNat=0:=by lia
  exact this ▸ rfl
 ·refine PV (PX h) ?_
  by_cases h1:n=1
  ·subst h1;rfl
  ·refine PV (PX (by
    have e:(nm " ").length=1:=by decide +kernel
    simp[h1,e])) ?_
   have:∀ k:Nat,∀ acc:Array Nat,List.foldl (λx1 x2=>x1++x2) acc (List.replicate k (nm " ").cps)=acc++Array.replicate k 32:=by
    intro k
    induction k with
    | zero=>intro acc;simp
    | succ k ih=>
     intro acc;simp only[List.replicate_succ,List.foldl_cons,ih];have e:(nm " ").cps=#[32]:=by decide +kernel
     rw[e]
     apply Array.toList_inj.mp
     simp[List.replicate_succ]
   congr 1
   have:=this n.toNat #[]
   simpa using this
theorem pR{n:Int}(h0:-1000000<=n)(h:n<=1000000):MulOk (nm " ") n:=by
 have e:(nm " ").length=1:=by decide +kernel
 refine⟨?_,λh1 h2=>?_,λh1 h2=>?_⟩
 ·simp;lia
 ·rw[e];have:(1:Int)<=(2 ^ 63 - 1) / n:=by refine(Int.le_ediv_iff_mul_le (by lia)).mpr ?_;lia
  lia
 ·rw[e,Nat.one_mul];unfold Builtin.Str.tooLong;rw[bA];simp;lia
theorem ky{d:D}{v:Value}{Q:Bool->Shared->Prop}(I:Inv w Gk G s.heap)(r:Rep w G.B G.ρ v d)(h:Ok w Gk xt iI Ib Lf G s (cA d G.σ) Q E):wpAny (model pw w) A (truthy v) Q E s:=by
 induction d using D.casesOn <;> try exact(h:False).elim
 ·obtain rfl:=r.inv;exact wpAny_truthy_bool (Ok.now I h rfl)
 ·refine PS r.inv λ_ zz1=>?_;exact zz1 ▸ (truthy_int (Ok.now I h rfl))
theorem CF{d:D}{v:Value}{Q:Value->Shared->Prop}(I:Inv w Gk G s.heap)(r:Rep w G.B G.ρ v d)(h:Ok w Gk xt (rep w) Ib Lf G s (dk d G.σ) Q E):wpAny (model pw w) A (unaryOp .USub v) Q E s:=by
 induction d using D.casesOn <;> try exact(h:False).elim
 obtain⟨_,rfl⟩:=r.inv;exact neg_int (h.int I _ _)
theorem Ok.ite{α β:Type}{P:Gh->β->α->Prop}{Q:β->Shared->Prop}{c:Prop}[Decidable c]{m:M α}(h:Ok w Gk xt P Ib Lf G s ((if c then m else stuck) G.σ) Q E):c/\Ok w Gk xt P Ib Lf G s (m G.σ) Q E:=by
 split at h
 ·rename_i hc;exact⟨hc,h⟩
 ·exact(h:False).elim
theorem Ok.onName{α β γ:Type}{P:Gh->β->α->Prop}{Q:β->Shared->Prop}{e:Expr}{f:Str->M γ}{o:M γ}(K:M γ->R α){C:Prop}(h:Ok w Gk xt P Ib Lf G s (K (Mine.onName e f o)) Q E)(k:∀ x p,e=.Name x p->Ok w Gk xt P Ib Lf G s (K (f x)) Q E->C)(k':Ok w Gk xt P Ib Lf G s (K o) Q E->C):C:=
 jh (λm:M γ=>Ok w Gk xt P Ib Lf G s (K m) Q E) h k k'
theorem Ok.onAttr{α β γ:Type}{P:Gh->β->α->Prop}{Q:β->Shared->Prop}{e:Expr}{f:Expr->Str->Pos->M γ}{o:M γ}(K:M γ->R α){C:Prop}(h:Ok w Gk xt P Ib Lf G s (K (Mine.onAttr e f o)) Q E)(k:∀ x a p,e=.Attribute x a p->Ok w Gk xt P Ib Lf G s (K (f x a p)) Q E->C)(k':nP e=false->Ok w Gk xt P Ib Lf G s (K o) Q E->C):C:=
 vT (λm:M γ=>Ok w Gk xt P Ib Lf G s (K m) Q E) h k k'
theorem Ok.onTup{α β γ:Type}{P:Gh->β->α->Prop}{Q:β->Shared->Prop}{e:Expr}{f:List Expr->M γ}{o:M γ}(K:M γ->R α){C:Prop}(h:Ok w Gk xt P Ib Lf G s (K (Mine.onTup e f o)) Q E)(k:∀ es k p,e=.Tuple es k p->Ok w Gk xt P Ib Lf G s (K (f es)) Q E->C)(k':Ok w Gk xt P Ib Lf G s (K o) Q E->C):C:=
 xK (λm:M γ=>Ok w Gk xt P Ib Lf G s (K m) Q E) h k k'
theorem Ok.onSlice{α β γ:Type}{P:Gh->β->α->Prop}{Q:β->Shared->Prop}{e:Expr}{f:Option Expr->Option Expr->Option Expr->M γ}{o:M γ}(K:M γ->R α){C:Prop}(h:Ok w Gk xt P Ib Lf G s (K (Mine.onSlice e f o)) Q E)(k:∀ a b c p,e=.Slice a b c p->Ok w Gk xt P Ib Lf G s (K (f a b c)) Q E->C)(k':iD e=false->Ok w Gk xt P Ib Lf G s (K o) Q E->C):C:=
 sA (λm:M γ=>Ok w Gk xt P Ib Lf G s (K m) Q E) h k k'
theorem Ok.onSub{α β γ:Type}{P:Gh->β->α->Prop}{Q:β->Shared->Prop}{e:Expr}{f:Expr->Expr->M γ}{o:M γ}(K:M γ->R α){C:Prop}(h:Ok w Gk xt P Ib Lf G s (K (Mine.onSub e f o)) Q E)(k:∀ a b p,e=.Subscript a b p->Ok w Gk xt P Ib Lf G s (K (f a b)) Q E->C)(k':Ok w Gk xt P Ib Lf G s (K o) Q E->C):C:=
 xL (λm:M γ=>Ok w Gk xt P Ib Lf G s (K m) Q E) h k k'
theorem Ok.iteB{α β γ:Type}{P:Gh->β->α->Prop}{Q:β->Shared->Prop}{c:Prop}[Decidable c]{m:M γ}{g:γ->M α}{σ:St}(h:Ok w Gk xt P Ib Lf G s (bnd (if c then m else stuck) g σ) Q E):c/\Ok w Gk xt P Ib Lf G s (bnd m g σ) Q E:=
 have e:∀ {x},(if c then m else stuck)=x->Ok w Gk xt P Ib Lf G s (bnd x g σ) Q E:=λe=>e ▸ h
 if q:c then ⟨q,e (PW q)⟩ else (e (PX q):False).elim
section
variable{α β:Type}{P:Gh->β->α->Prop}{Q:β->Shared->Prop}{a:D}{v:Value}{σ:St}
theorem Ok.asInt{g:Int->M α}(r:Rep w G.B G.ρ v a)(h:Ok w Gk xt P Ib Lf G s (asInt a g σ) Q E):∃ i t,v=.int i t/\Ok w Gk xt P Ib Lf G s (g i σ) Q E:=by refine kj (λm:M α=>Ok w Gk xt P Ib Lf G s (m σ) Q E) h (λi z h=>?_) False.elim;subst z;obtain⟨t,e⟩:=r.inv;exact⟨i,t,e,h⟩
theorem Ok.asStr{g:Str->M α}(r:Rep w G.B G.ρ v a)(h:Ok w Gk xt P Ib Lf G s (asStr a g σ) Q E):∃ i t,v=.str i t/\Ok w Gk xt P Ib Lf G s (g i σ) Q E:=by refine xz (λm:M α=>Ok w Gk xt P Ib Lf G s (m σ) Q E) h (λi z h=>?_) False.elim;subst z;obtain⟨t,e⟩:=r.inv;exact⟨i,t,e,h⟩
theorem Ok.asTup{g:List D->M α}(r:Rep w G.B G.ρ v a)(h:Ok w Gk xt P Ib Lf G s (asTup a g σ) Q E):∃ l x vs,v=.ref x/\BSeq G.B "tuple" x vs/\RepL w G.B G.ρ vs l/\Ok w Gk xt P Ib Lf G s (g l σ) Q E:=by refine pK (λm:M α=>Ok w Gk xt P Ib Lf G s (m σ) Q E) h (λl z h=>?_) False.elim;subst z;refine ar r.inv λx vs e h1 h2=>?_;exact⟨l,x,vs,e,h1,h2,h⟩
theorem Ok.asList{g:List D->M α}(r:Rep w G.B G.ρ v a)(h:Ok w Gk xt P Ib Lf G s (asList a g σ) Q E):∃ l x vs,v=.ref x/\BSeq G.B "list" x vs/\RepL w G.B G.ρ vs l/\Ok w Gk xt P Ib Lf G s (g l σ) Q E:=by refine vS (λm:M α=>Ok w Gk xt P Ib Lf G s (m σ) Q E) h (λl z h=>?_) False.elim;subst z;refine ar r.inv λx vs e h1 h2=>?_;exact⟨l,x,vs,e,h1,h2,h⟩
theorem Ok.asBool{g:Bool->M α}(r:Rep w G.B G.ρ v a)(h:Ok w Gk xt P Ib Lf G s (asBool a g σ) Q E):∃ i,v=.bool i/\Ok w Gk xt P Ib Lf G s (g i σ) Q E:=by refine vR (λm:M α=>Ok w Gk xt P Ib Lf G s (m σ) Q E) h (λi z h=>?_) False.elim;subst z;exact⟨i,r.inv,h⟩
end
theorem uU{B:Addr->Option Obj}{ρ:List Addr}{vs:List Value}{a:D}(r:RepL w B ρ vs [a]):∃ v,vs=[v]/\Rep w B ρ v a:=by
 cases r with
 | cons h t=>cases t;exact⟨_,rfl,h⟩
theorem pS{x:D}{n:Int}{va:Value}{u:Tok}{Q:Value->Shared->Prop}(I:Inv w Gk G s.heap)(ra:Rep w G.B G.ρ va (.list [x]))
  (h:Ok w Gk xt (rep w) Ib Lf G s (ag .Mult (.list [x]) (.int n) G.σ) Q E):wpAny (model pw w) A (binaryOp .Mult va (.int n u)) Q E s:=by
 refine ar ra.inv λa vs z1 hb hr=>?_;obtain rfl:=z1;obtain⟨⟨h0,h1⟩,h⟩:=Ok.ite h;refine DJ (hb.list I.stays) λz2 ho hcl k hd=>?_;obtain⟨cls,d,data,sl⟩:=z2;simp only at hcl hd;subst hcl hd;refine ao (uU hr) λv z3 hv=>?_;obtain rfl:=z3;refine wpAny_binaryOp_repeat_ref (T:="list") (U:="int") (rfl) ⟨_,ho,rfl⟩ (λs'=>typeIs_int s' n u) noFill_list_mul F.fills_int_mul F.slot_int_rmul repeat_list F.slot_int_index.lookup
  (call_meets F.slot_int_rmul (typeIs_int s n u) F.entry_int_rmul (F.args_int_rmul_2 _ _) (lm_int_rmul_list_any n u a [v].toArray k d sl)
   ⟨ho,rfl,⟨_,ho,rfl⟩,call_meets F.slot_list_mul ⟨_,ho,rfl⟩ F.entry_list_mul (F.args_list_mul_2 _ _)
    (lm_list_mul_any a [v].toArray k d sl n u (by simp[Builtin.List.listFitsIndex];lia) (by simp;lia) (by simp[Builtin.List.listTooLong,sizeLine];lia))
    ⟨ho, ?_⟩⟩)
 simp only[listMul_foldl_if,show([v].toArray).toList=[v] from rfl,pQ];refine h (.ref s.heap.objs.size) _ (G.more s.heap.objs.size (.list (List.replicate n.toNat x))) rfl (uT I _ _ _ (λh' st e=>⟨List.replicate n.toNat v,0,e, ?_⟩) rfl) (.ref ?_)
 ·exact fV hv _
 ·show(G.ρ++[s.heap.objs.size])[G.σ.length]?=some s.heap.objs.size;simp only[<-I.len,List.getElem?_append_right (Nat.le_refl _),Nat.sub_self];rfl
theorem Ag{op:Operator}{x y:Int}{t u:Tok}{Q:Value->Shared->Prop}(I:Inv w Gk G s.heap)(h:Ok w Gk xt (rep w) Ib Lf G s (DR op x y G.σ) Q E):wpAny (model pw w) A (binaryOp op (.int x t) (.int y u)) Q E s:=by
 induction op with
 | Add=>exact add_int (h.int I _ _)
 | Sub=>exact sub_int (h.int I _ _)
 | Mult=>obtain⟨hc,h⟩:=Ok.ite h;obtain⟨h1,h2⟩:=PZ hc;exact mul_int (h.int I _ _) (pP h1 h2)
 | Mod=>obtain⟨h1,h⟩:=Ok.ite h;exact mod_int' h1 (h.int I _ _)
 | Pow=>obtain⟨⟨h1,h2,h3⟩,h⟩:=Ok.ite h;refine pow_int h1 ?_ (h.int I _ _);have hb:=gp h3;have:=Int.mul_le_mul (Int.ofNat_le.mpr hb) h2 h1 (by decide:(0:Int)<=((8192:Nat):Int));refine Int.le_trans this (by decide)
 | LShift=>
  obtain⟨⟨h1,h2,h3⟩,h⟩:=Ok.ite h;refine lshift_int h1 ?_ (h.int I _ _);have hb:=gp h3;have:(2:Int) ^ 27=134217728:=by decide
  lia
 | FloorDiv=>obtain⟨⟨h1,h2,h3⟩,h⟩:=Ok.ite h;exact floordiv_int h1 (h.int I _ _) (.inl (fT h3))
 | _=>exact(h:False).elim
theorem Ah{op:Operator}{x y:Str}{t u:Tok}{Q:Value->Shared->Prop}(I:Inv w Gk G s.heap)(h:Ok w Gk xt (rep w) Ib Lf G s (DS op x y G.σ) Q E):wpAny (model pw w) A (binaryOp op (.str x t) (.str y u)) Q E s:=by
 induction op with
 | Add=>refine PT (λhc h=>?_) (Ok.ite h);refine PT (λh1 h2=>?_) (PZ hc);exact add_str (λt tk=>h.strV I t tk) (by have:=aW h1;have:=aW h2;simp only[bA];lia)
 | _=>exact(h:False).elim
theorem Ai{op:Operator}{x:Str}{y:Int}{t u:Tok}{Q:Value->Shared->Prop}(I:Inv w Gk G s.heap)(h:Ok w Gk xt (rep w) Ib Lf G s (DT op x y G.σ) Q E):wpAny (model pw w) A (binaryOp op (.str x t) (.int y u)) Q E s:=by
 induction op with
 | Mult=>obtain⟨⟨ea,h2,h3⟩,h'⟩:=Ok.ite h;rw[ea];exact SB.mul (pR h2 h3) λt tk=>by rw[mj];exact h'.strV I t tk
 | _=>exact(h:False).elim
theorem CG{op:Operator}{a b:D}{va vb:Value}{Q:Value->Shared->Prop}(I:Inv w Gk G s.heap)(ra:Rep w G.B G.ρ va a)(rb:Rep w G.B G.ρ vb b)
  (h:Ok w Gk xt (rep w) Ib Lf G s (ag op a b G.σ) Q E):wpAny (model pw w) A (binaryOp op va vb) Q E s:=by
 induction a using D.casesOn with
 | int x=>obtain⟨t,rfl⟩:=ra.inv;refine aI (Ok.asInt rb h) λy u z4 h=>?_;obtain rfl:=z4;exact(Ag (A:=A) (t:=t) (u:=u) I h :)
 | str x=>
  obtain⟨t,rfl⟩:=ra.inv
  induction b using D.casesOn with
  | str y=>obtain⟨u,rfl⟩:=rb.inv;exact(Ah (A:=A) (x:=x) (y:=y) (op:=op) (t:=t) (u:=u) I h :)
  | int y=>obtain⟨u,rfl⟩:=rb.inv;exact(Ai (A:=A) (x:=x) (y:=y) (op:=op) (t:=t) (u:=u) I h :)
  | _=>exact(h:False).elim
 | list l=>
  refine aI (Ok.asInt rb h) λn u z5 h=>?_;obtain rfl:=z5;cases l with
  | nil=>exact(h:False).elim
  | cons x l=>
   induction l using List.casesOn with
   | cons=>exact(h:False).elim
   | nil=>
    induction op with
    | Mult=>exact(pS (A:=A) (n:=n) (u:=u) I ra h :)
    | _=>exact(h:False).elim
 | _=>exact(h:False).elim
end
end
section
variable{w:World}{Gk:Heap}{xt:Bool}
theorem mQ{B:Addr->Option Obj}{ρ:List Addr}{vs:List Value}{d:D}{ds:List D}(r:RepL w B ρ vs (d::ds)):∃ v us,vs=v::us/\Rep w B ρ v d/\RepL w B ρ us ds:=by
 cases r with
 | cons a b=>exact⟨_,_,rfl,a,b⟩
theorem kz{σ:St}{d:D}{l:List D}{xs:List PyData}(e:bN σ (d::l)=some xs):∃ a b,fF σ d=some a/\bN σ l=some b/\xs=a::b:=by
 have e:(match fF σ d,bN σ l with | some a,some b=>some (a::b) | _,_=>none)=some xs:=e;generalize fF σ d=o at e ⊢;generalize bN σ l=q at e ⊢
 induction o using Option.casesOn with
 | none=>exact dt e
 | some a=>
  induction q using Option.casesOn with
  | none=>exact dt e
  | some b=>exact⟨a,b,rfl,rfl,(PY e).symm⟩
set_option tactic.hygienic true in
mutual
theorem kA{G:Gh}{h:Heap}(I:Inv w Gk G h):∀ (d:D) {v:Value} {x:PyData},Rep w G.B G.ρ v d->fF G.σ d=some x->∃ as,Reads h v x as
 | .none,_,_,r,e=>by obtain rfl:=r.inv;cases e;exact⟨_,.none⟩
 | .bool b,_,_,r,e=>by obtain rfl:=r.inv;cases e;exact⟨_,.bool b⟩
 | .int i,_,_,r,e=>by obtain⟨_,rfl⟩:=r.inv;cases e;exact⟨_,.int i _⟩
 | .str s,_,_,r,e=>by obtain⟨_,rfl⟩:=r.inv;cases e;exact⟨_,.str s _⟩
 | .tup l,_,_,r,e=>by refine ar r.inv λ_ _ z1 hb hr=>?_;obtain rfl:=z1;refine ao (Option.map_eq_some_iff.mp e) λxs q ex=>?_;rw[<-ex];refine ar hb λo n ho hc hd=>?_;exact PS (cu I l hr q) λas ra=>⟨_,.tuple (I.stays _ _ ho) hc hd ra⟩
 | .list l,_,_,r,e=>by refine ar r.inv λ_ _ z2 hb hr=>?_;obtain rfl:=z2;refine ao (Option.map_eq_some_iff.mp e) λxs q ex=>?_;rw[<-ex];refine ar hb λo n ho hc hd=>?_;exact PS (cu I l hr q) λas ra=>⟨_,.list (I.stays _ _ ho) hc hd ra⟩
 | .sdict _,_,_,_,e=>by cases e
 | .idict _,_,_,_,e=>by cases e
 | .ref _,_,_,_,e=>by cases e
 | .inst _ _,_,_,_,e=>by cases e
 | .fn _,_,_,_,e=>by cases e
 | .blt _,_,_,_,e=>by cases e
 | .range _ _,_,_,_,e=>by cases e
 | .items _,_,_,_,e=>by cases e
theorem cu{G:Gh}{h:Heap}(I:Inv w Gk G h):∀ (l:List D) {vs:List Value} {xs:List PyData},RepL w G.B G.ρ vs l->bN G.σ l=some xs->∃ as,ReadsAll h vs xs as
 | [],_,_,r,e=>by rw[List.eq_nil_of_length_eq_zero r.length,<-PY e];exact⟨_,.nil⟩
 | d::l,_,_,r,e=>by refine ar (mQ r) λv us ev r1 r2=>?_;refine ar (kz e) λa b h1 h2 ex=>?_;rw[ev,ex];exact PS (kA I d r1 h1) λas p=>PS (cu I l r2 h2) λbs q=>⟨_,.cons p q⟩
end
theorem xQ(σ:St)(d:D):fJ σ d=d\/∃ i l,d=.ref i/\σ[i]?=some (.list l)/\fJ σ d=.list l:=by
 induction d using D.casesOn <;> first | exact .inl rfl | skip
 delta fJ;dsimp only;generalize q:σ[i]?=o
 induction o using Option.casesOn with
 | none=>exact .inl rfl
 | some c=>induction c using Cell.casesOn <;> first | exact .inl rfl | exact .inr ⟨_,_,rfl,q,rfl⟩
theorem vZ(σ:St)(d:D):fM σ d=fJ σ d\/∃ l,d=.tup l:=by induction d using D.casesOn <;> first | exact .inl rfl | exact .inr ⟨_,rfl⟩
theorem pT{G:Gh}{h:Heap}(I:Inv w Gk G h)(d:D){v:Value}{x:PyData}(r:Rep w G.B G.ρ v d)(e:fF G.σ (fJ G.σ d)=some x):∃ as,Reads h v x as:=by refine PU (xQ G.σ d) (λq=>kA I d r (q ▸ e)) λq=>?_;refine ar q λi l z hl z2=>?_;rw[z2]at e;rw[z]at r;refine ao r.inv λ_ z3 ha=>?_;refine aI (I.cell _ _ _ ha hl) λvs n ho y=>?_;refine ao (Option.map_eq_some_iff.mp e) λxs q ex=>?_;rw[z3,<-ex];exact PS (cu I l y q) λas ra=>⟨_,.list ho rfl rfl ra⟩
theorem v3{G:Gh}{h:Heap}(I:Inv w Gk G h)(l:List D):∀ {vs:List Value} {xs:List PyData},RepL w G.B G.ρ vs l->bN G.σ (l.map (fJ G.σ))=some xs->∃ as,ReadsAll h vs xs as:=by
 induction l with
 | nil=>intro vs xs r e;rw[List.eq_nil_of_length_eq_zero r.length,<-PY e];exact⟨_,.nil⟩
 | cons d l ih=>intro vs xs r e;refine ar (mQ r) λv us ev r1 r2=>?_;refine ar (kz e) λa b h1 h2 ex=>?_;rw[ev,ex];exact PS (pT I d r1 h1) λas p=>PS (ih r2 h2) λbs q=>⟨_,.cons p q⟩
theorem mR{G:Gh}{h:Heap}(I:Inv w Gk G h)(d:D){v:Value}{x:PyData}(r:Rep w G.B G.ρ v d)(e:fF G.σ (fM G.σ d)=some x):∃ as,Reads h v x as:=by refine PU (vZ G.σ d) (λq=>pT I d r (q ▸ e)) λq=>PS q λl z=>?_;subst z;refine ar r.inv λ_ _ z4 hb hr=>?_;refine ao (Option.map_eq_some_iff.mp e) λxs q ex=>?_;rw[z4,<-ex];refine ar hb λo n ho hc hd=>?_;exact PS (v3 I l hr q) λas ra=>⟨as,.tuple (I.stays _ _ ho) hc hd ra⟩
structure Rm(A:Around):Prop where
 h:A.handled=none
 u:A.units+100<cLine
theorem iJ{K:Type}[DecidableEq K](y x:K)(v:Value)(vs:List (K×Value)):valueAt ((y,v)::vs) x=if y=x then some v else valueAt vs x:=by
 unfold valueAt;dsimp only[List.find?_cons];rcases P8 (y=x) with h | h
 ·simp[h]
 ·simp[h]
theorem bI{B:Addr->Option Obj}{ρ:List Addr}:∀ {kvs:List (Str×Value)} {l:List (Str×D)},RepS w B ρ kvs l->∀ x,(aa l x=none->valueAt kvs x=none)/\∀ d,aa l x=some d->∃ v,valueAt kvs x=some v/\Rep w B ρ v d:=by
 intro kvs l r;refine RepS.ind ?_ ?_ r
 ·exact λx=>⟨λ_=>rfl,λd e=>by exact dt e⟩
 ·intro y v d vs ds a b ih;intro x;have ih:=ih x;dsimp only[aa];rw[iJ]
  by_cases h:y=x
  ·rw[PW h,PW h];exact⟨λe=>(nomatch e),λd e=>by cases e;exact⟨_,rfl,a⟩⟩
  ·rw[PX h,PX h];exact ih
theorem gP{B:Addr->Option Obj}{ρ:List Addr}:∀ {kvs:List (Int×Value)} {l:List (Int×D)},RepI w B ρ kvs l->∀ x,(gK l x=none->valueAt kvs x=none)/\∀ d,gK l x=some d->∃ v,valueAt kvs x=some v/\Rep w B ρ v d:=by
 intro kvs l r;refine RepI.ind ?_ ?_ r
 ·exact λx=>⟨λ_=>rfl,λd e=>by exact dt e⟩
 ·intro y v d vs ds a b ih;intro x;have ih:=ih x;dsimp only[gK];rw[iJ]
  by_cases h:y=x
  ·rw[PW h,PW h];exact⟨λe=>(nomatch e),λd e=>by cases e;exact⟨_,rfl,a⟩⟩
  ·rw[PX h,PX h];exact ih
theorem jC{B:Addr->Option Obj}{ρ:List Addr}:∀ {xs:List (List Int×Addr×Value)} {l:List (List Int×D)},RepT w B ρ xs l->∀ x,(dy l x=none->atKey xs x=none)/\∀ d,dy l x=some d->∃ p,atKey xs x=some p/\Rep w B ρ p.2 d
 | _,_,.nil,x=>⟨λ_=>rfl,λd e=>by exact dt e⟩
 | _,_,.cons (x:=y) (a:=a) (v:=v) (vs:=vs) (ds:=ds) (d:=d) h1 h2 r b,x=>by
  have ih:=jC b x;dsimp only[dy];have e:atKey ((y,a,v)::vs) x=if y=x then some (a,v) else atKey vs x:=by
   unfold atKey;dsimp only[List.find?_cons]
   by_cases h:y=x <;> simp[h]
  rw[e]
  by_cases h:y=x
  ·rw[PW h,PW h];exact⟨λe=>(nomatch e),λd e=>by cases e;exact⟨_,rfl,r⟩⟩
  ·rw[PX h,PX h];exact ih
theorem dP{K:Type}[DecidableEq K](y x:K)(u v:Value)(vs:List (K×Value))(hn:y∉vs.map (·.1)):stored ((y,u)::vs) x v=if y=x then (y,v)::vs else (y,u)::stored vs x v:=by
 unfold stored;rw[List.any_cons]
 by_cases h:y=x
 ·subst h;refine PV (PW (by simp)) ?_;rw[PW rfl,List.map_cons,PW rfl]
  congr 1
  conv=>rhs;rw[<-List.map_id vs]
  refine List.map_congr_left λp hp=>?_;exact(PX (λe=>hn (List.mem_map.mpr ⟨p,hp,e⟩)))
 ·refine PV ?_ (Eq.symm (PX h));have:decide ((y,u).1=x)=false:=decide_eq_false h;rw[this,Bool.false_or]
  split
  ·refine PV List.map_cons ?_;rw[PX h]
  ·rfl
theorem fW{B:Addr->Option Obj}{ρ:List Addr}{x:Str}{v:Value}{d:D}(r:Rep w B ρ v d):∀ {kvs:List (Str×Value)} {l:List (Str×D)},RepS w B ρ kvs l->(kvs.map (·.1)).Nodup->RepS w B ρ (stored kvs x v) (fN l x d):=by
 intro kvs l q;refine RepS.ind ?_ ?_ q
 ·exact λ_=>.cons r .nil
 ·intro _ _ _ _ _ a b ih;intro n;rw[List.map_cons,List.nodup_cons]at n;rw[dP _ _ _ _ _ n.1];dsimp only[fN]
  split
  ·exact .cons r b
  ·exact .cons a (ih n.2)
theorem pU{B:Addr->Option Obj}{ρ:List Addr}{x:Int}{v:Value}{d:D}(r:Rep w B ρ v d):∀ {kvs:List (Int×Value)} {l:List (Int×D)},RepI w B ρ kvs l->(kvs.map (·.1)).Nodup->RepI w B ρ (stored kvs x v) (xA l x d):=by
 intro kvs l q;refine RepI.ind ?_ ?_ q
 ·exact λ_=>.cons r .nil
 ·intro _ _ _ _ _ a b ih;intro n;rw[List.map_cons,List.nodup_cons]at n;rw[dP _ _ _ _ _ n.1];dsimp only[xA]
  split
  ·exact .cons r b
  ·exact .cons a (ih n.2)
theorem nR(y x:List Int)(a k:Addr)(u v:Value)(vs:List (List Int×Addr×Value))(hn:y∉vs.map (·.1)):storedH ((y,a,u)::vs) x k v=if y=x then (y,a,v)::vs else (y,a,u)::storedH vs x k v:=by
 unfold storedH;have e:atKey ((y,a,u)::vs) x=if y=x then some (a,u) else atKey vs x:=by
  unfold atKey;dsimp only[List.find?_cons]
  by_cases h:y=x <;> simp[h]
 rw[e]
 by_cases h:y=x
 ·rw[<-h];rw[PW rfl,PW rfl];show(if (y,a,u).1=y then _ else _)::List.map (putAt y v) vs=_;rw[PW rfl]
  congr 1
  conv=>rhs;rw[<-List.map_id vs]
  refine List.map_congr_left λp hp=>?_;unfold putAt;exact(PX (λe=>hn (List.mem_map.mpr ⟨p,hp,e⟩)))
 ·rw[PX h,PX h]
  split
  ·refine PV List.map_cons ?_
   congr 1
   dsimp only[putAt];exact(PX h)
  ·rfl
theorem pV{B:Addr->Option Obj}{ρ:List Addr}{x:List Int}{a:Addr}{us:List Value}{v:Value}{d:D}(hb:BSeq B "tuple" a us)(hi:ItemsAre (ik w) x us)(r:Rep w B ρ v d):∀ {xs:List (List Int×Addr×Value)} {l:List (List Int×D)},RepT w B ρ xs l->(xs.map (·.1)).Nodup->RepT w B ρ (storedH xs x a v) (gJ l x d):=by
 intro xs l q
 induction q with
 | nil=>exact λ_=>.cons hb hi r .nil
 | cons h1 h2 h3 b ih=>
  intro n;rw[List.map_cons,List.nodup_cons]at n;rw[nR _ _ _ _ _ _ _ n.1];dsimp only[gJ]
  split
  ·exact .cons h1 h2 r b
  ·exact .cons h1 h2 h3 (ih n.2)
theorem iK{B:Addr->Option Obj}{ρ:List Addr}:∀ {t:List D} {us:List Value} {q:List Int},RepL w B ρ us t->dJ t=some q->ItemsAre (ik w) q us:=by
 intro t us q r
 revert q
 show ∀ q:List Int,dJ t=some q->ItemsAre (ik w) q us;refine RepL.ind ?_ ?_ r
 ·intro q;intro e;cases e;exact .nil
 ·intro v d vs ds a b ih q;intro e
  induction d using D.casesOn <;> try exact dt e
  refine PS a.inv λ_ zz1=>?_;rw[zz1];dsimp only[dJ]at e
  induction k:dJ ds with
  | none=>exact dt (k ▸ e)
  | some q=>replace e:=(k) ▸ e;cases e;exact .cons (by simp[ik,intKind,Value.isInt]) (ih _ k)
section
variable{A:Around}{E:Value->Shared->Prop}{s:Shared}{G:Gh}{Ib:List Addr}{Lf:Addr}
theorem g6{α β:Type}{P:Gh->β->α->Prop}{Q:β->Shared->Prop}{o:Option α}{σ:St}(h:Ok w Gk xt P Ib Lf G s (ac o σ) Q E):∃ a,o=some a/\Ok w Gk xt P Ib Lf G s (ret a σ) Q E:=by
 induction o with
 | none=>exact(h:False).elim
 | some a=>exact⟨a,rfl,h⟩
theorem cg{α β γ:Type}{P:Gh->β->α->Prop}{Q:β->Shared->Prop}{o:Option γ}{f:γ->M α}{σ:St}(h:Ok w Gk xt P Ib Lf G s (bnd (ac o) f σ) Q E):∃ a,o=some a/\Ok w Gk xt P Ib Lf G s (f a σ) Q E:=by
 induction o with
 | none=>exact(h:False).elim
 | some a=>exact⟨a,rfl,h⟩
theorem bP{α β:Type}{P:Gh->β->α->Prop}{Q:β->Shared->Prop}{i:Nat}{f:Cell->M α}(h:Ok w Gk xt P Ib Lf G s (bnd (cell i) f G.σ) Q E):∃ c,G.σ[i]?=some c/\Ok w Gk xt P Ib Lf G s (f c G.σ) Q E:=by
 unfold bnd cell at h
 induction q:G.σ[i]? with
 | none=>replace h:=(q) ▸ h;exact(h:False).elim
 | some c=>rw[q]at h;exact⟨c,rfl,h⟩
theorem uV(i:Int)(t:Tok):(ik w).is i (.int i t)=true:=by show(i==i)=true;simp
theorem jD(x:Str)(t:Tok):(sk w).is x (.str x t)=true:=by show(Value.str x t).isStr x=true;simp[Value.isStr]
theorem v4{v:Value}{d:D}(r:Rep w G.B G.ρ v d)(n:mO d=true):(v==Value.none)=isNone d:=by induction d using D.casesOn <;> first | exact absurd n Bool.false_ne_true | (obtain rfl:=r.inv;rfl) | (obtain⟨_,rfl⟩:=r.inv;rfl) | (obtain⟨_,rfl,_⟩:=r.inv;rfl) | (obtain⟨_,_,rfl,_⟩:=r.inv;rfl) | (obtain⟨_,_,_,rfl,_⟩:=r.inv;rfl) | (refine su r.inv λ_ _ _ _ z5 _=>?_;obtain rfl:=z5;rfl)
theorem iL{d:D}{l:List D}{v c:Value}{as:List Addr}(T:Bool){Q:Value->Shared->Prop}(m:Rm A)(I:Inv w Gk G s.heap)(r:Rep w G.B G.ρ v d){xs:List PyData}(hxs:bN G.σ l=some xs)
  (rc:Reads s.heap c (if T then .tuple xs else .list xs) as) :
  (Ok w Gk xt iI Ib Lf G s (dY d l G.σ) (λb s'=>Q (.bool b) s') E->wpAny (model pw w) A (compareOp .In v c) Q E s) ∧
  (Ok w Gk xt iI Ib Lf G s (dY d l G.σ) (λb s'=>Q (.bool !b) s') E->wpAny (model pw w) A (compareOp .NotIn v c) Q E s):=by
 have key:∀ {Q':Bool->Shared->Prop},Ok w Gk xt iI Ib Lf G s (dY d l G.σ) Q' E->∃ x bs,Reads s.heap v x bs/\PyData.canLayAll0 xs=true/\PyData.canLay0 x=true/\A.units+1+min (PyData.depthAll xs) x.depth<cLine/\Q' (xs.any λy=>PyData.eqv y x) s:=by
  intro Q' h;unfold dY at h;replace h:=hxs ▸ h
  induction q:fF G.σ d with
  | none=>replace h:=q ▸ h;exact(h:False).elim
  | some x=>
   replace h:=(q) ▸ h;dsimp only at h
   split at h
   ·rename_i hc;simp[Bool.and_eq_true,Bool.and_eq_true]at hc;refine PS (kA I d r q) λas ra=>?_;refine⟨x,as,ra,hc.1.2,hc.1.1, ?_,h _ _ G rfl (.refl I) rfl⟩;have:=m.u;have:=Nat.min_le_right (PyData.depthAll xs) x.depth;lia
   ·exact(h:False).elim
 induction T
 ·constructor
  ·intro h;refine dM (key h) λx bs r1 r2 r3 r4 r5=>?_;exact SeqAt.in_list_reads rc r1 r2 r3 r4 r5
  ·intro h;refine dM (key h) λx bs r1 r2 r3 r4 r5=>?_;exact SeqAt.notIn_list_reads rc r1 r2 r3 r4 r5
 ·constructor
  ·intro h;refine dM (key h) λx bs r1 r2 r3 r4 r5=>?_;exact SeqAt.in_tuple_reads rc r1 r2 r3 r4 r5
  ·intro h;refine dM (key h) λx bs r1 r2 r3 r4 r5=>?_;exact SeqAt.notIn_tuple_reads rc r1 r2 r3 r4 r5
theorem dB{α:Type}{o:Option α}{p:Option Value}{R:Value->α->Prop}(x:(o=none->p=none)/\∀ d,o=some d->∃ v,p=some v/\R v d):p.isSome=o.isSome:=by
 induction o with
 | none=>exact congrArg _ (x.1 rfl)
 | some d=>refine ao (x.2 d rfl) λv e _=>?_;exact congrArg _ e
theorem B4{a b:D}{va vb:Value}{Q:Value->Shared->Prop}(m:Rm A)(I:Inv w Gk G s.heap)(ra:Rep w G.B G.ρ va a)(rb:Rep w G.B G.ρ vb b) :
  (Ok w Gk xt iI Ib Lf G s (BZ a b G.σ) (λb s'=>Q (.bool b) s') E->wpAny (model pw w) A (compareOp .In va vb) Q E s) ∧
  (Ok w Gk xt iI Ib Lf G s (BZ a b G.σ) (λb s'=>Q (.bool !b) s') E->wpAny (model pw w) A (compareOp .NotIn va vb) Q E s):=by
 have seq:∀ {l:List D} {Q':Bool->Shared->Prop},Ok w Gk xt iI Ib Lf G s (dY a l G.σ) Q' E->∃ xs,bN G.σ l=some xs:=by
  intro l Q' h;unfold dY at h
  induction q:bN G.σ l with
  | none=>replace h:=(q) ▸ h;induction q2:fF G.σ a <;> replace h:=q2 ▸ h <;> exact(h:False).elim
  | some xs=>exact⟨xs,rfl⟩
 induction b using D.casesOn with
 | list l=>
  refine ar rb.inv λad vs z6 hb hr=>?_;obtain rfl:=z6;have rd:∀ {xs},bN G.σ l=some xs->∃ as,Reads s.heap (.ref ad) (.list xs) as:=λq=>by obtain⟨as,ra⟩:=cu I l hr q;refine ar hb λo n ho hc hd=>?_;exact⟨_,.list (I.stays _ _ ho) hc hd ra⟩
  exact⟨λh=>let ⟨_,q⟩:=seq h;let ⟨_,r⟩:=rd q;(iL false m I ra q r).1 h,λh=>let ⟨_,q⟩:=seq h;let ⟨_,r⟩:=rd q;(iL false m I ra q r).2 h⟩
 | tup l=>
  refine ar rb.inv λad vs z7 hb hr=>?_;obtain rfl:=z7;have rd:∀ {xs},bN G.σ l=some xs->∃ as,Reads s.heap (.ref ad) (.tuple xs) as:=λq=>by obtain⟨as,ra⟩:=cu I l hr q;refine ar hb λo n ho hc hd=>?_;exact⟨_,.tuple (I.stays _ _ ho) hc hd ra⟩
  exact⟨λh=>let ⟨_,q⟩:=seq h;let ⟨_,r⟩:=rd q;(iL true m I ra q r).1 h,λh=>let ⟨_,q⟩:=seq h;let ⟨_,r⟩:=rd q;(iL true m I ra q r).2 h⟩
 | idict l=>
  refine aH rb.inv λ_ _ z8 ns hb hr=>?_;obtain rfl:=z8;dsimp only[BZ]
  induction a using D.casesOn <;> try exact⟨λh=>(h:False).elim,λh=>(h:False).elim⟩
  rename_i i;refine PS ra.inv λt zz1=>?_;obtain rfl:=zz1;have hm:=(hb.dict I.stays).mapOf;have e:=dB (gP hr i)
  constructor
  ·intro h;exact wpAny_in_of (uV i t) (by simpa using ns) hm (by rw[e];exact h _ _ G rfl (bU I _) rfl)
  ·intro h;exact wpAny_notIn_of (uV i t) (by simpa using ns) hm (by rw[e];exact h _ _ G rfl (bU I _) rfl)
 | ref j=>
  refine ao rb.inv λ_ z9 ha=>?_;rw[z9];dsimp only[BZ]
  constructor
  ·intro h;refine ao (bP h) λc hc h=>?_;cases c <;> try exact(h:False).elim
   obtain⟨x,t,rfl,rfl⟩ : ∃ x t,a=.str x/\va=.str x t:=by
    cases a with
    | str x=>obtain⟨t,rfl⟩:=ra.inv;exact⟨_,_,rfl,rfl⟩
    | _=>exact(h:False).elim
   refine ao (I.cell _ _ _ ha hc) λkvs hd hr=>?_;have e:=dB (bI hr x);exact wpAny_in_of (jD x t) (by simpa using I.sys _ (List.mem_of_getElem? ha)) hd.mapOf (by rw[e];exact h _ _ G rfl (bU I _) rfl)
  ·intro h;refine ao (bP h) λc hc h=>?_;cases c <;> try exact(h:False).elim
   obtain⟨x,t,rfl,rfl⟩ : ∃ x t,a=.str x/\va=.str x t:=by
    cases a with
    | str x=>obtain⟨t,rfl⟩:=ra.inv;exact⟨_,_,rfl,rfl⟩
    | _=>exact(h:False).elim
   refine ao (I.cell _ _ _ ha hc) λkvs hd hr=>?_;have e:=dB (bI hr x);exact wpAny_notIn_of (jD x t) (by simpa using I.sys _ (List.mem_of_getElem? ha)) hd.mapOf (by rw[e];exact h _ _ G rfl (bU I _) rfl)
 | _=>exact⟨λh=>(h:False).elim,λh=>(h:False).elim⟩
theorem D0{a b:D}{va vb:Value}{Q:Value->Shared->Prop}(m:Rm A)(I:Inv w Gk G s.heap)(ra:Rep w G.B G.ρ va a)(rb:Rep w G.B G.ρ vb b) :
  (Ok w Gk xt iI Ib Lf G s (so a b G.σ) (λb s'=>Q (.bool b) s') E->wpAny (model pw w) A (compareOp .Eq va vb) Q E s) ∧
  (Ok w Gk xt iI Ib Lf G s (so a b G.σ) (λb s'=>Q (.bool !b) s') E->wpAny (model pw w) A (compareOp .NotEq va vb) Q E s):=by
 have key:∀ {Q':Bool->Shared->Prop},Ok w Gk xt iI Ib Lf G s (so a b G.σ) Q' E->∃ x y as bs,Reads s.heap va x as/\Reads s.heap vb y bs/\SeqAt.shaped x=true/\SeqAt.shaped y=true/\Q' (PyData.eqv x y) s:=by
  intro Q' h;unfold so at h
  induction q:fF G.σ (fM G.σ a) with
  | none=>replace h:=q ▸ h;exact(h:False).elim
  | some x=>
   induction q2:fF G.σ (fM G.σ b) with
   | none=>rw[q]at h;replace h:=q2 ▸ h;exact(h:False).elim
   | some y=>
    rw[q]at h;replace h:=q2 ▸ h;dsimp only at h
    split at h
    ·rename_i hc;simp only[Bool.and_eq_true]at hc;refine PS (mR I a ra q) λas r1=>?_;obtain⟨bs,r2⟩:=mR I b rb q2;exact⟨x,y,as,bs,r1,r2,hc.1,hc.2,h _ _ G rfl (.refl I) rfl⟩
    ·exact(h:False).elim
 have hu:A.units+64<cLine:=by have:=m.u;lia
 constructor
 ·intro h;refine bp (key h) λx y as bs z10=>?_;refine bo z10 λr1 r2 r3 r4 r5=>?_;exact SeqAt.compareEq_shaped r1 r2 r3 r4 hu r5
 ·intro h;refine bp (key h) λx y as bs z11=>?_;refine bo z11 λr1 r2 r3 r4 r5=>?_;exact SeqAt.compareNe_shaped r1 r2 r3 r4 hu r5
end
end
section
variable{w:World}{Gk:Heap}{xt:Bool}
section
variable{A:Around}{E:Value->Shared->Prop}{s:Shared}{G:Gh}{Ib:List Addr}{Lf:Addr}
theorem Ok.ifS{α β:Type}{P:Gh->β->α->Prop}{Q:β->Shared->Prop}{c:Bool}{m:M α}(h:Ok w Gk xt P Ib Lf G s ((if c=true then m else stuck) G.σ) Q E):c=true/\Ok w Gk xt P Ib Lf G s (m G.σ) Q E:=Ok.ite h
theorem Ok.notB{m:M Bool}{Q:Bool->Shared->Prop}(h:Ok w Gk xt iI Ib Lf G s (bnd m (λr=>ret !r) G.σ) Q E):Ok w Gk xt iI Ib Lf G s (m G.σ) (λb s'=>Q (!b) s') E:=by
 unfold bnd at h
 induction q:m G.σ with
 | ok b σ'=>replace h:=(q) ▸ h;intro v s' G' e x p;exact p ▸ (h _ s' G' e x rfl)
 | exc σ'=>replace h:=(q) ▸ h;exact h
 | stuck=>replace h:=(q) ▸ h;exact(h:False).elim
theorem Aj(x y:Str):(x==y)=decide (x=y):=by
 by_cases h:x=y
 ·subst h;simp
 ·simp only[decide_eq_false h];exact beq_eq_false_iff_ne.mpr h
theorem Ak(x:Int)(b:D):(∃ y,b=.int y)\/zT (.int x) b=so (.int x) b:=by
 induction b using D.casesOn with
 | int y=>exact .inl ⟨y,rfl⟩
 | _=>exact .inr rfl
theorem Al(x:Str)(b:D):(∃ y,b=.str y)\/zT (.str x) b=so (.str x) b:=by
 induction b using D.casesOn with
 | str y=>exact .inl ⟨y,rfl⟩
 | _=>exact .inr rfl
theorem xR(x:Bool)(b:D):(∃ y,b=.bool y)\/zT (.bool x) b=so (.bool x) b:=by
 induction b using D.casesOn with
 | bool y=>exact .inl ⟨y,rfl⟩
 | _=>exact .inr rfl
section
variable{a b:D}{va vb:Value}{Q:Value->Shared->Prop}
theorem B5{f:Bool->Bool}(I:Inv w Gk G s.heap)(ra:Rep w G.B G.ρ va a)(rb:Rep w G.B G.ρ vb b)(h:Ok w Gk xt iI Ib Lf G s (EQ a b f G.σ) (λb s'=>Q (.bool b) s') E):vb=.none/\Q (.bool (f (va==.none))) s:=by
 induction b using D.casesOn with
 | none=>obtain⟨hn,h⟩:=Ok.ite h;exact⟨rb.inv,by rw[v4 ra hn];exact Ok.now I h rfl⟩
 | _=>exact(h:False).elim
theorem j5(m:Rm A)(I:Inv w Gk G s.heap)(ra:Rep w G.B G.ρ va a)(rb:Rep w G.B G.ρ vb b)(e:zT a b=so a b) :
  (Ok w Gk xt iI Ib Lf G s (zT a b G.σ) (λb s'=>Q (.bool b) s') E->wpAny (model pw w) A (compareOp .Eq va vb) Q E s) ∧
  (Ok w Gk xt iI Ib Lf G s (zT a b G.σ) (λb s'=>Q (.bool !b) s') E->wpAny (model pw w) A (compareOp .NotEq va vb) Q E s):=by
 exact e ▸ (D0 m I ra rb)
theorem xS(m:Rm A)(I:Inv w Gk G s.heap)(ra:Rep w G.B G.ρ va a)(rb:Rep w G.B G.ρ vb b) :
  (Ok w Gk xt iI Ib Lf G s (zT a b G.σ) (λb s'=>Q (.bool b) s') E->wpAny (model pw w) A (compareOp .Eq va vb) Q E s) ∧
  (Ok w Gk xt iI Ib Lf G s (zT a b G.σ) (λb s'=>Q (.bool !b) s') E->wpAny (model pw w) A (compareOp .NotEq va vb) Q E s):=by
 induction a using D.casesOn with
 | int x=>
  rcases Ak x b with⟨y,rfl⟩ | e
  ·obtain⟨_,rfl⟩:=ra.inv;obtain⟨_,rfl⟩:=rb.inv;exact⟨λh=>eq_int (Ok.now I h rfl),λh=>ne_int (Ok.now I h rfl)⟩
  ·exact j5 m I ra rb e
 | str x=>
  rcases Al x b with⟨y,rfl⟩ | e
  ·obtain⟨_,rfl⟩:=ra.inv;obtain⟨_,rfl⟩:=rb.inv;refine⟨λh=>eq_str (by exact Ok.now I h rfl),λh=>ne_str ?_⟩;have:=Ok.now I h rfl;rw[<-Aj]at this;exact this
  ·exact j5 m I ra rb e
 | bool x=>
  rcases xR x b with⟨y,rfl⟩ | e
  ·obtain rfl:=ra.inv;obtain rfl:=rb.inv;have hu:=m.u;exact⟨λh=>SeqAt.compareEq_shaped (.bool _) (.bool _) (by rfl) (by rfl) (by lia) (Ok.now I h rfl),λh=>SeqAt.compareNe_shaped (.bool _) (.bool _) (by rfl) (by rfl) (by lia) (Ok.now I h rfl)⟩
  ·exact j5 m I ra rb e
 | _=>exact j5 m I ra rb rfl
theorem D1(I:Inv w Gk G s.heap)(ra:Rep w G.B G.ρ va a)(rb:Rep w G.B G.ρ vb b)(h:Ok w Gk xt iI Ib Lf G s (Fj a b G.σ) (λb s'=>Q (.bool b) s') E):wpAny (model pw w) A (compareOp .Lt va vb) Q E s:=by
 induction a using D.casesOn with
 | int x=>obtain⟨_,rfl⟩:=ra.inv;refine aI (Ok.asInt rb h) λ_ _ z1 h=>?_;obtain rfl:=z1;exact lt_int (Ok.now I h rfl)
 | str x=>obtain⟨_,rfl⟩:=ra.inv;refine aI (Ok.asStr rb h) λ_ _ z2 h=>?_;obtain rfl:=z2;exact lt_str (Ok.now I h rfl)
 | _=>exact(h:False).elim
theorem D2(I:Inv w Gk G s.heap)(ra:Rep w G.B G.ρ va a)(rb:Rep w G.B G.ρ vb b)(h:Ok w Gk xt iI Ib Lf G s (Fk a b G.σ) (λb s'=>Q (.bool b) s') E):wpAny (model pw w) A (compareOp .Gt va vb) Q E s:=by
 induction a using D.casesOn with
 | int x=>obtain⟨_,rfl⟩:=ra.inv;refine aI (Ok.asInt rb h) λ_ _ z3 h=>?_;obtain rfl:=z3;exact gt_int (Ok.now I h rfl)
 | str x=>obtain⟨_,rfl⟩:=ra.inv;refine aI (Ok.asStr rb h) λ_ _ z4 h=>?_;obtain rfl:=z4;exact PySem.P.gt_str (Ok.now I h rfl)
 | _=>exact(h:False).elim
theorem sJ{op:CmpOp}(m:Rm A)(I:Inv w Gk G s.heap)(ra:Rep w G.B G.ρ va a)(rb:Rep w G.B G.ρ vb b)
  (h:Ok w Gk xt iI Ib Lf G s (ae op a b G.σ) (λb s'=>Q (.bool b) s') E):wpAny (model pw w) A (compareOp op va vb) Q E s:=by
 induction op with
 | In=>exact(B4 m I ra rb).1 h
 | NotIn=>exact(B4 m I ra rb).2 (Ok.notB h)
 | Is=>obtain⟨rfl,q⟩:=B5 I ra rb h;exact is_none q
 | IsNot=>
  obtain⟨rfl,q⟩:=B5 I ra rb h
  by_cases e:va=Value.none
  ·rw[e];rw[e]at q;exact wpAny_isNot_self (by rfl) q
  ·rw[beq_eq_false_iff_ne.mpr e]at q;exact isnot_none_ne e q
 | Eq=>exact(xS m I ra rb).1 h
 | NotEq=>exact(xS m I ra rb).2 (Ok.notB h)
 | Lt=>exact D1 I ra rb h
 | LtE=>refine aI (Ok.asInt ra h) λ_ _ z5 h=>?_;obtain rfl:=z5;refine aI (Ok.asInt rb h) λ_ _ z6 h=>?_;obtain rfl:=z6;exact le_int (Ok.now I h rfl)
 | Gt=>exact D2 I ra rb h
 | GtE=>refine aI (Ok.asInt ra h) λ_ _ z7 h=>?_;obtain rfl:=z7;refine aI (Ok.asInt rb h) λ_ _ z8 h=>?_;obtain rfl:=z8;exact ge_int (Ok.now I h rfl)
end
end
end
section
variable{w:World}{Gk:Heap}{xt:Bool}
theorem RepL.get{B:Addr->Option Obj}{ρ:List Addr}:∀ {vs:List Value} {ds:List D},RepL w B ρ vs ds->∀ {j:Nat} {d:D},ds[j]?=some d->∃ v,vs[j]?=some v/\Rep w B ρ v d:=by
 intro vs ds r;show ∀ (j:Nat) (d:D),ds[j]?=some d->∃ v,vs[j]?=some v/\Rep w B ρ v d;refine RepL.ind ?_ ?_ r
 ·intro j d e;exact dt e
 ·intro _ _ _ _ a b ih;intro j d e
  induction j using Nat.casesOn with
  | zero=>cases e;exact⟨_,rfl,a⟩
  | succ j=>rw[List.getElem?_cons_succ]at e ⊢;exact ih _ _ e
theorem kC{α:Type}{l:List α}{i:Int}{x:α}(h:sp l i=some x):0<=i/\i<=1000000/\l[i.toNat]?=some x:=by
 unfold sp at h
 split at h
 ·rename_i c;exact⟨c.1,c.2,h⟩
 ·exact nomatch h
theorem fX{i:Int}{n:Nat}(h0:0<=i)(h1:i.toNat<n):seqIndex? i n=some i.toNat:=by
 unfold seqIndex?;have e:¬ i<0:=by lia
 simp only[e,if_false];exact(PW (by simp;lia))
theorem sK(lo hi:Option Int)(n:Nat):Builtin.Str.strSliceIndices lo hi 1 n=(List.range (hi.elim n (clipAt n) - lo.elim 0 (clipAt n))).map (lo.elim 0 (clipAt n) + ·):=by
 rw[<-sliceRange_one]
 induction lo <;> induction hi <;> simp[Builtin.Str.strSliceIndices,clipAt_cast]
section
variable{A:Around}{E:Value->Shared->Prop}{s:Shared}{G:Gh}{Ib:List Addr}{Lf:Addr}
theorem ListAt.item{x:Addr}{vs:List Value}{l:List D}{i:Int}{t:Tok}{Q:Value->Shared->Prop}(I:Inv w Gk G s.heap)(hl:s.heap.IsList x vs.toArray)(hr:RepL w G.B G.ρ vs l)(h:Ok w Gk xt (rep w) Ib Lf G s (ac (sp l i) G.σ) Q E):ItemOn (model pw w) A E (.ref x) (.int i t) Q s:=by refine ao (g6 h) λd e h=>?_;refine jf (kC e) λe0 e1 e2=>?_;refine ao (hr.get e2) λv ev rv=>?_;exact⟨"list",_,F.slot_list_getitem.lookup,hl.typeIs,wpAny_getItem_list hl e0 (by lia) (by simpa using ev) (Ok.now I h rv)⟩
theorem DictAt.item{x:Addr}{kvs:List (Str×Value)}{l:List (Str×D)}{k:Str}{t:Tok}{Q:Value->Shared->Prop}(I:Inv w Gk G s.heap)(hd:s.heap.DictOf (sk w) x kvs)(hr:RepS w G.B G.ρ kvs l)(h:Ok w Gk xt (rep w) Ib Lf G s (ac (aa l k) G.σ) Q E):ItemOn (model pw w) A E (.ref x) (.str k t) Q s:=by refine ao (g6 h) λd e h=>?_;refine ao ((bI hr _).2 d e) λv ev rv=>?_;exact⟨"dict",_,F.slot_dict_getitem.lookup,hd.mapOf.typeIs,wpAny_getItem_of (jD _ _) hd.mapOf ev (h _ _ G rfl (bU I _) rv)⟩
theorem StrAt.item{x:Str}{i:Int}{t u:Tok}{Q:Value->Shared->Prop}(I:Inv w Gk G s.heap)(h:Ok w Gk xt (rep w) Ib Lf G s (bnd (ac (sp x.cps.toList i)) (λc=>ret (D.str ⟨#[c]⟩)) G.σ) Q E):ItemOn (model pw w) A E (.str x t) (.int i u) Q s:=by
 refine ao (cg h) λc e h=>?_;refine jf (kC e) λe0 e1 e2=>?_;have lt:i.toNat<x.length:=by have:=(List.getElem?_eq_some_iff.mp e2).1;simpa[Str.length] using this
 have ec:Txt.charAt x i=some c:=by
  unfold Txt.charAt;rw[fX e0 lt]
  simpa using e2
 refine⟨"str",_,F.slot_str_getitem.lookup,rfl,SB.getItem (by unfold fitsSsize;simp;lia) (by exact congrArg _ ec) ?_⟩;have:Txt.item x i=⟨#[c]⟩:=by unfold Txt.item;rw[ec];rfl
 exact this ▸ (h.strV I _ _)
theorem An{a b:D}{va vb:Value}{Q:Value->Shared->Prop}(m:Rm A)(I:Inv w Gk G s.heap)(ra:Rep w G.B G.ρ va a)(rb:Rep w G.B G.ρ vb b)
  (h:Ok w Gk xt (rep w) Ib Lf G s (subD a b G.σ) Q E):ItemOn (model pw w) A E va vb Q s:=by
 induction a using D.casesOn with
 | tup l=>refine ar ra.inv λ_ _ z1 hb hr=>?_;rw[z1];refine aI (Ok.asInt rb h) λi _ z2 h=>?_;rw[z2];refine ao (g6 h) λd e h=>?_;refine jf (kC e) λe0 e1 e2=>?_;refine ao (hr.get e2) λv ev rv=>?_;have ht:=hb.tup I.stays;exact⟨"tuple",_,F.slot_tuple_getitem.lookup,ht.typeIs,getItem_tuple ht (by lia) (by lia) (fX e0 (by rw[List.size_toArray];exact(List.getElem?_eq_some_iff.mp ev).1)) (by simpa using ev) (Ok.now I h rv)⟩
 | list l=>refine ar ra.inv λ_ _ z3 hb hr=>?_;rw[z3];refine aI (Ok.asInt rb h) λi _ z4 h=>?_;rw[z4];exact ListAt.item I (hb.list I.stays) hr h
 | str x=>obtain⟨_,y1⟩:=ra.inv;rw[y1];refine aI (Ok.asInt rb h) λi _ z5 h=>?_;rw[z5];exact StrAt.item I h
 | sdict l=>refine aH ra.inv λ_ _ z6 ns hb hr=>?_;rw[z6];refine aI (Ok.asStr rb h) λk _ z7 h=>?_;rw[z7];exact DictAt.item I (hb.dict I.stays) hr h
 | idict l=>refine aH ra.inv λ_ _ z8 ns hb hr=>?_;rw[z8];refine aI (Ok.asInt rb h) λk _ z9 h=>?_;rw[z9];refine ao (g6 h) λd e h=>?_;refine ao ((gP hr _).2 d e) λv ev rv=>?_;have hd:=hb.dict I.stays;exact⟨"dict",_,F.slot_dict_getitem.lookup,hd.mapOf.typeIs,wpAny_getItem_of (uV _ _) hd.mapOf ev (h _ _ G rfl (bU I _) rv)⟩
 | ref i=>
  refine ao ra.inv λ_ z10 ha=>?_;rw[z10];refine ao (bP h) λc hc h=>?_;have C:=I.cell _ _ _ ha hc
  induction c with
  | list l=>refine aI C λvs n hl hr=>?_;refine aI (Ok.asInt rb h) λj _ z11 h=>?_;exact z11 ▸ (ListAt.item I ⟨_,hl,rfl,n,rfl⟩ hr h)
  | sdict l=>refine ao C λkvs hd hr=>?_;refine aI (Ok.asStr rb h) λk _ z12 h=>?_;exact z12 ▸ (DictAt.item I hd hr h)
  | tdict=>exact(h:False).elim
 | _=>exact(h:False).elim
theorem Ao{lo hi:D}{n:Nat}(e:iz lo hi n≠none):∃ y,hi=.int y:=by
 induction hi using D.casesOn with
 | int y=>exact⟨y,rfl⟩
 | _=>exact absurd rfl e
theorem Ap{lo:D}{y:Int}{n:Nat}(e:iz lo (.int y) n≠none):lo=.none\/∃ x,lo=.int x:=by
 induction lo using D.casesOn with
 | none=>exact .inl rfl
 | int x=>exact .inr ⟨x,rfl⟩
 | _=>exact absurd rfl e
theorem kD{α:Type}{c:Prop}[Decidable c]{x y:α}(h:(if c then some x else none)=some y):c/\x=y:=by
 by_cases q:c
 ·replace h:=(PW q) ▸ h;exact⟨q,PY h⟩
 ·replace h:=(PX q) ▸ h;exact dt h
theorem kF{lo hi:D}{vl vh:Value}{n a b:Nat}(rl:Rep w G.B G.ρ vl lo)(rh:Rep w G.B G.ρ vh hi)(e:iz lo hi n=some (a,b)) :
  ∃ (l u:Option (Int×Tok)),vl=partValue l/\vh=partValue u/\(l.map (·.1)).elim 0 (clipAt n)=a/\(u.map (·.1)).elim n (clipAt n)=b:=by
 have nat:∀ {i:Int},0<=i->clipAt n i=min i.toNat n:=λ{i} h=>by refine PS (Int.eq_ofNat_of_zero_le h) λk zz1=>?_;obtain rfl:=zz1;rw[clipAt_nat];rfl
 refine PS (Ao (e ▸ (nofun:some (a,b)≠none))) λy zz1=>?_;obtain rfl:=zz1;obtain⟨t',e'⟩:=rh.inv;rcases Ap (e ▸ (nofun:some (a,b)≠none)) with rfl | ⟨x,rfl⟩
 ·obtain⟨q,e⟩:=kD e;exact⟨none,some (y,t'),rl.inv,e',congrArg Prod.fst e,(nat q).trans (congrArg Prod.snd e)⟩
 ·refine PS rl.inv λt e1=>?_;obtain⟨⟨q1,q2⟩,e⟩:=kD e;exact⟨some (x,t),some (y,t'),e1,e',(nat q1).trans (congrArg Prod.fst e),(nat q2).trans (congrArg Prod.snd e)⟩
theorem RepL.drop{B:Addr->Option Obj}{ρ:List Addr}:∀ {vs:List Value} {ds:List D},RepL w B ρ vs ds->∀ n:Nat,RepL w B ρ (vs.drop n) (ds.drop n):=by
 intro vs ds r;refine RepL.ind ?_ ?_ r
 ·intro n;simp only[List.drop_nil,List.drop_nil];exact .nil
 ·intro _ _ _ _ a b ih;intro n
  induction n with
  | zero=>exact .cons a b
  | succ n=>exact ih n
theorem RepL.take{B:Addr->Option Obj}{ρ:List Addr}:∀ {vs:List Value} {ds:List D},RepL w B ρ vs ds->∀ n:Nat,RepL w B ρ (vs.take n) (ds.take n):=by
 intro vs ds r;refine RepL.ind ?_ ?_ r
 ·intro n;simp only[List.take_nil,List.take_nil];exact .nil
 ·intro _ _ _ _ a b ih;intro n
  induction n using Nat.casesOn with
  | zero=>exact .nil
  | succ n=>exact .cons a (ih n)
theorem RepL.cut{B:Addr->Option Obj}{ρ:List Addr}{vs:List Value}{ds:List D}(r:RepL w B ρ vs ds)(a b:Nat):RepL w B ρ (Mine.cut vs a b) (Mine.cut ds a b):=(r.drop a).take (b - a)
noncomputable def fY(vl vh:Value):Obj:={ cls:=.type "slice",data:=.fields #[vl,vh,.none] }
theorem gQ{l:List D}{lo hi:D}{x:Addr}{vs:List Value}{vl vh:Value}{Q:Value->Shared->Prop}(I:Inv w Gk G s.heap)(hl:s.heap.IsList x vs.toArray)(hr:RepL w G.B G.ρ vs l)(rl:Rep w G.B G.ρ vl lo)(rh:Rep w G.B G.ρ vh hi)
  (h:Ok w Gk xt (rep w) Ib Lf G s ((if am l.length then bnd (ac (iz lo hi l.length)) λ(a,b)=>ret (D.list (cut l a b)) else stuck) G.σ) Q E) :
  vs.toArray.size<=sizeLine/\∃ lo' hi',IsPart vl lo'/\IsPart vh hi'/\Q (.ref (s.heap.objs.size+1)) { s with heap:=(s.heap.push (fY vl vh)).push { cls:=.type "list",data:=.seq (slicePick vs.toArray lo' hi' none) } }:=by
 refine PT (λhn h=>?_) (Ok.ite h);refine ao (cg h) λz13 e h=>?_;obtain⟨a,b⟩:=z13;have hn:=aW hn;have len:=hr.length;refine⟨by simp only[bA,List.size_toArray,len];lia, ?_⟩;refine aH (kF rl rh e) λpl pu z14 z15 e1 e2=>?_;obtain rfl:=z14;obtain rfl:=z15;have part:∀ p:Option (Int×Tok),IsPart (partValue p) (p.map (·.1)):=λp=>by
  induction p with
  | none=>exact .none
  | some q=>exact .int q.1 q.2
 refine⟨_,_,part pl,part pu, ?_⟩;have R:=bL (xt:=xt) (Ib:=Ib) I (fY (partValue pl) (partValue pu)) s.toks;have:=(h.shift R);refine(show Q (.ref (s.heap.push (fY (partValue pl) (partValue pu))).objs.size) _->_ from λq=>by rw[Heap.size_push]at q;exact q) ?_;refine this.frozen R.inv _ rfl _ λB hB e=>.list (vs:=cut vs a b) ⟨_,0,e,rfl, ?_⟩ ((hr.cut a b).mono hB ⟨[],by simp⟩);simp only[slicePick_plain];rw[show vs.toArray.size=l.length by exact List.size_toArray.trans len,e1,e2];rfl
theorem nS{x:Str}{t:Tok}{lo hi:D}{vl vh:Value}{Q:Value->Shared->Prop}(I:Inv w Gk G s.heap)(rl:Rep w G.B G.ρ vl lo)(rh:Rep w G.B G.ρ vh hi)
  (h:Ok w Gk xt (rep w) Ib Lf G s (bt (.str x) lo hi G.σ) Q E) :
  ∃ l u,vl=partValue l/\vh=partValue u/\(sliceMade x t l u none).post Q { s with heap:=s.heap.push (fY vl vh) }:=by
 unfold bt at h;dsimp only at h;refine PT (λhn h=>?_) (Ok.ite h);refine ao (cg h) λz16 e h=>?_;obtain⟨a,b⟩:=z16;refine aH (kF rl rh e) λpl pu z17 z18 e1 e2=>?_;rw[z17];rw[z18];refine⟨pl,pu,rfl,rfl, ?_⟩;have R:=bL (xt:=xt) (Ib:=Ib) I (fY (partValue pl) (partValue pu)) s.toks;have h':=(h.shift R);have pk:slicePicked x pl pu none=(List.range (b - a)).map (a + ·):=by show Builtin.Str.strSliceIndices _ _ 1 _=_;rw[sK,e1,e2]
 have got:(List.filterMap (x.cps[·]?) ((List.range (b - a)).map (a + ·)))=cut x.cps.toList a b:=pick_run x.cps a (b - a);unfold sliceMade;rw[pk]
 split
 ·rename_i hc;have hl:((List.range (b - a)).map (a + ·)).length=x.length:=by simp only[Bool.and_eq_true]at hc;exact of_decide_eq_true hc.2
  simp only[List.length_map,List.length_range]at hl;have e3:cut x.cps.toList a b=x.cps.toList:=by
   have hb:b<=x.length:=by
    rw[<-e2]
    induction pu with
    | none=>exact Nat.le_refl _
    | some q=>exact Int.toNat_le.mpr (Int.max_le.mpr ⟨Int.natCast_nonneg _,Int.min_le_right _ _⟩)
   refine PU (Nat.eq_zero_or_pos x.length) (λz=>?_) λz=>?_
   ·have:x.cps.toList=[]:=List.length_eq_zero_iff.mp z;unfold cut;rw[this,List.drop_nil];exact List.take_nil
   ·have ha:a=0:=Nat.eq_zero_of_not_pos λq=>absurd (Nat.sub_lt (PP z (PO (PR hl.symm) (Nat.sub_le b a))) q) (Nat.not_lt.mpr (PO hb (PR hl.symm)));subst ha;unfold cut;rw[List.drop_zero,hl,List.take_of_length_le (by simp[Str.length])]
  rw[e3]at h';exact h' _ _ G rfl (.refl R.inv) (.str x t)
 ·rw[got];refine⟨?_,h'.strV R.inv s.toks (s.toks+1)⟩;have e5:(Str.mk (cut x.cps.toList a b).toArray).length<=x.length:=PO (PR List.size_toArray) (PO (List.length_take_le' _ _) (PO (PR List.length_drop) (Nat.sub_le _ _)));exact PO e5 (PO (aW hn) (by rw[bA];decide))
end
end
section
variable{w:World}{Gk:Heap}{xt:Bool}
theorem RepL.set{B:Addr->Option Obj}{ρ:List Addr}{v:Value}{d:D}(r:Rep w B ρ v d):∀ {vs:List Value} {ds:List D},RepL w B ρ vs ds->∀ j:Nat,RepL w B ρ (vs.set j v) (ds.set j d):=by
 intro vs ds q;refine RepL.ind ?_ ?_ q
 ·intro j;exact .nil
 ·intro _ _ _ _ a b ih;intro j
  induction j with
  | zero=>exact .cons r b
  | succ j=>exact .cons a (ih j)
theorem RepS.length{B:Addr->Option Obj}{ρ:List Addr}:∀ {v:List (Str×Value)} {d:List (Str×D)},RepS w B ρ v d->v.length=d.length:=by
 intro v d r;refine RepS.ind ?_ ?_ r
 ·rfl
 ·intro _ _ _ _ _ _ _ ih;simp only[List.length_cons,List.length_cons,ih]
theorem RepT.length{B:Addr->Option Obj}{ρ:List Addr}:∀ {v:List (List Int×Addr×Value)} {d:List (List Int×D)},RepT w B ρ v d->v.length=d.length:=by
 intro v d r
 induction r with
 | nil=>rfl
 | cons _ _ _ _ ih=>simp only[List.length_cons,List.length_cons,ih]
theorem kG{h:Heap}{a:Addr}(x:h.DictOf (sk w) a []):h.DictOfH (tupleKind (ik w)) a []:=by
 refine eP x λo es ep z1=>?_;refine gX z1 λho hc hd hk hp hn=>?_;have:es.toList=[]:=by induction q:es.toList using List.casesOn with | nil=>rfl | cons e l=>rw[q]at hp;exact nomatch hp
 exact⟨o,es,ep,ho,hc,hd,by exact this,λx hx=>(nomatch hx),List.nodup_nil⟩
section
variable{A:Around}{E:Value->Shared->Prop}{s:Shared}{G:Gh}{Ib:List Addr}{Lf:Addr}
theorem nU{l:Addr}{items:Array Value}{n:Nat}{k:Int}{t:Tok}{v:Value}{Q:Unit->Shared->Prop}(ho:s.heap.get? l=some { cls:=.type "list",data:=.seq items n })(h0:0<=k)(hfit:k<2 ^ 63)(hn:k.toNat<items.size)
  (hQ:∀ h' n',h'.get? l=some { cls:=.type "list",data:=.seq (items.setIfInBounds k.toNat v) n' }->Heap.SameBut l s.heap h'->Q () { s with heap:=h' }):wpAny (model pw w) A (setItem (.ref l) (.int k t) v) Q E s:=by
 have hT:s.TypeIs (.ref l) "list":=⟨_,ho,rfl⟩;refine wpAny_holding (wpAny_bind (wpAny_sequenceKey hT (rfl) (wpAny_bind (wpAny_callSpecial?_slot (name:=Str.ofString "__setitem__") hT slot_list_setitem
  (wpAny_call_entry slot_list_setitem hT entry_list_setitem ?_ (args_list_setitem _ _ _))))))
 show wpAny _ _ (Builtin.List.listSubscript? (.int k t) >>= _) _ _ s;refine wpAny_bind (wpAny_listSubscript_int (fitsIndex_of h0 hfit) ?_);clear hfit;obtain⟨j,rfl⟩:=Int.eq_ofNat_of_zero_le h0;have hj:j<items.size:=hn;refine wpAny_bind (wpAny_bind (wpAny_seqItemAt ho rfl (wpAny_pure ?_)));rw[Array.getElem?_eq_getElem hj];refine wpAny_bind (wpAny_setSeqItemAt ho rfl ?_);have e:=Heap.get?_update_self (Obj.mapSeq (·.setIfInBounds j v)) ho rfl;exact wpAny_pure ⟨.none,rfl,wpAny_pure (hQ _ _ e (Heap.SameBut.update ..))⟩
theorem Aq{h:Heap}{a:Addr}{kvs:List (Str×Value)}(hd:h.DictOf (sk w) a kvs):(kvs.map (·.1)).Nodup:=let ⟨_,_,_,_,_,_,_,_,q⟩:=hd;q
theorem xT{h:Heap}{a:Addr}{xs:List (List Int×Addr×Value)}(hd:h.DictOfH (tupleKind (ik w)) a xs):(xs.map (·.1)).Nodup:=let ⟨_,_,_,_,_,_,_,_,q⟩:=hd;q
theorem CH{a k d:D}{va vk v:Value}{Q:Unit->Shared->Prop}(m:Rm A)(I:Inv w Gk G s.heap)(ra:Rep w G.B G.ρ va a)(rk:Rep w G.B G.ρ vk k)(rv:Rep w G.B G.ρ v d)
  (h:Ok w Gk xt EX Ib Lf G s (cL a k d G.σ) Q E):wpAny (model pw w) A (setItem va vk v) Q E s:=by
 induction a using D.casesOn with
 | ref i=>
  refine ao ra.inv λ_ z2 ha=>?_;rw[z2];refine ao (bP h) λc hc h=>?_;have C:=I.cell _ _ _ ha hc;have hu:A.in1.units<cLine:=by have:=m.u;show A.units+1<cLine;lia
  induction c with
  | list l=>refine aI (Ok.asInt rk h) λj _ z3 h=>?_;subst z3;obtain⟨⟨h1,h2,h3⟩,h⟩:=Ok.ite h;have h3:=aW h3;refine aI C λvs n hl hr=>?_;refine nU hl h1 (by lia) (by simp only[List.size_toArray,hr.length];exact h2) λh' n' e sb=>?_;refine h () _ (G.turn _ (.list (l.set j.toNat d))) rfl (gn I _ ha sb λst=>⟨vs.set j.toNat v,n', ?_,hr.set rv _⟩) trivial;refine PV e ?_;congr 3;simp
  | sdict l=>
   refine ao C λkvs hd hr=>?_
   induction k using D.casesOn with
   | str x=>obtain⟨_,y2⟩:=rk.inv;rw[y2];refine PT (λh3 h=>?_) (Ok.ite h);have h3:=aW h3;refine wpAny_setItem_pairs (jD _ _) hd (λh' hd' sb=>?_) (by simp only[bA,hr.length];lia);exact h () _ (G.turn _ (.sdict (fN l x d))) rfl (gn I _ ha sb λst=>⟨_,hd',fW rv hr (Aq hd)⟩) trivial
   | tup t=>
    refine ar rk.inv λ_ _ z4 hb hl=>?_;rw[z4]
    induction l using List.casesOn with
    | cons=>exact(h:False).elim
    | nil=>refine ao (cg h) λq hq h=>?_;cases hr;have hi:=iK hl hq;refine ar (id hb) λo n ho hcl hdt=>?_;refine wpAny_setItem_heap (knd:=tupleKind (ik w)) hu ⟨o,_,n,I.stays _ _ ho,hcl,hdt,hi⟩ (kG hd) (λh' hd' sb=>?_) (by exact Nat.zero_le _);exact h () _ (G.turn _ (.tdict [(q,d)])) rfl (gn I _ ha sb λst=>⟨_,hd',.cons hb hi rv .nil⟩) trivial
   | _=>exact(h:False).elim
  | tdict l=>refine iu (Ok.asTup rk h) λt _ _ z5 hb hl h=>?_;rw[z5];refine ao (cg h) λq hq h=>?_;refine PT (λh3 h=>?_) (Ok.ite h);have h3:=aW h3;refine ao C λxs hd hr=>?_;have hi:=iK hl hq;refine ar (id hb) λo n ho hcl hdt=>?_;refine wpAny_setItem_heap (knd:=tupleKind (ik w)) hu ⟨o,_,n,I.stays _ _ ho,hcl,hdt,hi⟩ hd (λh' hd' sb=>?_) (by simp only[bA,hr.length];lia);exact h () _ (G.turn _ (.tdict (gJ l q d))) rfl (gn I _ ha sb λst=>⟨_,hd',pV hb hi rv hr (xT hd)⟩) trivial
 | _=>exact(h:False).elim
end
end
section
variable{w:World}{Gk:Heap}{xt:Bool}
noncomputable def clsTab:List (Str×Addr):=[(nm "Memory",98),(nm "Run",529),(nm "Limits",661)]
noncomputable def jE(K:Frag)(c:Str)(C:Addr):Bool:=
 nsIn K mainGlobals c==some (some (.ref C))&&plainGet K C c&&plainOver K C&&(clsIn K C).any (·.hasDict)&&findIn K (.ref C) "__setattr__" == some (some (.builtin "object.__setattr__"))&&(eQ c).all λa=>findIn K (.ref C) a==some none
theorem jj(P:Params):(clsTab.all λx=>jE (KH P) x.1 x.2)=true:=by kernel_rfl
structure Cx(w:World)(Gk:Heap)(mg mb:Str->Option Value):Prop where
 K:(KH w.params).In Gk
 T:TopRead qv (looseW qv BY) mg mb Gk
theorem Inv.K{mg mb}{G:Gh}{h:Heap}(X:Cx w Gk mg mb)(I:Inv w Gk G h):(KH w.params).In h:=X.K.keeps λb o e=>I.stays _ _ (I.base _ _ e)
theorem Inv.T{mg mb}{G:Gh}{h:Heap}(X:Cx w Gk mg mb)(I:Inv w Gk G h):TopRead qv (looseW qv BY) mg mb h:=X.T.keeps λb o e=>I.stays _ _ (I.base _ _ e)
theorem sL{c:Str}{C:Addr}(h:jB w c C)(hi:(cB c).isSome=true):jE (KH w.params) c C=true:=by
 have F:=jj w.params;unfold clsTab at F;simp only[List.all_cons,List.all_nil,Bool.and_true,Bool.and_eq_true]at F;have key:∀ C',jE (KH w.params) c C'=true->C=C':=λC' e=>by unfold jE at e;simp only[Bool.and_eq_true,beq_iff_eq]at e;have e1:=e.1.1.1.1.1;unfold jB at h;replace e1:=(h) ▸ e1;cases e1;rfl
 unfold cB at hi
 by_cases h1:c=nm "Memory"
 ·cases h1;obtain rfl:=key _ F.1;exact F.1
 ·rw[PX h1]at hi
  by_cases h2:c=nm "Run"
  ·cases h2;obtain rfl:=key _ F.2.1;exact F.2.1
  ·replace hi:=(PX h2) ▸ hi
   by_cases h3:c=nm "Limits"
   ·subst h3;obtain rfl:=key _ F.2.2;exact F.2.2
   ·replace hi:=(PX h3) ▸ hi;exact fH hi
theorem fZ(x:Str)(v:Value):(sk w).is x v=v.isStr x:=by induction v <;> rfl
theorem pW{h:Heap}{a:Addr}{kvs:List (Str×Value)}(x:h.DictOf (sk w) a kvs):∃ o,h.get? a=some o/\∀ name,lookIn name o=some (valueAt kvs name):=by
 refine eP x λo es ep z1=>?_;refine gX z1 λho hc hd hk hp hn=>?_;refine⟨o,ho,λname=>?_⟩;unfold lookIn;rw[hd];dsimp only;have f:=hp.find name;have e:(λe:DictEntry=>e.key.isStr name)=λe=>(sk w).is name e.key:=funext λe=>(fZ name e.key).symm;rw[e]
 induction q:es.toList.find? λe=>(sk w).is name e.key with
 | some en=>rw[q]at f;rw[<-f];rfl
 | none=>
  rw[q]at f;rw[<-f];dsimp only;rw[PX];rfl;intro z;refine ao (List.any_eq_true.mp z) λe he hr=>?_;refine ao (hk e (by simpa using he)) λk h1 _=>?_;rw[fZ]at h1;unfold DictEntry.refKey at hr
  induction hkey:e.key <;> rw[hkey]at h1 hr <;> first | (exact fH hr;done) | exact fH h1
section
variable{A:Around}{E:Value->Shared->Prop}{s:Shared}{G:Gh}{Ib:List Addr}{Lf:Addr}{mg mb:Str->Option Value}
theorem nV(I:Inv w Gk G s.heap){x C dx:Addr}{i:Nat}{l:List (Str×D)}(hx:G.B x=some (instObj C dx))(hi:G.ρ[i]?=some dx)(hc:G.σ[i]?=some (.sdict l)) :
  ∃ kvs od,s.heap.DictOf (sk w) dx kvs/\RepS w G.B G.ρ kvs l/\s.heap.get? dx=some od/\(∀ name,lookIn name od=some (valueAt kvs name))/\W.InstAt s.heap x (instObj C dx) C (some od):=by
 refine ao (I.cell _ _ _ hi hc) λkvs hd hr=>?_;refine ao (pW hd) λod ho hl=>?_;exact⟨kvs,od,hd,hr,ho,hl,I.stays _ _ hx,rfl,rfl,ho⟩
theorem v5{v:Value}{d:D}(r:Rep w G.B G.ρ v d)(n:mO d=true):handedIn v=true:=by induction d using D.casesOn <;> first | exact absurd n Bool.false_ne_true | (obtain rfl:=r.inv;rfl) | (obtain⟨_,y1⟩:=r.inv;exact congrArg _ y1) | (obtain⟨_,y2,_⟩:=r.inv;exact congrArg _ y2) | (obtain⟨_,_,y3,_⟩:=r.inv;exact congrArg _ y3) | (obtain⟨_,_,_,y4,_⟩:=r.inv;exact congrArg _ y4) | (refine su r.inv λ_ _ _ _ z2 _=>?_;exact congrArg _ z2)
theorem v6{a:D}{name:Str}{σ:St}(h:aA a name σ≠.stuck):∃ c i,a=.inst c i:=by induction a using D.casesOn <;> first | exact absurd rfl h | exact⟨_,_,rfl⟩
theorem nW{a d:D}{name:Str}{σ:St}(h:eg a name d σ≠.stuck):∃ c i,a=.inst c i:=by induction a using D.casesOn <;> first | exact absurd rfl h | exact⟨_,_,rfl⟩
theorem Ar{a:D}{va:Value}{name:Str}{ex:Bool}{Q:Value->Shared->Prop}(X:Cx w Gk mg mb)(I:Inv w Gk G s.heap)(ra:Rep w G.B G.ρ va a)
  (h:Ok w Gk xt (rep w) Ib Lf G s (aA a name G.σ) Q E):wpAny (model pw w) A (getAttr va name ex) Q E s:=by
 refine gE (v6 λq=>by rw[q]at h;exact h) λcc ii z=>?_;subst z;refine eP ra.inv λ_ _ _ z4=>?_;refine bo z4 λz3 hx hi hc hs=>?_;rw[z3];refine ao (bP h) λc hcl h=>?_
 induction c using Cell.casesOn <;> try exact(h:False).elim
 ·rename_i l;refine PT (λhn h=>?_) (Ok.ite h);refine ao (cg h) λd hd h=>?_;refine PT (λhno h=>?_) (Ok.ite h);refine dM (nV I hx hi hcl) λkvs od hk hr ho hl IA=>?_;refine ao ((bI hr _).2 d hd) λv ev rv=>?_;have F:=sL hc hs;unfold jE at F;simp only[Bool.and_eq_true,beq_iff_eq,List.all_eq_true]at F;obtain⟨⟨⟨⟨⟨f1,f2⟩,f3⟩,f4⟩,f5⟩,f6⟩:=F;have f6:=f6 name (by simpa using hn);refine ao (any_some f4) λcd hcd hdd=>?_;have gg:=(plainGet_of f2).1;refine get_value (I.K X) IA gg ?_ (v5 rv hno) (h _ _ G rfl (bU I _) rv);unfold findObj;rw[hcd,Option.bind_some,f6,Option.bind_some];rw[Option.bind_some];dsimp only[Option.bind_some];show(W.ownOf cd (some od) name).bind _=_;dsimp only[W.ownOf];rw[PW hdd];show(lookIn name od).bind _=_;rw[hl,ev];rfl
set_option tactic.hygienic true in
theorem v7{name:Str}{t:Tok}{v:Value}:∀ {es:List DictEntry} {kvs:List (Str×Value)},Pairs (sk w) es kvs->(kvs.map (·.1)).Nodup->(∀ e∈es,∃ k,(sk w).is k e.key=true/\e.hash=(sk w).hash k) →
  Pairs (sk w) (nsPutIn name.cps.size name.cps.toList (λx=>match x with | some e=>{ hash:=e.hash,key:=e.key,val:=v } | none=>{ hash:=PyData.keyHash w.params name,key:=.str name t,val:=v }) es).1 (stored kvs name v) ∧
  ∀ e∈(nsPutIn name.cps.size name.cps.toList (λx=>match x with | some e=>{ hash:=e.hash,key:=e.key,val:=v } | none=>{ hash:=PyData.keyHash w.params name,key:=.str name t,val:=v }) es).1,∃ k,(sk w).is k e.key=true/\e.hash=(sk w).hash k:=by
 intro es kvs p
 induction p with
 | nil=>
  intro _ _;refine⟨.cons (jD name t) rfl .nil,λe he=>?_⟩;obtain rfl:e=_:=by simpa[nsPutIn] using he
  exact⟨name,jD name t,rfl⟩
 | cons h1 h2 h3 ih=>
  rename_i e kv es kvs;obtain⟨y,u⟩:=kv;intro n hk;simp only[List.map_cons,List.nodup_cons]at n;have ih:=ih n.2 λe he=>hk e (.tail _ he);rw[dP _ _ _ _ _ n.1];dsimp only[nsPutIn];rw[Value.isStrByCps_eq]
  by_cases q:y=name
  ·rw[<-q];rw[PW (by rw[<-fZ (w:=w)];exact h1),PW rfl];refine⟨.cons h1 rfl h3,λe' he=>?_⟩;rcases P7 he with rfl | he
   ·exact hk e (.head _)
   ·exact hk e' (.tail _ he)
  ·rw[PX (by rw[<-fZ (w:=w)];intro z;exact q ((sk w).inj _ _ _ h1 z)),PX q];refine⟨.cons h1 h2 ih.1,λe' he=>?_⟩;rcases P7 he with rfl | he
   ·exact hk e' (.head _)
   ·exact ih.2 e' he
theorem dm{K:Type}[DecidableEq K](x:K)(v:Value):∀ (kvs:List (K×Value)),(kvs.map (·.1)).Nodup->((stored kvs x v).map (·.1)).Nodup
 | [],_=>by simp[stored]
 | (y,u)::kvs,n=>by
  simp only[List.map_cons,List.nodup_cons]at n;rw[dP _ _ _ _ _ n.1];have ih:=dm x v kvs n.2
  split
  ·simp only[List.map_cons,List.nodup_cons];exact n
  ·rename_i hne;simp only[List.map_cons,List.nodup_cons];refine⟨λz=>?_,ih⟩;have:∀ p∈stored kvs x v,p.1=x\/p.1∈kvs.map (·.1):=λp hp=>by
    unfold stored at hp
    split at hp
    ·refine ao (List.mem_map.mp hp) λq hq z5=>?_;rw[<-z5]
     right
     refine List.mem_map.mpr ⟨q,hq, ?_⟩
     split <;> rfl
    ·refine PU (List.mem_append.mp hp) (λhp=>?_) λhp=>?_
     ·exact .inr (List.mem_map.mpr ⟨p,hp,rfl⟩)
     ·left;simp at hp;rw[hp]
   refine ao (List.mem_map.mp z) λp hp e=>?_;refine PU (this p hp) (λq=>?_) λq=>?_
   ·exact hne (e ▸ q)
   ·exact n.1 (e ▸ q)
theorem Pairs.len{K:Type}[DecidableEq K]{knd:KeyKind pw w K}:∀ {es:List DictEntry} {kvs:List (K×Value)},Pairs knd es kvs->es.length=kvs.length:=by
 intro es kvs p
 induction p with
 | nil=>rfl
 | cons _ _ _ ih=>simp only[List.length_cons,List.length_cons,ih]
theorem sM{K:Type}[DecidableEq K](kvs:List (K×Value))(x:K)(v:Value):(stored kvs x v).length<=kvs.length+1:=by
 unfold stored
 split
 ·rw[List.length_map];lia
 ·rw[List.length_append];simp
theorem sN(name:Str)(hsh:Int)(key v:Value)(es:Array DictEntry)(ep:Nat):∃ ep',Obj.putName name hsh key v ⟨.type "dict",none,.dict es ep,#[]⟩ =
  ⟨.type "dict",none,.dict (nsPutIn name.cps.size name.cps.toList (λx=>match x with | some e=>{ hash:=e.hash,key:=e.key,val:=v } | none=>{ hash:=hsh,key:=key,val:=v }) es.toList).1.toArray ep',#[]⟩:=by
 unfold Obj.putName;dsimp only
 split
 ·rename_i q;exact⟨ep,congrArg (λl=>(⟨.type "dict",none,.dict (List.toArray l) ep,#[]⟩ : Obj)) (congrArg Prod.fst q).symm⟩
 ·rename_i q;exact⟨ep+1,congrArg (λl=>(⟨.type "dict",none,.dict (List.toArray l) (ep+1),#[]⟩ : Obj)) (congrArg Prod.fst q).symm⟩
theorem sO{a d:D}{va v:Value}{name:Str}{Q:Unit->Shared->Prop}(X:Cx w Gk mg mb)(I:Inv w Gk G s.heap)(ra:Rep w G.B G.ρ va a)(rv:Rep w G.B G.ρ v d)
  (h:Ok w Gk xt EX Ib Lf G s (eg a name d G.σ) Q E):wpAny (model pw w) A (setAttr va name v) Q E s:=by
 refine gE (nW λq=>by rw[q]at h;exact h) λcc ii z=>?_;subst z;refine eP ra.inv λ_ _ _ z7=>?_;refine bo z7 λz6 hx hi hc hs=>?_;rw[z6];refine ao (bP h) λc hcl h=>?_
 induction c using Cell.casesOn <;> try exact(h:False).elim
 ·rename_i l;refine PT (λhn h=>?_) (Ok.ite h);refine PT (λhn hlen=>?_) (PZ hn);have hlen:=aW hlen;refine dM (nV I hx hi hcl) λkvs od hk hr ho hl IA=>?_;have F:=sL hc hs;unfold jE at F;simp only[Bool.and_eq_true,beq_iff_eq,List.all_eq_true]at F;obtain⟨⟨⟨⟨⟨f1,f2⟩,f3⟩,f4⟩,f5⟩,f6⟩:=F;have f6:=f6 name (by simpa using hn);refine ao (any_some f4) λcd hcd hdd=>?_;refine W.set_plain (I.K X) IA f5 (osa_open (s:={ s with toks:=s.toks+1 }) (I.K X) IA f3 (r:=none) ?_ λb=>?_)
  ·unfold takerIn;rw[f6];rfl
  ·have hxo:=IA.at_;refine eP hk λo es ep z8=>?_;refine gX z8 λho' hc' hd' hk' hp' hn'=>?_;obtain rfl:o=od:=PY (ho'.symm.trans ho);obtain⟨oc,odd,oda,osl⟩:=o;refine jf hc' λc1 c2 c3=>?_;dsimp only at c1 c2 c3 hd';subst c1 c2 c3 hd';refine wpAny_bind (wpAny_pure (wpAny_bind (wpAny_bind (wpAny_loadPart hxo (wpAny_bind (looks_clsIn (I.K X) hcd _ _ _ _ (λ_ _ e=>e) ?_))))));rw[hdd];refine wpAny_pure (a:=some _) (wpAny_bind (wpAny_pure (wpAny_bind ?_)));refine wpAny_bind (wpAny_bind (wpAny_askSetting (wpAny_pure (wpAny_bind (wpAny_mkText (wpAny_bind (wpAny_loadPart ho ?_)))))));dsimp only;have nr:(!es.any (·.key.isStr name)&&es.any (·.refKey))=false:=by
    have:es.any (·.refKey)=false:=by rw[Bool.eq_false_iff];intro z;rw[<-Array.any_toList]at z;refine ao (List.any_eq_true.mp z) λe he hre=>?_;refine ao (hk' e (by simpa using he)) λk h1 _=>?_;rw[fZ]at h1;unfold DictEntry.refKey at hre;cases hkey:e.key <;> rw[hkey]at h1 hre <;> first | (exact fH hre;done) | exact fH h1
    simp only[this,Bool.and_false]
   rw[aRefKeyMayBeTheName_at,nr];refine wpAny_updatePart ho ?_;have P:=λt=>v7 (name:=name) (t:=t) (v:=v) hp' hn' λe he=>hk' e (by simpa using he);generalize hf:Obj.putName name _ _ v=f;obtain⟨es',ep',hfo,P1,P2⟩ : ∃ es' ep',f ⟨.type "dict",none,.dict es ep,#[]⟩=⟨.type "dict",none,.dict (List.toArray es') ep',#[]⟩/\Pairs (sk w) es' (stored kvs name v)/\∀ e∈es',∃ k,(sk w).is k e.key=true/\e.hash=(sk w).hash k:=by rw[<-hf];refine PS (sN name (PyData.keyHash w.params name) (.str name (s.toks+1)) v es ep) λep' e=>?_;exact⟨_,ep',e,P _⟩
   have e1:=Heap.get?_update_self f ho (by exact congrArg _ hfo);rw[hfo]at e1;have len':es'.length<=1000001:=by rw[Pairs.len P1];have:=sM kvs name v;have:=hr.length;lia
   refine wpAny_bind (wpAny_lookBehind e1 (pastItsLine_dict (by simp only[List.size_toArray,bA];lia)) ?_);refine wpAny_pure ?_;refine h () _ (G.turn _ (.sdict (fN _ name d))) rfl (gn I _ hi (Heap.SameBut.update ..) λst=>⟨stored kvs name v,⟨_,_,_,e1,⟨rfl,rfl,rfl⟩,rfl,λe he=>P2 e (by simpa using he),P1,dm _ _ _ hn'⟩,fW rv hr hn'⟩) trivial
end
end
section
variable{w:World}{Gk:Heap}{xt:Bool}
noncomputable def pX(v:Value):Int:=match v with | .bool b=>b2i b | _=>0
theorem As{prog:Program}{A:Around}(vs:Array Value)(hn:∀ v∈vs,∃ b,v=.bool b) :
  CmpOf prog w A .Gt (λi v=>vs[i]?=some v) (λi j=>decide (pX (vs.getD i .none) > pX (vs.getD j .none))):=λi j vi vj s Q E hi hj h=>by
 have e1:vs.getD i .none=vi:=by simp[Array.getD_eq_getD_getElem?,hi]
 have e2:vs.getD j .none=vj:=by simp[Array.getD_eq_getD_getElem?,hj]
 simp only[e1,e2]at h;obtain⟨a,rfl⟩:=hn _ (Array.mem_of_getElem? hi);obtain⟨b,rfl⟩:=hn _ (Array.mem_of_getElem? hj);exact richCompare_gives (op:=.Gt) (PySem.typeIs_bool s a) (PySem.typeIs_bool s b) F.slot_bool_gt F.entry_int_gt (F.args_int_gt_2 _ _) (gives_int_gt_bools a b) (by intro hq;injection hq) h
theorem At{prog:Program}{A:Around}(vs:Array Value)(hn:∀ v∈vs,∃ b,v=.bool b) :
  CmpOf prog w A .Lt (λi v=>vs[i]?=some v) (λi j=>decide (pX (vs.getD i .none)<pX (vs.getD j .none))):=λi j vi vj s Q E hi hj h=>by
 have e1:vs.getD i .none=vi:=by simp[Array.getD_eq_getD_getElem?,hi]
 have e2:vs.getD j .none=vj:=by simp[Array.getD_eq_getD_getElem?,hj]
 simp only[e1,e2]at h;obtain⟨a,rfl⟩:=hn _ (Array.mem_of_getElem? hi);obtain⟨b,rfl⟩:=hn _ (Array.mem_of_getElem? hj);exact richCompare_gives (op:=.Lt) (PySem.typeIs_bool s a) (PySem.typeIs_bool s b) F.slot_bool_lt F.entry_int_lt (F.args_int_lt_2 _ _) (gives_int_lt_bools a b) (by intro hq;injection hq) h
section
variable{prog:Program}{A:Around}{E:Value->Shared->Prop}{s:Shared}{Q:Value->Shared->Prop}
theorem pY{h':Heap}{a b:Value}{o2:Obj}(hk:∀ c o,c∉[((s.heap.push { cls:=.type "tuple",data:=.seq #[a,b] }).objs.size)]->((s.heap.push { cls:=.type "tuple",data:=.seq #[a,b] }).push o2).get? c=some o->h'.get? c=some o) :
  ∀ c o,s.heap.get? c=some o->h'.get? c=some o:=λc o e=>by
 refine hk c o (λhm=>?_) (Heap.get?_push_of_some _ (Heap.get?_push_of_some _ e));rcases P7 hm with e1 | hm
 ·have:=Heap.lt_size e;rw[e1,Heap.size_push]at this;exact Nat.lt_irrefl _ (Nat.lt_of_succ_lt this)
 ·cases hm
theorem xU(a b:Bool):#[Value.bool a,.bool b][argBest (λi j=>decide (pX (#[Value.bool a,.bool b].getD i .none) > pX (#[Value.bool a,.bool b].getD j .none))) (#[Value.bool a,.bool b].size - 1)]?=some (.bool (a||b)):=by induction a <;> induction b <;> rfl
theorem xV(a b:Bool):#[Value.bool a,.bool b][argBest (λi j=>decide (pX (#[Value.bool a,.bool b].getD i .none)<pX (#[Value.bool a,.bool b].getD j .none))) (#[Value.bool a,.bool b].size - 1)]?=some (.bool (a&&b)):=by induction a <;> induction b <;> rfl
theorem xW{h:Heap}{o1 o2:Obj}{c:Addr}(hc:c∈[(h.push o1).objs.size,h.objs.size]):c<((h.push o1).push o2).objs.size:=by rw[Heap.size_push];exact vP hc (λq=>q ▸ Nat.lt_succ_self _) λq=>Nat.lt_succ_of_lt (by simp only[Heap.size_push,q];exact Nat.lt_succ_self _)
theorem v8{a b:Bool}(hh:A.handled=none)(h:∀ h' tk,(∀ c o,s.heap.get? c=some o->h'.get? c=some o)->Q (.bool (a||b)) { s with heap:=h',toks:=tk }) :
  wpAny (model prog w) A (call (.builtin "max") [.bool a,.bool b]) Q E s:=by
 have hT:(s.heap.push { cls:=.type "tuple",data:=.seq #[.bool a,.bool b] }).IsTuple s.heap.objs.size #[.bool a,.bool b]:=⟨_,Heap.get?_push_size _ rfl,rfl,0,rfl⟩;refine call_max_two (wpAny_pyIter_tuple hT ?_);refine⟨_,[_,s.heap.objs.size],[_],_,_,_,_,rfl,Walks.tuple (A:=A.in1) hh _ s.heap.objs.size (by simp only[Heap.size_push];exact Nat.ne_of_lt (Nat.lt_succ_self _)) #[.bool a,.bool b],
  ⟨⟨_,Heap.get?_push_size _ rfl,rfl,rfl⟩,hT.push _⟩,λc hc=>?_,by simp,As #[.bool a,.bool b] (by simp),λv h' tk hP hk=>?_⟩
 ·exact xW hc
 ·exact PY ((xU a b).symm.trans hP) ▸ (h h' tk (pY hk))
theorem v9{a b:Bool}(hh:A.handled=none)(h:∀ h' tk,(∀ c o,s.heap.get? c=some o->h'.get? c=some o)->Q (.bool (a&&b)) { s with heap:=h',toks:=tk }) :
  wpAny (model prog w) A (call (.builtin "min") [.bool a,.bool b]) Q E s:=by
 have hT:(s.heap.push { cls:=.type "tuple",data:=.seq #[.bool a,.bool b] }).IsTuple s.heap.objs.size #[.bool a,.bool b]:=⟨_,Heap.get?_push_size _ rfl,rfl,0,rfl⟩;refine call_min_two (wpAny_pyIter_tuple hT ?_);refine⟨_,[_,s.heap.objs.size],[_],_,_,_,_,rfl,Walks.tuple (A:=A.in1) hh _ s.heap.objs.size (by rw[Heap.size_push];exact Nat.ne_of_lt (Nat.lt_succ_self _)) #[.bool a,.bool b],
  ⟨⟨_,Heap.get?_push_size _ rfl,rfl,rfl⟩,hT.push _⟩,λc hc=>?_,by simp,At #[.bool a,.bool b] (by simp),λv h' tk hP hk=>?_⟩
 ·exact xW hc
 ·exact PY ((xV a b).symm.trans hP) ▸ (h h' tk (pY hk))
end
theorem j6:bootBuiltins (nm "len")=some (.builtin "len")/\bootBuiltins (nm "abs")=some (.builtin "abs")/\bootBuiltins (nm "min")=some (.builtin "min")/\bootBuiltins (nm "max")=some (.builtin "max") ∧
  bootBuiltins (nm "range")=some (.type "range")/\bootBuiltins (nm "divmod")=some (.builtin "divmod")/\bootBuiltins (nm "list")=some (.type "list")/\bootBuiltins (nm "tuple")=some (.type "tuple") ∧
  bootBuiltins (nm "isinstance")=some (.builtin "isinstance")/\bootBuiltins (nm "bool")=some (.type "bool"):=by
 refine⟨?_, ?_, ?_, ?_, ?_, ?_, ?_, ?_, ?_, ?_⟩ <;> kernel_rfl
section
variable{A:Around}{E:Value->Shared->Prop}{s:Shared}{G:Gh}{Ib:List Addr}{Lf:Addr}
theorem CI{a:D}{v:Value}{Q:Value->Shared->Prop}(I:Inv w Gk G s.heap)(r:Rep w G.B G.ρ v a)(h:Ok w Gk xt (rep w) Ib Lf G s (xB a G.σ) Q E):wpAny (model pw w) A (call (.builtin "len") [v]) Q E s:=by
 have small:∀ {n:Nat},n<=1000000->(n:Int)<2 ^ 63:=λ{n} hn=>by lia
 induction a using D.casesOn with
 | tup=>refine ar r.inv λ_ _ z1 hb hr=>?_;obtain rfl:=z1;obtain⟨hn,h⟩:=Ok.ite h;have hn:=aW hn;have e:=hr.length;refine PyProof.Rows.len_tuple (hb.tup I.stays) (by rw[List.size_toArray,e];exact small hn) ?_;rw[List.size_toArray,e];exact h.int I _ _
 | list=>refine ar r.inv λ_ _ z2 hb hr=>?_;obtain rfl:=z2;obtain⟨hn,h⟩:=Ok.ite h;have hn:=aW hn;have e:=hr.length;refine call_len_list (hb.list I.stays) (by rw[List.size_toArray,e];exact small hn) ?_;rw[List.size_toArray,e];exact h.int I _ _
 | str=>refine PS r.inv λ_ zz1=>?_;obtain rfl:=zz1;obtain⟨hn,h⟩:=Ok.ite h;have hn:=aW hn;exact len_str (by have:=small hn;lia) (h.int I _ _)
 | ref=>
  refine ao r.inv λ_ z3 ha=>?_;obtain rfl:=z3;refine ao (bP h) λc hc h=>?_
  induction c <;> try exact(h:False).elim
  refine PT (λhn h=>?_) (Ok.ite h);have hn:=aW hn;refine aI (I.cell _ _ _ ha hc) λvs n hl hr=>?_;have e:=hr.length;refine call_len_list ⟨_,hl,rfl,n,rfl⟩ (by simp only[List.size_toArray,e];exact small hn) ?_;simp only[List.size_toArray,e];exact h.int I _ _
 | _=>exact(h:False).elim
theorem nX(I:Inv w Gk G s.heap){h':Heap}(t:Nat){a:Addr}{o:Obj}(k:∀ b o',s.heap.get? b=some o'->h'.get? b=some o')(hn:s.heap.get? a=none)(ho:h'.get? a=some o)(hs:a≠sysModules) :
  Rn w Gk xt Ib G s (G.add a o) { s with heap:=h',toks:=t }/\(G.add a o).B a=some o:=by
 have hnB:G.B a=none:=by
  induction q:G.B a with
  | none=>rfl
  | some o'=>have:=I.stays _ _ q;replace this:=(hn) ▸ this;injection this
 have sub:∀ b o',G.B b=some o'->(G.add a o).B b=some o':=λb o' e=>by show(if b=a then some o else G.B b)=some o';refine PV (PX (λq=>by rw[q]at e;replace e:=hnB ▸ e;injection e)) ?_;exact e
 have st:∀ b o',(G.add a o).B b=some o'->h'.get? b=some o':=λb o' e=>by
  have e2:(if b=a then some o else G.B b)=some o':=e
  split at e2
  ·rename_i q;rw[q];simp only[<-e2];exact ho
  ·exact k _ _ (I.stays b o' e2)
 refine⟨⟨⟨_,_,rfl⟩,sub,λb o' e=>?_,⟨[],by simp[Gh.add],dj⟩,⟨st,λb o' e=>sub _ _ (I.base b o' e),I.len,λi c d h1 h2=>?_,λc hc=>?_,I.nodup,let ⟨o',e⟩:=I.glo;⟨o',sub _ _ e⟩,I.sys⟩,λb o' e _ _=>⟨o'.slots,k _ _ e,λ_=>rfl⟩,λb o' e=>⟨o',k _ _ e,id⟩⟩,PW rfl⟩
 ·have e:(if b=a then some o else G.B b)=some o':=e
  split at e
  ·rename_i q;rw[q];exact .inr hn
  ·exact .inl e
 ·have x:=I.cell i c d h1 h2;refine ao x.obj λoa ha _=>?_;exact x.move sub ⟨[],by simp[Gh.add]⟩ ((k _ _ ha).trans ha.symm) st
 ·refine ao (I.obj hc) λoa hoa _=>?_;show(if c=a then some o else G.B c)=none;refine PV (PX (λq=>by rw[q]at hoa;replace hoa:=hn ▸ hoa;injection hoa)) ?_;exact I.apart c hc
theorem v_{a:D}{t:Str}{v tv:Value}{Q:Value->Shared->Prop}(I:Inv w Gk G s.heap)(r:Rep w G.B G.ρ v a)(rt:bootBuiltins t=some tv)
  (h:Ok w Gk xt (rep w) Ib Lf G s ((if t=nm "tuple" then sv a else if t=nm "bool" then nO a else stuck) G.σ) Q E):wpAny (model pw w) A (call (.builtin "isinstance") [v,tv]) Q E s:=by
 have cal:∀ {g},bootBuiltins t=some g->wpAny (model pw w) A (call (.builtin "isinstance") [v,g]) Q E s->wpAny (model pw w) A (call (.builtin "isinstance") [v,tv]) Q E s:=λe k=>PY (e.symm.trans rt) ▸ k;refine PU (P8 (t=nm "tuple")) (λh1=>?_) λh1=>?_
 ·refine cal (h1 ▸ j6.2.2.2.2.2.2.2.1) ?_;replace h:=(PW h1) ▸ h
  induction a using D.casesOn with
  | tup l=>refine ar r.inv λ_ _ z4 hb hr=>?_;rw[z4];refine ar hb λo n ho hc hd=>?_;exact IsiPair.tuple_tuple (I.stays _ _ ho) hc (h.boolV I)
  | _=>exact(h:False).elim
 replace h:=(PX h1) ▸ h
 by_cases h2:t=nm "bool"
 ·refine cal (h2 ▸ j6.2.2.2.2.2.2.2.2.2) ?_;replace h:=(PW h2) ▸ h;have h':∀ b tk,Ok w Gk xt (rep w) Ib Lf G s (ret (D.bool b) G.σ) Q E->Q (.bool b) { s with toks:=tk }:=λb tk h=>h _ _ G rfl (bU I tk) (.bool b)
  induction a using D.casesOn with
  | none=>obtain rfl:=r.inv;exact IsiPair.NoneType_bool (h' _ _ h)
  | bool=>obtain rfl:=r.inv;exact IsiPair.bool_bool (h' _ _ h)
  | int=>obtain⟨_,y6⟩:=r.inv;rw[y6];exact IsiPair.int_bool (h' _ _ h)
  | str=>obtain⟨_,y7⟩:=r.inv;rw[y7];exact IsiPair.str_bool (h' _ _ h)
  | tup=>refine ar r.inv λ_ _ z5 hb hr=>?_;rw[z5];refine ar hb λo n ho hc hd=>?_;exact IsiPair.tuple_bool (I.stays _ _ ho) hc (h' _ _ h)
  | _=>exact(h:False).elim
 replace h:=(PX h2) ▸ h;exact(h:False).elim
theorem B6{B:Addr->Option Obj}{ρ:List Addr}{vs:List Value}{a b:D}(r:RepL w B ρ vs [a,b]):∃ v u,vs=[v,u]/\Rep w B ρ v a/\Rep w B ρ u b:=by
 cases r with
 | cons h t=>refine ao (uU t) λu z6 hu=>?_;exact z6 ▸ (⟨_,_,rfl,h,hu⟩)
theorem Rep.int'{B:Addr->Option Obj}{ρ:List Addr}{v:Value}{i:Int}(r:Rep w B ρ v (.int i)):∃ t,v=.int i t:=r.inv
theorem Rep.str'{B:Addr->Option Obj}{ρ:List Addr}{v:Value}{i:Str}(r:Rep w B ρ v (.str i)):∃ t,v=.str i t:=r.inv
section
variable{Q:Value->Shared->Prop}{as:List D}{vs:List Value}{σ:St}
theorem Ok.one{g:D->M D}(ra:RepL w G.B G.ρ vs as)(h:Ok w Gk xt (rep w) Ib Lf G s (one as g σ) Q E) :
  ∃ a v,as=[a]/\vs=[v]/\Rep w G.B G.ρ v a/\Ok w Gk xt (rep w) Ib Lf G s (g a σ) Q E:=by
 cases as with
 | nil=>exact(h:False).elim
 | cons a r=>
  induction r using List.casesOn with
  | nil=>refine ao (uU ra) λv e r=>?_;exact⟨a,v,rfl,e,r,h⟩
  | cons=>exact(h:False).elim
theorem Ok.two{g:D->D->M D}(ra:RepL w G.B G.ρ vs as)(h:Ok w Gk xt (rep w) Ib Lf G s (two as g σ) Q E) :
  ∃ a b v u,vs=[v,u]/\Rep w G.B G.ρ v a/\Rep w G.B G.ρ u b/\Ok w Gk xt (rep w) Ib Lf G s (g a b σ) Q E:=by
 cases as with
 | nil=>exact(h:False).elim
 | cons a r=>
  cases r with
  | nil=>exact(h:False).elim
  | cons b r=>
   induction r using List.casesOn with
   | nil=>refine ar (B6 ra) λv u e r r'=>?_;exact⟨a,b,v,u,e,r,r',h⟩
   | cons=>exact(h:False).elim
theorem Ok.numB{a b:D}{v u:Value}{g:Int->Int->M D}{k:Bool->Bool->M D}(r:Rep w G.B G.ρ v a)(r':Rep w G.B G.ρ u b)(h:Ok w Gk xt (rep w) Ib Lf G s (numB g k a b σ) Q E) :
  (∃ i t j t',v=.int i t/\u=.int j t'/\Ok w Gk xt (rep w) Ib Lf G s (g i j σ) Q E)\/∃ x y,v=.bool x/\u=.bool y/\Ok w Gk xt (rep w) Ib Lf G s (k x y σ) Q E:=by
 induction a using D.casesOn with
 | int i=>obtain⟨t,e⟩:=r.inv;refine aI (Ok.asInt r' h) λj t' e' h=>?_;exact .inl ⟨i,t,j,t',e,e',h⟩
 | bool x=>refine ao (Ok.asBool r' h) λy e' h=>?_;exact .inr ⟨x,y,r.inv,e',h⟩
 | _=>exact(h:False).elim
end
theorem Au{a:D}{v:Value}{Q:Value->Shared->Prop}(I:Inv w Gk G s.heap)(r:Rep w G.B G.ρ v a)(h:Ok w Gk xt (rep w) Ib Lf G s (B0 a G.σ) Q E):wpAny (model pw w) A (call (.type "list") [v]) Q E s:=by
 induction a using D.casesOn with
 | ref i=>
  refine ao r.inv λ_ z7 ha=>?_;obtain rfl:=z7;refine ao (bP h) λc hc h=>?_
  induction c with
  | list l=>obtain⟨hn,h⟩:=Ok.ite h;have hn:=aW hn;refine aI (I.cell _ _ _ ha hc) λus n hl hr=>?_;refine call_list_seq _ (.inl rfl) hl rfl rfl (λh' c' k e=>?_) (by simp only[List.size_toArray,hr.length,bA];lia);refine PT (λR eB=>?_) (nX (xt:=xt) (Ib:=Ib) I s.toks k (aD _) e I.fresh_sys);exact h _ _ (G.add _ _) rfl R (.list (vs:=us) ⟨_,c',eB,rfl,rfl⟩ (hr.mono R.B (let ⟨m,q,_⟩:=R.ρ;⟨m,q⟩)))
  | _=>exact(h:False).elim
 | _=>exact(h:False).elim
theorem xX{a:D}{v:Value}{Q:Value->Shared->Prop}(I:Inv w Gk G s.heap)(r:Rep w G.B G.ρ v a)(h:Ok w Gk xt (rep w) Ib Lf G s (xC a G.σ) Q E):wpAny (model pw w) A (call (.type "tuple") [v]) Q E s:=by
 induction a using D.casesOn with
 | list l=>refine ar r.inv λ_ _ z8 hb hr=>?_;subst z8;refine PT (λhn h=>?_) (Ok.ite h);have hn:=aW hn;refine call_tuple_list (hb.list I.stays) (λh' k=>?_) (by simp only[List.size_toArray,hr.length,bA];lia);have R1:=dA (xt:=xt) (Ib:=Ib) I s.toks k;exact(h.shift R1).frozen R1.inv _ rfl _ λB hB e=>.tup ⟨_,0,e,rfl,rfl⟩ (hr.mono hB ⟨[],by simp⟩)
 | _=>exact(h:False).elim
theorem xY{as:List D}{vs:List Value}{Q:Value->Shared->Prop}(I:Inv w Gk G s.heap)(ra:RepL w G.B G.ρ vs as)(h:Ok w Gk xt (rep w) Ib Lf G s (xD as G.σ) Q E):wpAny (model pw w) A (call (.type "range") vs) Q E s:=by
 cases as with
 | nil=>exact(h:False).elim
 | cons a r=>
  induction r using List.casesOn with
  | nil=>refine ao (uU ra) λv e r=>?_;refine aI (Ok.asInt r h) λi t e' h=>?_;rw[e,e'];refine PT (λ_ h=>?_) (Ok.ite h);exact call_range_1 (h.frozen I _ rfl _ λB hB e=>.range e rfl)
  | cons b r=>refine bp (Ok.two (g:=DV) (σ:=G.σ) ra h) λa b v u z9=>?_;refine cM z9 λe r1 r2 h=>?_;refine aI (Ok.asInt r1 h) λi t e1 h=>?_;refine aI (Ok.asInt r2 h) λj t' e2 h=>?_;rw[e,e1,e2];refine PT (λ_ h=>?_) (Ok.ite h);exact call_range_2 (h.frozen I _ rfl _ λB hB e=>.range e rfl)
theorem CJ{a b:D}{v u:Value}{Q:Value->Shared->Prop}(I:Inv w Gk G s.heap)(r1:Rep w G.B G.ρ v a)(r2:Rep w G.B G.ρ u b)(h:Ok w Gk xt (rep w) Ib Lf G s (DU a b G.σ) Q E):wpAny (model pw w) A (call (.builtin "isinstance") [v,u]) Q E s:=by
 induction b using D.casesOn with
 | blt t=>exact v_ I r1 r2.inv h
 | _=>exact(h:False).elim
theorem CL{x:Str}{as:List D}{f:Value}{vs:List Value}{Q:Value->Shared->Prop}(m:Rm A)(I:Inv w Gk G s.heap)(rx:bootBuiltins x=some f)(ra:RepL w G.B G.ρ vs as)
  (h:Ok w Gk xt (rep w) Ib Lf G s (au x as G.σ) Q E):wpAny (model pw w) A (call f vs) Q E s:=by
 refine bo j6 λb1 b2 b3 b4 z10=>?_;refine gX z10 λb5 b6 b7 b8 b9 b10=>?_;have any:∀ {d:D} {v:Value} {h':Heap} {tk:Nat},(∀ c o,s.heap.get? c=some o->h'.get? c=some o)->Rep w G.B G.ρ v d->Ok w Gk xt (rep w) Ib Lf G s (ret d G.σ) Q E->Q v { s with heap:=h',toks:=tk }:=
  λk r h=>h _ _ G rfl (dA I _ k) r
 have cal:∀ {y g us},x=y->bootBuiltins y=some g->vs=us->wpAny (model pw w) A (call g us) Q E s->wpAny (model pw w) A (call f vs) Q E s:=λe e' e2 k=>by rw[e2,PY (rx.symm.trans (e ▸ e'))];exact k
 unfold au at h;refine PU (P8 (x=nm "len")) (λq=>?_) λq=>?_
 ·replace h:=(PW q) ▸ h;refine aH (Ok.one ra h) λa v _ e r h=>?_;exact cal q b1 e (CI I r h)
 replace h:=(PX q) ▸ h;clear q
 by_cases q:x=nm "abs"
 ·replace h:=(PW q) ▸ h;refine aH (Ok.one ra h) λa v _ e r h=>?_;refine aI (Ok.asInt r h) λi t e' h=>?_;rw[e']at e;refine cal q b2 e (call_abs_int λu tk=>?_);exact(show(if i<0 then -i else i)=((i.natAbs:Nat):Int) by split <;> lia) ▸ (h.int I _ _)
 replace h:=(PX q) ▸ h;clear q
 by_cases q:x=nm "min"
 ·replace h:=(PW q) ▸ h;refine bp (Ok.two ra h) λa b v u z11=>?_;refine cM z11 λe r1 r2 h=>?_;rcases Ok.numB r1 r2 h with⟨i,t,j,t',e1,e2,h⟩ | ⟨y,z,e1,e2,h⟩
  ·rw[e1,e2]at e;refine cal q b3 e (min_two_ints m.h λh' tk k=>any k ?_ h)
   split <;> exact .int _ _
  ·rw[e1,e2]at e;exact cal q b3 e (v9 m.h λh' tk k=>any k (.bool _) h)
 rw[PX q]at h;clear q;rcases P8 (x=nm "max") with q | q
 ·rw[PW q]at h;refine bp (Ok.two ra h) λa b v u z12=>?_;refine cM z12 λe r1 r2 h=>?_;rcases Ok.numB r1 r2 h with⟨i,t,j,t',e1,e2,h⟩ | ⟨y,z,e1,e2,h⟩
  ·rw[e1,e2]at e;refine cal q b4 e (max_two_ints m.h λh' tk k=>any k ?_ h)
   split <;> exact .int _ _
  ·rw[e1,e2]at e;exact cal q b4 e (v8 m.h λh' tk k=>any k (.bool _) h)
 replace h:=(PX q) ▸ h;clear q;refine PU (P8 (x=nm "range")) (λq=>?_) λq=>?_
 ·replace h:=(PW q) ▸ h;exact cal q b5 rfl (xY I ra h)
 replace h:=(PX q) ▸ h;clear q;rcases P8 (x=nm "divmod") with q | q
 ·rw[PW q]at h;refine bp (Ok.two ra h) λa b v u z13=>?_;refine cM z13 λe r1 r2 h=>?_;refine aI (Ok.asInt r1 h) λi t e1 h=>?_;refine aI (Ok.asInt r2 h) λj t' e2 h=>?_;rw[e1,e2]at e;obtain⟨⟨c1,c2,c3⟩,h⟩:=Ok.ite h;exact cal q b6 e (divmod_int c1 (h.frozen I _ rfl _ λB hB e=>.tup (vs:=[.int _ _,.int _ _]) ⟨_,0,e,rfl,rfl⟩ (.cons (.int _ _) (.cons (.int _ _) .nil))) (.inl (fT c3)))
 replace h:=(PX q) ▸ h;clear q
 by_cases q:x=nm "list"
 ·replace h:=(PW q) ▸ h;refine aH (Ok.one ra h) λa v _ e r h=>?_;exact cal q b7 e (Au I r h)
 rw[PX q]at h;clear q;rcases P8 (x=nm "tuple") with q | q
 ·rw[PW q]at h;refine aH (Ok.one ra h) λa v _ e r h=>?_;exact cal q b8 e (xX I r h)
 rw[PX q]at h;clear q
 by_cases q:x=nm "isinstance"
 ·rw[PW q]at h;refine bp (Ok.two ra h) λa b v u z14=>?_;refine cM z14 λe r1 r2 h=>?_;exact cal q b9 e (CJ I r1 r2 h)
 rw[PX q]at h;exact(h:False).elim
theorem xZ{B:Addr->Option Obj}{ρ:List Addr}:∀ {l:List D} {vs:List Value} {ys:List Str},RepL w B ρ vs l->iA l=some ys->StrsAre vs ys:=by
 intro l vs ys r
 revert ys
 show ∀ ys:List Str,iA l=some ys->StrsAre vs ys;refine RepL.ind ?_ ?_ r
 ·intro ys;intro e;cases e;exact .nil
 ·intro v d vs ds a b ih ys;intro e
  induction d using D.casesOn <;> try exact dt e
  obtain⟨_,y8⟩:=a.inv;rw[y8];dsimp only[iA]at e
  induction k:iA ds with
  | none=>exact dt (k ▸ e)
  | some q=>replace e:=(k) ▸ e;cases e;exact .cons _ _ (ih _ k)
end
end
section
variable{w:World}{Gk:Heap}{xt:Bool}
noncomputable def StkL(G:Gh)(h:Heap)(l:List Env):Prop:=∀ env∈l,env.scope.kind≠.module/\∃ L o,env.frame=some L/\h.get? L=some o/\aV o/\G.B L=none/\L∉G.ρ
noncomputable def sq(l:List Env):List Addr:=l.filterMap (·.frame)
theorem StkL.rn{G G':Gh}{s s':Shared}{Ib:List Addr}{l:List Env}(S:StkL G s.heap l)(R:Rn w Gk false Ib G s G' s'):StkL G' s'.heap l:=λenv he=>by
 refine pI (S env he) λhk L o hf z1=>?_;refine cM z1 λho hn hB hρ=>?_;refine ao (R.there L o ho) λo' ho' hn'=>?_;refine⟨hk,L,o',hf,ho',hn' hn, ?_,λq=>?_⟩
 ·induction q:G'.B L with
  | none=>rfl
  | some o2=>
   refine PU (R.newB L o2 q) (λz=>?_) λz=>?_
   ·replace z:=(hB) ▸ z;injection z
   ·replace z:=(ho) ▸ z;injection z
 ·refine ao R.ρ λmore e f=>?_;rw[e]at q;refine PU (List.mem_append.mp q) (λq=>?_) λq=>?_
  ·exact hρ q
  ·have:=f L q;replace this:=(ho) ▸ this;injection this
theorem StkL.mem{G:Gh}{h:Heap}{l:List Env}(S:StkL G h l){b:Addr}(hb:b∈sq l):∃ o,h.get? b=some o/\aV o/\G.B b=none/\b∉G.ρ:=by refine ao (List.mem_filterMap.mp hb) λenv he hf=>?_;refine pI (S env he) λ_ L o hf' z2=>?_;refine cM z2 λho hn hB hρ=>?_;have:L=b:=PY (hf'.symm.trans hf);subst this;exact⟨o,ho,hn,hB,hρ⟩
theorem StkL.fun{G:Gh}{h:Heap}(es:List Addr):∀ {l:List Env},StkL G h l->∀ l',(∀ b∈sq l,b∈l')->h.FunFrames (hideAll h l') l
 | [],_,_,_=>trivial
 | env::l,S,l',sub=>by refine pI (S env (.head _)) λhk L o hf z3=>?_;refine cM z3 λho hn _ _=>?_;have hm:L∈sq (env::l):=List.mem_filterMap.mpr ⟨env,.head _,hf⟩;refine⟨hk,⟨L,o,hf,hideAll_none _ (sub L hm),ho,hn⟩,StkL.fun es (λe he=>S e (.tail _ he)) l' λb hb=>sub b ?_⟩;refine ao (List.mem_filterMap.mp hb) λe he q=>?_;exact List.mem_filterMap.mpr ⟨e,.tail _ he,q⟩
theorem kH(h:Heap)(l:List Addr):(hideAll h l).StaysIn h:=λb o e=>of_hideAll _ e
section
variable{G G':Gh}{s s':Shared}{Ib:List Addr}{l:List Env}
theorem pZ{es:List Addr}(R:Rn w Gk false Ib G s G' s')(S:StkL G' s'.heap l)(hX:∀ b∈es,s.heap.get? b=none/\G'.B b=none/\∃ o vs,s'.heap.get? b=some o/\o.data=.fields vs)
  {h'':Heap} (k1:(hideAll s'.heap (sq l++es)).StaysIn h'') (k2:∀ b o,s'.heap.get? b=some o->(∀ vs,o.data≠.fields vs)->∃ sl,h''.get? b=some { o with slots:=sl }) :
  Rn w Gk false Ib G s G' { s' with heap:=h'' }/\StkL G' h'' l/\∀ T oT ts,h''.get? T=some oT->oT.data=.fields ts->(hideAll s'.heap (sq l++es)).get? T=none->s.heap.get? T=none/\G'.B T=none:=by
 have ex:∀ b o,s'.heap.get? b=some o->b∉sq l->b∉es->h''.get? b=some o:=λb o e n1 n2=>k1 b o (hideAll_get _ e λq=>(List.mem_append.mp q).elim n1 n2);have st:∀ b o,G'.B b=some o->h''.get? b=some o:=λb o e=>ex b o (R.inv.stays b o e) (λq=>by refine dg (S.mem q) λ_ _ _ z _=>?_;replace z:=(e) ▸ z;cases z) (λq=>by have:=(hX b q).2.1;replace this:=(e) ▸ this;injection this);refine gE R.same λhh tk es'=>?_;refine⟨⟨⟨h'',tk,by rw[es']⟩,R.B,R.newB,R.ρ,⟨st,R.inv.base,R.inv.len,λi a c h1 h2=>?_,R.inv.apart,R.inv.nodup,R.inv.glo,R.inv.sys⟩,λb o e n1 n2=>?_,λb o e=>?_⟩,λenv he=>?_,λT oT ts hT hd hn=>?_⟩
 ·have x:=R.inv.cell i a c h1 h2;refine ao x.obj λoa ha hna=>?_;have hm:a∈G'.ρ:=List.mem_of_getElem? h1;exact x.move (λ_ _ e=>e) ⟨[],by simp⟩ ((ex a oa ha (λq=>by refine dg (S.mem q) λ_ _ _ _ z=>?_;exact z hm) (λq=>by refine Cp (hX a q) λ_ _ o vs z zd=>?_;replace z:=(ha) ▸ z;cases z;exact hna vs zd)).trans ha.symm) st
 ·refine ao (R.keep b o e n1 n2) λsl q qx=>?_;rcases P8 (b∈sq l) with hf | hf
  ·refine dg (S.mem hf) λo2 z zn _ _=>?_;replace z:=(q) ▸ z;cases z;obtain⟨sl',z⟩:=k2 b _ q zn;exact⟨sl',z,λz=>z.elim (λz=>(nomatch z)) λ⟨vs,z⟩=>absurd z (zn vs)⟩
  ·exact⟨sl,ex b _ q hf (λz=>by have:=(hX b z).1;replace this:=(e) ▸ this;injection this),qx⟩
 ·refine ao (R.there b o e) λo' q qn=>?_;rcases P8 (b∈sq l) with hf | hf
  ·refine dg (S.mem hf) λo2 z zn _ _=>?_;replace z:=(Eq.symm (q)).trans z;cases z;obtain⟨sl',z⟩:=k2 b _ q zn;exact⟨_,z,λ_=>zn⟩
  ·exact⟨o',ex b _ q hf (λz=>by have:=(hX b z).1;replace this:=(e) ▸ this;cases this),qn⟩
 ·refine pI (S env he) λhk L o hf z4=>?_;refine cM z4 λho hn hB hρ=>?_;refine PS (k2 L o ho hn) λsl q=>?_;exact⟨hk,L,_,hf,q,hn,hB,hρ⟩
 ·have key:∀ o,s'.heap.get? T=some o->T∈es:=λo e=>by
   by_cases hf:T∈sq l
   ·refine dg (S.mem hf) λo2 z zn _ _=>?_;refine PS (k2 T _ z zn) λsl' z=>?_;replace z:=(hT) ▸ z;cases z;exact absurd hd (zn ts)
   ·by_cases he:T∈es
    ·exact he
    ·have:=hideAll_get (sq l++es) e λq=>(List.mem_append.mp q).elim hf he;replace this:=(hn) ▸ this;injection this
  constructor
  ·induction q:s.heap.get? T with
   | none=>rfl
   | some o=>refine ao (R.there T o q) λo' z _=>?_;have:=(hX T (key _ z)).1;replace this:=(q) ▸ this;injection this
  ·induction q:G'.B T with
   | none=>rfl
   | some o=>have:=(hX T (key _ (R.inv.stays _ _ q))).2.1;replace this:=(q) ▸ this;injection this
noncomputable def ml(vs:Array Value):List Addr:=match vs[1]? with
 | some (Value.ref T)=>[T]
 | _=>[]
theorem uW{Lf:Addr}{x:Value}(X:ExcAt w s.heap G' s'.heap Lf x):∃ e oe vs C a0,x=.ref e/\s'.heap.get? e=some oe/\sH w C/\oe.cls=.ref C/\oe.data=.fields vs/\vs[0]?=some a0/\s.heap.get? e=none/\G'.B e=none ∧
  (vs[1]?=some .none\/∃ T oT ts,vs[1]?=some (.ref T)/\T≠e/\s'.heap.get? T=some oT/\oT.data=.fields ts/\(ts[3]?=some .none\/ts[3]?=some (rawInt Lf))) ∧
  ∀ b∈e::ml vs,s.heap.get? b=none/\G'.B b=none/\∃ o vs,s'.heap.get? b=some o/\o.data=.fields vs:=by
 refine eP X λe oe vs z5=>?_;refine gE z5 λC a0 z6=>?_;refine bo z6 λr1 r2 r3 r4 z7=>?_;refine bo z7 λr5 r6 r7 r8 r9=>?_;refine⟨e,oe,vs,C,a0,r1,r4,r5,r6,r7,r8,r2,r3, ?_,λb hb=>?_⟩
 ·rcases r9 with q | ⟨T,oT,ts,q1,q2,q3,q4,q5,q6,q7⟩
  ·exact .inl q
  ·exact .inr ⟨T,oT,ts,q1,q4,q5,q6,q7⟩
 ·rcases P7 hb with rfl | hb
  ·exact⟨r2,r3,oe,vs,r4,r7⟩
  ·unfold ml at hb;rcases r9 with q | ⟨T,oT,ts,q1,q2,q3,q4,q5,q6,q7⟩
   ·replace hb:=(q) ▸ hb;cases hb
   ·rw[q1]at hb;obtain rfl:b=T:=List.mem_singleton.mp hb;exact⟨q2,q3,oT,ts,q5,q6⟩
variable{M:Model}{A:Around}{E:Value->Shared->Prop}
theorem iO{env:Env}{outer:List Env}{L:Addr}{x:Value}(hfr:A.frames=some (env::outer))(hf:env.frame=some L)(R:Rn w Gk false Ib G s G' s')(S:StkL G' s'.heap (env::outer))(X:ExcAt w s.heap G' s'.heap L x)
  {Q:Unit->Shared->Prop} (h:∀ s'',(∀ b o,s'.heap.get? b=some o->aV o->∃ sl,s''.heap.get? b=some { o with slots:=sl })->Rn w Gk false Ib G s G' s''->StkL G' s''.heap (env::outer)->ExcAt w s.heap G' s''.heap L x->(∃ e oe vs T oT ts,x=.ref e/\s''.heap.get? e=some oe/\oe.data=.fields vs/\vs[1]?=some (.ref T)/\s''.heap.get? T=some oT/\oT.data=.fields ts/\ts[3]?=some (rawInt L))->Q () s''):wpAny M A (noteFrame x env) Q E s':=by
 refine eP (uW X) λe oe vs z9=>?_;refine gE z9 λC a0 z10=>?_;refine bo z10 λz8 he hC hcl z11=>?_;refine gX z11 λhd h0 hes heB hT hX=>?_;obtain rfl:=z8;have sub:∀ b∈sq (env::outer),b∈sq (env::outer)++e::ml vs:=λb hb=>List.mem_append_left _ hb;have FF:=StkL.fun [] S (sq (env::outer)++e::ml vs) sub;have hen:(hideAll s'.heap (sq (env::outer)++e::ml vs)).get? e=none:=hideAll_none _ (List.mem_append_right _ (.head _));have xu:∀ h'',Heap.NotedW (hideAll s'.heap (sq (env::outer)++e::ml vs)) (env::outer) e oe.cls a0 (rawInt L) s'.heap h''->Q () { s' with heap:=h'' }:=λh'' ⟨n1,n2,n3,n4⟩=>by refine jf (pZ R S hX n1 n4) λR' S' nT=>?_;refine eP n3 λoe' vs' T z13=>?_;refine gE z13 λoT ts z14=>?_;refine bo z14 λt1 z12 t3 t4 z15=>?_;refine bo z15 λt5 t6 t7 t8 t9=>?_;obtain⟨t2,t2'⟩:=z12;refine PT (λu1 u2=>?_) (nT T oT ts t7 t8 t5);exact h _ n4 R' S' ⟨e,oe',vs',C,a0,rfl,hes,heB,t1,hC,t2.trans hcl,t3,t2',.inr ⟨T,oT,ts,t4,u1,u2,t6,t7,t8,.inr t9⟩⟩ ⟨e,oe',vs',T,oT,ts,rfl,t1,t3,t4,t7,t8,t9⟩
 rcases hT with h1 | ⟨T,oT,ts,h1,hTe,hT,hdT,h3⟩
 ·dsimp only[noteFrame];simp only[hf];refine wpAny_bind (wpAny_field he hd h1 ?_);rw[PX (by decide)];exact wpAny_entryW hfr FF hf he (kH _ _) hen hd (Array.getElem?_eq_some_iff.mp h1).1 h0 xu
 ·have hTn:(hideAll s'.heap (sq (env::outer)++e::ml vs)).get? T=none:=hideAll_none _ (List.mem_append_right _ (.tail _ (by unfold ml;exact h1 ▸ (.head _))));rcases h3 with h3 | h3
  ·exact wpAny_noteFrame_onW hfr FF hf ⟨oe,vs,T,oT,ts,he,⟨rfl,h0⟩,hd,h1,hTn,hTe,hT,hdT,h3⟩ (kH _ _) hen xu
  ·exact wpAny_noteFrame_againW hf ⟨oe,vs,T,oT,ts,he,⟨rfl,h0⟩,hd,h1,hTn,hTe,hT,hdT,h3⟩ (h _ (λb o q _=>⟨o.slots,q⟩) R S X ⟨e,oe,vs,T,oT,ts,rfl,he,hd,h1,hT,hdT,h3⟩)
theorem eR{L:Addr}{fr:Option Addr}{x:Value}(hL:fr=none\/fr=some L)(R:Rn w Gk false Ib G s G' s')(S:StkL G' s'.heap l)(X:ExcAt w s.heap G' s'.heap L x)
  {Q:Unit->Shared->Prop} (h:∀ s'',(∀ b o,s'.heap.get? b=some o->aV o->∃ sl,s''.heap.get? b=some { o with slots:=sl })->Rn w Gk false Ib G s G' s''->StkL G' s''.heap l->ExcAt w s.heap G' s''.heap L x->(fr=none->∀ L',ExcAt w s.heap G' s''.heap L' x)->Q () s''):wpAny M A (setFlight x fr) Q E s':=by
 refine eP (uW X) λe oe vs z17=>?_;refine gE z17 λC a0 z18=>?_;refine bo z18 λz16 he hC hcl z19=>?_;refine gX z19 λhd h0 hes heB hT hX=>?_;obtain rfl:=z16;rcases hT with h1 | ⟨T,oT,ts,h1,hTe,hT,hdT,h3⟩
 ·refine wpAny_bind (wpAny_field he hd h1 ?_);exact wpAny_pure (h _ (λb o q _=>⟨o.slots,q⟩) R S X λ_ L'=>⟨e,oe,vs,C,a0,rfl,hes,heB,he,hC,hcl,hd,h0,.inl h1⟩)
 ·refine wpAny_bind (wpAny_field he hd h1 ?_);rw[PW (show(Value.ref T !=Value.none)=true from rfl)];have hsz3:3<ts.size:=by rcases h3 with h3 | h3 <;> exact(Array.getElem?_eq_some_iff.mp h3).1
  refine wpAny_setField hT hdT hsz3 ?_;have mem:T∈e::ml vs:=.tail _ (by unfold ml;exact h1 ▸ (.head _));have other:∀ b,b≠T->(s'.heap.update T (Obj.mapFields (·.setIfInBounds 3 (fr.elim Value.none λf=>rawInt f)))).get? b=s'.heap.get? b:=λb hb=>Heap.get?_update_other _ _ (Ne.symm hb);refine jf (pZ (h'':=s'.heap.update T (Obj.mapFields (·.setIfInBounds 3 (fr.elim Value.none λf=>rawInt f)))) R S hX
   (λb o hb=>(other b λq=>by rw[q]at hb;replace hb:=(hideAll_none _ (List.mem_append_right _ mem)) ▸ hb;injection hb).trans (of_hideAll _ hb))
   (λb o hb hn=>⟨o.slots,(other b λq=>by rw[q]at hb;replace hb:=hT ▸ hb;cases hb;exact hn ts hdT).trans hb⟩)) λR' S' nT=>?_
  have hT':=Heap.get?_update_self (Obj.mapFields (·.setIfInBounds 3 (fr.elim Value.none λf=>rawInt f))) hT (Obj.isFreed_of_fields (Obj.data_mapFields hdT _));refine jf (hX T mem) λu1 u2 _=>?_;have mk:∀ L',(fr=none\/fr=some L')->ExcAt w s.heap G' (s'.heap.update T (Obj.mapFields (·.setIfInBounds 3 (fr.elim Value.none λf=>rawInt f)))) L' (.ref e):=λL' hl=>
   ⟨e,oe,vs,C,a0,rfl,hes,heB,(other e (Ne.symm hTe)).trans he,hC,hcl,hd,h0,.inr ⟨T,_,_,h1,u1,u2,hTe,hT',Obj.data_mapFields hdT _,by
    rcases hl with rfl | rfl
    ·left;simp[hsz3]
    ·right;simp[hsz3]⟩⟩
  exact h _ (λb o hb hn=>⟨o.slots,(other b λq=>by rw[q]at hb;replace hb:=hT ▸ hb;cases hb;exact hn ts hdT).trans hb⟩) R' S' (mk L hL) λhn L'=>mk L' (.inl hn)
theorem wa{env:Env}{outer:List Env}{L:Addr}{x:Value}(hfr:A.frames=some (env::outer))(hf:env.frame=some L)(R:Rn w Gk false Ib G s G' s')(S:StkL G' s'.heap (env::outer))(X:ExcAt w s.heap G' s'.heap L x)
  {Q:Unit->Shared->Prop} (h:∀ s'',(∀ b o,s'.heap.get? b=some o->aV o->∃ sl,s''.heap.get? b=some { o with slots:=sl })->Rn w Gk false Ib G s G' s''->StkL G' s''.heap (env::outer)->(∀ L',ExcAt w s.heap G' s''.heap L' x)->Q () s''):wpAny M A (leaving env x) Q E s':=by
 exact wpAny_bind (iO hfr hf R S X λs'' k R' S' X' _=>eR (.inl rfl) R' S' X' λs3 k3 R3 S3 _ X3=>h s3 (λb o q n=>by refine PS (k b o q n) λsl z=>?_;refine PS (k3 b _ z n) λsl' z'=>?_;exact⟨sl',z'⟩) R3 S3 (X3 rfl))
theorem eS{x:Value}{env env':Env}(h:env'.frame=env.frame):noteFrame x env'=noteFrame x env:=by delta noteFrame PySem.frameOf;rw[h]
end
end
section
variable{w:World}{Gk:Heap}
noncomputable def fnAddr:List (Str×Addr×Nat×Nat):=([("units_of",60,11,0),("Memory.__init__",74,14,1),("Memory.load",81,14,2),("Memory.store",88,14,3),("need_units",109,15,0),("read_cell",116,16,0),("load_number",123,17,0),("store_number",130,18,0),("load_text",137,19,0),("store_text",144,20,0),("pad",151,21,0),("unit_size",158,22,0),("element_place",165,23,0),("sub_place",172,24,0),("fit_int",179,26,0),("int_add",186,27,0),("int_sub",193,28,0),("int_mul",200,29,0),("cut_quotient",207,30,0),("int_div",214,31,0),("inverse_power",221,32,0),("int_power",228,33,0),("order_of",235,34,0),("holds",242,35,0),("int_binary",249,36,0),("logic_binary",256,37,0),("count_digits",264,42,0),("strip_zeros",271,43,0),("round_digits",278,44,0),("round_real",285,45,0),("exact_add",292,46,0),("exact_mul",299,47,0),("real_neg",306,48,0),("quotient",313,49,0),("real_add",320,50,0),("real_sub",327,51,0),("real_mul",334,52,0),("real_div",341,53,0),("real_compare",348,54,0),("real_of_int",355,55,0),("real_to_int",362,56,0),("digits_of",383,59,0),("real_binary",390,60,0),("complex_binary",470,74,0),("collate",477,76,0),("text_binary",484,77,0),("all_operations",491,78,0),("unary",498,79,0),("real_as",505,80,0),("convert",512,81,0),("Run.__init__",526,83,1),("evaluate",540,84,0),("named_place",547,85,0),("bound_of",554,86,0),("part_place",561,87,0),("place_of",566,88,0),("eval_const",573,89,0),("eval_place",580,90,0),("eval_conv",587,91,0),("eval_unary",594,92,0),("reckon",601,93,0),("eval_binary",608,94,0),("eval_compare",615,95,0),("eval_cat",622,96,0),("plain_expressions",629,97,0),("base_expressions",636,98,0),("char_expressions",643,99,0),("Limits.__init__",658,101,1),("_law_relations",672,103,0),("_law_places",679,104,0),("_law_take",686,105,0),("_law_number",693,106,0),("_law_real",700,107,0),("_law_text",705,108,0),("_law_const",712,109,0),("_law_leaf",717,110,0),("_law_index",724,111,0),("_law_tree",729,112,0),("_law_fit",736,113,0),("_law_fraction",743,114,0),("_law_whole",750,115,0),("_law_toward",757,116,0),("_law_power",764,117,0),("_law_two",771,118,0),("_law_order",778,119,0),("_law_held",785,120,0),("_law_subscripts",790,121,0),("_law_value",797,122,0),("_law_part",804,123,0),("_law_fill",809,124,0),("law",814,125,0)]:List (String×Nat×Nat×Nat)).map λx=>(nm x.1,x.2)
noncomputable def x7(d:Data):Option FuncData:=if h:d.ctorIdx=7 then Data.func.elim d h some else none
noncomputable def kI(P:Params)(a:Addr):Option FuncData:=((KH P).lookup a).bind λo=>x7 o.data
theorem wb{d:Data}{fd:FuncData}(h:x7 d=some fd):d=.func fd:=by
 induction d using Data.casesOn with
 | func f=>exact congrArg _ (PY h)
 | _=>exact dt h
theorem kJ{P:Params}{a:Addr}{fd:FuncData}(h:kI P a=some fd):∃ oc od sl,(KH P).lookup a=some ⟨oc,od,.func fd,sl⟩:=
 ao (Option.bind_eq_some_iff.mp h) λo ho hd=>⟨o.cls,o.dict,o.slots,ho.trans (congrArg (λd=>some (Obj.mk o.cls o.dict d o.slots)) (wb hd))⟩
theorem sP:(fnAddr.map λe=>(e.1,e.2.2))=fnTab:=by kernel_rfl
theorem x8(P:Params):(fnAddr.map λe=>(kI P e.2.1).map λfd=>(fd.params,fd.body,fd.scope))=fnAddr.map λe=>some (((fI e.2.2.1 e.2.2.2).getD iw).1,FuncBody.stmts ((fI e.2.2.1 e.2.2.2).getD iw).2.1,((fI e.2.2.1 e.2.2.2).getD iw).2.2):=by kernel_rfl
noncomputable def sQ(vs:List Value)(ds:List D):Bool:=match vs,ds with
 | [],[]=>true
 | .int i _::vs,.int j::ds=>i==j&&sQ vs ds
 | _,_=>false
noncomputable def B7:Data->Option (List Value)
 | .seq vs _=>some vs.toList
 | _=>none
noncomputable def sR(K:Frag)(dV:Value)(ds:List Expr):Bool:=match dV with
 | .none=>ds.isEmpty
 | .ref T=>(K.lookup T).any λo=>(B7 o.data).any λvs=>(kx ds).any (sQ vs)
 | _=>false
theorem nY{α:Type}{o:Option α}{p:α->Bool}(h:o.any p=true):∃ x,o=some x/\p x=true:=by
 induction o with
 | none=>exact fH h
 | some x=>exact⟨x,rfl,h⟩
theorem Av{d:Data}{vs:List Value}(h:B7 d=some vs):∃ a n,d=.seq a n/\a.toList=vs:=by
 induction d with
 | seq a n=>exact⟨a,n,rfl,PY h⟩
 | _=>exact dt h
noncomputable def mS(K:Frag)(q:Str)(fd:FuncData):Bool:=
 fd.globals==mainGlobals&&fd.closure.isEmpty&&fd.builtins==builtinsNs&&codeIn K fd.code fd.qualname&&!fd.scope.isCoroutine&&!fd.scope.isGenerator&&fd.scope.kind==.function &&
 sR K fd.defaults fd.params.defaults&&fd.scope.names.all (λx=>x.2 !=.free)&&decide (((cellsFrom 0 fd.scope.names []).map (·.1)).Nodup) &&
 fd.params.args.all λa=>fd.scope.names.lookup a.arg==some .local||(fd.scope.names.lookup a.arg==some .cell&&((cellsFrom 0 fd.scope.names []).map (·.1)).contains a.arg)
theorem CM(P:Params):(fnAddr.all λe=>(kI P e.2.1).any (mS (KH P) e.1))=true:=by kernel_rfl
theorem sS(P:Params):(fnAddr.all λe=>(if e.2.2.2==0 then nsIn (KH P) mainGlobals e.1==some (some (.ref e.2.1)) else nsIn (KH P) mainGlobals e.1==some none)&&keepIn (KH P) (.ref e.2.1))=true:=by kernel_rfl
theorem x9(P:Params):(clsTab.all λe=>keepIn (KH P) (.ref e.2)&&!(fnAddr.lookup e.1).isSome)=true:=by kernel_rfl
noncomputable def methTab:List (Str×Str×Str):=([("Memory","load","Memory.load"),("Memory","store","Memory.store"),("Memory","__init__","Memory.__init__"),("Run","__init__","Run.__init__"),("Limits","__init__","Limits.__init__")]:List (String×String×String)).map λx=>(nm x.1,nm x.2.1,nm x.2.2)
theorem Aw(P:Params):(methTab.all λx=>match clsTab.lookup x.1,fnAddr.lookup x.2.2 with
 | some C,some p=>makesIn (KH P) C&&findIn (KH P) (.ref C) x.2.1==some (some (.ref p.1))&&typeIn (KH P) (.ref p.1)==some (.type "function")
 | _,_=>false)=true:=by kernel_rfl
end
section
variable{w:World}{Gk:Heap}
theorem f0{α:Type}{M:Model}{A:Around}{E:Value->Shared->Prop}{s:Shared}{Q:List (Str×α)->Shared->Prop}:∀ (l st:List (Str×α)),Q (l.foldl (λs p=>if (s.lookup p.1).isNone then s++[p] else s) st) s →
  wpAny M A (forIn l st λx st=>if (List.lookup x.fst st).isNone=true then pure (ForInStep.yield (st++[(x.fst,x.snd)])) else pure (ForInStep.yield st)) Q E s
 | [],st,h=>wpAny_pure h
 | p::l,st,h=>by
  rw[List.forIn_cons];simp only[List.foldl_cons]at h
  split
  ·rename_i q;rw[PW q]at h;exact wpAny_bind (wpAny_pure (f0 l _ h))
  ·rename_i q;rw[PX q]at h;exact wpAny_bind (wpAny_pure (f0 l _ h))
theorem wF{M:Model}{A:Around}{E:Value->Shared->Prop}{s:Shared}{α:Type}{Q:α->Shared->Prop}{c:Prop}[Decidable c]{x y:Sem α}(h:¬ c)(k:wpAny M A y Q E s):wpAny M A (if c then x else y) Q E s:=by rw[PX h];exact k
theorem Ax{α β:Type}{M:Model}{A:Around}{m:Sem (Option (Array β))}{k:Option (Array β)->Sem α}{b:Array β}{Q:α->Shared->Prop}{E:Value->Shared->Prop}{s:Shared}(h:wpAny M A m (λr s'=>r.getD #[]=b/\s'=s) E s)(hk:∀ r,r.getD #[]=b->wpAny M A (k r) Q E s):wpAny M A (m >>= k) Q E s:=
 wpAny_bind (wpAny_mono h (λr s' hr=>hr.2.symm ▸ hk r hr.1) λ_ _ x=>x)
theorem p0{s:Shared}{fd:FuncData}{vs dv:List Value}{bs:List (Str×Value)}{ps:List Arg}{ds:List Expr}(hp:fd.params=⟨[],ps,none,[],[],none,ds⟩)
  (hd:(fd.defaults=.none/\dv=[])\/∃ T o items n,fd.defaults=.ref T/\s.heap.get? T=some o/\o.data=.seq items n/\items.toList=dv) (e:fk (ps.map (·.arg)) vs dv=some bs):BindsTo s fd ⟨vs,[]⟩ bs:=by
 induction fd
 subst hp;unfold fk at e
 split at e
 case isFalse=>exact nomatch e
 rename_i hle;dsimp only at e
 split at e
 case isFalse=>exact nomatch e
 rename_i hmiss;have e:=PY e;intro M A E Q hq;refine wpAny_bind (wpAny_pure (Ax (b:=dv.toArray) ?_ λr hr=>?_))
 ·rcases hd with⟨h1,h2⟩ | ⟨T,o,items,n,h1,h2,h3,h4⟩
  ·rw[h1];rw[h2];exact wpAny_pure ⟨rfl,rfl⟩
  ·obtain rfl:=h1;exact wpAny_seqItems h2 h3 ⟨by rw[<-h4];simp,rfl⟩
 generalize r.getD #[]=da at hr ⊢;subst hr;refine wF ?_ (wF ?_ (wpAny_bind (f0 _ _ (wpAny_bind (wpAny_pure ?_)))))
 ·have:=hle;simp at this ⊢;omega
 ·exact λq=>Bool.false_ne_true ((congrArg not hmiss).symm.trans q)
 ·exact wpAny_pure ((congrArg (λl=>Q (List.filterMap _ l) _) (List.append_nil (ps.map (·.arg)))).mpr ((congrArg (λb=>Q b _) e).mpr hq))
theorem kK{α β:Type}{f g:α->β}:∀ {l:List α},l.map f=l.map g->∀ x∈l,f x=g x
 | a::l,h,x,hx=>by
  simp only[List.map_cons,List.map_cons,List.cons.injEq]at h;rcases P7 hx with rfl | hx
  ·exact h.1
  ·exact kK h.2 x hx
theorem eT{α β γ:Type}[BEq α](f:β->γ)(x:α):∀ (l:List (α×β)),(l.map λe=>(e.1,f e.2)).lookup x=(l.lookup x).map f
 | []=>rfl
 | (a,b)::l=>by
  rw[List.map_cons,List.lookup_cons,List.lookup_cons]
  induction x==a
  ·exact eT f x l
  ·rfl
theorem aX{α β:Type}[BEq α][LawfulBEq α]{x:α}{b:β}:∀ {l:List (α×β)},l.lookup x=some b->(x,b)∈l
 | (a,c)::l,h=>by
  dsimp only[List.lookup_cons]at h
  induction q:x==a with
  | true=>replace h:=(q) ▸ h;cases h;rw[beq_iff_eq.mp q];exact .head _
  | false=>replace h:=(q) ▸ h;exact .tail _ (aX h)
structure D3(K:Frag)(x:Str)(a:Addr)(fd:FuncData)(t:Arguments×List Stmt×Scope):Prop where
 row:∃ ij,fnAddr.lookup x=some (a,ij)
 obj:∃ oc od sl,K.lookup a=some ⟨oc,od,.func fd,sl⟩
 params:fd.params=t.1
 body:fd.body=.stmts t.2.1
 scope:fd.scope=t.2.2
 Fh:mS K x fd=true
set_option tactic.hygienic true in
theorem B8{x:Str}{t:Arguments×List Stmt×Scope}(h:vY x=some t)(P:Params):∃ a fd,D3 (KH P) x a fd t:=by unfold vY at h;refine ao (Option.bind_eq_some_iff.mp h) λz1 h1 h2=>?_;obtain⟨i,j⟩:=z1;rw[<-sP,eT]at h1;refine ao (Option.map_eq_some_iff.mp h1) λz2 h3 h4=>?_;obtain⟨a,ij⟩:=z2;dsimp only at h4;subst h4;have hm:=aX h3;have p:=kK (x8 P) _ hm;dsimp only at p h2;rw[h2]at p;refine ao (Option.map_eq_some_iff.mp p) λfd hfd p=>?_;simp only[Option.getD_some,Prod.mk.injEq]at p;have c:=List.all_eq_true.mp (CM P) _ hm;dsimp only at c;rw[hfd]at c;exact⟨a,fd,⟨_,h3⟩,kJ hfd,p.1,p.2.1,p.2.2,c⟩
theorem uX{x:Str}{i:Nat}(h:fnTab.lookup x=some (i,0))(P:Params):∃ a ij,fnAddr.lookup x=some (a,ij)/\nsIn (KH P) mainGlobals x=some (some (.ref a)):=by rw[<-sP,eT]at h;refine ao (Option.map_eq_some_iff.mp h) λz3 h3 h4=>?_;obtain⟨a,ij⟩:=z3;dsimp only at h4;subst h4;have hm:=aX h3;have c:=List.all_eq_true.mp (sS P) _ hm;dsimp only at c;exact⟨a,_,h3,eq_of_beq ((PZ c).1)⟩
theorem CN{x:Str}{a:Addr}{ij:Nat×Nat}{v:Value}(h:fnAddr.lookup x=some (a,ij))(P:Params)(hv:(nsIn (KH P) mainGlobals x).join=some v):v=.ref a:=by
 have c:=List.all_eq_true.mp (sS P) _ (aX h);obtain⟨c,_⟩:=PZ c;dsimp only at c
 split at c
 ·replace hv:=(beq_iff_eq.mp c) ▸ hv;cases hv;rfl
 ·replace hv:=(beq_iff_eq.mp c) ▸ hv;exact dt hv
theorem uY{x:Str}{a:Addr}{ij:Nat×Nat}(h:fnAddr.lookup x=some (a,ij))(P:Params):keepIn (KH P) (.ref a)=true:=
 (PZ (List.all_eq_true.mp (sS P) _ (aX h))).2
set_option tactic.hygienic true in
theorem jk{c m f:Str}(h:(c,m,f)∈methTab)(P:Params):∃ C a ij,clsTab.lookup c=some C/\fnAddr.lookup f=some (a,ij)/\makesIn (KH P) C=true/\findIn (KH P) (.ref C) m=some (some (.ref a))/\typeIn (KH P) (.ref a)=some (.type "function"):=by
 have e:=List.all_eq_true.mp (Aw P) _ h;dsimp only at e
 split at e
 ·rename_i C p h1 h2;simp[Bool.and_eq_true,beq_iff_eq]at e;exact⟨C,p.1,p.2,h1,h2,e.1.1,e.1.2,e.2⟩
 ·exact nomatch e
end
section
variable{w:World}{Gk:Heap}{xt:Bool}
noncomputable def CR(P:Params)(p:Str×D):Prop:=∃ v,nsIn (KH P) mainGlobals p.1=some (some v)/\∀ {w:World} {B:Addr->Option Obj} {ρ:List Addr},(∀ b o,(KH P).lookup b=some o->B b=some o)->Rep w B ρ v p.2
theorem jP{α:Type}{P:α->Prop}{a:α}{l:List α}(h:P a)(t:∀ x∈l,P x):∀ x∈a::l,P x:=List.forall_mem_cons.mpr ⟨h,t⟩
theorem cI{P:Params}{x:Str}{i:Int}{t:Tok}(h:nsIn (KH P) mainGlobals x=some (some (.int i t))):CR P (x,.int i):=⟨_,h,λ_=>.int _ _⟩
theorem tR{w:World}{B:Addr->Option Obj}{ρ:List Addr}{K:Frag}(k:∀ b o,K.lookup b=some o->B b=some o){a:Addr}{vs:List Value}{ds:List D}(o:K.lookup a=some { cls:=.type "tuple",data:=.seq (List.toArray vs) 0 })(r:RepL w B ρ vs ds):Rep w B ρ (.ref a) (.tup ds):=.tup ⟨_,_,k _ _ o,rfl,rfl⟩ r
theorem CO{w:World}{B:Addr->Option Obj}{ρ:List Addr}{i j:Int}{t u:Tok}:RepL w B ρ [.int i t,.int j u] [.int i,.int j]:=.cons (.int _ _) (.cons (.int _ _) .nil)
theorem x_(P:Params):∀ p∈constTab,CR P p:=
 jP (cI (t:=243) (by kernel_rfl)) (jP (cI (t:=245) (by kernel_rfl)) (jP (cI (t:=247) (by kernel_rfl)) (jP (cI (t:=249) (by kernel_rfl)) (jP (cI (t:=251) (by kernel_rfl)) (jP (cI (t:=253) (by kernel_rfl)) (jP (cI (t:=264) (by kernel_rfl))
  (jP ⟨.ref 257,by kernel_rfl,λk=>tR (vs:=[.int 0 540,.int 0 541]) k (by kernel_rfl) CO⟩ (jP (cI (t:=543) (by kernel_rfl)) (jP (cI (t:=545) (by kernel_rfl))
  (jP ⟨.ref 393,by kernel_rfl,λk=>tR (vs:=[.ref 391,.ref 392]) k (by kernel_rfl) (.cons (tR (vs:=[.int 1 746,.int 0 747]) k (by kernel_rfl) CO) (.cons (tR (vs:=[.int 0 748,.int 0 749]) k (by kernel_rfl) CO) .nil))⟩ (jP (cI (t:=751) (by kernel_rfl)) nofun)))))))))))
theorem CP(P:Params):(bltTab.all λx=>nsIn (KH P) mainGlobals x==some none&&(bootBuiltins x).isSome&&!(x==("__name__" : Str)))=true:=by kernel_rfl
theorem ya(x:Str):(∃ i,fnTab.lookup x=some (i,0)/\ji x=if x=nm "law" then none else some (.fn x))\/ji x=if (cB x).isSome then some (.fn x) else match constTab.lookup x with
  | some d=>some d
  | none=>if bltTab.contains x then some (.blt x) else none:=by
 delta ji;generalize fnTab.lookup x=o
 induction o using Option.casesOn with
 | none=>exact .inr rfl
 | some p=>
  obtain⟨i,n⟩:=p
  induction n using Nat.casesOn with
  | zero=>exact .inl ⟨i,rfl,rfl⟩
  | succ n=>exact .inr rfl
set_option tactic.hygienic true in
theorem Ay{mg mb}(X:Cx w Gk mg mb){G:Gh}{h:Heap}(I:Inv w Gk G h){x:Str}{d:D}(e:ji x=some d) :
  ∃ v,Rep w G.B G.ρ v d/\(nsIn (KH w.params) mainGlobals x=some (some v)\/(nsIn (KH w.params) mainGlobals x=some none/\bootBuiltins x=some v/\x ≠ "__name__")):=by
 have kB:∀ b o,(KH w.params).lookup b=some o->G.B b=some o:=λb o q=>I.base _ _ (X.K _ _ q);have rest:(if (cB x).isSome then some (D.fn x) else match constTab.lookup x with
  | some d=>some d
  | none=>if bltTab.contains x then some (.blt x) else none)=some d->∃ v,Rep w G.B G.ρ v d/\(nsIn (KH w.params) mainGlobals x=some (some v)\/(nsIn (KH w.params) mainGlobals x=some none/\bootBuiltins x=some v/\x ≠ "__name__")):=λe=>by
  split at e
  ·rename_i hi;cases e;have F:=jj w.params;have hm:∃ C,(x,C)∈clsTab:=by
    unfold cB at hi;unfold clsTab
    by_cases h1:x=nm "Memory"
    ·exact⟨98,by simp[h1]⟩
    ·by_cases h2:x=nm "Run"
     ·exact⟨529,by simp[h2]⟩
     ·by_cases h3:x=nm "Limits"
      ·exact⟨661,by simp[h3]⟩
      ·rw[PX h1,PX h2,PX h3]at hi;exact nomatch hi
   refine PS hm λC hm=>?_;have c:=List.all_eq_true.mp F _ hm;dsimp only[jE]at c;simp only[Bool.and_eq_true,beq_iff_eq]at c;have c1:=c.1.1.1.1.1;exact⟨.ref C,.fn (by unfold iH;rw[c1];rfl),.inl c1⟩
  ·split at e
   ·rename_i d' hc;cases e;refine ao (x_ w.params _ (aX hc)) λv hv hr=>?_;exact⟨v,hr kB,.inl hv⟩
   ·split at e
    ·rename_i hb;cases e;have c:=List.all_eq_true.mp (CP w.params) x (by simpa using hb);simp only[Bool.and_eq_true,beq_iff_eq,Bool.not_eq_true',beq_eq_false_iff_ne]at c;obtain⟨⟨c1,c2⟩,c3⟩:=c;obtain⟨v,hv⟩:=Option.isSome_iff_exists.mp c2;exact⟨v,.blt hv,.inr ⟨c1,hv,c3⟩⟩
    ·injection e
 refine PU (ya x) (λq=>ao q λi hf q=>?_) λq=>rest (q.symm.trans e);refine aI (uX hf w.params) λa ij h1 h2=>?_;refine PU (P8 (x=nm "law")) (λz=>dt ((PW z).symm.trans (q.symm.trans e))) λz=>?_;rw[<-PY ((PX z).symm.trans (q.symm.trans e))];exact⟨.ref a,.fn (by unfold iH;rw[h2];rfl),.inl h2⟩
structure Fm(w:World)(H8:Nat)(A:Around)(G:Gh)(h:Heap)(env:Env)(L:Addr)(sc:Sc)(fr:af):Prop where
 handled:A.handled=none
 depth:A.depth+4*H8+6<recursionLimit
 units:A.units+20*H8+210<cLine
 stk:∃ GF outer,A.frames=some (GF::outer)/\GF.frame=some L/\StkL G h (GF::outer)
 frame:env.frame=some L
 kind:env.scope.kind=.function
 globals:env.globals=mainGlobals
 builtins:env.builtins=builtinsNs
 names:∀ x,env.kindOf x=sc.lookup x\/(sc.lookup x=some .free/\env.kindOf x=some .cell)
 loc:∃ m,h.Ns env.locals m/\∀ x d,sc.lookup x=some .local->aa fr x=some d->∃ v,m x=some v/\Rep w G.B G.ρ v d
 cel:∀ x d,(sc.lookup x=some .cell\/sc.lookup x=some .free)->aa fr x=some d->∃ c v,env.cells.lookup x=some c/\h.IsCell c (some v)/\Rep w G.B G.ρ v d
 cel0:∀ x,(sc.lookup x=some .cell\/sc.lookup x=some .free)->∃ c v,env.cells.lookup x=some c/\h.IsCell c v
 apart:∀ b∈env.locals::env.cells.map (·.2),G.B b=none/\b∉G.ρ
 lc:env.locals∉env.cells.map (·.2)
 ex:∀ c∈env.cells.map (·.2),∃ o,h.get? c=some o
 inj:∀ x y c,env.cells.lookup x=some c->env.cells.lookup y=some c->x=y
noncomputable def ownOf(env:Env):List Addr:=env.locals::env.cells.map (·.2)
theorem kM{h h':Heap}{a:Addr}{m:Str->Option Value}(k:∀ o,h.get? a=some o->∃ sl,h'.get? a=some { o with slots:=sl })(x:h.Ns a m):h'.Ns a m:=by refine bz x λo es ep ho hd r=>?_;obtain⟨sl,q⟩:=k o ho;exact⟨_,es,ep,q,hd,r⟩
theorem eU{h h':Heap}{a:Addr}{v:Option Value}(k:∀ o,h.get? a=some o->∃ sl,h'.get? a=some { o with slots:=sl })(x:h.IsCell a v):h'.IsCell a v:=by refine ao x λo ho hd=>?_;obtain⟨sl,q⟩:=k o ho;exact⟨_,q,hd⟩
theorem du{l:List (Str×Addr)}{x:Str}{c:Addr}(h:l.lookup x=some c):c∈l.map (·.2):=List.mem_map.mpr ⟨_,aX h,rfl⟩
theorem Fm.there{H8:Nat}{A:Around}{G:Gh}{h:Heap}{env:Env}{L:Addr}{sc:Sc}{fr:af}(F:Fm w H8 A G h env L sc fr):∃ o,h.get? env.locals=some o:=let ⟨_,⟨o,_,_,e,_⟩,_⟩:=F.loc;⟨o,e⟩
theorem Fm.rn{H8:Nat}{A:Around}{G G':Gh}{s s':Shared}{env:Env}{L:Addr}{sc:Sc}{fr:af}{Ib:List Addr}(F:Fm w H8 A G s.heap env L sc fr)(R:Rn w Gk xt Ib G s G' s')(ho:∀ b∈ownOf env,b∉Ib):Fm w H8 A G' s'.heap env L sc fr:=by
 have hρ:∃ more,G'.ρ=G.ρ++more:=let ⟨m,e,_⟩:=R.ρ;⟨m,e⟩
 have k:∀ b∈ownOf env,∀ o,s.heap.get? b=some o->∃ sl,s'.heap.get? b=some { o with slots:=sl }:=λb hb o e=>let ⟨sl,q,_⟩:=R.keep b o e (F.apart b hb).2 (ho b hb);⟨sl,q⟩
 have kc:∀ {x c},env.cells.lookup x=some c->c∈ownOf env:=λe=>.tail _ (du e);refine ao F.loc λm hn hm=>?_;refine ar F.stk λGF outer f1 f2 f3=>?_;refine⟨F.handled,F.depth,F.units,⟨GF,outer,f1,f2,f3.rn R.slack⟩,F.frame,F.kind,F.globals,F.builtins,F.names,⟨m,kM (k _ (.head _)) hn,λx d h1 h2=>?_⟩,λx d h1 h2=>?_,λx h1=>?_,λb hb=>?_,F.lc,λc hc=>?_,F.inj⟩
 ·refine ao (hm x d h1 h2) λv e r=>?_;exact⟨v,e,r.mono R.B hρ⟩
 ·refine ar (F.cel x d h1 h2) λc v e q r=>?_;exact⟨c,v,e,eU (k _ (kc e)) q,r.mono R.B hρ⟩
 ·refine aI (F.cel0 x h1) λc v e q=>?_;exact⟨c,v,e,eU (k _ (kc e)) q⟩
 ·obtain⟨o,ho⟩ : ∃ o,s.heap.get? b=some o:=by
   rcases P7 hb with rfl | hb
   ·exact F.there
   ·exact F.ex b hb
  refine⟨?_,λq=>?_⟩
  ·induction q:G'.B b with
   | none=>rfl
   | some o2=>
    refine PU (R.newB b o2 q) (λz=>?_) λz=>?_
    ·exact dt (PV (Eq.symm ((F.apart b hb).1)) z)
    ·exact DK (PV (Eq.symm ho) z)
  ·refine ao R.ρ λmore e f=>?_;rw[e]at q;rcases List.mem_append.mp q with q | q
   ·exact(F.apart b hb).2 q
   ·have:=f b q;replace this:=(ho) ▸ this;exact DK this
 ·obtain⟨o,e⟩:=F.ex c hc;refine ao (R.there c o e) λo' e' _=>?_;exact⟨o',e'⟩
theorem gq{h:Heap}{c:Addr}{v:Option Value}(x:h.IsCell c v):∃ o,h.get? c=some o/\aV o:=by refine ao x λo ho hd=>?_;exact⟨o,ho,λvs q=>by replace q:=(hd) ▸ q;injection q⟩
theorem p_{h:Heap}{a:Addr}{m:Str->Option Value}(x:h.Ns a m):∃ o,h.get? a=some o/\aV o:=by refine bz x λo es ep ho hd _=>?_;exact⟨o,ho,λvs q=>by replace q:=(hd) ▸ q;injection q⟩
theorem Fm.sl{H8:Nat}{A:Around}{G:Gh}{h h':Heap}{env:Env}{L:Addr}{sc:Sc}{fr:af}(F:Fm w H8 A G h env L sc fr)(k:∀ b o,h.get? b=some o->aV o->∃ sl,h'.get? b=some { o with slots:=sl })
  (S:∀ l,A.frames=some l->StkL G h' l) (there:∀ c∈env.cells.map (·.2),∃ o',h'.get? c=some o'):Fm w H8 A G h' env L sc fr:=by
 refine ao F.loc λm hn hm=>?_;refine ar F.stk λGF outer f1 f2 f3=>?_;have ko:∀ {b o},h.get? b=some o->aV o->∀ Ho,h.get? b=some Ho->∃ sl,h'.get? b=some { Ho with slots:=sl }:=λe n Ho GM=>by replace GM:=(e) ▸ GM;cases GM;exact k _ _ e n
 refine⟨F.handled,F.depth,F.units,⟨GF,outer,f1,f2,S _ f1⟩,F.frame,F.kind,F.globals,F.builtins,F.names,⟨m, ?_,hm⟩,λx d h1 h2=>?_,λx h1=>?_,F.apart,F.lc,λc hc=>?_,F.inj⟩
 ·refine ao (p_ hn) λo ho hno=>?_;exact kM (ko ho hno) hn
 ·refine ar (F.cel x d h1 h2) λc v e q r=>?_;refine ao (gq q) λo ho hno=>?_;exact⟨c,v,e,eU (ko ho hno) q,r⟩
 ·refine aI (F.cel0 x h1) λc v e q=>?_;refine ao (gq q) λo ho hno=>?_;exact⟨c,v,e,eU (ko ho hno) q⟩
 ·exact there c hc
theorem bm(x:Str)(d:D):∀ (fr:af) (y:Str),aa (aj fr x d) y=if x=y then some d else aa fr y
 | [],y=>by unfold aj aa;rfl
 | (z,e)::r,y=>by
  dsimp only[aj];rcases P8 (z=x) with q | q
  ·subst q;rw[PW rfl];dsimp only[aa]
   by_cases q2:z=y
   ·rw[PW q2,PW q2]
   ·rw[PX q2,PX q2,PX q2]
  ·rw[PX q];dsimp only[aa]
   by_cases q2:z=y
   ·subst q2;refine PV (PW rfl) ?_;rw[PW rfl,PX (λe=>q e.symm)]
   ·refine PV (PX q2) ?_;rw[PX q2];exact bm x d r y
section
variable{H8:Nat}{A:Around}{G:Gh}{s:Shared}{env:Env}{L:Addr}{sc:Sc}{fr:af}{E:Value->Shared->Prop}{xt:Bool}
theorem nZ{k:ScopeKind}{b:Bool}(h:k=.function):(k==.class||(k==.module&&b))=false:=by subst h;rfl
theorem jF{A':Around}(F:Fm w H8 A G s.heap env L sc fr)(I:Inv w Gk G s.heap){x:Str}{v:Value}{d:D}(rv:Rep w G.B G.ρ v d)(hx:sc.lookup x=some .local){Q:Unit->Shared->Prop}
  (k:∀ s',Rn w Gk xt [env.locals] G s G s'->Fm w H8 A G s'.heap env L sc (aj fr x d)->Q () s'):wpAny (model pw w) A' (storeName env x v) Q E s:=by
 refine ao F.loc λm hn hm=>?_;have hk:env.kindOf x=some .local:=by
  rcases F.names x with q | ⟨q,_⟩
  ·refine PV q ?_;exact hx
  ·replace q:=(hx) ▸ q;exact nomatch q
 have ap:=F.apart env.locals (.head _);refine wpAny_storeName_local hk hn (λh' hn' hs=>?_) (nZ F.kind);have R:Rn w Gk xt [env.locals] G s G { s with heap:=h',toks:=s.toks+1 }:=sI I (s.toks+1) hs (.head _) ap.1 ap.2 λo ho=>let ⟨o',q,n⟩:=p_ hn';⟨o',q,λ_=>n⟩
 refine ar F.stk λGF outer f1 f2 f3=>?_;have kc:∀ {y c},env.cells.lookup y=some c->h'.get? c=s.heap.get? c:=λe=>hs.2 _ λq=>F.lc (q ▸ du e);have cl:∀ {c v},h'.get? c=s.heap.get? c->s.heap.IsCell c v->h'.IsCell c v:=λe ⟨o,ho,hd⟩=>⟨o,e.trans ho,hd⟩;refine k _ R ⟨F.handled,F.depth,F.units,⟨GF,outer,f1,f2,f3.rn R.slack⟩,F.frame,F.kind,F.globals,F.builtins,F.names,⟨_,hn',λy d' h1 h2=>?_⟩,λy d' h1 h2=>?_,λy h1=>?_,F.apart,F.lc,λc hc=>?_,F.inj⟩
 ·rw[bm]at h2
  by_cases q:x=y
  ·subst q;replace h2:=(PW rfl) ▸ h2;cases h2;exact⟨v,PW rfl,rv⟩
  ·rw[PX q]at h2;refine ao (hm y d' h1 h2) λv' e r=>?_;exact⟨v',(PX λz=>q z.symm).trans e,r⟩
 ·rw[bm,PX (λq=>by subst q;rw[hx]at h1;rcases h1 with h1 | h1 <;> exact absurd h1 (by decide))]at h2;refine ar (F.cel y d' h1 h2) λc v' e q r=>?_;exact⟨c,v',e,cl (kc e) q,r⟩
 ·refine aI (F.cel0 y h1) λc v' e q=>?_;exact⟨c,v',e,cl (kc e) q⟩
 ·obtain⟨o,e⟩:=F.ex c hc;exact⟨o,(hs.2 c λq=>F.lc (q ▸ hc)).trans e⟩
theorem sU{A':Around}(F:Fm w H8 A G s.heap env L sc fr)(I:Inv w Gk G s.heap){x:Str}{v:Value}{d:D}(rv:Rep w G.B G.ρ v d)(hx:sc.lookup x=some .cell){Q:Unit->Shared->Prop}
  (k:∀ s',Rn w Gk xt (env.cells.map (·.2)) G s G s'->Fm w H8 A G s'.heap env L sc (aj fr x d)->Q () s'):wpAny (model pw w) A' (storeName env x v) Q E s:=by
 refine ao F.loc λm hn hm=>?_;have hk:env.kindOf x=some .cell:=by
  rcases F.names x with q | ⟨q,_⟩
  ·refine PV q ?_;exact hx
  ·replace q:=(Eq.symm (hx)).trans q;injection q
 refine aI (F.cel0 x (.inl hx)) λHb H0 hc hcell=>?_;have hmem:=du hc;have ap:=F.apart Hb (.tail _ hmem);refine wpAny_storeName_cell F.kind hk hc hcell λh' hc' hs=>?_;have R:Rn w Gk xt (env.cells.map (·.2)) G s G { s with heap:=h' }:=sI I s.toks hs hmem ap.1 ap.2 λo ho=>let ⟨o',q,n⟩:=gq hc';⟨o',q,λ_=>n⟩
 refine ar F.stk λGF outer f1 f2 f3=>?_;have kl:h'.get? env.locals=s.heap.get? env.locals:=hs.2 _ λq=>F.lc (q ▸ hmem);have cl:∀ {y c v},y≠x->env.cells.lookup y=some c->s.heap.IsCell c v->h'.IsCell c v:=λn e ⟨o,ho,hd⟩=>⟨o,(hs.2 _ λ(q:_=Hb)=>n (F.inj _ _ Hb (by exact(Eq.symm q) ▸ e) hc)).trans ho,hd⟩;refine k _ R ⟨F.handled,F.depth,F.units,⟨GF,outer,f1,f2,f3.rn R.slack⟩,F.frame,F.kind,F.globals,F.builtins,F.names,⟨m,let ⟨o,es,ep,ho,r⟩:=hn;⟨o,es,ep,kl.trans ho,r⟩,λy d' h1 h2=>?_⟩,λy d' h1 h2=>?_,λy h1=>?_,F.apart,F.lc,λc hc2=>?_,F.inj⟩
 ·rw[bm,PX (λq=>by subst q;replace h1:=(hx) ▸ h1;exact absurd h1 (by decide))]at h2;exact hm y d' h1 h2
 ·rw[bm]at h2;rcases P8 (x=y) with q | q
  ·subst q;replace h2:=(PW rfl) ▸ h2;cases h2;exact⟨Hb,v,hc,hc',rv⟩
  ·rw[PX q]at h2;refine ar (F.cel y d' h1 h2) λc v' e z r=>?_;exact⟨c,v',e,cl (λz=>q z.symm) e z,r⟩
 ·rcases P8 (x=y) with q | q
  ·subst q;exact⟨Hb,_,hc,hc'⟩
  ·refine aI (F.cel0 y h1) λc v' e z=>?_;exact⟨c,v',e,cl (λz=>q z.symm) e z⟩
 ·obtain⟨o,e⟩:=F.ex c hc2
  by_cases q:c=Hb
  ·rw[q];refine ao (gq hc') λo' ho' _=>?_;exact⟨o',ho'⟩
  ·exact⟨o,(hs.2 c q).trans e⟩
end
end
section
variable{w:World}{Gk:Heap}{mg mb:Str->Option Value}
noncomputable def D4(w:World)(Gk:Heap)(H8:Nat)(ev:Sc->af->Expr->M D):Prop:=∀ {A:Around} {env:Env} {L:Addr} {sc:Sc} {fr:af} {e:Expr} {G:Gh} {s:Shared} {Q:Value->Shared->Prop} {E:Value->Shared->Prop},
 Inv w Gk G s.heap->Fm w H8 A G s.heap env L sc fr->Ok w Gk true (rep w) [] L G s (ev sc fr e G.σ) Q E->wpAny (model pw w) A (eval e env) Q E s
noncomputable def D5(w:World)(Gk:Heap)(H8:Nat)(tst:Sc->af->Expr->M Bool):Prop:=∀ {A:Around} {env:Env} {L:Addr} {sc:Sc} {fr:af} {e:Expr} {G:Gh} {s:Shared} {Q:Bool->Shared->Prop} {E:Value->Shared->Prop},
 Inv w Gk G s.heap->Fm w H8 A G s.heap env L sc fr->Ok w Gk true iI [] L G s (tst sc fr e G.σ) Q E->wpAny (model pw w) A (PySem.isTrue e env (eval e env)) Q E s
structure bq(w:World)(Gk:Heap)(H8:Nat)(r:Rc):Prop where
 ev:D4 w Gk H8 r.ev
 tst:D5 w Gk H8 r.tst
noncomputable def qa(Q:Value->Shared->Prop)(E:Value->Shared->Prop):Result->Shared->Prop:=λr s'=>match r with | .ok (.ret v)=>Q v s' | .ok _=>False | .error e=>E e s'
structure Amb(w:World)(H8:Nat)(A:Around)(G:Gh)(h:Heap)(L:Addr):Prop where
 handled:A.handled=none
 depth:A.depth+4*H8+4<recursionLimit
 units:A.units+20*H8+200<cLine
 stk:∃ GF outer,A.frames=some (GF::outer)/\GF.frame=some L/\StkL G h (GF::outer)
noncomputable def EY(w:World)(Gk:Heap)(H8:Nat)(call:Str->List D->M D):Prop:=∀ {A:Around} {L:Addr} {x:Str} {a:Addr} {ij:Nat×Nat} {as:List D} {vs:List Value} {G:Gh} {s:Shared} {Q:Value->Shared->Prop} {E:Value->Shared->Prop},
 x≠nm "law" → Inv w Gk G s.heap->Amb w H8 A G s.heap L->RepL w G.B G.ρ vs as->fnAddr.lookup x=some (a,ij)->Ok w Gk true (rep w) [] L G s (call x as G.σ) Q E->codeAny (model pw w) A (.call (.ref a) ⟨vs,[]⟩) (qa Q E) s
structure n_(w:World)(Gk:Heap)(H8:Nat)(call:Str->List D->M D):Prop where
 snd:EY w Gk H8 call
 dom:∀ x as σ,fnAddr.lookup x=none->call x as σ=.stuck
theorem Fm.amb{H8:Nat}{A:Around}{G:Gh}{h:Heap}{env:Env}{L:Addr}{sc:Sc}{fr:af}(F:Fm w H8 A G h env L sc fr):Amb w H8 A G h L:=⟨F.handled,by have:=F.depth;lia,by have:=F.units;lia,F.stk⟩
theorem Amb.rm{H8:Nat}{A:Around}{G:Gh}{h:Heap}{L:Addr}(F:Amb w H8 A G h L):Rm A:=⟨F.handled,by have:=F.units;lia⟩
theorem Fm.rm{H8:Nat}{A:Around}{G:Gh}{h:Heap}{env:Env}{L:Addr}{sc:Sc}{fr:af}(F:Fm w H8 A G h env L sc fr):Rm A:=F.amb.rm
section
variable{H8:Nat}{A:Around}{env:Env}{L:Addr}{sc:Sc}{fr:af}{G:Gh}{s:Shared}{E:Value->Shared->Prop}{r:Rc}{xt:Bool}{Ib:List Addr}
theorem Fm.on{G':Gh}{s':Shared}(F:Fm w H8 A G s.heap env L sc fr)(R:Rn w Gk true [] G s G' s'):Fm w H8 A G' s'.heap env L sc fr:=F.rn R λ_ _ h=>(nomatch h)
theorem bB(S:bq w Gk H8 r)(I:Inv w Gk G s.heap)(F:Fm w H8 A G s.heap env L sc fr){α β:Type}{P:Gh->β->α->Prop}{Q:β->Shared->Prop}{e:Expr}{f:D->M α}(h:Ok w Gk xt P Ib L G s (bnd (r.ev sc fr e) f G.σ) Q E)
  {Gp:Value->Shared->Prop} (k:∀ v Gm Gl d,Rn w Gk true [] G s Gl Gm->Inv w Gk Gl Gm.heap->Fm w H8 A Gl Gm.heap env L sc fr->Rep w Gl.B Gl.ρ v d->Ok w Gk xt P Ib L Gl Gm (f d Gl.σ) Q E->Gp v Gm):wpAny (model pw w) A (eval e env) Gp E s:=by
 refine S.ev I F ?_;unfold bnd at h
 induction hm:r.ev sc fr e G.σ with
 | ok d σ'=>
  rw[hm]at h;intro v s' G' e x p;subst e;have x':Rn w Gk xt Ib G s G' s':=by refine⟨x.same,x.B,x.newB,x.ρ,x.inv,λb o e h h'=>?_,x.there⟩;refine ao (x.keep b o e h (λq=>(nomatch q))) λsl q z=>?_;exact⟨sl,q,λ_=>z (.inl rfl)⟩
  exact k v s' G' d x x.inv (F.on x) p (h.shift x')
 | exc σ'=>replace h:=(hm) ▸ h;exact λx s' G' e y p=>h x s' G' e (y.weak λ_ q=>(nomatch q)) p
 | stuck=>rw[hm]at h;exact h
theorem j7(S:bq w Gk H8 r)(I:Inv w Gk G s.heap)(F:Fm w H8 A G s.heap env L sc fr){α β:Type}{P:Gh->β->α->Prop}{Q:β->Shared->Prop}{e:Expr}{f:Bool->M α}(h:Ok w Gk xt P Ib L G s (bnd (r.tst sc fr e) f G.σ) Q E)
  {Gp:Bool->Shared->Prop} (k:∀ b Gm Gl,Rn w Gk true [] G s Gl Gm->Inv w Gk Gl Gm.heap->Fm w H8 A Gl Gm.heap env L sc fr->Ok w Gk xt P Ib L Gl Gm (f b Gl.σ) Q E->Gp b Gm):wpAny (model pw w) A (PySem.isTrue e env (eval e env)) Gp E s:=by
 refine S.tst I F ?_;unfold bnd at h
 induction hm:r.tst sc fr e G.σ with
 | ok d σ'=>
  rw[hm]at h;intro v s' G' e x p;subst e;rw[p];have x':Rn w Gk xt Ib G s G' s':=by refine⟨x.same,x.B,x.newB,x.ρ,x.inv,λb o e h h'=>?_,x.there⟩;refine ao (x.keep b o e h (λq=>(nomatch q))) λsl q z=>?_;exact⟨sl,q,λ_=>z (.inl rfl)⟩
  exact k _ s' G' x x.inv (F.on x) (h.shift x')
 | exc σ'=>replace h:=hm ▸ h;exact λx s' G' e y p=>h x s' G' e (y.weak λ_ q=>(nomatch q)) p
 | stuck=>rw[hm]at h;exact h
theorem Az(X:Cx w Gk mg mb){x:Str}{pos:Pos}{Q:Value->Shared->Prop}(I:Inv w Gk G s.heap)(F:Fm w H8 A G s.heap env L sc fr)(h:Ok w Gk xt (rep w) Ib L G s (xI ji sc fr x G.σ) Q E):wpAny (model pw w) A (eval (.Name x pos) env) Q E s:=by
 unfold xI at h;refine PT (λhn h=>?_) (Ok.ifS h);unfold xH at hn;simp only[Bool.and_eq_true,Bool.not_eq_true']at hn;have hd:=hn.1;have hcl:=hn.2;have cel:(sc.lookup x=some .cell\/sc.lookup x=some .free)->Ok w Gk xt (rep w) Ib L G s (ac (aa fr x) G.σ) Q E->wpAny (model pw w) A (eval (.Name x pos) env) Q E s:=λhk h=>by
  refine ao (g6 h) λd e h=>?_;refine ar (F.cel x d hk e) λc v e1 e2 rv=>?_;have kk:env.kindOf x=some .cell\/env.kindOf x=some .free:=by
   rcases F.names x with q | ⟨_,q⟩
   ·rw[q];exact hk
   ·exact .inl q
  rcases kk with q | q
  ·exact wpAny_Name (wpAny_loadName_cell F.kind q e1 e2 (Ok.now I h rv)) hd
  ·exact wpAny_Name (wpAny_loadName_free F.kind q e1 e2 (Ok.now I h rv) hcl) hd
 induction hk:sc.lookup x with
 | none=>replace h:=(hk) ▸ h;exact(h:False).elim
 | some q=>
 rw[hk]at h
 induction q
 ·refine ao (g6 h) λd e h=>?_;refine ao F.loc λm hns hm=>?_;refine ao (hm x d hk e) λv e1 rv=>?_;have kk:env.kindOf x=some .local:=by
   rcases F.names x with q | ⟨q,_⟩
   ·refine PV q ?_;exact hk
   ·replace q:=(hk) ▸ q;exact absurd q (by decide)
  exact wpAny_Name (wpAny_loadName_local F.kind kk hns e1 (Ok.now I h rv)) hd
 ·exact cel (.inl hk) h
 ·exact cel (.inr hk) h
 ·exact(h:False).elim
 ·refine ao (g6 h) λd e h=>?_;refine ao (Ay X I e) λv rv hv=>?_;have kk:env.kindOf x=some .globalImplicit:=by
   rcases F.names x with q | ⟨q,_⟩
   ·refine PV q ?_;exact hk
   ·replace q:=(hk) ▸ q;exact absurd q (by decide)
  have T:=I.T X;have xu:=Ok.now I h rv;refine Name_function_global F.kind kk ?_ hd;rcases hv with hv | ⟨h1,h2,h3⟩
  ·exact loadGlobal_global (by rw[F.globals];exact T.g) (mg_of (I.K X) T.g hv) xu
  ·exact loadGlobal_builtin (by rw[F.globals];exact T.g) (mg_none_of (I.K X) T.g h1) (by rw[F.builtins];exact T.b) ((T.builtins x h3).trans h2) xu
noncomputable def yb(e:Expr):Expr:=if h:e.ctorIdx=22 then Expr.Starred.elim e h λx _=>x else e
theorem wc(e:Expr)(es:List Expr)(env:Env):starEach (e::es) env=(fO e,eval (yb e) env)::starEach es env:=by induction e using Expr.casesOn <;> rfl
theorem eW{e:Expr}(h:fO e=false)(es:List Expr)(env:Env):starEach (e::es) env=(false,eval e env)::starEach es env:=by rw[wc,h,show yb e=e from dif_neg (ne_of_beq_false h)]
theorem cF{e:Expr}{es:List Expr}(h:cC (e::es)=true):fO e=false/\cC es=true:=
 have h:(!fO e&&cC es)=true:=h;have h:=PZ h
 ⟨Bool.eq_false_iff.mpr λq=>fH (by rw[q]at h;exact h.1),h.2⟩
theorem yc{r:Rc}{sc:Sc}{fr:af}{e:Expr}{es:List Expr}:(fO e=false/\uP r sc fr (e::es)=bnd (r.ev sc fr e) λa=>bnd (uP r sc fr es) λl=>ret (a::l))\/uP r sc fr (e::es)=stuck:=
 if h:fO e=true then .inr (PW h) else .inl ⟨Bool.eq_false_iff.mpr h,PX h⟩
theorem D6{α β γ:Type}(m:M α)(g:α->M β)(f:β->M γ)(σ:St):bnd (bnd m g) f σ=bnd m (λa=>bnd (g a) f) σ:=by unfold bnd;induction m σ <;> rfl
theorem og(S:bq w Gk H8 r){pos:Pos}{α β:Type}{P:Gh->β->α->Prop}{Q:β->Shared->Prop}:∀ {es:List Expr} {G:Gh} {s:Shared} {f:List D->M α},Inv w Gk G s.heap->Fm w H8 A G s.heap env L sc fr->Ok w Gk xt P Ib L G s (bnd (uP r sc fr es) f G.σ) Q E →
  ∀ {Gp:List Value->Shared->Prop},(∀ vs Gm Gl ds,Rn w Gk true [] G s Gl Gm->Inv w Gk Gl Gm.heap->Fm w H8 A Gl Gm.heap env L sc fr->RepL w Gl.B Gl.ρ vs ds->Ok w Gk xt P Ib L Gl Gm (f ds Gl.σ) Q E->Gp vs Gm)->wpAny (model pw w) A (spliced (backTo pos (starEach es env))) Gp E s:=λ{es}=>by
 induction es with
 | nil=>exact λI F h _ k=>args_nil (k [] _ _ [] (.refl I) I F .nil h)
 | cons e es ih=>
  intro G s f I F h Gp k;rcases yc (r:=r) (sc:=sc) (fr:=fr) (e:=e) (es:=es) with⟨q,e1⟩ | e1
  ·rw[e1,D6]at h;refine args_cons (bB S I F h λv Gm Gl d R Gx Gv rv Gq=>?_) (eW q es env);rw[D6]at Gq;exact ih Gx Gv Gq λvs Gs Gy ds Gu GJ GK rl Gw=>k _ Gs Gy (d::ds) (R.trans Gu) GJ GK (.cons (Gu.rep rv) rl) Gw
  ·replace h:=e1 ▸ h;exact(h:False).elim
end
end
section
variable{w:World}{Gk:Heap}{mg mb:Str->Option Value}
section
variable{H8:Nat}{A:Around}{env:Env}{L:Addr}{sc:Sc}{fr:af}{E:Value->Shared->Prop}{r:Rc}
theorem th{α β:Type}{m:Sem α}{f:α->Sem β}{Q:β->Shared->Prop}{s:Shared}(h:wpAny (model pw w) A m (λa s'=>wpAny (model pw w) A (f a) Q E s') E s):wpAny (model pw w) A (m >>= f) Q E s:=wpAny_bind h
theorem wm{α:Type}{m:Sem α}{Q Q':α->Shared->Prop}{s:Shared}(h:wpAny (model pw w) A m Q E s)(k:∀ a s',Q a s'->Q' a s'):wpAny (model pw w) A m Q' E s:=wpAny_mono h k λ_ _ x=>x
theorem Ok.mono{α β:Type}{P:Gh->β->α->Prop}{Ib:List Addr}{xt:Bool}{G:Gh}{s:Shared}{Q Q':β->Shared->Prop}{x:R α}(h:Ok w Gk xt P Ib L G s x Q E)(k:∀ v s',Q v s'->Q' v s'):Ok w Gk xt P Ib L G s x Q' E:=by
 induction x with
 | ok d σ'=>exact λv s' G' e x p=>k _ _ (h v s' G' e x p)
 | exc σ'=>exact h
 | stuck=>exact h
theorem qb(S:bq w Gk H8 r){op:BoolOp}{pos:Pos}:∀ {es:List Expr} {G:Gh} {s:Shared} {Q:Value->Shared->Prop},Inv w Gk G s.heap->Fm w H8 A G s.heap env L sc fr->Ok w Gk true (rep w) [] L G s (uQ r sc fr op es G.σ) Q E →
  wpAny (model pw w) A (boolOp pos op (evalEach es env)) Q E s
 | [],G,s,Q,I,F,h=>(h:False).elim
 | [e],G,s,Q,I,F,h=>S.ev I F h
 | e::e2::es,G,s,Q,I,F,h=>by
  refine th (wm (bB (Gp:=λv Gm=>wpAny (model pw w) A (truthy v) (λt Gs=>wpAny (model pw w) A (match op,t with | .And,false | .Or,true=>pure v | _,_=>boolOp pos op (evalEach (e2::es) env)) Q E Gs) E Gm) S I F h λv Gm Gl d R Gx Gv rv Gq=>?_) λv Gm z=>th (wpAny_standAt (th (wpAny_holding z))));refine ky Gx rv (Ok.bind (G7:=[]) (Hf:=iI) (λ_ q=>q) Gq λb Gs Gy b' Gu e Gw=>?_);subst e;have go:Ok w Gk true (rep w) [] L Gy Gs (uQ r sc fr op (e2::es) Gy.σ) Q E->wpAny (model pw w) A (boolOp pos op (evalEach (e2::es) env)) Q E Gs:=λh=>qb S Gu.inv (Gv.on Gu) h
  induction op <;> induction b
  ·exact wpAny_pure (Ok.now Gu.inv Gw (Gu.rep rv))
  ·exact go Gw
  ·exact go Gw
  ·exact wpAny_pure (Ok.now Gu.inv Gw (Gu.rep rv))
theorem oh(S:bq w Gk H8 r){op:BoolOp}:∀ {es:List Expr} {G:Gh} {s:Shared} {Q:Bool->Shared->Prop},Inv w Gk G s.heap->Fm w H8 A G s.heap env L sc fr->Ok w Gk true iI [] L G s (CE r sc fr op es G.σ) Q E →
  wpAny (model pw w) A (allTrue op es env) Q E s
 | [],G,s,Q,I,F,h=>wpAny_pure (Ok.now I h rfl)
 | e::es,G,s,Q,I,F,h=>by
  dsimp only[arm_allTrue_cons];refine th (j7 S I F h λb Gm Gl R Gx Gv Gq=>?_)
  induction op <;> induction b
  ·exact wpAny_pure (Ok.now Gx Gq rfl)
  ·exact oh S Gx Gv Gq
  ·exact oh S Gx Gv Gq
  ·exact wpAny_pure (Ok.now Gx Gq rfl)
theorem uZ{op:CmpOp}{a b:D}{va vb:Value}{G:Gh}{s:Shared}{α β:Type}{P:Gh->β->α->Prop}{Q:β->Shared->Prop}{f:Bool->M α}{Gp:Value->Shared->Prop}(m:Rm A)(I:Inv w Gk G s.heap)(ra:Rep w G.B G.ρ va a)(rb:Rep w G.B G.ρ vb b)
  (h:Ok w Gk true P [] L G s (bnd (ae op a b) f G.σ) Q E) (k:∀ c Gm Gl,Rn w Gk true [] G s Gl Gm->Ok w Gk true P [] L Gl Gm (f c Gl.σ) Q E->Gp (.bool c) Gm):wpAny (model pw w) A (compareOp op va vb) Gp E s:=
 sJ m I ra rb (Ok.bind (G7:=[]) (Hf:=iI) (λ_ q=>q) h λb Gs Gy b' Gu e Gw=>by induction e;exact k b Gs Gy Gu Gw)
theorem mT(S:bq w Gk H8 r){pos:Pos}:∀ {ops:List CmpOp} {es:List Expr} {a:D} {va:Value} {G:Gh} {s:Shared} {Q:Value->Shared->Prop},ops.length=es.length->Inv w Gk G s.heap->Fm w H8 A G s.heap env L sc fr->Rep w G.B G.ρ va a →
  Ok w Gk true iI [] L G s (ku r sc fr a ops es G.σ) (λb s'=>Q (.bool b) s') E->wpAny (model pw w) A (compareChain pos va ops (evalEach es env)) Q E s
 | [],_,a,va,G,s,Q,hl,I,F,ra,h=>by induction ‹List Expr› using List.casesOn <;> exact(h:False).elim
 | op::ops,[],a,va,G,s,Q,hl,I,F,ra,h=>by simp at hl
 | [op],e::e2::es,a,va,G,s,Q,hl,I,F,ra,h=>by simp at hl
 | op::op'::ops,[e],a,va,G,s,Q,hl,I,F,ra,h=>by simp at hl
 | [op],[e],a,va,G,s,Q,hl,I,F,ra,h=>chain_last (bB S I F h λv Gm Gl d R Gx Gv rv Gq=>sJ Gv.rm Gx (R.rep ra) rv Gq)
 | op::op'::ops,e::e2::es,a,va,G,s,Q,hl,I,F,ra,h=>by
  refine chain_link (bB S I F h λv Gm Gl d R Gx Gv rv Gq=>uZ Gv.rm Gx (R.rep ra) rv Gq λc Gs Gy Gu Gw=>wpAny_truthy_bool ?_)
  induction c
  ·exact Ok.now Gu.inv Gw rfl
  ·exact mT S (by simpa using hl) Gu.inv (Gv.on Gu) (Gu.rep rv) Gw
theorem qc(S:bq w Gk H8 r){pos:Pos}:∀ {ops:List CmpOp} {es:List Expr} {a:D} {va:Value} {G:Gh} {s:Shared} {Q:Bool->Shared->Prop},ops.length=es.length->Inv w Gk G s.heap->Fm w H8 A G s.heap env L sc fr->Rep w G.B G.ρ va a →
  Ok w Gk true iI [] L G s (ku r sc fr a ops es G.σ) Q E->wpAny (model pw w) A (testChain pos va ops (evalEach es env)) Q E s
 | [],_,a,va,G,s,Q,hl,I,F,ra,h=>by induction ‹List Expr› using List.casesOn <;> exact(h:False).elim
 | op::ops,[],a,va,G,s,Q,hl,I,F,ra,h=>by simp at hl
 | [op],e::e2::es,a,va,G,s,Q,hl,I,F,ra,h=>by simp at hl
 | op::op'::ops,[e],a,va,G,s,Q,hl,I,F,ra,h=>by simp at hl
 | [op],[e],a,va,G,s,Q,hl,I,F,ra,h=>test_last (bB S I F h λv Gm Gl d R Gx Gv rv Gq=>wm (sJ (Q:=λv s'=>∃ b,v=.bool b/\Q b s') Gv.rm Gx (R.rep ra) rv (Ok.mono Gq λb s' q=>⟨b,rfl,q⟩)) λv s' ⟨b,e,q⟩=>by exact e ▸ (wpAny_truthy_bool q))
 | op::op'::ops,e::e2::es,a,va,G,s,Q,hl,I,F,ra,h=>by
  refine test_link (bB S I F h λv Gm Gl d R Gx Gv rv Gq=>uZ Gv.rm Gx (R.rep ra) rv Gq λc Gs Gy Gu Gw=>wpAny_truthy_bool ?_);obtain⟨⟩:=c
  ·exact Ok.now Gu.inv Gw rfl
  ·exact qc S (by simpa using hl) Gu.inv (Gv.on Gu) (Gu.rep rv) Gw
theorem yd(o:Expr)(attr:Str)(whole:Sem Value):attributeBase o attr env whole=if bT o=true then whole else attributeBase o attr env whole:=by
 induction o using Expr.casesOn with
 | Call f as ks p=>
  induction f using Expr.casesOn with
  | Name id p2=>
   induction as using List.casesOn with
   | cons=>rfl
   | nil=>
    induction ks using List.casesOn with
    | cons=>rfl
    | nil=>refine PU (P8 (bT (.Call (.Name id p2) [] [] p)=true)) (λhn=>?_) λhn=>(PX hn).symm;refine PV ?_ (PW hn).symm;exact PW (congrArg (λb:Bool=>b||_||_||_) (show(id !=("super" : Str))=true from hn))
  | _=>rfl
 | _=>rfl
theorem AA{o:Expr}{attr:Str}{whole:Sem Value}(hp:bT o=true):attributeBase o attr env whole=whole:=(yd o attr whole).trans (PW hp)
theorem g7{o:Expr}{attr:Str}{whole:Sem Value}{s:Shared}{Q:Value->Shared->Prop}(hp:bT o=true)(h:wpAny (model pw w) A whole Q E s):wpAny (model pw w) A (attributeBase o attr env whole) Q E s:=(AA hp).symm ▸ h
theorem ye(X:Cx w Gk mg mb)(S:bq w Gk H8 r){o:Expr}{a:Str}{pos:Pos}{G:Gh}{s:Shared}{Q:Value->Shared->Prop}(I:Inv w Gk G s.heap)(F:Fm w H8 A G s.heap env L sc fr)(hp:bT o=true)
  (h:Ok w Gk true (rep w) [] L G s (bnd (r.ev sc fr o) (λov=>aA ov a) G.σ) Q E):wpAny (model pw w) A (eval (.Attribute o a pos) env) Q E s:=by
 simp only[arm_eval_Attribute];refine th (g7 hp (bB S I F h λv Gm Gl d R Gx Gv rv Gq=>th (wpAny_standAt (th (wpAny_holding (Ar (xt:=true) (Ib:=[]) (Lf:=L) X Gx rv ?_))))));refine Ok.mono Gq λv s' q=>th (wpAny_letTemporaryGo (wpAny_pure q))
theorem sV(i:Expr)(v u:Value):subscripted i false v u=if iD i=true then subscripted i false v u else operate [v,u] (getItem v u):=by induction i using Expr.casesOn <;> rfl
theorem om{i:Expr}{v u:Value}(h:iD i=false):subscripted i false v u=operate [v,u] (getItem v u):=(sV i v u).trans (PX λq=>fH (h.symm.trans q))
theorem AB(S:bq w Gk H8 r){o i:Expr}{pos:Pos}{G:Gh}{s:Shared}{Q:Value->Shared->Prop}(I:Inv w Gk G s.heap)(F:Fm w H8 A G s.heap env L sc fr)(hp:iD i=false)
  (h:Ok w Gk true (rep w) [] L G s (bnd (r.ev sc fr o) (λov=>bnd (r.ev sc fr i) λiv=>subD ov iv) G.σ) Q E):wpAny (model pw w) A (eval (.Subscript o i pos) env) Q E s:=by
 refine Subscript_ (bB S I F h λv Gm Gl d R Gx Gv rv Gq=>bB S Gx Gv Gq λu Gs Gy HD Gu GJ GK ru Gw=>?_);refine ar (An GK.rm GJ (Gu.rep rv) ru Gw) λT id h1 h2 h3=>?_;exact tail_any (ops:=[v,u]) h2 h1 h3 (om hp)
theorem gu(S:bq w Gk H8 r){G:Gh}{s:Shared}(I:Inv w Gk G s.heap)(F:Fm w H8 A G s.heap env L sc fr){α β:Type}{P:Gh->β->α->Prop}{Q:β->Shared->Prop}{e:Expr}{f:D->M α}(h:Ok w Gk true P [] L G s (bnd (r.ev sc fr e) f G.σ) Q E)
  {Gp:Value->Shared->Prop} (k:∀ v Gm Gl d,r.ev sc fr e G.σ=.ok d Gl.σ->Rn w Gk true [] G s Gl Gm->Inv w Gk Gl Gm.heap->Fm w H8 A Gl Gm.heap env L sc fr->Rep w Gl.B Gl.ρ v d->Ok w Gk true P [] L Gl Gm (f d Gl.σ) Q E->Gp v Gm):wpAny (model pw w) A (eval e env) Gp E s:=by
 refine S.ev I F ?_;unfold bnd at h
 induction hm:r.ev sc fr e G.σ with
 | ok d σ'=>rw[hm]at h;intro v s' G' e x p;subst e;exact k v s' G' d hm x x.inv (F.on x) p (h.shift x)
 | exc σ'=>replace h:=(hm) ▸ h;exact λx s' G' e y p=>h x s' G' e y p
 | stuck=>rw[hm]at h;exact h
theorem j8(S:bq w Gk H8 r){G:Gh}{s:Shared}(I:Inv w Gk G s.heap)(F:Fm w H8 A G s.heap env L sc fr){α β:Type}{P:Gh->β->α->Prop}{Q:β->Shared->Prop}{o:Option Expr}{f:D->M α}(h:Ok w Gk true P [] L G s (bnd (DG r sc fr o) f G.σ) Q E)
  {Gp:Value->Shared->Prop} (k:∀ v Gm Gl d,Rn w Gk true [] G s Gl Gm->Inv w Gk Gl Gm.heap->Fm w H8 A Gl Gm.heap env L sc fr->Rep w Gl.B Gl.ρ v d->Ok w Gk true P [] L Gl Gm (f d Gl.σ) Q E->Gp v Gm):wpAny (model pw w) A (evalPart o env) Gp E s:=by
 induction o with
 | none=>exact wpAny_pure (k _ s G .none (.refl I) I F .none h)
 | some e=>exact bB S I F h k
theorem sW{o lo hi:D}{σ:St}(h:bt o lo hi σ≠.stuck):(∃ x,o=.str x)\/(∃ l,o=.list l)\/∃ i,o=.ref i:=by induction o using D.casesOn <;> first | exact absurd rfl h | exact .inl ⟨_,rfl⟩ | exact .inr (.inl ⟨_,rfl⟩) | exact .inr (.inr ⟨_,rfl⟩)
theorem wd(S:bq w Gk H8 r){o:Expr}{lo hi:Option Expr}{p pos:Pos}{G:Gh}{s:Shared}{Q:Value->Shared->Prop}(I:Inv w Gk G s.heap)(F:Fm w H8 A G s.heap env L sc fr)(hp:xJ o=true)
  (h:Ok w Gk true (rep w) [] L G s (bnd (r.ev sc fr o) (λov=>bnd (DG r sc fr lo) λl=>bnd (DG r sc fr hi) λh=>bt ov l h) G.σ) Q E):wpAny (model pw w) A (eval (.Subscript o (.Slice lo hi none p) pos) env) Q E s:=by
 have ht:∀ a r,letTemporaryGo o a r=pure ():=Expr.Name.elim (motive_1:=λo=>∀ a r,letTemporaryGo o a r=pure ()) o (eq_of_beq hp) λ_ _ _ _=>rfl;rcases P8 (∃ x σ',r.ev sc fr o G.σ=.ok (.str x) σ') with hs | hs
 ·refine gE hs λx σ' hx=>?_;refine wpAny_Subscript_str_slice (gu S I F h λv Gm Gl d e R Gx Gv rv Gq=>j8 S Gx Gv Gq λvl Gs Gy dl Gu GJ GK rl Gw=>j8 S GJ GK Gw λvh Gz GG dh GB G8 GV rh GD=>?_) ht;replace e:=(hx) ▸ e;cases e;obtain⟨t,rfl⟩:=rv.str';refine ar (nS (t:=t) G8 (GB.rep rl) rh GD) λl u e1 e2 q=>?_;exact⟨x,t,l,u,rfl,e1,e2,q⟩
 ·refine wpAny_Subscript_list_slice (gu S I F h λv Gm Gl d e R Gx Gv rv Gq=>j8 S Gx Gv Gq λvl Gs Gy dl Gu GJ GK rl Gw=>j8 S GJ GK Gw λvh Gz GG dh GB G8 GV rh GD=>?_) ht;have rr:=(GB.rep (Gu.rep rv)).inv;refine PU (sW λq=>by rw[q]at GD;exact GD) (λq=>PS q λx z=>absurd ⟨x,Gl.σ,e.trans (congrArg (λd=>Mine.R.ok d Gl.σ) z)⟩ hs) λq=>PU q (λq=>PS q λds z=>?_) λq=>PS q λi z=>?_
  ·rw[z]at rr GD;refine ar rr λa vs ev hb hr=>?_;refine sr (gQ G8 (hb.list G8.stays) hr (GB.rep rl) rh GD) λz lo' hi' p1 p2 q=>?_;exact⟨_,_,lo',hi',ev,hb.list G8.stays,z,p1,p2,q⟩
  ·rw[z]at rr GD;refine ao rr λa ev ha=>?_;refine ao (bP GD) λc hc GD=>?_
   induction c <;> try exact(GD:False).elim
   refine aI (G8.cell _ _ _ ha hc) λvs n hl hr=>?_;have hl':Gz.heap.IsList _ vs.toArray:=⟨_,hl,rfl,n,rfl⟩;refine sr (gQ G8 hl' hr (GB.rep rl) rh GD) λz lo' hi' p1 p2 q=>?_;exact⟨_,_,lo',hi',ev,hl',z,p1,p2,q⟩
theorem we{c:Const}{k:Nat}{pos:Pos}{G:Gh}{s:Shared}{Q:Value->Shared->Prop}(I:Inv w Gk G s.heap)(h:Ok w Gk true (rep w) [] L G s (xG c G.σ) Q E):wpAny (model pw w) A (eval (.Constant c k pos) env) Q E s:=by
 induction c using Const.casesOn <;> try exact(h:False).elim
 ·exact Constant_none (Ok.now I h .none)
 ·exact Constant_bool (h.boolV I)
 ·exact wpAny_Constant_int (h.int I _ _)
 ·exact Constant_str (h.strV I _ _)
theorem yf(S:bq w Gk H8 r){es:List Expr}{pos:Pos}{G:Gh}{s:Shared}{Q:Value->Shared->Prop}(I:Inv w Gk G s.heap)(F:Fm w H8 A G s.heap env L sc fr)
  (h:Ok w Gk true (rep w) [] L G s (bnd (uP r sc fr es) (λl=>if am l.length then ret (.list l) else stuck) G.σ) Q E):wpAny (model pw w) A (eval (.List es pos) env) Q E s:=by
 refine wpAny_List (og S I F h λvs Gm Gl ds R Gx Gv rl Gq=>?_);refine PT (λhl Gq=>?_) (Ok.ite Gq);have hl:=aW hl;exact⟨by simp only[rl.length,bA];lia,Gq.frozen Gx _ rfl _ λB hB e=>.list ⟨_,0,e,rfl,rfl⟩ (rl.mono hB ⟨[],by simp⟩)⟩
theorem wf(S:bq w Gk H8 r){es:List Expr}{k:Nat}{pos:Pos}{G:Gh}{s:Shared}{Q:Value->Shared->Prop}(I:Inv w Gk G s.heap)(F:Fm w H8 A G s.heap env L sc fr)
  (h:Ok w Gk true (rep w) [] L G s (bnd (uP r sc fr es) (λl=>if am l.length then ret (.tup l) else stuck) G.σ) Q E):wpAny (model pw w) A (eval (.Tuple es k pos) env) Q E s:=by
 refine wpAny_Tuple (og S I F h λvs Gm Gl ds R Gx Gv rl Gq=>?_);obtain⟨hl,Gq⟩:=Ok.ite Gq;have hl:=aW hl;exact⟨by simp only[rl.length,bA];omega,Gq.frozen Gx _ rfl _ λB hB e=>.tup ⟨_,0,e,rfl,rfl⟩ (rl.mono hB ⟨[],by simp⟩)⟩
end
end
section
variable{w:World}{Gk:Heap}{mg mb:Str->Option Value}
theorem qd{A:Around}{C:Addr}{vs:List Value}:(A.under (.builtin "type.__call__" ⟨.ref C::vs,[]⟩)).handled=A.handled/\(A.under (.builtin "type.__call__" ⟨.ref C::vs,[]⟩)).frames=A.frames ∧
  (A.under (.builtin "type.__call__" ⟨.ref C::vs,[]⟩)).depth<=A.depth+1/\(A.under (.builtin "type.__call__" ⟨.ref C::vs,[]⟩)).units<=A.units+4:=by
 obtain⟨hd,d,fr,gs,u⟩:=A;have e1:(Code.builtin "type.__call__" ⟨.ref C::vs,[]⟩).envs=[]:=by kernel_rfl
 have e2:(Code.builtin "type.__call__" ⟨.ref C::vs,[]⟩).weight=1:=by kernel_rfl
 have e3:(Code.builtin "type.__call__" ⟨.ref C::vs,[]⟩).cUnits=1:=by kernel_rfl
 refine⟨rfl, ?_, ?_, ?_⟩
 ·show pushEnvs (Code.builtin "type.__call__" ⟨.ref C::vs,[]⟩).envs fr=fr;exact e1 ▸ rfl
 ·show d+(Code.builtin "type.__call__" ⟨.ref C::vs,[]⟩).weight<=d+1;lia
 ·show u+(Code.builtin "type.__call__" ⟨.ref C::vs,[]⟩).cUnits<=u+4;lia
theorem qe:∀ {x g:Str},cB x=some g->g≠nm "law" ∧ (x,nm "__init__",g)∈methTab:=by
 intro x g h;unfold cB at h
 by_cases h1:x=nm "Memory"
 ·replace h:=(PW h1) ▸ h;cases h;subst h1;exact⟨by decide +kernel,by unfold methTab;simp⟩
 ·replace h:=(PX h1) ▸ h
  by_cases h2:x=nm "Run"
  ·replace h:=(PW h2) ▸ h;cases h;subst h2;exact⟨by decide +kernel,by unfold methTab;simp⟩
  ·replace h:=(PX h2) ▸ h
   by_cases h3:x=nm "Limits"
   ·replace h:=(PW h3) ▸ h;cases h;subst h3;exact⟨by decide +kernel,by unfold methTab;simp⟩
   ·replace h:=(PX h3) ▸ h;exact dt h
section
variable{H8:Nat}{A:Around}{env:Env}{L:Addr}{sc:Sc}{fr:af}{E:Value->Shared->Prop}{G:Gh}{s:Shared}
theorem Amb.rn{G':Gh}{s':Shared}{xt:Bool}{Ib:List Addr}(F:Amb w H8 A G s.heap L)(R:Rn w Gk xt Ib G s G' s'):Amb w H8 A G' s'.heap L:=
 ⟨F.handled,F.depth,F.units,let ⟨e,o,h1,h2,h3⟩:=F.stk;⟨e,o,h1,h2,h3.rn R.slack⟩⟩
theorem kO{G:Gh}{h:Heap}{a:Addr}(e:h.get? a=some emptyDict):CellAt w G h a (.sdict []):=
 ⟨[],⟨_,#[],0,e,⟨rfl,rfl,rfl⟩,rfl,λ_ he=>by simp at he,.nil,List.nodup_nil⟩,.nil⟩
theorem kP{x:Str}{C:Addr}{v:Value}(hC:clsTab.lookup x=some C)(hv:iH w x=some v):v=.ref C/\jB w x C:=by have c:=List.all_eq_true.mp (jj w.params) _ (aX hC);dsimp only[jE]at c;simp only[Bool.and_eq_true,beq_iff_eq]at c;have c1:=c.1.1.1.1.1;unfold iH at hv;replace hv:=(c1) ▸ hv;cases hv;exact⟨rfl,c1⟩
theorem yg{call:Str->List D->M D}(X:Cx w Gk mg mb)(C:n_ w Gk H8 call){x g:Str}{as:List D}{v:Value}{vs:List Value}{Q:Value->Shared->Prop}(I:Inv w Gk G s.heap)(F:Amb w H8 A G s.heap L)(hd:A.depth+4*H8+6<recursionLimit)(hu:A.units+20*H8+210<cLine)
  (hi:cB x=some g) (hv:iH w x=some v) (ra:RepL w G.B G.ρ vs as)
  (h:Ok w Gk true (rep w) [] L G s (bnd (ef (.sdict [])) (λi=>bnd (call g (.inst x i::as)) λr=>if isNone r then ret (.inst x i) else stuck) G.σ) Q E):wpAny (model pw w) A (PySem.call v vs) Q E s:=by
 refine PT (λhgl hm=>?_) (qe hi);refine eP (jk hm w.params) λCl a ij z1=>?_;refine bo z1 λhC hf hmk hfi hty=>?_;refine PT (λzz0 hca=>?_) (kP hC hv);obtain rfl:=zz0;refine wpAny_call ?_;have K:=I.K X;obtain⟨hh,gs,dr,t,os⟩:=s;have R1:=uT (xt:=true) (Ib:=[]) (s:=⟨hh,gs,dr,t,os⟩) I emptyDict (.sdict []) t (λh' _ e=>kO e) rfl;refine PT (λR2 eB=>?_) (mP (xt:=true) (Ib:=[]) R1.inv (instObj Cl hh.objs.size) rfl t);have R:=R1.trans R2;refine make_core (makes_of K hmk) (looks_findIn K hfi) (λself=>bind_fn K self hty) (.inl rfl) ?_;have hsz:(hh.push emptyDict).objs.size=hh.objs.size+1:=Heap.size_push ..;refine cM (qd (A:=A) (C:=Cl) (vs:=vs)) λu1 u2 u3 u4=>?_;have FA:=F.rn R;have idx:((G.more hh.objs.size (.sdict [])).add (hh.push emptyDict).objs.size (instObj Cl hh.objs.size)).ρ[G.σ.length]?=some hh.objs.size:=by show(G.ρ++[hh.objs.size])[G.σ.length]?=_;simp only[<-I.len,List.getElem?_append_right (Nat.le_refl _),Nat.sub_self];rfl
 have ri:Rep w ((G.more hh.objs.size (.sdict [])).add (hh.push emptyDict).objs.size (instObj Cl hh.objs.size)).B ((G.more hh.objs.size (.sdict [])).add (hh.push emptyDict).objs.size (instObj Cl hh.objs.size)).ρ (.ref (hh.objs.size+1)) (.inst x G.σ.length):=by rw[<-hsz];exact .inst eB idx hca (by exact congrArg _ hi)
 refine codeAny_mono (C.snd (A:=A.under (.builtin "type.__call__" ⟨.ref Cl::vs,[]⟩)) (L:=L) (G:=(G.more hh.objs.size (.sdict [])).add (hh.push emptyDict).objs.size (instObj Cl hh.objs.size)) (s:=⟨(hh.push emptyDict).push (instObj Cl hh.objs.size),gs,dr,t,os⟩) (as:=.inst x G.σ.length::as) (Q:=λv s'=>v=.none/\Q (.ref (hh.objs.size+1)) s') (E:=E)
  hgl R.inv ⟨u1.trans F.handled,by lia,by lia,by exact FA.stk⟩ (.cons ri (R.repL ra)) hf ?_) λr s' z=>?_
 ·have h':=h;have h2:=h'.shift R;refine Ok.bind (G7:=[]) (G:=(G.more hh.objs.size (.sdict [])).add (hh.push emptyDict).objs.size (instObj Cl hh.objs.size)) (λ_ q=>q) h2 λv Gm Gl d GC rv GD=>?_;refine PT (λhn GD=>?_) (Ok.ite GD);have:d=.none:=by induction d using D.casesOn <;> first | rfl | exact fH hn
  subst this;obtain rfl:=rv.inv;exact⟨rfl,Ok.now GC.inv GD (GC.rep ri)⟩
 ·rcases r with e | (v | _ | _ | _) <;> first | exact z | exact z.elim
theorem AC{x:Str}{as:List D}{v:Value}{Q:Value->Shared->Prop}(hb:bootBuiltins x=some v)(h:Ok w Gk true (rep w) [] L G s (au x as G.σ) Q E):∀ a,v≠.ref a:=by
 refine bo j6 λb1 b2 b3 b4 z2=>?_;refine gX z2 λb5 b6 b7 b8 b9 b10=>?_;unfold au at h;have go:∀ {n:String} {u:Value},bootBuiltins (nm n)=some u->(∀ a,u≠.ref a)->x=nm n->∀ a,v≠.ref a:=λhu hn e=>by subst e;replace hu:=(hb) ▸ hu;cases hu;exact hn
 by_cases q:x=nm "len"
 ·exact go b1 (λ_ e=>by injection e) q
 rw[PX q]at h;clear q
 by_cases q:x=nm "abs"
 ·exact go b2 (λ_ e=>by injection e) q
 rw[PX q]at h;clear q
 by_cases q:x=nm "min"
 ·exact go b3 (λ_ e=>by injection e) q
 rw[PX q]at h;clear q
 by_cases q:x=nm "max"
 ·exact go b4 (λ_ e=>by injection e) q
 rw[PX q]at h;clear q
 by_cases q:x=nm "range"
 ·exact go b5 (λ_ e=>by injection e) q
 rw[PX q]at h;clear q
 by_cases q:x=nm "divmod"
 ·exact go b6 (λ_ e=>by injection e) q
 rw[PX q]at h;clear q
 by_cases q:x=nm "list"
 ·exact go b7 (λ_ e=>by injection e) q
 rw[PX q]at h;clear q
 by_cases q:x=nm "tuple"
 ·exact go b8 (λ_ e=>by injection e) q
 rw[PX q]at h;clear q
 by_cases q:x=nm "isinstance"
 ·exact go b9 (λ_ e=>by injection e) q
 rw[PX q]at h;exact(h:False).elim
theorem yh{call:Str->List D->M D}{f:D}{as:List D}{σ:St}(h:bO call f as σ≠.stuck):(∃ x,f=.fn x)\/∃ x,f=.blt x:=by induction f using D.casesOn <;> first | exact absurd rfl h | exact .inl ⟨_,rfl⟩ | exact .inr ⟨_,rfl⟩
set_option tactic.hygienic true in
theorem AD{call:Str->List D->M D}(X:Cx w Gk mg mb)(C:n_ w Gk H8 call){f:D}{as:List D}{v:Value}{vs:List Value}{Q:Value->Shared->Prop}(I:Inv w Gk G s.heap)(F:Amb w H8 A G s.heap L)(hd:A.depth+4*H8+6<recursionLimit)(hu:A.units+20*H8+210<cLine)
  (rv:Rep w G.B G.ρ v f) (ra:RepL w G.B G.ρ vs as) (h:Ok w Gk true (rep w) [] L G s (bO call f as G.σ) Q E) :
  (∃ k,(k=Keeper.frame\/k=Keeper.machine\/k=Keeper.boundFrame)/\Looks (model pw w) s.heap (keeperOf v) k)/\wpAny (model pw w) A (PySem.call v vs) Q E s:=by
 refine PU (yh λq=>by rw[q]at h;exact h) (λq=>PS q λx z=>?_) λq=>PS q λx z=>?_
 ·rw[z]at rv h;unfold bO at h;dsimp only at h;have hv:iH w x=some v:=rv.inv
  induction hi:cB x with
  | some g=>rw[hi]at h;refine⟨?_,yg X C I F hd hu hi hv ra h⟩;obtain⟨hgl,hm⟩:=qe hi;refine eP (jk hm w.params) λCl a ij z3=>?_;refine bo z3 λhC hf hmk hfi hty=>?_;obtain⟨y2,hca⟩:=kP hC hv;rw[y2];have c:=List.all_eq_true.mp (x9 w.params) _ (aX hC);exact keeps_K (PZ c).1 _ (I.K X)
  | none=>
   replace h:=(hi) ▸ h;dsimp only at h
   by_cases hl:x=nm "law"
   ·replace h:=(PW hl) ▸ h;exact(h:False).elim
   replace h:=(PX hl) ▸ h
   induction hx:fnAddr.lookup x with
   | none=>rw[C.dom x as _ hx]at h;exact(h:False).elim
   | some p=>obtain⟨a,ij⟩:=p;obtain rfl:=CN hx w.params hv;exact⟨keeps_K (uY hx w.params) _ (I.K X),wpAny_call (C.snd hl I F ra hx h)⟩
 ·rw[z]at rv h;replace h:Ok w Gk true (rep w) [] L G s (au x as G.σ) Q E:=h;have hb:bootBuiltins x=some v:=rv.inv;refine⟨⟨.machine,.inr (.inl rfl),Looks.of_pure ?_⟩,CL F.rm I hb ra h⟩;have:=AC hb h
  induction v <;> first | rfl | exact(this _ rfl).elim
theorem eX{pos:Pos}:∀ {es:List Expr},cC es=true->(backTo pos (starEach es env)).any (·.1)=false
 | [],_=>rfl
 | e::es,h=>by rw[eW (cF h).1];exact eX (cF h).2
theorem mU{call:Str->List D->M D}{r:Rc}(S:bq w Gk H8 r){pos:Pos}{es:List Expr}{v:Value}{first:List Value}{f:List D->M D}{Q:Value->Shared->Prop}(I:Inv w Gk G s.heap)(F:Fm w H8 A G s.heap env L sc fr)(hs:cC es=true)
  (h:Ok w Gk true (rep w) [] L G s (bnd (uP r sc fr es) f G.σ) Q E)
  (k:∀ vs Gm Gl ds,Rn w Gk true [] G s Gl Gm->Inv w Gk Gl Gm.heap->Fm w H8 A Gl Gm.heap env L sc fr->RepL w Gl.B Gl.ρ vs ds->Ok w Gk true (rep w) [] L Gl Gm (f ds Gl.σ) Q E →
   (∃ k,(k=Keeper.frame\/k=Keeper.machine\/k=Keeper.boundFrame)/\Looks (model pw w) Gm.heap (keeperOf v) k)/\wpAny (model pw w) A (PySem.call v (first++vs)) Q E Gm) :
  wpAny (model pw w) A (callWith pos v first (backTo pos (starEach es env)) (backToKw pos (keywordEach [] env))) Q E s:=by
 refine callWith_of (P:=λhp=>∃ k,(k=Keeper.frame\/k=Keeper.machine\/k=Keeper.boundFrame)/\Looks (model pw w) hp (keeperOf v) k) (by rw[eX hs];rfl) (λ_ z=>z) ?_;have kk:(backToKw pos (keywordEach [] env))=[]:=rfl;simp only[kk]
 induction es using List.casesOn with
 | nil=>exact PySem.evalArgs_none (k [] s G [] (.refl I) I F .nil h)
 | cons e es=>have he:=eW (cF hs).1 es env;have:=og (pos:=pos) S I F h k;rw[he]at this ⊢;exact evalArgs_plain this
theorem yi(o:Expr)(es:List Expr)(pos:Pos):eval (.Call o es [] pos) env=if nP o=true then eval (.Call o es [] pos) env else (do callWith pos (<-eval o env) [] (backTo pos (starEach es env)) (backToKw pos (keywordEach [] env))):=by induction o using Expr.casesOn <;> rfl
theorem yj{call:Str->List D->M D}{r:Rc}(X:Cx w Gk mg mb)(C:n_ w Gk H8 call)(S:bq w Gk H8 r){o:Expr}{es:List Expr}{pos:Pos}{Q:Value->Shared->Prop}(I:Inv w Gk G s.heap)(F:Fm w H8 A G s.heap env L sc fr)(ha:nP o=false)(hs:cC es=true)
  (h:Ok w Gk true (rep w) [] L G s (bnd (r.ev sc fr o) (λfv=>bnd (uP r sc fr es) λas=>bO call fv as) G.σ) Q E):wpAny (model pw w) A (eval (.Call o es [] pos) env) Q E s:=by
 refine Call_ (bB S I F h λv Gm Gl d R Gx Gv rv Gq=>?_) ((yi o es pos).trans (PX λq=>fH (ha.symm.trans q)));exact mU (call:=call) (first:=[]) S Gx Gv hs Gq λvs Gs Gy ds Gu GJ GK ra Gw=>AD X C GJ GK.amb GK.depth GK.units (Gu.rep rv) ra Gw
end
end
section
variable{w:World}{Gk:Heap}{mg mb:Str->Option Value}
noncomputable def D7(k:Mk)(f:Value):Prop:=match k with
 | .join=>f=.builtin "str.join"
 | .ljust=>f=.builtin "str.ljust"
 | .pop=>f=.builtin "list.pop"
 | .get=>f=.builtin "dict.get"
 | .items=>f=.builtin "dict.items"
 | .user g=>∃ a ij,f=.ref a/\fnAddr.lookup g=some (a,ij)/\g≠nm "law"
theorem yk:∀ {c m g:Str},jg c m=some g->g≠nm "law" ∧ (c,m,g)∈methTab:=by
 intro c m g h;unfold jg at h
 by_cases h1:c=nm "Memory"
 ·replace h:=(PW h1) ▸ h;refine PU (P8 (m=nm "load")) (λh2=>?_) λh2=>?_
  ·replace h:=(PW h2) ▸ h;cases h;subst h1 h2;exact⟨by decide +kernel,by unfold methTab;simp⟩
  ·replace h:=(PX h2) ▸ h;refine PU (P8 (m=nm "store")) (λh3=>?_) λh3=>?_
   ·replace h:=(PW h3) ▸ h;cases h;subst h1 h3;exact⟨by decide +kernel,by unfold methTab;simp⟩
   ·replace h:=(PX h3) ▸ h;injection h
 ·replace h:=(PX h1) ▸ h;injection h
theorem wg{c:Str}{Cl:Addr}(hca:jB w c Cl)(hs:(cB c).isSome=true):plainGet (KH w.params) Cl c=true:=
 have band:∀ {a b:Bool},(a&&b)=true->a=true/\b=true:=PZ
 (band (band (band (band (band (sL hca hs)).1).1).1).1).2
section
variable{H8:Nat}{A:Around}{env:Env}{L:Addr}{sc:Sc}{fr:af}{E:Value->Shared->Prop}{G:Gh}{s:Shared}
noncomputable def mV{α β:Type}(w:World)(Gk:Heap)(A:Around)(E:Value->Shared->Prop)(L:Addr)(G:Gh)(s:Shared)(P:Gh->β->α->Prop)(Q:β->Shared->Prop)(f:Mk->M α)(m:Str)(v:Value):Prop:=
 ∃ k u,(∀ (pl:Sem Bool) (Q':Value×List Value->Shared->Prop),Q' (u,[v]) s->wpAny (model pw w) A (getMethod v m pl) Q' E s)/\D7 k u/\Ok w Gk true P [] L G s (f k G.σ) Q E
section
variable{α β:Type}{P:Gh->β->α->Prop}{Q:β->Shared->Prop}{m:Str}{v:Value}{f:Mk->M α}
theorem j9{c:Prop}[Decidable c]{k:Mk}(h:Ok w Gk true P [] L G s (bnd (if c then ret k else stuck) f G.σ) Q E):c/\Ok w Gk true P [] L G s (f k G.σ) Q E:=by
 by_cases q:c
 ·rw[PW q]at h;exact⟨q,h⟩
 ·rw[PX q]at h;exact(h:False).elim
theorem mW{i:Nat}{g:Cell->M Mk}(h:Ok w Gk true P [] L G s (bnd (bnd (cell i) g) f G.σ) Q E):∃ c,G.σ[i]?=some c/\Ok w Gk true P [] L G s (bnd (g c) f G.σ) Q E:=by
 unfold bnd cell at h;cases q:G.σ[i]? with
 | none=>replace h:=(q) ▸ h;exact(h:False).elim
 | some c=>rw[q]at h;exact⟨c,rfl,h⟩
theorem yl{x:Str}{t:Tok}(h:Ok w Gk true P [] L G s (bnd (if m=nm "join" then ret Mk.join else if m=nm "ljust" then ret Mk.ljust else stuck) f G.σ) Q E):mV w Gk A E L G s P Q f m (.str x t):=by
 by_cases hc:m=nm "join"
 ·rw[PW hc]at h;rw[hc];exact⟨.join,_,λpl Q' q=>getMethod_builtin (typeIs_str s x t) F.plainAttrs_str F.slot_str_join F.type_str_join (λa e=>by cases e) q,rfl,h⟩
 ·rw[PX hc]at h;obtain⟨hc,h⟩:=j9 h;rw[hc];exact⟨.ljust,_,λpl Q' q=>getMethod_builtin (typeIs_str s x t) F.plainAttrs_str F.slot_str_ljust F.type_str_ljust (λa e=>by cases e) q,rfl,h⟩
theorem sX{a:Addr}{ob:Obj}(ho:s.heap.get? a=some ob)(hx:ob.ExactDict)(h:Ok w Gk true P [] L G s (bnd (if m=nm "items" then ret Mk.items else stuck) f G.σ) Q E):mV w Gk A E L G s P Q f m (.ref a):=by refine PT (λhc h=>?_) (j9 h);simp only[hc];exact⟨.items,_,λpl Q' q=>getMethod_builtin (T:="dict") ⟨_,ho,hx.1⟩ F.plainAttrs_dict F.slot_dict_items F.type_dict_items (λa e=>by cases e;exact⟨_,ho,hx.2.1⟩) q,rfl,h⟩
theorem qf{a:Addr}{ob:Obj}(ho:s.heap.get? a=some ob)(hx:ob.ExactDict)(h:Ok w Gk true P [] L G s (bnd (if m=nm "get" then ret Mk.get else stuck) f G.σ) Q E):mV w Gk A E L G s P Q f m (.ref a):=by refine PT (λhc h=>?_) (j9 h);simp only[hc];exact⟨.get,_,λpl Q' q=>getMethod_builtin (T:="dict") ⟨_,ho,hx.1⟩ F.plainAttrs_dict F.slot_dict_get F.type_dict_get (λa e=>by cases e;exact⟨_,ho,hx.2.1⟩) q,rfl,h⟩
theorem ym{a:Addr}{ob:Obj}(ho:s.heap.get? a=some ob)(h1:ob.cls=.type "list")(h2:ob.dict=none)(h:Ok w Gk true P [] L G s (bnd (if m=nm "pop" then ret Mk.pop else stuck) f G.σ) Q E):mV w Gk A E L G s P Q f m (.ref a):=by refine PT (λhc h=>?_) (j9 h);simp only[hc];exact⟨.pop,_,λpl Q' q=>getMethod_builtin (T:="list") ⟨_,ho,h1⟩ F.plainAttrs_list F.slot_list_pop F.type_list_pop (λa e=>by cases e;exact⟨_,ho,h2⟩) q,rfl,h⟩
theorem wh(X:Cx w Gk mg mb){c:Str}{i:Nat}{l:List (Str×D)}(I:Inv w Gk G s.heap)(rv:Rep w G.B G.ρ v (.inst c i))(hc:G.σ[i]?=some (.sdict l))(h:Ok w Gk true P [] L G s (bnd (if (aa l m).isNone then bnd (ac (jg c m)) λf=>ret (Mk.user f) else stuck) f G.σ) Q E):mV w Gk A E L G s P Q f m v:=by
 refine eP rv.inv λCl x dx z2=>?_;refine bo z2 λz1 hx hi hca hs=>?_;simp only[z1]
 by_cases hn:(aa l m).isNone=true
 ·replace h:=(PW hn) ▸ h;obtain⟨g,hg,h⟩ : ∃ g,jg c m=some g/\Ok w Gk true P [] L G s (f (.user g) G.σ) Q E:=by
   induction q:jg c m with
   | none=>replace h:=q ▸ h;exact(h:False).elim
   | some g=>rw[q]at h;exact⟨g,rfl,h⟩
  obtain⟨hgl,hm⟩:=yk hg;refine eP (jk hm w.params) λCl' a ij z3=>?_;refine bo z3 λhC hf hmk hfi hty=>?_;have e1:Cl'=Cl:=by have:=(kP hC (v:=.ref Cl) (by unfold iH;exact congrArg _ hca)).1;injection this with e;exact e.symm
  rw[e1]at hfi;refine dM (nV I hx hi hc) λkvs od hk hr ho hl IA=>?_;have f2:=wg hca hs;refine⟨.user g,.ref a,λpl Q' q=>method_fn (I.K X) IA (plainGet_of f2).1 (plainGet_of f2).2 hfi hty ?_ q,⟨a,ij,rfl,hf,hgl⟩,h⟩;have:=(bI hr m).1 (Option.isNone_iff_eq_none.mp hn);show(lookIn m od).map _=_;rw[hl,this];rfl
 ·replace h:=(PX hn) ▸ h;exact(h:False).elim
theorem yn(X:Cx w Gk mg mb){o:D}(I:Inv w Gk G s.heap)(rv:Rep w G.B G.ρ v o)(h:Ok w Gk true P [] L G s (bnd (aZ o m) f G.σ) Q E):mV w Gk A E L G s P Q f m v:=by
 induction o using D.casesOn with
 | str=>obtain⟨t,y1⟩:=rv.inv;exact y1 ▸ (yl h)
 | sdict=>refine aH rv.inv λ_ _ z4 ns z5 hr=>?_;rw[z4];obtain⟨ob,es,ep,ho,hx,_⟩:=z5;exact sX (I.stays _ _ ho) hx h
 | ref i=>
  refine ao rv.inv λa z6 ha=>?_;simp only[z6];refine ao (mW h) λc hc h=>?_;have C:=I.cell _ _ _ ha hc
  induction c with
  | list l=>refine aI C λvs n hl hr=>?_;exact ym hl rfl rfl h
  | sdict l=>refine ao C λkvs z7 _=>?_;obtain⟨ob,es,ep,ho,hx,_⟩:=z7;exact qf ho hx h
  | tdict l=>refine ao C λkvs z8 _=>?_;obtain⟨ob,es,ep,ho,hx,_⟩:=z8;exact qf ho hx h
 | inst c i=>
  refine ao (mW h) λce hc h=>?_
  induction ce with
  | sdict l=>exact wh X I rv hc h
  | _=>exact(h:False).elim
 | _=>exact(h:False).elim
end
section
variable{call:Str->List D->M D}{as:List D}{vs:List Value}{Q:Value->Shared->Prop}
theorem CQ{x:Str}{t:Tok}(I:Inv w Gk G s.heap)(ra:RepL w G.B G.ρ vs as)(h:Ok w Gk true (rep w) [] L G s (one as (B3 x) G.σ) Q E):wpAny (model pw w) A (PySem.call (.builtin "str.join") (.str x t::vs)) Q E s:=by refine aH (Ok.one ra h) λa v _ z9 r h=>?_;rw[z9];refine iu (Ok.asList r h) λl _ _ z10 hb hr h=>?_;rw[z10];refine ao (cg h) λys hy h=>?_;refine PT (λhn h=>?_) (Ok.ite h);exact PyProof.Rows.join_list (hb.list I.stays) (xZ hr hy) hn λt' tk=>h.strV I t' tk
theorem AE{x:Str}{t:Tok}(I:Inv w Gk G s.heap)(ra:RepL w G.B G.ρ vs as)(h:Ok w Gk true (rep w) [] L G s (one as (xE x) G.σ) Q E):wpAny (model pw w) A (PySem.call (.builtin "str.ljust") (.str x t::vs)) Q E s:=by refine aH (Ok.one ra h) λa v _ z11 r h=>?_;subst z11;refine aI (Ok.asInt r h) λn t' z12 h=>?_;rw[z12];refine PT (λhn h=>?_) (Ok.ite h);exact SC.ljust hn λt' tk=>h.strV I t' tk
theorem AF{v:Value}{l:List (Str×D)}(I:Inv w Gk G s.heap)(rv:Rep w G.B G.ρ v (.sdict l))(ra:RepL w G.B G.ρ vs as)(h:Ok w Gk true (rep w) [] L G s (xF l as G.σ) Q E):wpAny (model pw w) A (PySem.call (.builtin "dict.items") (v::vs)) Q E s:=by
 induction as using List.casesOn with
 | cons=>exact(h:False).elim
 | nil=>cases ra;refine aH rv.inv λad kvs z13 hns hb hr=>?_;obtain rfl:=z13;have hd:=hb.dict I.stays;refine call_meetsIn (T:="dict") PySem.F.slot_dict_items hd.mapOf.typeIs PySem.F.entry_dict_items (PySem.F.args_dict_items_1 _) (meets_dict_items (sk w) ad (by simpa using hns)) ⟨⟨_,hd⟩, ?_⟩;exact h.frozen I _ rfl _ λB hB e=>.items e rfl (.sdict hns (let ⟨o,es,ep,q,r⟩:=hb;⟨o,es,ep,hB _ _ q,r⟩) (hr.mono hB ⟨[],by simp⟩))
theorem D8{i:Nat}{ad:Addr}(I:Inv w Gk G s.heap)(F:Amb w H8 A G s.heap L)(ha:G.ρ[i]?=some ad)(ra:RepL w G.B G.ρ vs as)(h:Ok w Gk true (rep w) [] L G s (one as (λa=>bnd (cell i) (DW a)) G.σ) Q E):wpAny (model pw w) A (PySem.call (.builtin "dict.get") (.ref ad::vs)) Q E s:=by
 refine aH (Ok.one ra h) λa v _ z14 r h=>?_;rw[z14];refine ao (bP h) λc hc h=>?_;have Ce:=I.cell _ _ _ ha hc;have ns:(ad==sysModules)=false:=by simpa using I.sys _ (List.mem_of_getElem? ha)
 have hu:A.units+1<cLine:=by have:=F.units;lia
 induction c with
 | list=>exact(h:False).elim
 | sdict l=>
  refine ao Ce λkvs hd hr=>?_
  induction a using D.casesOn with
  | str k=>
   obtain⟨t,y2⟩:=r.str';rw[y2];refine call_meetsIn PySem.F.slot_dict_get hd.mapOf.typeIs PySem.F.entry_dict_get (PySem.F.args_dict_get_2 _ _) (meets_dict_get (sk w) _ (jD _ _) ns) ⟨_,hd.mapOf, ?_⟩;refine h _ _ G rfl (bU I _) ?_;have lv:=bI hr k
   revert lv
   induction aa l k with
   | none=>intro lv;exact(lv.1 rfl) ▸ .none
   | some d=>intro lv;refine ao (lv.2 d rfl) λv e rv=>?_;exact e ▸ rv
  | tup t=>
   induction l using List.casesOn with
   | cons=>exact(h:False).elim
   | nil=>refine ar r.inv λ_ _ z15 z16 hl=>?_;rw[z15];obtain⟨o,n,ho,hcl,hdt⟩:=z16;refine ao (cg h) λq hq h=>?_;cases hr;refine call_meetsIn (T:="dict") PySem.F.slot_dict_get hd.mapOf.typeIs PySem.F.entry_dict_get (PySem.F.args_dict_get_2 _ _) (meetsH_dict_get (tupleKind (ik w)) _ _ ns) ⟨hu,q,[],⟨o,_,n,I.stays _ _ ho,hcl,hdt,iK hl hq⟩,kG hd, ?_⟩;exact h _ _ G rfl (bU I _) .none
  | _=>exact(h:False).elim
 | tdict l=>
  refine ao Ce λxs hd hr=>?_;refine iu (Ok.asTup r h) λt _ _ z17 z18 hl h=>?_;rw[z17];obtain⟨o,n,ho,hcl,hdt⟩:=z18;refine ao (cg h) λq hq h=>?_;have hT:s.TypeIs (.ref ad) "dict":=by refine bz hd λod es ep hod hx _=>?_;exact⟨od,hod,hx.1⟩
  refine call_meetsIn (T:="dict") PySem.F.slot_dict_get hT PySem.F.entry_dict_get (PySem.F.args_dict_get_2 _ _) (meetsH_dict_get (tupleKind (ik w)) _ _ ns) ⟨hu,q,xs,⟨o,_,n,I.stays _ _ ho,hcl,hdt,iK hl hq⟩,hd, ?_⟩;refine h _ _ G rfl (bU I _) ?_;have lv:=jC hr q
  revert lv
  induction dy l q with
  | none=>intro lv;exact(lv.1 rfl) ▸ .none
  | some d=>intro lv;refine ao (lv.2 d rfl) λp e rv=>?_;exact e ▸ rv
theorem D9{i:Nat}{ad:Addr}(I:Inv w Gk G s.heap)(ha:G.ρ[i]?=some ad)(ra:RepL w G.B G.ρ vs as)(h:Ok w Gk true (rep w) [] L G s (one as (λa=>bnd (cell i) (DX i a)) G.σ) Q E):wpAny (model pw w) A (PySem.call (.builtin "list.pop") (.ref ad::vs)) Q E s:=by
 refine aH (Ok.one ra h) λa v _ z19 r h=>?_;subst z19;refine ao (bP h) λc hc h=>?_;have Ce:=I.cell _ _ _ ha hc
 induction c with
 | list l=>
  induction l using List.casesOn with
  | nil=>exact(h:False).elim
  | cons x r0=>
   refine aI (Ok.asInt r h) λn t z20 h=>?_;rw[z20];obtain⟨y3,h1⟩:=Ok.ite h;rw[y3];refine PT (λhn h2=>?_) (Ok.ite h1);have hn:=aW hn;refine aI Ce λus n hl hr=>?_;cases hr with
   | @cons y _ ys _ hy hys=>
   refine call_meets (T:="list") PySem.F.slot_list_pop ⟨_,hl,rfl⟩ PySem.F.entry_list_pop (PySem.F.args_list_pop_2 _ _) (MeetsSeq.list_pop_at ad (y::ys).toArray n 0 t 0 y (rfl) (fX (by decide) (by simp)) (rfl) (by simp only[List.size_toArray,List.length_cons,hys.length,bA];lia)) ⟨hl, ?_⟩;have e:=Heap.get?_update_self (Obj.mapSeq λxs=>xs.eraseIdxIfInBounds 0) hl rfl;have er:(y::ys).toArray.eraseIdxIfInBounds 0=ys.toArray:=by simp
   have e2:(s.heap.update ad (Obj.mapSeq λxs=>xs.eraseIdxIfInBounds 0)).get? ad=some ⟨.type "list",none,.seq ((y::ys).toArray.eraseIdxIfInBounds 0) (if ((y::ys).toArray.eraseIdxIfInBounds 0).size==(y::ys).toArray.size then n else n+1),#[]⟩:=e;rw[er]at e2;exact h2 y _ (G.turn _ (.list _)) rfl (gn I _ ha (Heap.SameBut.update ..) λst=>⟨ys,_,e2,hys⟩) hy
 | _=>exact(h:False).elim
end
theorem yo{call:Str->List D->M D}(X:Cx w Gk mg mb)(C:n_ w Gk H8 call){o:D}{k:Mk}{as:List D}{u v:Value}{vs:List Value}{Q:Value->Shared->Prop}(I:Inv w Gk G s.heap)(F:Amb w H8 A G s.heap L)
  (rv:Rep w G.B G.ρ v o) (ra:RepL w G.B G.ρ vs as) (hk:D7 k u) (h:Ok w Gk true (rep w) [] L G s (bd call o k as G.σ) Q E) :
  (∃ k,(k=Keeper.frame\/k=Keeper.machine\/k=Keeper.boundFrame)/\Looks (model pw w) s.heap (keeperOf u) k)/\wpAny (model pw w) A (PySem.call u ([v]++vs)) Q E s:=by
 have mach:∀ {i:String},u=.builtin i->wpAny (model pw w) A (PySem.call (.builtin i) (v::vs)) Q E s->(∃ k,(k=Keeper.frame\/k=Keeper.machine\/k=Keeper.boundFrame)/\Looks (model pw w) s.heap (keeperOf u) k)/\wpAny (model pw w) A (PySem.call u ([v]++vs)) Q E s:=
  λe h=>by rw[e];exact⟨⟨.machine,.inr (.inl rfl),Looks.of_pure rfl⟩,h⟩
 induction k with
 | join=>refine aI (Ok.asStr rv h) λx t z21 h=>?_;obtain rfl:=z21;exact mach hk (CQ I ra h)
 | ljust=>refine aI (Ok.asStr rv h) λx t z22 h=>?_;obtain rfl:=z22;exact mach hk (AE I ra h)
 | get=>
  cases o with
  | ref=>refine ao rv.inv λad z23 ha=>?_;obtain rfl:=z23;exact mach hk (D8 I F ha ra h)
  | _=>exact(h:False).elim
 | pop=>
  cases o with
  | ref=>refine ao rv.inv λad z24 ha=>?_;obtain rfl:=z24;exact mach hk (D9 I ha ra h)
  | _=>exact(h:False).elim
 | items=>
  induction o using D.casesOn with
  | sdict=>exact mach hk (AF I rv ra h)
  | _=>exact(h:False).elim
 | user f=>
  induction o using D.casesOn with
  | inst c i=>refine ar hk λa ij z25 hf hgl=>?_;exact z25 ▸ (⟨keeps_K (uY hf w.params) _ (I.K X),wpAny_call (C.snd hgl I F (.cons rv ra) hf h)⟩)
  | _=>exact(h:False).elim
end
end
section
variable{w:World}{Gk:Heap}{mg mb:Str->Option Value}
section
variable{H8:Nat}{A:Around}{env:Env}{L:Addr}{sc:Sc}{fr:af}{E:Value->Shared->Prop}{G:Gh}{s:Shared}
theorem jl{pos:Pos}:∀ {es:List Expr},cC es=true->(backTo pos (starEach es env)).all (λx=>!x.1)=true
 | [],_=>rfl
 | e::es,h=>by rw[eW (cF h).1];exact jl (cF h).2
theorem oo{call:Str->List D->M D}{r:Rc}(X:Cx w Gk mg mb)(C:n_ w Gk H8 call)(S:bq w Gk H8 r){o:Expr}{m:Str}{apos:Pos}{es:List Expr}{pos:Pos}{Q:Value->Shared->Prop}(I:Inv w Gk G s.heap)(F:Fm w H8 A G s.heap env L sc fr)
  (hp:bT o=true) (hl:(apos.endLine==pos.line)=true) (hn:es.length<20) (hs:cC es=true)
  (h:Ok w Gk true (rep w) [] L G s (bnd (r.ev sc fr o) (λov=>bnd (aZ ov m) λk=>bnd (uP r sc fr es) λas=>bd call ov k as) G.σ) Q E):wpAny (model pw w) A (eval (.Call (.Attribute o m apos) es [] pos) env) Q E s:=by
 simp only[arm_eval_Call];refine th (g7 hp (bB S I F h λv Gm Gl d R Gx Gv rv Gq=>th (wpAny_standAt ?_)));obtain⟨k,u,hg,hk,Gw⟩:=yn X Gx rv Gq;have hf:methodCallForm (es.length+([]:List Keyword).length) (backTo pos (starEach es env)) (backToKw pos (keywordEach [] env))=true:=by unfold methodCallForm;rw[jl hs];show(true&&true&&decide (es.length+0+0<30))=true;simp;lia
 dsimp only[methodCall];rw[hf];refine th (wpAny_holding (hg _ _ ?_));have hpos:methodCallPos true o env apos pos=pure pos:=by unfold methodCallPos;rw[hl];rfl
 rw[hpos];refine th (wpAny_pure ?_);exact mU (call:=call) (first:=[v]) S Gx Gv hs Gw λvs Gs Gy ds Gu GJ GK ra GD=>yo X C GJ GK.amb (Gu.rep rv) ra hk GD
variable{xt:Bool}{Ib:List Addr}{Gl:Gh}{Gm:Shared}
theorem kQ(R:Rn w Gk xt Ib G s Gl Gm){d:Addr}{h':Heap}(t:Nat)(hs:Heap.SameBut d Gm.heap h')(hd:s.heap.get? d=none)(hB:Gl.B d=none)(hρ:d∉Gl.ρ):Rn w Gk xt Ib G s Gl { Gm with heap:=h',toks:=t }:=by
 refine gE R.same λhh tk e=>?_;have st:∀ b o,Gl.B b=some o->h'.get? b=some o:=λb o q=>(hs.2 b (λz=>by rw[z]at q;replace q:=hB ▸ q;injection q)).trans (R.inv.stays b o q);refine⟨⟨h',t,by rw[e]⟩,R.B,R.newB,R.ρ,⟨st,R.inv.base,R.inv.len,λi a c h1 h2=>?_,R.inv.apart,R.inv.nodup,R.inv.glo,R.inv.sys⟩,λb o q n1 n2=>?_,λb o q=>?_⟩
 ·exact(R.inv.cell i a c h1 h2).move (λ_ _ e=>e) ⟨[],by simp⟩ (hs.2 a λz=>hρ (z ▸ List.mem_of_getElem? h1)) st
 ·refine ao (R.keep b o q n1 n2) λsl z1 z2=>?_;exact⟨sl,(hs.2 b λz=>by rw[z]at q;replace q:=hd ▸ q;injection q).trans z1,z2⟩
 ·refine ao (R.there b o q) λo' z1 z2=>?_;exact⟨o',(hs.2 b λz=>by rw[z]at q;replace q:=hd ▸ q;injection q).trans z1,z2⟩
theorem gv(R:Rn w Gk xt Ib G s Gl Gm){d:Addr}{o:Obj}(hd:s.heap.get? d=none)(hB:Gl.B d=none)(hρ:d∉Gl.ρ)(ho:Gm.heap.get? d=some o):Rn w Gk xt Ib G s (Gl.add d o) Gm/\(Gl.add d o).B d=some o:=by
 have sub:∀ b o',Gl.B b=some o'->(Gl.add d o).B b=some o':=λb o' e=>by show(if b=d then some o else Gl.B b)=some o';refine PV (PX (λq=>by rw[q]at e;replace e:=hB ▸ e;injection e)) ?_;exact e
 have st:∀ b o',(Gl.add d o).B b=some o'->Gm.heap.get? b=some o':=λb o' e=>by
  have e2:(if b=d then some o else Gl.B b)=some o':=e
  split at e2
  ·rename_i q;rw[q];simp only[<-e2];exact ho
  ·exact R.inv.stays b o' e2
 refine⟨⟨R.same,λb o' e=>sub b o' (R.B b o' e),λb o' e=>?_,R.ρ,⟨st,λb o' e=>sub _ _ (R.inv.base b o' e),R.inv.len,λi c q h1 h2=>?_,λc hc=>?_,R.inv.nodup,let ⟨o',e⟩:=R.inv.glo;⟨o',sub _ _ e⟩,R.inv.sys⟩,R.keep,R.there⟩,PW rfl⟩
 ·have e2:(if b=d then some o else Gl.B b)=some o':=e
  split at e2
  ·rename_i q;rw[q];exact .inr hd
  ·exact R.newB b o' e2
 ·exact(R.inv.cell i c q h1 h2).move sub ⟨[],by simp[Gh.add]⟩ rfl st
 ·show(if c=d then some o else Gl.B c)=none;refine PV (PX (λq:c=d=>hρ (q ▸ hc))) ?_;exact R.inv.apart c hc
theorem mX(R:Rn w Gk xt Ib G s Gl Gm){d:Addr}{c:Cell}(hd:s.heap.get? d=none)(hB:Gl.B d=none)(hρ:d∉Gl.ρ)(hs:d≠sysModules)(x:CellAt w Gl Gm.heap d c):Rn w Gk xt Ib G s (Gl.more d c) Gm:=by
 refine ao R.ρ λmore e f=>?_;refine⟨R.same,R.B,R.newB,⟨more++[d],by show Gl.ρ++[d]=_;rw[e,List.append_assoc],λa ha=>?_⟩,pO R.inv hB hρ hs x,R.keep,R.there⟩;rcases List.mem_append.mp ha with q | q
 ·exact f a q
 ·obtain rfl:a=d:=List.mem_singleton.mp q;exact hd
theorem bJ{Go:Gh}{Gn:Shared}(R:Rn w Gk xt Ib Go Gn Gl Gm){d:Addr}{o:Obj}(ho:Gn.heap.get? d=some o)(hB:Go.B d=none)(hρ:d∉Go.ρ):Gl.B d=none/\d∉Gl.ρ:=by
 constructor
 ·induction q:Gl.B d with
  | none=>rfl
  | some o2=>
   refine PU (R.newB d o2 q) (λz=>?_) λz=>?_
   ·replace z:=(hB) ▸ z;injection z
   ·replace z:=(ho) ▸ z;injection z
 ·refine ao R.ρ λmore e f=>?_;rw[e];intro q;rcases List.mem_append.mp q with q | q
  ·exact hρ q
  ·have:=f d q;replace this:=(ho) ▸ this;injection this
theorem Inv.fresh_un{h:Heap}(I:Inv w Gk G h):G.B h.objs.size=none/\h.objs.size∉G.ρ:=by
 constructor
 ·induction q:G.B h.objs.size with
  | none=>rfl
  | some o=>have:=I.stays _ _ q;rw[aD]at this;injection this
 ·intro q;refine ao (I.obj q) λo e _=>?_;rw[aD]at e;injection e
noncomputable def gw(pos:Pos)(env:Env):List (Option Expr)->List Expr->List (Sem Value×Sem Value)
 | some k::ks,v::vs=>(eval k env,do let x <-eval v env;standAt pos;pure x)::gw pos env ks vs
 | _,_=>[]
theorem jG{pos:Pos}:∀ {ks:List (Option Expr)} {vs:List Expr},ks.length=vs.length->ks.all (·.isSome)=true →
  (evalEachOpt ks env).zip ((evalEach vs env).map λv=>do let x <-v;standAt pos;pure x)=(gw pos env ks vs).map (λp=>(some p.1,p.2))/\(gw pos env ks vs).length=ks.length
 | [],[],_,_=>⟨rfl,rfl⟩
 | some k::ks,v::vs,h,ha=>by refine PT (λh1 h2=>?_) (jG (pos:=pos) (ks:=ks) (vs:=vs) (by simpa using h) ha);refine⟨?_,congrArg (· + 1) h2⟩;simp only[show gw pos env (some k::ks) (v::vs)=_::gw pos env ks vs from rfl,List.map_cons,<-h1];rfl
 | none::ks,v::vs,h,ha=>by simp at ha
 | [],v::vs,h,_=>by simp at h
 | k::ks,[],h,_=>by simp at h
theorem jm{r:Rc}(S:bq w Gk H8 r){pos:Pos}{α β:Type}{P:Gh->β->α->Prop}{Q:β->Shared->Prop}:∀ {ks:List (Option Expr)} {vs:List Expr} {G:Gh} {s:Shared} {f:List D×List D->M α},Inv w Gk G s.heap->Fm w H8 A G s.heap env L sc fr->Ok w Gk true P [] L G s (bnd (dO r sc fr ks vs) f G.σ) Q E →
  ∀ {Gp:List (Value×Value)->Shared->Prop},(∀ us Gm Gl a b,dO r sc fr ks vs G.σ=.ok (a,b) Gl.σ->Rn w Gk true [] G s Gl Gm->RepL w Gl.B Gl.ρ (us.map (·.1)) a->RepL w Gl.B Gl.ρ (us.map (·.2)) b->Ok w Gk true P [] L Gl Gm (f (a,b) Gl.σ) Q E->Gp us Gm)->wpAny (model pw w) A (evalPairs (gw pos env ks vs)) Gp E s
 | [],[],G,s,f,I,F,h,Gp,k=>evalPairs_nil (k [] s G [] [] rfl (.refl I) .nil .nil h)
 | some ke::ks,ve::vs,G,s,f,I,F,h,Gp,k=>by
  have as:∀ {α β γ:Type} (m:M α) (g:α->M β) (f:β->M γ) σ,bnd (bnd m g) f σ=bnd m (λa=>bnd (g a) f) σ:=λm g f σ=>by unfold bnd;induction m σ <;> rfl
  have h':Ok w Gk true P [] L G s (bnd (r.ev sc fr ke) (λkd=>bnd (r.ev sc fr ve) λvd=>bnd (dO r sc fr ks vs) λp=>f (kd::p.1,vd::p.2)) G.σ) Q E:=by
   have e:bnd (dO r sc fr (some ke::ks) (ve::vs)) f G.σ=bnd (r.ev sc fr ke) (λkd=>bnd (r.ev sc fr ve) λvd=>bnd (dO r sc fr ks vs) λp=>f (kd::p.1,vd::p.2)) G.σ:=by
    show bnd (bnd _ _) f G.σ=_;rw[as]
    congr 1;funext kd;funext σ
    rw[as]
    congr 1;funext vd;funext σ
    rw[as];rfl
   exact(Eq.symm e) ▸ h
  refine evalPairs_cons (gu S I F h' λkv Gm Gl kd GM GC Gx Gv rk Gq=>?_);refine th (gu S Gx Gv Gq λvv Gs Gy vd Hp Gu GJ GK rv Gw=>th (wpAny_standAt (wpAny_pure ?_)));refine jm S GJ GK Gw λus Gz GG a b GY GB ra rb GD=>?_;refine k ((kv,vv)::us) Gz GG (kd::a) (vd::b) ?_ (GC.trans (Gu.trans GB)) (.cons ((Gu.trans GB).rep rk) ra) (.cons (GB.rep rv) rb) GD;show bnd (r.ev sc fr ke) _ G.σ=_;dsimp only[bnd];rw[GM];dsimp only;rw[Hp];dsimp only;rw[GY];rfl
 | none::ks,vs,G,s,f,I,F,h,Gp,k=>by induction vs using List.casesOn <;> exact(h:False).elim
 | [],v::vs,G,s,f,I,F,h,Gp,k=>(h:False).elim
 | some _::ks,[],G,s,f,I,F,h,Gp,k=>(h:False).elim
theorem RepL.un{B:Addr->Option Obj}{ρ:List Addr}{v:Value}{vs:List Value}{ds:List D}(r:RepL w B ρ (v::vs) ds):∃ d l,ds=d::l/\Rep w B ρ v d/\RepL w B ρ vs l:=by cases r with | cons a b=>exact⟨_,_,rfl,a,b⟩
theorem qg{GR l:List (Str×D)}{k:D}{a b:List D}(h:fQ GR (k::a) b=some l):∃ x v b',k=.str x/\b=v::b'/\fQ (fN GR x v) a b'=some l:=by
 induction k using D.casesOn with
 | str x=>
  induction b using List.casesOn with
  | nil=>exact nomatch (show(none:Option (List (Str×D)))=some l from h)
  | cons v b=>exact⟨x,v,b,rfl,rfl,h⟩
 | _=>exact nomatch (show(none:Option (List (Str×D)))=some l from h)
theorem wi{B:Addr->Option Obj}{ρ:List Addr}{us:List (Value×Value)}:∀ {a b:List D} {GR l:List (Str×D)} {GU:List (Str×Value)},RepL w B ρ (us.map (·.1)) a->RepL w B ρ (us.map (·.2)) b->fQ GR a b=some l->RepS w B ρ GU GR->(GU.map (·.1)).Nodup →
  ∃ kvs,Carries (sk w) us kvs/\RepS w B ρ (merged GU kvs) l:=by
 induction us with
 | nil=>intro a b GR l GU ra rb h r n;cases ra;cases rb;cases h;exact⟨[],trivial,r⟩
 | cons u us ih=>intro a b GR l GU ra rb h r n;refine ar ra.un λk a z1 rk ra'=>?_;obtain rfl:=z1;refine bz (qg h) λx v b z2 z3 h'=>?_;obtain rfl:=z2;obtain rfl:=z3;refine ar rb.un λ_ _ e rv rb'=>?_;rw[(List.cons.inj e).1,(List.cons.inj e).2]at h';obtain⟨k,y⟩:=u;obtain⟨t,ek⟩:=rk.inv;refine ao (ih ra' rb' h' (fW rv r n) (dm _ _ _ n)) λkvs c z=>?_;exact⟨(x,y)::kvs,⟨by rw[show k=_ from ek];exact jD x t,rfl,c⟩,z⟩
theorem qh{GR l:List (Int×D)}{k:D}{a b:List D}(h:fR GR (k::a) b=some l):∃ x v b',k=.int x/\b=v::b'/\fR (xA GR x v) a b'=some l:=by
 induction k using D.casesOn with
 | int x=>
  induction b using List.casesOn with
  | nil=>exact nomatch (show(none:Option (List (Int×D)))=some l from h)
  | cons v b=>exact⟨x,v,b,rfl,rfl,h⟩
 | _=>exact nomatch (show(none:Option (List (Int×D)))=some l from h)
theorem wj{B:Addr->Option Obj}{ρ:List Addr}{us:List (Value×Value)}:∀ {a b:List D} {GR l:List (Int×D)} {GU:List (Int×Value)},RepL w B ρ (us.map (·.1)) a->RepL w B ρ (us.map (·.2)) b->fR GR a b=some l->RepI w B ρ GU GR->(GU.map (·.1)).Nodup →
  ∃ kvs,Carries (ik w) us kvs/\RepI w B ρ (merged GU kvs) l:=by
 induction us with
 | nil=>intro a b GR l GU ra rb h r n;cases ra;cases rb;cases h;exact⟨[],trivial,r⟩
 | cons u us ih=>intro a b GR l GU ra rb h r n;refine ar ra.un λk a z4 rk ra'=>?_;obtain rfl:=z4;refine bz (qh h) λx v b z5 z6 h'=>?_;obtain rfl:=z5;obtain rfl:=z6;refine ar rb.un λ_ _ e rv rb'=>?_;rw[(List.cons.inj e).1,(List.cons.inj e).2]at h';obtain⟨k,y⟩:=u;obtain⟨t,ek⟩:=rk.inv;refine ao (ih ra' rb' h' (pU rv r n) (dm _ _ _ n)) λkvs c z=>?_;exact⟨(x,y)::kvs,⟨by rw[show k=_ from ek];exact uV x t,rfl,c⟩,z⟩
theorem yp{α β γ:Type}{P:Gh->β->α->Prop}{Q:β->Shared->Prop}{o:Option γ}{f:γ->M α}{σ:St}(h:Ok w Gk xt P Ib L G s (bnd (ac o) f σ) Q E):∃ a,o=some a/\Ok w Gk xt P Ib L G s (f a σ) Q E:=by
 induction o with
 | none=>exact(h:False).elim
 | some a=>exact⟨a,rfl,h⟩
theorem CS(a:List D):(∃ i r,a=.int i::r)\/∀ {β:Type} (X Y:β),(match a with | .int _::_=>X | _=>Y)=Y:=by
 induction a using List.casesOn with
 | nil=>exact .inr λ_ _=>rfl
 | cons d r=>induction d using D.casesOn <;> first | exact .inr λ_ _=>rfl | exact .inl ⟨_,_,rfl⟩
theorem qi{r:Rc}(S:bq w Gk H8 r){ks:List (Option Expr)}{vs:List Expr}{pos:Pos}{α β:Type}{P:Gh->β->α->Prop}{Q:β->Shared->Prop}{f:(List (Str×D) ⊕ List (Int×D))->M α}(I:Inv w Gk G s.heap)(F:Fm w H8 A G s.heap env L sc fr)
  (h:Ok w Gk true P [] L G s (bnd (pL r sc fr ks vs) f G.σ) Q E) {Gp:Value->Shared->Prop}
  (k:∀ d Gm Gl x,Rn w Gk true [] G s Gl Gm->s.heap.get? d=none->Gl.B d=none->d∉Gl.ρ->d≠sysModules →
   (match x with | .inl l=>∃ kvs,Gm.heap.DictOf (sk w) d kvs/\RepS w Gl.B Gl.ρ kvs l | .inr l=>∃ kvs,Gm.heap.DictOf (ik w) d kvs/\RepI w Gl.B Gl.ρ kvs l)->Ok w Gk true P [] L Gl Gm (f x Gl.σ) Q E->Gp (.ref d) Gm):wpAny (model pw w) A (eval (.Dict ks vs pos) env) Gp E s:=by
 have un:=I.fresh_un;refine PT (λhc h=>?_) (Ok.iteB h)
 ·refine jf hc λh1 h2 h3=>?_
  induction ks using List.casesOn with
  | nil=>
   induction vs using List.casesOn with
   | cons _ _=>simp at h2
   | nil=>
   refine wpAny_Dict_empty (k _ _ G (.inl []) (bL I emptyDict s.toks) (aD _) un.1 un.2 I.fresh_sys ?_ ?_)
   ·exact⟨[],⟨_,#[],0,Heap.get?_push_size _ rfl,⟨rfl,rfl,rfl⟩,rfl,λ_ he=>by simp at he,.nil,List.nodup_nil⟩,.nil⟩
   ·exact Ok.shift (bL I emptyDict s.toks) h
  | cons k0 ks=>
  refine PT (λsh len=>?_) (jG (env:=env) (pos:=pos) h2 h3);have R0:Rn w Gk true [] G s G { s with heap:=s.heap.push emptyDict }:=bL I emptyDict s.toks;have F0:=F.on R0;have as:∀ {α β γ:Type} (m:M α) (g:α->M β) (f:β->M γ) σ,bnd (bnd m g) f σ=bnd m (λa=>bnd (g a) f) σ:=λm g f σ=>by unfold bnd;obtain⟨⟩:=m σ <;> rfl
  rw[as]at h;have h0:=h.shift R0;have uO:({ s with heap:=s.heap.push emptyDict }:Shared).heap.get? s.heap.objs.size=some emptyDict:=Heap.get?_push_size _ rfl;have after:∀ {Gm:Shared} {Gl:Gh},Rn w Gk true [] G { s with heap:=s.heap.push emptyDict } Gl Gm->Gm.heap.get? s.heap.objs.size=some emptyDict/\Gl.B s.heap.objs.size=none/\s.heap.objs.size∉Gl.ρ:=λR=>by refine ao (R.keep _ _ uO un.2 (λq=>(nomatch q))) λsl q z=>?_;refine PT (λu1 u2=>?_) (bJ R uO un.1 un.2);rw[z (.inl rfl)]at q;exact⟨q,u1,u2⟩
  have emp:∀ {K:Type} [DecidableEq K] {knd:KeyKind pw w K} {h:Heap},h.get? s.heap.objs.size=some emptyDict->h.DictOf knd s.heap.objs.size []:=λe=>⟨_,#[],0,e,⟨rfl,rfl,rfl⟩,rfl,λ_ he=>by simp at he,.nil,List.nodup_nil⟩;rcases P8 (∃ i a b σ',dO r sc fr (k0::ks) vs G.σ=.ok (.int i::a,b) σ') with hi | hi
  ·refine bp hi λi a b σ' hi=>?_;refine wpAny_Dict_pairs (knd:=ik w) sh (by intro z;rw[z]at len;simp at len) (by omega) (jm S (R0.inv) F0 h0 λus Gm Gl a' b' e R ra rb Gq=>?_);refine jf (after R) λq0 q1 q2=>?_;have h2:Ok w Gk true P [] L G s (bnd (match a' with | .int _::_=>bnd (ac (fR [] a' b')) λl=>ret (.inr l) | _=>bnd (ac (fQ [] a' b')) λl=>ret (.inl l)) f Gl.σ) Q E:=by unfold bnd at h ⊢;rw[e]at h;exact h
   obtain⟨rfl,rfl⟩ : a'=.int i::a/\b'=b:=by simp only[hi]at e;cases e;exact⟨rfl,rfl⟩
   dsimp only at h2;rw[as]at h2;refine ao (yp h2) λl hl h2=>?_;refine ao (wj (GU:=[]) ra rb hl .nil List.nodup_nil) λkvs hcar hr=>?_;refine⟨kvs,hcar,emp q0,λh' hd' sb=>?_⟩;have R2:=kQ (R0.trans R) (h':=h') (Gm.toks+us.length) sb (aD _) q1 q2;exact k _ _ Gl (.inr l) R2 (aD _) q1 q2 I.fresh_sys ⟨_,hd',hr⟩ (Ok.shift R2 h2)
  ·refine wpAny_Dict_pairs (knd:=sk w) sh (by intro z;rw[z]at len;simp at len) (by omega) (jm S (R0.inv) F0 h0 λus Gm Gl a' b' e R ra rb Gq=>?_);refine jf (after R) λq0 q1 q2=>?_;have h2:Ok w Gk true P [] L G s (bnd (match a' with | .int _::_=>bnd (ac (fR [] a' b')) λl=>ret (.inr l) | _=>bnd (ac (fQ [] a' b')) λl=>ret (.inl l)) f Gl.σ) Q E:=by unfold bnd at h ⊢;rw[e]at h;exact h
   refine PU (CS a') (λq=>gE q λi r q=>absurd ⟨i,r,b',Gl.σ,e.trans (congrArg (λa=>Mine.R.ok (a,b') Gl.σ) q)⟩ hi) λq=>?_
   ·rw[q,as]at h2;refine ao (yp h2) λl hl h2=>?_;refine ao (wi (GU:=[]) ra rb hl .nil List.nodup_nil) λkvs hcar hr=>?_;refine⟨kvs,hcar,emp q0,λh' hd' sb=>?_⟩;have R2:=kQ (R0.trans R) (h':=h') (Gm.toks+us.length) sb (aD _) q1 q2;exact k _ _ Gl (.inl l) R2 (aD _) q1 q2 I.fresh_sys ⟨_,hd',hr⟩ (Ok.shift R2 h2)
end
end
section
variable{w:World}{Gk:Heap}{mg mb:Str->Option Value}
theorem RepS.keyAt{B:Addr->Option Obj}{ρ:List Addr}:∀ {kvs:List (Str×Value)} {l:List (Str×D)},RepS w B ρ kvs l->∀ {i:Nat} {k:Str} {x:Value},kvs[i]?=some (k,x)->∀ h:i<l.length,(l[i]).1=k:=by
 intro kvs l r;show ∀ (i:Nat) (k:Str) (x:Value),kvs[i]?=some (k,x)->∀ h:i<l.length,(l[i]).1=k;refine RepS.ind ?_ ?_ r
 ·intro i k x e;exact dt e
 ·intro _ _ _ _ _ a b ih;intro i k x e h
  induction i using Nat.casesOn with
  | zero=>cases e;rfl
  | succ i=>simp only[List.getElem?_cons_succ]at e;exact ih _ _ _ e (by simpa using h)
inductive ItAt(w:World)(G:Gh)(h:Heap)(I:Addr):List D->Prop
 | list {ax:Addr} {vs:List Value} {ds:List D} (i:Nat):BSeq G.B "list" ax vs->RepL w G.B G.ρ vs ds->i<=vs.length->h.IsListIter I ax i->ItAt w G h I (ds.drop i)
 | tuple {ax:Addr} {vs:List Value} {ds:List D} (i:Nat):BSeq G.B "tuple" ax vs->RepL w G.B G.ρ vs ds->i<=vs.length->h.IsTupleIter I ax i->ItAt w G h I (ds.drop i)
 | range {a:Int} {n i:Nat}:i<=n->IsRangeIter h I (a+i*1) ((n:Int) - i) 1->ItAt w G h I (((List.range n).map λ(k:Nat)=>D.int (a+k)).drop i)
 | keys {d:Addr} {o:Obj} {kvs:List (Str×Value)} {l:List (Str×D)} {ep:Nat} (i:Nat):G.B d=some o->(∀ h':Heap,h'.get? d=some o->h'.DictAt (sk w) d kvs ep)->RepS w G.B G.ρ kvs l->i<=kvs.length->h.IsKeyIter I d i kvs.length ep->ItAt w G h I ((l.map λx=>D.str x.1).drop i)
theorem ItAt.obj{G:Gh}{h:Heap}{I:Addr}{ds:List D}(x:ItAt w G h I ds):∃ o,h.get? I=some o/\∃ vs,o.data=.fields vs:=by
 induction x with
 | list i a b c e=>refine bj e λo ho _ hd=>?_;exact⟨o,ho,_,hd⟩
 | tuple i a b c e=>refine bj e λo ho _ hd=>?_;exact⟨o,ho,_,hd⟩
 | range a e=>exact⟨_,e,_,rfl⟩
 | keys i a b c e f=>refine bj f λo ho _ hd=>?_;exact⟨o,ho,_,hd⟩
theorem ItAt.move{G G':Gh}{h h':Heap}{I:Addr}{ds:List D}(x:ItAt w G h I ds)(hB:∀ b o,G.B b=some o->G'.B b=some o)(hρ:∃ more,G'.ρ=G.ρ++more)(e:∀ o,h.get? I=some o->h'.get? I=some o):ItAt w G' h' I ds:=by
 induction x with
 | list i a b c f=>exact .list i (let ⟨o,n,q,r⟩:=a;⟨o,n,hB _ _ q,r⟩) (b.mono hB hρ) c (let ⟨o,ho,r⟩:=f;⟨o,e _ ho,r⟩)
 | tuple i a b c f=>exact .tuple i (let ⟨o,n,q,r⟩:=a;⟨o,n,hB _ _ q,r⟩) (b.mono hB hρ) c (let ⟨o,ho,r⟩:=f;⟨o,e _ ho,r⟩)
 | range a f=>exact .range a (e _ f)
 | keys i a b c d f=>exact .keys i (hB _ _ a) b (c.mono hB hρ) d (let ⟨o,ho,r⟩:=f;⟨o,e _ ho,r⟩)
theorem ItAt.rn{G G':Gh}{s s':Shared}{xt:Bool}{Ib:List Addr}{I:Addr}{ds:List D}(x:ItAt w G s.heap I ds)(R:Rn w Gk xt Ib G s G' s')(h1:I∉G.ρ)(h2:I∉Ib):ItAt w G' s'.heap I ds:=by refine zV x.obj λo ho vs hd=>?_;refine x.move R.B (let ⟨m,e,_⟩:=R.ρ;⟨m,e⟩) λo' ho'=>?_;refine ao (R.keep I o' ho' h1 h2) λsl q z=>?_;replace ho':=(ho) ▸ ho';cases ho';rw[z (.inr ⟨vs,hd⟩)]at q;exact q
section
variable{A:Around}{E:Value->Shared->Prop}{G:Gh}{s:Shared}
theorem qj(m:Rm A)(I:Inv w Gk G s.heap){it:Addr}{ds:List D}(x:ItAt w G s.heap it ds)(hB:G.B it=none)(hρ:it∉G.ρ){Q:Option Value->Shared->Prop}
  (h0:ds=[]->∀ h' tk,(∀ b o,b∉[it]->s.heap.get? b=some o->h'.get? b=some o)->Q none { s with heap:=h',toks:=tk })
  (h1:∀ d ds' v h' tk,ds=d::ds'->Rep w G.B G.ρ v d->(∀ b o,b∉[it]->s.heap.get? b=some o->h'.get? b=some o)->ItAt w G h' it ds'->Q (some v) { s with heap:=h',toks:=tk }):wpAny (model pw w) A (pyNext (.ref it)) Q E s:=by
 induction x with
 | @list ax vs dl i a b c f=>
  have ne:ax≠it:=λe=>by refine aI a λo n q _=>?_;rw[e,hB]at q;cases q
  have W:=Walks.list (prog:=pw) (w:=w) m.h it ax ne vs.toArray;have st:(s.heap.IsListIter it ax i/\s.heap.IsList ax vs.toArray):=⟨f,a.list I.stays⟩;rcases Nat.lt_or_ge i vs.length with hi | hi
  ·refine W.item i s Q E (by simpa using hi) st λv h' tk hP hst hk=>?_;have hP:vs[i]?=some v:=by simpa using hP
   have hd:i<dl.length:=by rw[<-b.length];exact hi
   refine ao (b.get (List.getElem?_eq_getElem hd)) λv' e rv=>?_;obtain rfl:v'=v:=by rw[hP]at e;cases e;rfl
   exact h1 _ (dl.drop (i+1)) v' h' tk (List.drop_eq_getElem_cons hd) rv hk (.list (i+1) a b hi hst.1)
  ·obtain rfl:i=vs.length:=Nat.le_antisymm c hi;exact W.done s Q E st λh' tk hk=>h0 (by rw[b.length];simp) h' tk hk
 | @tuple ax vs dl i a b c f=>
  have ne:ax≠it:=λe=>by refine aI a λo n q _=>?_;rw[e,hB]at q;cases q
  have W:=Walks.tuple (prog:=pw) (w:=w) m.h it ax ne vs.toArray;have st:(s.heap.IsTupleIter it ax i/\s.heap.IsTuple ax vs.toArray):=⟨f,a.tup I.stays⟩;rcases Nat.lt_or_ge i vs.length with hi | hi
  ·refine W.item i s Q E (by simpa using hi) st λv h' tk hP hst hk=>?_;have hP:vs[i]?=some v:=by simpa using hP
   have hd:i<dl.length:=by rw[<-b.length];exact hi
   refine ao (b.get (List.getElem?_eq_getElem hd)) λv' e rv=>?_;obtain rfl:v'=v:=by rw[hP]at e;cases e;rfl
   exact h1 _ (dl.drop (i+1)) v' h' tk (List.drop_eq_getElem_cons hd) rv hk (.tuple (i+1) a b hi hst.1)
  ·obtain rfl:i=vs.length:=Nat.le_antisymm c hi;exact W.done s Q E st λh' tk hk=>h0 (by rw[b.length];simp) h' tk hk
 | @range a n i c f=>
  have W:=Walks.range (prog:=pw) (w:=w) m.h it a 1 n;refine PU (Nat.lt_or_ge i n) (λhi=>?_) λhi=>?_
  ·refine W.item i s Q E hi f λv h' tk hP hst hk=>?_;obtain⟨t,y1⟩:=hP;subst y1;have hd:i<((List.range n).map λ(k:Nat)=>D.int (a+k)).length:=by simpa using hi
   refine h1 _ _ _ h' tk (List.drop_eq_getElem_cons hd) ?_ hk (.range hi hst);simp only[List.getElem_map,List.getElem_range,Int.mul_one];exact .int _ _
  ·obtain rfl:i=n:=Nat.le_antisymm c hi;exact W.done s Q E f λh' tk hk=>h0 (by simp) h' tk hk
 | @keys d o kvs l ep i a b c f e=>
  have ne:d≠it:=λe=>by rw[e,hB]at a;exact nomatch a
  have W:=Walks.dictKeys (prog:=pw) (w:=w) (knd:=sk w) m.h it d ne kvs ep;have st:(s.heap.IsKeyIter it d i kvs.length ep/\s.heap.DictAt (sk w) d kvs ep):=⟨e,b _ (I.stays _ _ a)⟩;have len:=c.length;refine PU (Nat.lt_or_ge i kvs.length) (λhi=>?_) λhi=>?_
  ·refine W.item i s Q E hi st λv h' tk hP hst hk=>?_;refine aI hP λk x e1 e2=>?_;have hd:i<(l.map λx=>D.str x.1).length:=by simp only[List.length_map,<-len];exact hi
   obtain⟨t,y2⟩:=Value.isStrOf_shape e2;rw[y2];refine h1 _ _ _ h' tk (List.drop_eq_getElem_cons hd) ?_ hk (.keys (i+1) a b c hi hst.1);have ek:=c.keyAt e1;simp only[List.getElem_map];have:l[i]'(by simpa using hd)=(l[i]'(by simpa using hd)):=rfl;simp only[ek (by simpa using hd)];exact .str k t
  ·obtain rfl:i=kvs.length:=Nat.le_antisymm f hi;exact W.done s Q E st λh' tk hk=>h0 (by rw[len];simp) h' tk hk
theorem qk(m:Rm A)(I:Inv w Gk G s.heap){it:Addr}(x:ItAt w G s.heap it [])(hB:G.B it=none)(hρ:it∉G.ρ){Q:Option Value->Shared->Prop}
  (h0:∀ h' tk,(∀ b o,b∉[it]->s.heap.get? b=some o->h'.get? b=some o)->Q none { s with heap:=h',toks:=tk }):wpAny (model pw w) A (pyNext (.ref it)) Q E s:=
 qj m I x hB hρ (λ_=>h0) λ_ _ _ _ _ e=>nomatch e
theorem mY(m:Rm A)(I:Inv w Gk G s.heap){it:Addr}{d:D}{ds:List D}(x:ItAt w G s.heap it (d::ds))(hB:G.B it=none)(hρ:it∉G.ρ){Q:Option Value->Shared->Prop}
  (h1:∀ v h' tk,Rep w G.B G.ρ v d->(∀ b o,b∉[it]->s.heap.get? b=some o->h'.get? b=some o)->ItAt w G h' it ds->Q (some v) { s with heap:=h',toks:=tk }):wpAny (model pw w) A (pyNext (.ref it)) Q E s:=
 qj m I x hB hρ (λe=>nomatch e) λ_ _ v h' tk e rv hk hit=>by cases e;exact h1 v h' tk rv hk hit
theorem sY{i:Int}(h:-100000<=i)(h':i<=200000):Builtin.Range.rangeFitsLong i=true:=Bool.and_eq_true_iff.mpr ⟨decide_eq_true (Int.le_trans (by decide) h),decide_eq_true (Int.lt_of_le_of_lt h' (by decide))⟩
theorem kR(a b:Int):Builtin.Range.rangeSize a b 1=(((b - a).toNat:Nat):Int):=by
 refine PV (PW (show(1:Int) > 0 by decide)) (PU (Int.lt_or_le a b) (λh=>(PW h).trans ?_) λh=>(PX (Int.not_lt.mpr h)).trans ?_)
 ·rw[Int.ediv_one,Int.sub_add_cancel];exact(Int.toNat_of_nonneg (Int.sub_nonneg_of_le (Int.le_of_lt h))).symm
 ·rw[Int.toNat_eq_zero.mpr (Int.sub_nonpos_of_le h)];rfl
theorem ql{a b:Int}(h1:-100000<=a)(h2:a<=100000)(h3:-100000<=b)(h4:b<=100000):Builtin.Range.small a b 1=true/\Builtin.Range.rangeSize a b 1=(((b - a).toNat:Nat):Int):=by refine⟨?_,kR a b⟩;unfold Builtin.Range.small;have fa:=sY h1 (Int.le_trans h2 (by decide));have fb:=sY h3 (Int.le_trans h4 (by decide));rw[kR,sY (Int.le_trans (by decide) (Int.natCast_nonneg _)) (Int.le_trans (Int.ofNat_le.mpr (Int.toNat_le.mpr (Int.sub_le_sub h4 h1))) (by decide)),fa,fb,PW (by decide),show b+(1 - 1)=b from Int.add_zero b,fb,Bool.or_true];rfl
set_option tactic.hygienic true in
theorem yq{α β:Type}{P:Gh->β->α->Prop}{Q:β->Shared->Prop}{xt:Bool}{Ib:List Addr}{L:Addr}{src:D}{v:Value}{f:List D->M α}(I:Inv w Gk G s.heap)(rv:Rep w G.B G.ρ v src)(h:Ok w Gk xt P Ib L G s (bnd (a_ src) f G.σ) Q E)
  {Gp:Value->Shared->Prop} (k:∀ it Gm items,Rn w Gk true [] G s G Gm->s.heap.get? it=none->G.B it=none->it∉G.ρ->ItAt w G Gm.heap it items->Ok w Gk xt P Ib L G Gm (f items G.σ) Q E->Gp (.ref it) Gm):wpAny (model pw w) A (pyIter v) Gp E s:=by
 have un:=I.fresh_un;have sh:∀ {items:List D} {o:Obj},Ok w Gk xt P Ib L G s (f items G.σ) Q E->Ok w Gk xt P Ib L G { s with heap:=s.heap.push o } (f items G.σ) Q E:=λh=>h.shift (bL I _ s.toks)
 induction src using D.casesOn <;> try exact(h:False).elim
 ·rename_i ds;refine ar rv.inv λa vs z1 hb hr=>?_;rw[z1];refine wpAny_pyIter_tuple (hb.tup I.stays) (k _ _ ds (bL I _ s.toks) (aD _) un.1 un.2 ?_ (sh h));exact .tuple (ds:=ds) 0 hb hr (Nat.zero_le _) ⟨_,Heap.get?_push_size _ rfl,rfl,rfl⟩
 ·rename_i ds;refine ar rv.inv λa vs z2 hb hr=>?_;rw[z2];refine wpAny_pyIter_list (hb.list I.stays) (k _ _ ds (bL I _ s.toks) (aD _) un.1 un.2 ?_ (sh h));exact .list (ds:=ds) 0 hb hr (Nat.zero_le _) ⟨_,Heap.get?_push_size _ rfl,rfl,rfl⟩
 ·rename_i l;refine aH rv.inv λa kvs z3 ns hb hr=>?_;rw[z3];refine iu hb λo es ep ho hx hd r=>?_;refine wpAny_pyIter_dict (knd:=sk w) (by simpa using ns) ⟨o,es,I.stays _ _ ho,hx,hd,r⟩ (k _ _ (l.map λx:Str×D=>D.str x.1) (bL I _ s.toks) (aD _) un.1 un.2 ?_ (sh h));exact .keys 0 ho (λh' e=>⟨o,es,e,hx,hd,r⟩) hr (Nat.zero_le _) ⟨_,Heap.get?_push_size _ rfl,rfl,rfl⟩
 ·rename_i a b;refine su rv.inv λra t u v z4 hb=>?_;rw[z4];have h':Ok w Gk xt P Ib L G s (bnd (if -100000<=a/\a<=100000 ∧ -100000<=b/\b<=100000 then ret (range a b) else stuck) f G.σ) Q E:=h
  split at h'
  ·rename_i hc;refine cM hc λc1 c2 c3 c4=>?_;refine PT (λe1 e2=>?_) (ql c1 c2 c3 c4);refine wpAny_pyIter_range (I.stays _ _ hb) e1 (k _ _ (range a b) (bL I _ s.toks) (aD _) un.1 un.2 ?_ (sh h'));refine .range (i:=0) (n:=(b - a).toNat) (Nat.zero_le _) ?_;rw[e2];have:(s.heap.push { cls:=Value.type "range_iterator",data:=Data.fields #[rawInt a,rawInt (((b - a).toNat:Nat):Int),rawInt 1] }).get? s.heap.objs.size=some _:=Heap.get?_push_size _ rfl
   simpa using this
  ·exact(h':False).elim
end
end
section
variable{w:World}{Gk:Heap}{mg mb:Str->Option Value}
theorem j_{xt:Bool}{Ib own':List Addr}{G Gl Gy:Gh}{s Gm Gs:Shared}(R:Rn w Gk xt Ib G s Gl Gm)(R':Rn w Gk xt own' Gl Gm Gy Gs)(hf:∀ b∈own',b∈Ib\/s.heap.get? b=none):Rn w Gk xt Ib G s Gy Gs:=by
 have T:=(R.weak (own':=Ib++own') λb hb=>List.mem_append_left _ hb).trans (R'.weak (own':=Ib++own') λb hb=>List.mem_append_right _ hb);refine⟨T.same,T.B,T.newB,T.ρ,T.inv,λb o e h1 h2=>T.keep b o e h1 λq=>?_,T.there⟩;refine PU (List.mem_append.mp q) (λq=>?_) λq=>?_
 ·exact h2 q
 ·refine PU (hf b q) (λz=>?_) λz=>?_
  ·exact h2 z
  ·replace z:=(e) ▸ z;exact DK z
section
variable{H8:Nat}{A:Around}{env:Env}{L:Addr}{sc:Sc}{fr:af}{G:Gh}{s:Shared}{E:Value->Shared->Prop}{r:Rc}
theorem mZ(S:bq w Gk H8 r)(I:Inv w Gk G s.heap)(F:Fm w H8 A G s.heap env L sc fr){e:Expr}{Gp:Value->Shared->Prop}(hs:r.ev sc fr e G.σ≠.stuck)
  (k:∀ v Gm Gl d,r.ev sc fr e G.σ=.ok d Gl.σ->Rn w Gk true [] G s Gl Gm->Fm w H8 A Gl Gm.heap env L sc fr->Rep w Gl.B Gl.ρ v d->Gp v Gm)
  (kE:∀ x s' G',r.ev sc fr e G.σ=.exc G'.σ->Rn w Gk false [] G s G' s'->ExcAt w s.heap G' s'.heap L x->E x s'):wpAny (model pw w) A (eval e env) Gp E s:=by
 refine S.ev I F ?_
 induction hm:r.ev sc fr e G.σ with
 | ok d σ'=>intro v s' G' e x p;subst e;exact k v s' G' d hm x (F.on x) p
 | exc σ'=>intro x s' G' e y p;subst e;exact kE x s' G' hm y p
 | stuck=>exact absurd hm hs
theorem wk{src:D}{σ:St}(h:a_ src σ≠.stuck):∃ l,a_ src σ=.ok l σ:=by
 induction src using D.casesOn <;> try exact absurd rfl h
 ·exact⟨_,rfl⟩
 ·exact⟨_,rfl⟩
 ·exact⟨_,rfl⟩
 ·unfold a_ at h ⊢;dsimp only at h ⊢
  split at h
  ·rename_i hc;exact⟨_,by rw[PW hc];rfl⟩
  ·exact absurd rfl h
theorem oq(I:Inv w Gk G s.heap){src:D}{v:Value}(rv:Rep w G.B G.ρ v src)(hs:a_ src G.σ≠.stuck){Gp:Value->Shared->Prop}
  (k:∀ it Gm items,a_ src G.σ=.ok items G.σ->Rn w Gk true [] G s G Gm->s.heap.get? it=none->G.B it=none->it∉G.ρ->ItAt w G Gm.heap it items->Gp (.ref it) Gm):wpAny (model pw w) A (pyIter v) Gp E s:=by
 refine PS (wk hs) λl hl=>?_;have h:Ok w Gk true (λ_ (v d:List D)=>v=d) [] 0 G s (bnd (a_ src) ret G.σ) (λv _=>v=l) E:=by unfold bnd;rw[hl];intro v s' G' _ _ p;exact p
 refine yq I rv h λit Gm items R h1 h2 h3 h4 h5=>k it Gm items ?_ R h1 h2 h3 h4;have:=Ok.now R.inv h5 (v:=items) rfl;exact this ▸ hl
theorem m_(m:Rm A)(I:Inv w Gk G s.heap){it:Addr}{ds:List D}(x:ItAt w G s.heap it ds)(hB:G.B it=none){Q:Value->Shared->Prop}(h:Q (.ref it) s):wpAny (model pw w) A (pyIter (.ref it)) Q E s:=by
 induction x with
 | @list ax vs dl i a b c f=>
  have ne:ax≠it:=λe=>by refine aI a λo n q _=>?_;rw[e,hB]at q;cases q
  exact(Walks.list (prog:=pw) (w:=w) m.h it ax ne vs.toArray).self i s Q E ⟨f,a.list I.stays⟩ h
 | @tuple ax vs dl i a b c f=>
  have ne:ax≠it:=λe=>by refine aI a λo n q _=>?_;rw[e,hB]at q;cases q
  exact(Walks.tuple (prog:=pw) (w:=w) m.h it ax ne vs.toArray).self i s Q E ⟨f,a.tup I.stays⟩ h
 | @range a n i c f=>exact(Walks.range (prog:=pw) (w:=w) m.h it a 1 n).self i s Q E f h
 | @keys d o kvs l ep i a b c f e=>
  have ne:d≠it:=λe=>by rw[e,hB]at a;exact nomatch a
  exact(Walks.dictKeys (prog:=pw) (w:=w) (knd:=sk w) m.h it d ne kvs ep).self i s Q E ⟨e,b _ (I.stays _ _ a)⟩ h
theorem g8(f:(Str×NameKind)->List (Str×Addr)->Sem (ForInStep (List (Str×Addr))))
  (hf:∀ x cs,f x cs=if (x.2==NameKind.free)=true then (cellOf env x.1 >>= λc=>pure (.yield ((x.1,c)::cs))) else pure (.yield cs)) :
  ∀ (names:Sc) (acc:List (Str×Addr)),(∀ x∈names,x.2=.free->∃ c,env.cells.lookup x.1=some c)->(∀ x c,(x,c)∈acc->env.cells.lookup x=some c) →
   ∃ cl,forIn names acc f=pure cl/\(∀ x c,(x,c)∈cl->env.cells.lookup x=some c)/\(∀ x∈names,x.2=.free->∃ c,(x.1,c)∈cl)/\∀ p∈acc,p∈cl
 | [],acc,_,ha=>⟨acc,rfl,ha,dj,λ_ h=>h⟩
 | (n,k)::r,acc,hn,ha=>by
  rw[List.forIn_cons,hf]
  by_cases hk:k=.free
  ·subst hk;obtain⟨c,hc⟩:=hn (n,.free) (.head _) rfl;have e:cellOf env n=pure c:=by unfold cellOf;rw[hc]
   refine dg (g8 f hf r ((n,c)::acc) (λx hx=>hn x (.tail _ hx)) (λx d h=>by
    rcases P7 h with q | q
    ·cases q;exact hc
    ·exact ha x d q)) λcl h1 h2 h3 h4=>?_
   refine⟨cl, ?_,h2,λx hx hk=>?_,λp hp=>h4 p (.tail _ hp)⟩
   ·dsimp only;rw[PW (by rfl),e,pure_bind,pure_bind];exact h1
   ·rcases P7 hx with rfl | hx
    ·exact⟨c,h4 _ (.head _)⟩
    ·exact h3 x hx hk
  ·refine dg (g8 f hf r acc (λx hx=>hn x (.tail _ hx)) ha) λcl h1 h2 h3 h4=>?_;refine⟨cl, ?_,h2,λx hx hk'=>?_,h4⟩
   ·rw[PX (by simpa using hk),pure_bind];exact h1
   ·rcases P7 hx with rfl | hx
    ·exact absurd hk' hk
    ·exact h3 x hx hk'
theorem f7{scope:Scope}(h:bK sc scope=true):scope.kind=.function/\(∀ x∈scope.names,x.2≠.cell)/\(∀ x∈scope.names,x.2=.local->scope.names.lookup x.1=some .local)/\∀ x∈scope.names,x.2=.free->sc.lookup x.1=some .cell\/sc.lookup x.1=some .free:=by
 unfold bK at h;refine PT (λh1 h2=>?_) (PZ h);refine⟨of_decide_eq_true h1,λx hx=>?_,λx hx hk=>?_,λx hx hk=>?_⟩
 ·have:=List.all_eq_true.mp h2 x hx;simp only[Bool.and_eq_true,bne_iff_ne,ne_eq]at this;exact this.1.1
 ·have:=List.all_eq_true.mp h2 x hx;simp only[Bool.and_eq_true,Bool.or_eq_true,bne_iff_ne,ne_eq,beq_iff_eq]at this;exact this.1.2.resolve_left λn=>n hk
 ·have:=List.all_eq_true.mp h2 x hx;simp only[Bool.and_eq_true,Bool.or_eq_true,bne_iff_ne,ne_eq,beq_iff_eq]at this;exact this.2.elim (λz=>z.elim (λn=>absurd hk n) .inl) .inr
theorem qm(F:Fm w H8 A G s.heap env L sc fr){scope:Scope}(hsc:bK sc scope=true) :
  ∃ cl,closureFor scope env=pure cl/\(∀ x c,(x,c)∈cl->env.cells.lookup x=some c)/\∀ x,scope.names.lookup x=some .free->∃ c,cl.lookup x=some c:=by
 refine cM (f7 hsc) λp1 p2 p3 p4=>?_;refine dg (g8 (env:=env) (λx cs=>if (x.2==NameKind.free)=true then (cellOf env x.1 >>= λc=>pure (.yield ((x.1,c)::cs))) else pure (.yield cs)) (λ_ _=>rfl) scope.names []
  (λx hx hk=>let ⟨c,v,e,_⟩:=F.cel0 x.1 (p4 x hx hk);⟨c,e⟩) (λ_ _ h=>(nomatch h))) λcl h1 h2 h3 _=>?_
 refine⟨cl, ?_,h2,λx hx=>?_⟩
 ·unfold closureFor;dsimp only;simp only[show(λ(x:Str×NameKind) (__s:List (Str×Addr))=>match x with | (name,kind)=>if (kind==NameKind.free)=true then (do let __do_lift <-cellOf env name;pure (ForInStep.yield ((name,__do_lift)::__s))) else pure (ForInStep.yield __s))=(λx cs=>if (x.2==NameKind.free)=true then (cellOf env x.1 >>= λc=>pure (.yield ((x.1,c)::cs))) else pure (.yield cs)) from rfl,h1];rfl
 ·refine PS (h3 _ (aX hx) rfl) λc hc=>?_
  induction q:cl.lookup x with
  | some c'=>exact⟨c',rfl⟩
  | none=>
   exfalso
   have:∀ l:List (Str×Addr),(x,c)∈l->l.lookup x≠none:=λl=>by
    induction l with
    | nil=>intro h;exact nomatch h
    | cons p l ih=>
     intro h;obtain⟨y,d⟩:=p;dsimp only[List.lookup_cons]
     induction e:x==y with
     | true=>simp
     | false=>
      refine PU (P7 h) (λh=>?_) λh=>?_
      ·cases h;simp at e
      ·exact ih h
   exact this cl hc q
theorem eY{x:Str}:∀ {names:Sc},(names.map λ(n,k)=>if (k==NameKind.free&&env.scope.kind==.function&&env.kindOf n==some .cell)=true then (n,NameKind.cell) else (n,k)).lookup x=names.lookup x ∨
  (names.lookup x=some .free/\(names.map λ(n,k)=>if (k==NameKind.free&&env.scope.kind==.function&&env.kindOf n==some .cell)=true then (n,NameKind.cell) else (n,k)).lookup x=some .cell)
 | []=>.inl rfl
 | (n,k)::r=>by
  rw[List.map_cons];dsimp only;rcases P8 ((k==NameKind.free&&env.scope.kind==.function&&env.kindOf n==some .cell)=true) with hc | hc
  ·rw[PW hc];rw[List.lookup_cons,List.lookup_cons]
   induction e:x==n with
   | true=>simp[Bool.and_eq_true,beq_iff_eq]at hc;obtain⟨⟨rfl,_⟩,_⟩:=hc;exact .inr ⟨rfl,rfl⟩
   | false=>exact eY
  ·rw[PX hc];rw[List.lookup_cons,List.lookup_cons]
   induction e:x==n with
   | true=>exact .inl rfl
   | false=>exact eY
theorem bZ{cs:Sc}{x:Str}{d:D}:∀ {fr:af},aa (aN cs fr) x=some d->cs.lookup x=some .free/\aa fr x=some d
 | [],h=>by exact dt h
 | (y,e)::r,h=>by
  unfold aN at h;rw[List.filter_cons]at h
  split at h
  ·rename_i hc;unfold aa at h ⊢
   by_cases q:y=x
   ·subst q;rw[PW rfl]at h ⊢;exact⟨eq_of_beq hc,h⟩
   ·rw[PX q]at h ⊢;exact bZ h
  ·rename_i hc;refine PT (λh1 h2=>?_) (bZ h);refine⟨h1, ?_⟩;dsimp only[aa];refine PV (PX (λq=>by subst q;exact hc (by simpa using h1))) ?_;exact h2
theorem Fm.comp{h:Heap}(F:Fm w H8 A G h env L sc fr){scope:Scope}(hsc:bK sc scope=true){cl:List (Str×Addr)}{C:Addr}{m:Str->Option Value}(h1:∀ x c,(x,c)∈cl->env.cells.lookup x=some c)(h2:∀ x,scope.names.lookup x=some .free->∃ c,cl.lookup x=some c)
  (hC:h.Ns C m) (hB:G.B C=none) (hρ:C∉G.ρ) (hcl:C∉cl.map (·.2)):Fm w H8 A G h (compEnvC scope cl C env) L scope.names (aN scope.names fr):=by
 refine cM (f7 hsc) λp1 p2 p3 p4=>?_;have lk:∀ {x c},cl.lookup x=some c->env.cells.lookup x=some c:=λe=>h1 _ _ (aX e);have hf:∀ {x},(scope.names.lookup x=some .cell\/scope.names.lookup x=some .free)->scope.names.lookup x=some .free:=λh=>h.elim (λq=>absurd rfl (p2 _ (aX q))) id;have inc:∀ c∈cl.map (·.2),c∈env.cells.map (·.2):=λc hc=>by refine ao (List.mem_map.mp hc) λz1 hm z2=>?_;obtain⟨x,c'⟩:=z1;obtain rfl:=z2;exact du (h1 _ _ hm)
 refine⟨F.handled,F.depth,F.units,F.stk,F.frame,p1,F.globals,F.builtins,λx=>?_,⟨m,hC,λx d k1 k2=>?_⟩,λx d k1 k2=>?_,λx k1=>?_,λb hb=>?_,hcl,λc hc=>F.ex c (inc c hc),λx y c e1 e2=>F.inj x y c (lk e1) (lk e2)⟩
 ·exact eY
 ·refine PT (λz _=>?_) (bZ k2);replace z:=(k1) ▸ z;exact nomatch z
 ·refine PT (λz1 z2=>?_) (bZ k2);obtain⟨c,hc⟩:=h2 x z1;refine ar (F.cel x d (p4 _ (aX z1) rfl) z2) λc' v e q rv=>?_;have:=(lk hc).symm.trans e;cases this;exact⟨c,v,hc,q,rv⟩
 ·have z1:=hf k1;obtain⟨c,hc⟩:=h2 x z1;refine aI (F.cel0 x (p4 _ (aX z1) rfl)) λc' v e q=>?_;have:=(lk hc).symm.trans e;cases this;exact⟨c,v,hc,q⟩
 ·rcases P7 hb with rfl | hb
  ·exact⟨hB,hρ⟩
  ·exact F.apart b (.tail _ (inc b hb))
end
end
section
variable{w:World}{Gk:Heap}{mg mb:Str->Option Value}
theorem gR{elt iter:Expr}{gens:List Comprehension}{scope:Scope}{pos px:Pos}{i:Nat}{x:Str}{it acc:Value}{env:Env}(h:gens[i]?=some ⟨.Name x px,iter,[],0⟩)(h':gens[i+1]?=none) :
  compTurn (.ListComp elt gens scope pos) i it acc env=(standAt iter.pos >>= λ_=>pyNext it >>= λr=>match r with
   | none=>pure (.done .next)
   | some v=>assign (.Name x px) env v >>= λ_=>
    (eval elt env >>= λx=>call (.builtin "list.append") [acc,x] >>= λ_=>pure ()) >>= λ_=>
     again (.compLoop (.ListComp elt gens scope pos) i it acc env)):=by
 unfold compTurn;dsimp only;rw[h,h'];rfl
theorem kS{elt iter iter':Expr}{gens:List Comprehension}{scope:Scope}{pos px:Pos}{i:Nat}{x:Str}{it acc:Value}{env:Env}{t':Expr}{fs:List Expr}(h:gens[i]?=some ⟨.Name x px,iter,[],0⟩)(h':gens[i+1]?=some ⟨t',iter',fs,0⟩) :
  compTurn (.ListComp elt gens scope pos) i it acc env=(standAt iter.pos >>= λ_=>pyNext it >>= λr=>match r with
   | none=>pure (.done .next)
   | some v=>assign (.Name x px) env v >>= λ_=>
    (eval iter' env >>= λx=>standAt iter'.pos >>= λ_=>foldedSetIterable iter' env x >>= λx=>(holding [x] (pyIter x) >>= λj=>runOwn (.compStart (.ListComp elt gens scope pos) (i+1) j acc env) env >>= λ_=>
     again (.compLoop (.ListComp elt gens scope pos) i it acc env)))):=by
 unfold compTurn;dsimp only;rw[h,h'];rfl
noncomputable def kT(x:Value)(h:Heap):Prop:=∃ e oe vs T,x=.ref e/\h.get? e=some oe/\oe.data=.fields vs/\vs[1]?=some (.ref T)
theorem eZ{xt:Bool}{Ib:List Addr}{G Gl:Gh}{s Gm:Shared}(R:Rn w Gk xt Ib G s Gl Gm){d:Addr}{h':Heap}(t:Nat)(hk:∀ b o,b∉[d]->Gm.heap.get? b=some o->h'.get? b=some o)(hd:s.heap.get? d=none)(hB:Gl.B d=none)(hρ:d∉Gl.ρ):Rn w Gk xt Ib G s Gl { Gm with heap:=h',toks:=t }:=by
 refine gE R.same λhh tk e=>?_;have hk':∀ {b o},b≠d->Gm.heap.get? b=some o->h'.get? b=some o:=λn e=>hk _ _ (zX n) e;have st:∀ b o,Gl.B b=some o->h'.get? b=some o:=λb o q=>hk' (λz=>by rw[z]at q;replace q:=hB ▸ q;injection q) (R.inv.stays b o q);refine⟨⟨h',t,by rw[e]⟩,R.B,R.newB,R.ρ,⟨st,R.inv.base,R.inv.len,λi a c h1 h2=>?_,R.inv.apart,R.inv.nodup,R.inv.glo,R.inv.sys⟩,λb o q n1 n2=>?_,λb o q=>?_⟩
 ·have x:=R.inv.cell i a c h1 h2;refine ao x.obj λoa ha _=>?_;exact x.move (λ_ _ e=>e) ⟨[],by simp⟩ ((hk' (λz=>hρ (z ▸ List.mem_of_getElem? h1)) ha).trans ha.symm) st
 ·refine ao (R.keep b o q n1 n2) λsl z1 z2=>?_;exact⟨sl,hk' (λz=>by rw[z]at q;replace q:=hd ▸ q;injection q) z1,z2⟩
 ·refine ao (R.there b o q) λo' z1 z2=>?_;exact⟨o',hk' (λz=>by rw[z]at q;replace q:=hd ▸ q;injection q) z1,z2⟩
section
variable{H8:Nat}{A:Around}{env:Env}{L:Addr}{sc:Sc}{fr:af}{G G':Gh}{s s':Shared}{E:Value->Shared->Prop}{r:Rc}{Ib:List Addr}
theorem Fm.kept{h h':Heap}(F:Fm w H8 A G h env L sc fr){it:Addr}{oi:Obj}{ws:Array Value}(hi:h.get? it=some oi)(hd:oi.data=.fields ws)(hk:∀ b o,b∉[it]->h.get? b=some o->h'.get? b=some o)(hn:it∉env.cells.map (·.2)):Fm w H8 A G h' env L sc fr:=by
 have k:∀ b o,h.get? b=some o->aV o->h'.get? b=some o:=λb o e n=>hk b o (λq=>by have q:b=it:=List.mem_singleton.mp q;subst q;replace e:=(hi) ▸ e;cases e;exact n ws hd) e
 refine ar F.stk λGF outer f1 f2 f3=>?_;refine F.sl (λb o e n=>⟨o.slots,k b o e n⟩) (λl hl=>?_) λc hc=>?_
 ·replace hl:=(f1) ▸ hl;cases hl;exact λen he=>let ⟨a,L,o,b,c,d,e⟩:=f3 en he;⟨a,L,o,b,k _ _ c d,d,e⟩
 ·obtain⟨o,e⟩:=F.ex c hc;exact⟨o,hk c o (λq=>hn (by have q:c=it:=List.mem_singleton.mp q;simp only[<-q];exact hc)) e⟩
theorem Fm.less{h:Heap}{fr':af}(F:Fm w H8 A G h env L sc fr')(k:∀ y e,aa fr y=some e->aa fr' y=some e):Fm w H8 A G h env L sc fr:=
 ⟨F.handled,F.depth,F.units,F.stk,F.frame,F.kind,F.globals,F.builtins,F.names,let ⟨m,a,b⟩:=F.loc;⟨m,a,λx d h1 h2=>b x d h1 (k _ _ h2)⟩,λx d h1 h2=>F.cel x d h1 (k _ _ h2),F.cel0,F.apart,F.lc,F.ex,F.inj⟩
theorem AG{x:Value}{fr':af}(F:Fm w H8 A G s.heap env L sc fr)(R:Rn w Gk false Ib G s G' s')(F':Fm w H8 A G' s'.heap env L sc fr')(X:ExcAt w s.heap G' s'.heap L x)
  (k:∀ s'',Rn w Gk false Ib G s G' s''->Fm w H8 A G' s''.heap env L sc fr'->ExcAt w s.heap G' s''.heap L x->kT x s''.heap->E x s''):notedBy (model pw w) A env E x s':=by
 refine ar F'.stk λGF outer f1 f2 f3=>?_;unfold notedBy;rw[eS (env:=GF) (env':=env) (F.frame.trans f2.symm)];refine iO f1 f2 R f3 X λs'' ks R' S' X' ⟨e,oe,vs,T,oT,ts,n1,n2,n3,n4,_⟩=>k s'' R' (F'.sl ks (λl hl=>?_) λc hc=>?_) X' ⟨e,oe,vs,T,n1,n2,n3,n4⟩
 ·replace hl:=(f1) ▸ hl;cases hl;exact S'
 ·obtain⟨o,e⟩:=F.ex c hc;refine ao (R'.there c o e) λo' q _=>?_;exact⟨o',q⟩
theorem yr{x:Value}{fr':af}(F:Fm w H8 A G s.heap env L sc fr)(R:Rn w Gk false Ib G s G' s')(F':Fm w H8 A G' s'.heap env L sc fr')(X:ExcAt w s.heap G' s'.heap L x){Q:Unit->Shared->Prop}
  (k:∀ s'',Rn w Gk false Ib G s G' s''->Fm w H8 A G' s''.heap env L sc fr'->ExcAt w s.heap G' s''.heap L x->Q () s''):wpAny (model pw w) A (setFlight x env.frame) Q E s':=by
 refine ar F'.stk λGF outer f1 f2 f3=>?_;refine eR (.inr F.frame) R f3 X λs'' ks R' S' X' _=>k s'' R' (F'.sl ks (λl hl=>?_) λc hc=>?_) X'
 ·replace hl:=(f1) ▸ hl;cases hl;exact S'
 ·obtain⟨o,e⟩:=F.ex c hc;refine ao (R'.there c o e) λo' q _=>?_;exact⟨o',q⟩
theorem AH{x:Value}{fr':af}(F:Fm w H8 A G s.heap env L sc fr)(R:Rn w Gk false Ib G s G' s')(F':Fm w H8 A G' s'.heap env L sc fr')(X:ExcAt w s.heap G' s'.heap L x)(N:kT x s'.heap)
  (k:∀ s'',Rn w Gk false Ib G s G' s''->Fm w H8 A G' s''.heap env L sc fr'->ExcAt w s.heap G' s''.heap L x->E x s''):cameBackBy (model pw w) A env E x s':=by
 refine bp N λe oe vs T z2=>?_;refine cM z2 λz1 n1 n2 n3=>?_;obtain rfl:=z1;dsimp only[cameBackBy];refine wpAny_bind (wpAny_field n1 n2 n3 ?_);exact yr F R F' X λs'' R' F'' X'=>k s'' R' F'' X'
end
end
section
variable{w:World}{Gk:Heap}{mg mb:Str->Option Value}
theorem mm{elt iter:Expr}{gens:List Comprehension}{scope:Scope}{pos px:Pos}{i:Nat}{x:Str}{it acc:Value}{env:Env}(h:gens[i]?=some ⟨.Name x px,iter,[],0⟩) :
  ∃ k:Value->Sem Fin,compTurn (.ListComp elt gens scope pos) i it acc env=(standAt iter.pos >>= λ_=>pyNext it >>= λr=>match r with
   | none=>pure (.done .next)
   | some v=>k v):=by
 unfold compTurn;dsimp only;exact h ▸ (⟨_,rfl⟩)
structure CompSt(w:World)(H8:Nat)(A:Around)(G:Gh)(h:Heap)(env:Env)(L:Addr)(cs:Sc)(fr:af)(l:Addr)(acc:List D):Prop where
 F:Fm w H8 A G h env L cs fr
 lst:∃ vs n,h.get? l=some { cls:=.type "list",data:=.seq (List.toArray vs) n }/\RepL w G.B G.ρ vs acc
 hB:G.B l=none
 hρ:l∉G.ρ
 ne:l∉ownOf env
theorem f8{e:Expr}{f:Str}(h:dc e=some f):∃ p,e=.Name f p:=by refine jh (· = some f) h (λx p z h=>⟨p, ?_⟩) dt;refine PV z ?_;rw[PY h]
theorem dQ{cs:Sc}{g:Comprehension}{x:Str}(h:bY cs g=some x):∃ px i,g=⟨.Name x px,i,[],0⟩/\cs.lookup x=some .local/\kq i=false:=by
 obtain⟨t,i,ifs,n⟩:=g;unfold bY at h;dsimp only at h
 induction q:dc t <;> rw[q]at h
 case none=>exact dt h
 obtain⟨⟨c1,c2,c3,c4⟩,e⟩:=kD h;obtain⟨px,rfl⟩:=f8 q;rw[List.isEmpty_iff.mp c1,c2,<-e];exact⟨px,i,rfl,c3,c4⟩
theorem sZ(i:Expr)(env:Env)(x:Value):foldedSetIterable i env x=if kq i=true then foldedSetIterable i env x else pure x:=by induction i using Expr.casesOn <;> rfl
theorem e7{i:Expr}{env:Env}{x:Value}(h:kq i=false):foldedSetIterable i env x=pure x:=(sZ i env x).trans (PX λq=>fH (h.symm.trans q))
section
variable{H8:Nat}{A:Around}{env:Env}{L:Addr}{cs:Sc}{fr:af}{G G':Gh}{s s':Shared}{E:Value->Shared->Prop}{r:Rc}{Ib:List Addr}{l:Addr}{acc:List D}
theorem CompSt.obj{h:Heap}(C:CompSt w H8 A G h env L cs fr l acc):∃ o,h.get? l=some o/\aV o:=let ⟨vs,n,e,_⟩:=C.lst;⟨_,e,λvs q=>by injection q⟩
theorem CT(R:Rn w Gk true Ib G s G' s')(hρ:l∉G.ρ)(n1:l∉Ib)(h:∃ vs n,s.heap.get? l=some { cls:=.type "list",data:=.seq (List.toArray vs) n }/\RepL w G.B G.ρ vs acc):∃ vs n,s'.heap.get? l=some { cls:=.type "list",data:=.seq (List.toArray vs) n }/\RepL w G'.B G'.ρ vs acc:=by refine aI h λvs n e a=>?_;refine ao (R.keep l _ e hρ n1) λsl q z=>?_;rw[z (.inl rfl)]at q;exact⟨vs,n,q,R.repL a⟩
theorem CompSt.rn(C:CompSt w H8 A G s.heap env L cs fr l acc)(R:Rn w Gk true Ib G s G' s'){fr':af}(F':Fm w H8 A G' s'.heap env L cs fr')(n1:l∉Ib):CompSt w H8 A G' s'.heap env L cs fr' l acc:=by refine ao C.obj λo e _=>?_;obtain⟨u1,u2⟩:=bJ R e C.hB C.hρ;exact⟨F',CT R C.hρ n1 C.lst,u1,u2,C.ne⟩
theorem CompSt.kept{h h':Heap}(C:CompSt w H8 A G h env L cs fr l acc){it:Addr}{oi:Obj}{ws:Array Value}(hi:h.get? it=some oi)(hd:oi.data=.fields ws)(hk:∀ b o,b∉[it]->h.get? b=some o->h'.get? b=some o)(hn:it∉env.cells.map (·.2)):CompSt w H8 A G h' env L cs fr l acc:=by refine aI C.lst λvs n e a=>?_;refine⟨C.F.kept hi hd hk hn,⟨vs,n,hk _ _ (λq=>?_) e,a⟩,C.hB,C.hρ,C.ne⟩;have q:l=it:=List.mem_singleton.mp q;subst q;replace e:=PV (Eq.symm hi) e;cases e;injection hd
theorem mo{x:Value}{vs:List Value}{n:Nat}(hl:s.heap.get? l=some { cls:=.type "list",data:=.seq vs.toArray n })(hsz:vs.length<=1000000){Q:Value->Shared->Prop}
  (h:∀ h' n',h'.get? l=some { cls:=.type "list",data:=.seq (vs++[x]).toArray n' }->Heap.SameBut l s.heap h'->Q .none { s with heap:=h' }):wpAny (model pw w) A (call (.builtin "list.append") [.ref l,x]) Q E s:=by
 refine wpAny_list_append_plain (items:=vs.toArray) ⟨n,hl⟩ (λh' hp hs=>?_) (by simp only[List.size_toArray,bA];omega);obtain⟨n',hp⟩:=hp;exact h h' n' (by refine PV hp ?_;simp) hs
theorem iP{elt:Expr}{gens:List Comprehension}{scope:Scope}{pos:Pos}{i:Nat}{it:Addr}{acc:Value}{g:Comprehension}{R:Result->Shared->Prop}(hg:gens[i]?=some g)(ha:g.is_async=0)
  (hi:∀ {Q:Value->Shared->Prop} {E:Value->Shared->Prop},Q (.ref it) s->wpAny (model pw w) A (pyIter (.ref it)) Q E s)
  (h:codeAny (model pw w) A (.compLoop (.ListComp elt gens scope pos) i (.ref it) acc env) R s):codeAny (model pw w) A (.compStart (.ListComp elt gens scope pos) i (.ref it) acc env) R s:=by
 refine codeAny_of_tree ?_;show wpAny _ _ ((compStart (.ListComp elt gens scope pos) i (.ref it) acc env).onRaise (λx=>do noteFrame x env;standAt theWindowsPlace)) _ _ s;refine wpAny_notedAt ?_;have e:compStart (.ListComp elt gens scope pos) i (.ref it) acc env=(do
   if (<-ask).params.followText "comprehension-iter-twice" then return <-again (.compLoop (.ListComp elt gens scope pos) i (.ref it) acc env)
   rule "comprehension.iter-twice"
   standAt g.iter.pos
   again (.compLoop (.ListComp elt gens scope pos) i (<-pyIter (.ref it)) acc env)):=by
  unfold compStart;have hc:(clausesOf (.ListComp elt gens scope pos))[i]?=some g:=hg;rw[hc];simp only[Option.elim,ha];rfl
 rw[e];refine wpAny_bind (wpAny_askSetting (wpAny_ite ?_))
 split
 ·exact wpAny_bind (wpAny_pure (wpAny_pure ⟨rfl,h⟩))
 ·exact wpAny_bind (wpAny_rule (wpAny_bind (wpAny_standAt (wpAny_bind (hi (wpAny_pure ⟨rfl,h⟩))))))
theorem ba{α β:Type}{m:M α}{f:α->M β}{σ:St}(h:bnd m f σ≠.stuck):m σ≠.stuck:=λe=>by unfold bnd at h;rw[e]at h;exact h rfl
theorem be{α β:Type}{m:M α}{f:α->M β}{σ σ':St}{a:α}(e:m σ=.ok a σ'):bnd m f σ=f a σ':=by unfold bnd;rw[e]
theorem dn{α β:Type}{m:M α}{f:α->M β}{σ σ':St}(e:m σ=.exc σ'):bnd m f σ=.exc σ':=by unfold bnd;rw[e]
theorem aS{α β γ:Type}(m:M α)(g:α->M β)(f:β->M γ):bnd (bnd m g) f=bnd m (λa=>bnd (g a) f):=by funext σ;unfold bnd;induction m σ <;> rfl
theorem gx{α β:Type}{o:Option α}{f:α->M β}{σ:St}(h:o=none):bnd (ac o) f σ=.stuck:=by rw[h];rfl
theorem f9{α β:Type}{o:Option α}{f:α->M β}{σ:St}{a:α}(h:o=some a):bnd (ac o) f σ=f a σ:=by rw[h];rfl
noncomputable def AI(r:Rc)(elt:Expr)(cs:Sc)(gs:List Comprehension)(fr:af)(x:Str):D->List D->M (List D):=λd acc=>gY r elt cs gs (aj fr x d) acc
theorem AJ{elt:Expr}{x:Str}{d dv:D}{ds:List D}{σ σ':St}(e:r.ev cs (aj fr x d) elt σ=.ok dv σ')(h:aJ (AI r elt cs [] fr x) (d::ds) acc σ≠.stuck) :
  am acc.length=true/\aJ (AI r elt cs [] fr x) (d::ds) acc σ=aJ (AI r elt cs [] fr x) ds (acc++[dv]) σ':=by
 have q:=(congrFun (aS (r.ev cs (aj fr x d) elt) (λv=>if am acc.length=true then ret (acc++[v]) else stuck) λacc'=>aJ (AI r elt cs [] fr x) ds acc') σ).trans (be e);refine PU (P8 (am acc.length=true)) (λz=>⟨z,q.trans ?_⟩) λz=>absurd (q.trans ?_) h
 ·rw[PW z];rfl
 ·rw[PX z];rfl
theorem yt{elt:Expr}{x:Str}{d:D}{ds:List D}{σ σ':St}(e:r.ev cs (aj fr x d) elt σ=.exc σ'):aJ (AI r elt cs [] fr x) (d::ds) acc σ=.exc σ':=
 (congrFun (aS (r.ev cs (aj fr x d) elt) (λv=>if am acc.length=true then ret (acc++[v]) else stuck) λacc'=>aJ (AI r elt cs [] fr x) ds acc') σ).trans (dn e)
theorem AK{elt:Expr}{gs:List Comprehension}{y:Str}{py:Pos}{je:Expr}{σ:St}(hy:bY cs ⟨.Name y py,je,[],0⟩=some y)(h:gY r elt cs (⟨.Name y py,je,[],0⟩::gs) fr acc σ≠.stuck) :
  aa fr y=none/\gY r elt cs (⟨.Name y py,je,[],0⟩::gs) fr acc σ=bnd (r.ev cs fr je) (λsrc=>bnd (a_ src) λitems=>aJ (AI r elt cs gs fr y) items acc) σ:=by
 have q:gY r elt cs (⟨.Name y py,je,[],0⟩::gs) fr acc σ=_:=f9 hy
 induction z:aa fr y with
 | none=>exact⟨rfl,q.trans (by rw[z];rfl)⟩
 | some a=>exact absurd (q.trans (by rw[z];rfl)) h
theorem yu{elt:Expr}{g:Comprehension}{gs:List Comprehension}{σ:St}(h:gY r elt cs (g::gs) fr acc σ≠.stuck):∃ y,bY cs g=some y:=by
 induction q:bY cs g with
 | some y=>exact⟨y,rfl⟩
 | none=>exact absurd (gx q) h
noncomputable def CK(w:World)(Gk:Heap)(H8:Nat)(A:Around)(env:Env)(L:Addr)(cs:Sc)(l:Addr)(Go:Gh)(Gn:Shared)(fr:af)(RR:Result->Shared->Prop)(t:R (List D)):Prop:=match t with
 | .ok acc' σ'=>∀ s' G',G'.σ=σ'->Rn w Gk true [l,env.locals] Go Gn G' s'->CompSt w H8 A G' s'.heap env L cs fr l acc'->RR (.ok .next) s'
 | .exc σ'=>∀ s' G' e fr',G'.σ=σ'->Rn w Gk false [l,env.locals] Go Gn G' s'->Fm w H8 A G' s'.heap env L cs fr'->ExcAt w Gn.heap G' s'.heap L e->kT e s'.heap->RR (.error e) s'
 | .stuck=>False
section
variable{Go:Gh}{Gn:Shared}{RR:Result->Shared->Prop}{t t':R (List D)}
theorem CK.ne(K:CK w Gk H8 A env L cs l Go Gn fr RR t):t≠.stuck:=λh=>by simp only[h]at K;exact K
theorem CK.mk(hn:t≠.stuck)(k1:∀ acc' s' G',t=.ok acc' G'.σ->Rn w Gk true [l,env.locals] Go Gn G' s'->CompSt w H8 A G' s'.heap env L cs fr l acc'->RR (.ok .next) s')
  (k2:∀ s' G' e fr',t=.exc G'.σ->Rn w Gk false [l,env.locals] Go Gn G' s'->Fm w H8 A G' s'.heap env L cs fr'->ExcAt w Gn.heap G' s'.heap L e->kT e s'.heap->RR (.error e) s'):CK w Gk H8 A env L cs l Go Gn fr RR t:=by
 induction t with
 | ok a σ'=>exact λs' G' e=>k1 a s' G' (e ▸ rfl)
 | exc σ'=>exact λs' G' x fr' e=>k2 s' G' x fr' (e ▸ rfl)
 | stuck=>exact hn rfl
theorem CK.to(K:CK w Gk H8 A env L cs l Go Gn fr RR t)(e:t=t'):CK w Gk H8 A env L cs l Go Gn fr RR t':=e ▸ K
theorem CK.exc{Gy:Gh}{Gs:Shared}{GP fr':af}{x:Value}{σ':St}(K:CK w Gk H8 A env L cs l Go Gn fr RR t)(h:t=.exc σ')(hσ:G'.σ=σ')(Gu:Rn w Gk true [l,env.locals] Go Gn Gy Gs)(GK:Fm w H8 A Gy Gs.heap env L cs GP)
  (GB:Rn w Gk false Ib Gy Gs G' s') (hs:∀ b∈Ib,b∈[l,env.locals]) (F':Fm w H8 A G' s'.heap env L cs fr') (X:ExcAt w Gs.heap G' s'.heap L x):notedBy (model pw w) A env (λe s'=>RR (.error e) s') x s':=
 AG GK GB F' X λs'' R'' F'' X'' N=>(K.to h) s'' G' x _ hσ (Gu.slack.trans (R''.weak hs)) F'' (X''.back λb q=>Gu.fresh b q) N
end
theorem RepL.snoc{B:Addr->Option Obj}{ρ:List Addr}{vs:List Value}{ds:List D}{v:Value}{d:D}(h:RepL w B ρ vs ds)(r:Rep w B ρ v d):RepL w B ρ (vs++[v]) (ds++[d]):=
 RepL.ind (.cons r .nil) (λa _ b=>.cons a b) h
noncomputable def FH(M:Model)(A:Around)(RR:Result->Shared->Prop)(xu:Fin)(s':Shared):Prop:=match xu with
 | .done f=>RR (.ok f) s'
 | .again c'=>c'.quiet=true/\codeAny M A c' RR s'
section
variable{Go:Gh}{Gn:Shared}{RR:Result->Shared->Prop}{it:Addr}{cm:Sem Fin}{p:Pos}
theorem qo {kk:Value->Sem Fin} (hm:cm=(standAt p >>= λ_=>pyNext (.ref it) >>= λr=>match r with
   | none=>pure (.done .next)
   | some v=>kk v)) (R:Rn w Gk true [l,env.locals] Go Gn G s) (C:CompSt w H8 A G s.heap env L cs fr l acc) (hit:ItAt w G s.heap it []) (h0:Gn.heap.get? it=none) (hB:G.B it=none) (hρ:it∉G.ρ) (hio:it∉ownOf env)
  (K:CK w Gk H8 A env L cs l Go Gn fr RR (.ok acc G.σ)):wpAny (model pw w) A cm (FH (model pw w) A RR) E s:=by
 rw[hm];refine zV hit.obj λoi ho ws hod=>?_;refine wpAny_bind (wpAny_standAt (wpAny_bind (qk C.F.rm R.inv hit hB hρ λh' tk hk=>?_)));exact wpAny_pure (K _ G rfl (eZ R tk hk h0 hB hρ) (C.kept ho hod hk λq=>hio (.tail _ q)))
theorem na {kk:Sem Fin} {x:Str} {px:Pos} {d:D} {ds:List D} {Q:Fin->Shared->Prop} (hm:cm=(standAt p >>= λ_=>pyNext (.ref it) >>= λr=>match r with
   | none=>pure (.done .next)
   | some v=>assign (.Name x px) env v >>= λ_=>kk)) (hx:cs.lookup x=some .local) (R:Rn w Gk true [l,env.locals] Go Gn G s) (C:CompSt w H8 A G s.heap env L cs fr l acc) (hit:ItAt w G s.heap it (d::ds)) (h0:Gn.heap.get? it=none) (hB:G.B it=none) (hρ:it∉G.ρ) (hio:it∉ownOf env)
  (k:∀ Gs,Rn w Gk true [l,env.locals] Go Gn G Gs->CompSt w H8 A G Gs.heap env L cs (aj fr x d) l acc->ItAt w G Gs.heap it ds->it≠l->wpAny (model pw w) A kk Q E Gs):wpAny (model pw w) A cm Q E s:=by
 rw[hm];refine zV hit.obj λoi ho ws hod=>?_;refine wpAny_bind (wpAny_standAt (wpAny_bind (mY C.F.rm R.inv hit hB hρ λv h' tk rv hk hit'=>?_)));have GC:=eZ R tk hk h0 hB hρ;have Hx:CompSt w H8 A G h' env L cs fr l acc:=C.kept ho hod hk λq=>hio (.tail _ q);refine wpAny_bind (wpAny_assign_Name (jF (xt:=true) (s:={ s with heap:=h',toks:=tk }) Hx.F GC.inv rv hx λGs Gu GK=>?_));refine k Gs (GC.trans (Gu.weak (own':=[l,env.locals]) λb hb=>.tail _ hb)) (Hx.rn Gu GK (zX λq=>C.ne (q ▸ .head _))) (hit'.rn Gu hρ (zX λq=>hio (q ▸ .head _))) λq=>?_;refine aI C.lst λus n e _=>?_;replace e:=PY (ho.symm.trans ((congrArg s.heap.get? q).trans e));replace hod:=e ▸ hod;injection hod
end
theorem kU{x:Str}{d:D}(h:aa fr x=none):∀ y e,aa fr y=some e->aa (aj fr x d) y=some e:=λy e hy=>by rw[bm,PX (λq=>by rw[<-q,h]at hy;exact dt hy)];exact hy
theorem wl(S:bq w Gk H8 r){elt:Expr}{gens:List Comprehension}{scope:Scope}{pos:Pos}:∀ (gs:List Comprehension) {g:Comprehension} {i:Nat} {x:Str},gens.drop i=g::gs->bY cs g=some x →
  ∀ (items:List D) ⦃fr:af⦄ ⦃acc:List D⦄ ⦃Go G:Gh⦄ ⦃Gn s:Shared⦄ ⦃it:Addr⦄ ⦃RR:Result->Shared->Prop⦄,Rn w Gk true [l,env.locals] Go Gn G s->CompSt w H8 A G s.heap env L cs fr l acc->aa fr x=none →
  ItAt w G s.heap it items->Gn.heap.get? it=none->G.B it=none->it∉G.ρ->it∉ownOf env->CK w Gk H8 A env L cs l Go Gn fr RR (aJ (AI r elt cs gs fr x) items acc G.σ) →
  codeAny (model pw w) A (.compLoop (.ListComp elt gens scope pos) i (.ref it) (.ref l) env) RR s:=by
 intro gs
 induction gs with
 | nil=>
  intro g i x hd hg items;refine ar (dQ hg) λpx ie zg hx hset=>?_;obtain rfl:=zg;have hgi:gens[i]?=some ⟨.Name x px,ie,[],0⟩:=by rw[<-List.head?_drop,hd];rfl
  have hgn:gens[i+1]?=none:=by rw[<-List.head?_drop,<-List.drop_drop,hd];rfl
  induction items with
  | nil=>intro fr acc Go G Gn s it RR R C hfx hit h0 hB hρ hio K;exact codeAny_of_tree (wpAny_noted (qo (gR hgi hgn) R C hit h0 hB hρ hio K))
  | cons d ds ih=>intro fr acc Go G Gn s it RR R C hfx hit h0 hB hρ hio K;refine codeAny_of_tree (wpAny_noted (na (gR hgi hgn) hx R C hit h0 hB hρ hio λGs Gu G3 Hg hil=>?_));refine wpAny_bind (wpAny_bind (mZ S Gu.inv G3.F (ba (ba K.ne)) (λvv Gz GG dv GY GB GV Hq=>?_) λx' s' G' GY GB X=>K.exc (yt GY) rfl Gu G3.F GB dj (G3.F.rn GB λ_ _ q=>xw q) X));refine PT (λhlen eq=>?_) (AJ GY K.ne);have Hh:=G3.rn GB GV xw;refine aI Hh.lst λus n hl hr=>?_;refine wpAny_bind (mo hl (PO (PR hr.length) (aW hlen)) λh4 n4 hl4 hs4=>wpAny_pure (wpAny_pure ⟨rfl, ?_⟩));have GS:Rn w Gk true [l] GG Gz GG { Gz with heap:=h4 }:=sI GB.inv Gz.toks hs4 (.head _) Hh.hB Hh.hρ λo ho'=>⟨_,hl4,λ_ vs q=>by injection q⟩;have G9:Fm w H8 A GG h4 env L cs (aj fr x d):=GV.rn GS λb hb q=>C.ne (List.mem_singleton.mp q ▸ hb);refine ao Hg.obj λHF Hr _=>?_;refine PT (λu1 u2=>?_) (bJ GB Hr hB hρ);exact ih ((Gu.trans (GB.weak dj)).trans (GS.weak λb hb=>List.mem_singleton.mp hb ▸ .head _)) ⟨G9.less (kU hfx),⟨us++[vv],n4,hl4,hr.snoc Hq⟩,Hh.hB,Hh.hρ,C.ne⟩ hfx ((Hg.rn GB hρ xw).rn GS u2 (zX hil)) h0 u1 u2 hio (K.to eq)
 | cons g' gs ihg=>
  intro g i x hd hg items;refine ar (dQ hg) λpx ie zg hx hset=>?_;obtain rfl:=zg;have hgi:gens[i]?=some ⟨.Name x px,ie,[],0⟩:=by rw[<-List.head?_drop,hd];rfl
  have hdn:gens.drop (i+1)=g'::gs:=by refine PV (Eq.symm List.drop_drop) ?_;exact congrArg _ hd
  have hgn:gens[i+1]?=some g':=by rw[<-List.head?_drop,hdn];rfl
  induction items with
  | nil=>intro fr acc Go G Gn s it RR R C hfx hit h0 hB hρ hio K;refine PS (mm (elt:=elt) (scope:=scope) (pos:=pos) (it:=.ref it) (acc:=.ref l) (env:=env) hgi) λkk hkk=>?_;exact codeAny_of_tree (wpAny_noted (qo hkk R C hit h0 hB hρ hio K))
  | cons d ds ih=>
   intro fr acc Go G Gn s it RR R C hfx hit h0 hB hρ hio K;refine PS (yu (ba K.ne)) λy hy=>?_;refine ar (dQ hy) λpy je zg' hyl hyset=>?_;obtain rfl:=zg';refine PT (λhyn hin=>?_) (AK hy (ba K.ne));refine codeAny_of_tree (wpAny_noted (na (kS hgi hgn) hx R C hit h0 hB hρ hio λGs Gu G3 Hg hil=>?_));have hne:=ba K.ne;replace hne:=λq=>hne (hin.trans q);refine wpAny_bind (mZ S Gu.inv G3.F (ba hne) (λvv Gz GG dv GY GB GV Hq=>?_) λx' s' G' GY GB X=>K.exc (dn (hin.trans (dn GY))) rfl Gu G3.F GB dj (G3.F.rn GB λ_ _ q=>xw q) X);replace hin:=hin.trans (be GY);replace hne:=λq=>hne ((be GY).trans q);refine wpAny_bind (wpAny_standAt (wpAny_bind ?_));rw[e7 hyset];refine wpAny_pure (wpAny_bind (wpAny_holding (oq GB.inv Hq (ba hne) λit2 GZ items2 Hy GS k1 k2 k3 hit2=>?_)));replace hin:=hin.trans (be Hy);replace hne:=λq=>hne ((be Hy).trans q);have G9:Fm w H8 A GG GZ.heap env L cs (aj fr x d):=GV.on GS;have G6:ItAt w GG Gz.heap it ds:=Hg.rn GB hρ xw;refine ao Hg.obj λHF Hr _=>?_;refine PT (λu1 u2=>?_) (bJ GB Hr hB hρ);have own2:it2∉ownOf env:=λq=>PS ((P7 q).elim (λq=>q ▸ GV.there) λq=>GV.ex _ q) λo e=>dt (k1.symm.trans e);refine wpAny_bind (wpAny_runOwn (iP (g:=⟨.Name y py,je,[],0⟩) hgn rfl (λq=>m_ G9.rm GS.inv hit2 k2 q) ?_));refine ihg (g:=⟨.Name y py,je,[],0⟩) hdn hy items2 (GS.weak dj) ((G3.rn GB GV xw).rn GS G9 xw) hyn hit2 k1 k2 k3 own2 (CK.mk hne (λHz GL GN G_ GH GW=>?_) λGL GN e Hc G_ GH Hd Hi Hj=>?_)
   ·refine wpAny_pure ⟨rfl, ?_⟩;have HG:ItAt w GN GL.heap it ds:=G6.rn GH u2 λq=>vP q hil λq=>hio (q ▸ .head _);refine ao G6.obj λH1 HH _=>?_;refine PT (λv1 v2=>?_) (bJ GH HH u1 u2);exact ih ((Gu.trans (GB.weak dj)).trans GH) ⟨GW.F.less (kU hfx),GW.lst,GW.hB,GW.hρ,GW.ne⟩ hfx HG h0 v1 v2 hio (K.to (be (hin.trans G_)))
   ·exact AH GV GH Hd Hi Hj λHI He Hs HJ=>K.exc (dn (hin.trans G_)) rfl (Gu.trans (GB.weak dj)) GV He (λ_ q=>q) Hs HJ
end
end
section
variable{w:World}{Gk:Heap}{mg mb:Str->Option Value}
section
variable{H8:Nat}{A:Around}{env:Env}{L:Addr}{sc:Sc}{fr:af}{G G':Gh}{s s':Shared}{E:Value->Shared->Prop}{r:Rc}{Ib:List Addr}{l:Addr}{acc:List D}
noncomputable def CompEnd(M:Model)(A:Around)(E:Value->Shared->Prop)(use:Option (Value->Sem Unit))(Q:Value->Shared->Prop)(acc:Value)(cenv:Env)(r:Result)(s':Shared):Prop:=
 match r,use with
 | .ok _,none=>∃ m,s'.heap.Ns cenv.locals m/\∀ h',Heap.SameBut cenv.locals s'.heap h'->Q acc { s' with heap:=h' }
 | .ok _,some u=>wpAny M A (u acc) (λ_ s''=>∃ m,s''.heap.Ns cenv.locals m/\∀ h',Heap.SameBut cenv.locals s''.heap h'->Q .none { s'' with heap:=h' }) E s'
 | .error x,_=>∃ m,s'.heap.Ns cenv.locals m/\∀ h',Heap.SameBut cenv.locals s'.heap h'->wpAny M A (passOn "comprehension.variables-let-go" x cenv:Sem Value) Q E { s' with heap:=h' }
theorem yv{M:Model}{e:Expr}{scope:Scope}{pos:Pos}{first:Sem Value}{g:Comprehension}{gs:List Comprehension}{cl:List (Str×Addr)}{use:Option (Value->Sem Unit)}{Q:Value->Shared->Prop}
  (hcl:clausesOf e=g::gs) (hset:kq g.iter=false) (hclos:closureFor scope env=pure cl) (hkind:scope.kind=.function) (hnames:∀ x∈scope.names,x.2=.local->scope.names.lookup x.1=some .local)
  (h:wpAny M A first (λx Gm=>wpAny M A (pyIter x) (λit Gs=>wpAny M A (newList []) (λacc Gz=>wpAny M A (newFunctionEnv scope env.globals cl [] env.qual none .none (some env)) (λcenv GZ=>
   codeAny M A (.compStart e 0 it acc { cenv with scope:=relabel scope env }) (CompEnd M A E use Q acc { cenv with scope:=relabel scope env }) GZ) E Gz) E Gs) E Gm) E s) :
  wpAny M A (comprehension e scope env pos (newList []) false first use) Q E s:=by
 have up:∀ {α:Type} {m:Sem α} {P P':α->Shared->Prop} {s:Shared},wpAny M A m P E s->(∀ a s',P a s'->P' a s')->wpAny M A m P' E s:=λh k=>wpAny_mono h k λ_ _ x=>x;unfold comprehension;rw[hclos,hcl];refine wpAny_bind (up h λx Gm Gq=>wpAny_bind (wpAny_standAt (wpAny_bind (wpAny_of_eq (e7 hset) (wpAny_bind (wpAny_holding (up Gq λit Gs Gw=>wpAny_standIf (wpAny_bind (up Gw λacc Gz GD=>wpAny_bind (wpAny_pure (wpAny_bind (up GD λcenv GZ G0=>?_))))))))))));dsimp only;have loc:∀ x∈scope.names,x.2=.local->Env.kindOf { cenv with scope:=relabel scope env } x.1=some .local:=λx hx hk=>lookup_relabel_local (hnames x hx hk);have sub:∀ {p:Str×NameKind->Bool} {x},x∈(scope.names.filter p).reverse->x∈scope.names:=λhx=>(List.mem_filter.mp (List.mem_reverse.mp hx)).1;refine wpAny_holding (wpAny_bind (wpAny_attempt (wpAny_holding (wpAny_run (codeAny_mono G0 λr s' hr=>?_)))))
 induction r with
 | ok f=>
  cases use with
  | none=>refine ao hr λm hn hr=>?_;exact wpAny_bind (wpAny_holding (wpAny_comp_letGo (cenv:={ cenv with scope:=relabel scope env }) hkind _ s' m (λx hx=>loc x (sub hx)) hn λh' m' _ hs'=>wpAny_pure (hr h' hs')))
  | some u=>refine wpAny_bind (wpAny_rule (wpAny_bind (wpAny_holding (up hr λ_ s'' hr'=>?_))));refine ao hr' λm hn hr'=>?_;exact wpAny_bind (wpAny_comp_letGo (cenv:={ cenv with scope:=relabel scope env }) hkind _ s'' m (λx hx=>loc x ((List.mem_append.mp hx).elim (λq=>sub (List.mem_of_mem_drop q)) λq=>sub (List.mem_of_mem_take q))) hn λh' m' _ hs'=>wpAny_pure (hr' h' hs'))
 | error x=>
  have hr':∃ m,s'.heap.Ns cenv.locals m/\∀ h',Heap.SameBut cenv.locals s'.heap h'->wpAny M A (passOn "comprehension.variables-let-go" x { cenv with scope:=relabel scope env }:Sem Value) Q E { s' with heap:=h' }:=by cases use <;> exact hr
  refine ao hr' λm hn hr=>?_;exact wpAny_bind (wpAny_holding (wpAny_comp_letGo (cenv:={ cenv with scope:=relabel scope env }) hkind _ s' m (λx hx=>loc x (sub hx)) hn λh' m' _ hs'=>hr h' hs'))
theorem ExcAt.kept{h h' h'':Heap}{x:Value}(X:ExcAt w h G' h' L x)(k:∀ b o vs,h'.get? b=some o->o.data=.fields vs->h''.get? b=some o):ExcAt w h G' h'' L x:=by
 refine eP X λe oe vs z1=>?_;refine gE z1 λC a0 z2=>?_;refine bo z2 λr1 r2 r3 r4 z3=>?_;refine bo z3 λr5 r6 r7 r8 r9=>?_;refine⟨e,oe,vs,C,a0,r1,r2,r3,k _ _ _ r4 r7,r5,r6,r7,r8, ?_⟩;rcases r9 with q | ⟨T,oT,ts,q1,q2,q3,q4,q5,q6,q7⟩
 ·exact .inl q
 ·exact .inr ⟨T,oT,ts,q1,q2,q3,q4,k _ _ _ q5 q6,q6,q7⟩
noncomputable def CU(M:Model)(A:Around)(E:Value->Shared->Prop)(use:Option (Value->Sem Unit))(Q:Value->Shared->Prop)(v:Value)(C:Addr)(s':Shared):Prop:=match use with
 | none=>∀ h',Heap.SameBut C s'.heap h'->Q v { s' with heap:=h' }
 | some u=>wpAny M A (u v) (λ_ s''=>∃ m,s''.heap.Ns C m/\∀ h',Heap.SameBut C s''.heap h'->Q .none { s'' with heap:=h' }) E s'
theorem CompEnd.ok{M:Model}{use:Option (Value->Sem Unit)}{Q:Value->Shared->Prop}{v:Value}{cenv:Env}{f:Flow}(hn:∃ m,s'.heap.Ns cenv.locals m)(h:CU M A E use Q v cenv.locals s'):CompEnd M A E use Q v cenv (.ok f) s':=by
 induction use with
 | none=>exact PS hn λm hm=>⟨m,hm,h⟩
 | some u=>exact h
theorem CompEnd.exc{M:Model}{use:Option (Value->Sem Unit)}{Q:Value->Shared->Prop}{v x:Value}{cenv:Env}(h:∃ m,s'.heap.Ns cenv.locals m/\∀ h',Heap.SameBut cenv.locals s'.heap h'->wpAny M A (passOn "comprehension.variables-let-go" x cenv:Sem Value) Q E { s' with heap:=h' }):CompEnd M A E use Q v cenv (.error x) s':=by induction use <;> exact h
theorem wn{Gl GN:Gh}{Gm GL:Shared}{C l:Addr}{e:Value}{cs:Sc}{Hc:af}{scope:Scope}{cl:List (Str×Addr)}{Q:Value->Shared->Prop}(GC:Rn w Gk true [] G s Gl Gm)(Gv:Fm w H8 A Gl Gm.heap env L sc fr)(hl:Gm.heap.get? l=none)(hC:Gm.heap.get? C=none)
  (GH:Rn w Gk false [l,C] Gl Gm GN GL) (Hd:Fm w H8 A GN GL.heap (compEnvC scope cl C env) L cs Hc) (Hi:ExcAt w Gm.heap GN GL.heap L e) (Hj:kT e GL.heap) (kE:∀ s',Rn w Gk false [] G s GN s'->ExcAt w s.heap GN s'.heap L e->E e s') :
  ∃ m,GL.heap.Ns C m/\∀ h',Heap.SameBut C GL.heap h'->wpAny (model pw w) A (passOn "comprehension.variables-let-go" e (compEnvC scope cl C env):Sem Value) Q E { GL with heap:=h' }:=by
 refine ao Hd.loc λm5 n5 _=>?_;refine PT (λap1 ap2=>?_) (Hd.apart _ (.head _));refine⟨m5,n5,λh' hs'=>?_⟩;have ne:∀ b o vs,GL.heap.get? b=some o->o.data=.fields vs->h'.get? b=some o:=λb o vs e ed=>(hs'.2 b (λq=>ao (p_ n5) λo' e' no'=>no' vs (PY (e.symm.trans (q ▸ e')) ▸ ed))).trans e;have He:Rn w Gk false [l,C] Gl Gm GN { GL with heap:=h' }:=eZ GH GL.toks (λb o hb e=>(hs'.2 b (λq=>hb (q ▸ .head _))).trans e) hC ap1 ap2;refine bp Hj λea oe ws T z8=>?_;refine cM z8 λz7 n1 n2 n3=>?_;obtain rfl:=z7;have Hs:Fm w H8 A GN h' env L sc fr:=Gv.rn He λb hb q=>PS ((P7 hb).elim (λq=>q ▸ Gv.there) λq=>Gv.ex _ q) λo eo=>vP q (λq=>dt (hl.symm.trans (q ▸ eo))) λq=>dt (hC.symm.trans (q ▸ eo));unfold PySem.passOn;refine wpAny_bind (wpAny_field (ne _ _ _ n1 n2) n2 n3 ?_);dsimp only[PX (show ¬ (Value.ref T==Value.none)=true from Bool.false_ne_true)];have fr:∀ {a},Gm.heap.get? a=none->s.heap.get? a=none:=λq=>GC.fresh _ q;exact wpAny_bind (yr Gv He Hs (Hi.kept ne) λs'' R'' _ X''=>wpAny_throw (kE s'' (j_ GC.slack R'' λb hb=>.inr (vP hb (λq=>q ▸ fr hl) λq=>q ▸ fr hC)) (X''.back λb q=>GC.fresh b q)))
theorem wo{elt:Expr}{g:Comprehension}{gs:List Comprehension}{cs:Sc}{σ:St}(h:eh r sc fr elt (g::gs) cs σ≠.stuck):∃ y,bY cs g=some y:=by
 induction q:bY cs g with
 | some y=>exact⟨y,rfl⟩
 | none=>exact absurd (gx q) h
theorem ot(S:bq w Gk H8 r)(I:Inv w Gk G s.heap)(F:Fm w H8 A G s.heap env L sc fr){elt:Expr}{gens:List Comprehension}{scope:Scope}{pos pos':Pos}(hsc:bK sc scope=true)(hne:eh r sc fr elt gens scope.names G.σ≠.stuck)
  {use:Option (Value->Sem Unit)} {Q:Value->Shared->Prop}
  (kN:∀ C l s' G' acc,eh r sc fr elt gens scope.names G.σ=.ok acc G'.σ->Rn w Gk true [] G s G' s'->s.heap.get? l=none->s.heap.get? C=none->C≠l->l≠sysModules->G'.B l=none->l∉G'.ρ->G'.B C=none->C∉G'.ρ →
   (∃ vs n,s'.heap.get? l=some { cls:=.type "list",data:=.seq (List.toArray vs) n }/\RepL w G'.B G'.ρ vs acc)->(∃ m,s'.heap.Ns C m)->CU (model pw w) A E use Q (.ref l) C s')
  (kE:∀ s' G' x,eh r sc fr elt gens scope.names G.σ=.exc G'.σ->Rn w Gk false [] G s G' s'->ExcAt w s.heap G' s'.heap L x->E x s') :
  wpAny (model pw w) A (comprehension (.ListComp elt gens scope pos) scope env pos' (newList []) (firstAsync gens) (firstIter gens env) use) Q E s:=by
 induction gens using List.casesOn with
 | nil=>exact absurd rfl hne
 | cons g gs=>
 refine PS (wo hne) λx hg=>?_;refine ar (dQ hg) λpx ie z4 hx hset=>?_;obtain rfl:=z4;refine cM (f7 hsc) λp1 p2 p3 p4=>?_;refine bj (qm F hsc) λcl hclos c1 c2=>?_;have hc:eh r sc fr elt (⟨.Name x px,ie,[],0⟩::gs) scope.names G.σ=bnd (r.ev sc fr ie) (λsrc=>bnd (a_ src) λitems=>aJ (AI r elt scope.names gs (aN scope.names fr) x) items []) G.σ:=f9 hg;have hn:=λq=>hne (hc.trans q);refine yv (g:=⟨.Name x px,ie,[],0⟩) (gs:=gs) rfl hset hclos p1 p3 (mZ S I F (ba hn) (λv Gm Gl d GM GC Gv rv=>?_) λx s' G' GM GC X=>kE s' G' x (hc.trans (dn GM)) GC X);replace hc:=hc.trans (be GM);replace hn:=λq=>hne (hc.trans q);refine oq GC.inv rv (ba hn) λit Gs items Hp Gu i1 i2 i3 hit=>?_;replace hc:=hc.trans (be Hp);replace hn:=λq=>hne (hc.trans q);have GJ:=Gu.inv;refine wpAny_newObj_type ?_;generalize hl0:Gs.heap.objs.size=l0;have ul:Gl.B l0=none/\l0∉Gl.ρ:=hl0 ▸ GJ.fresh_un;have ls:l0≠sysModules:=hl0 ▸ GJ.fresh_sys;have GB:Rn w Gk true [] Gl Gs Gl { Gs with heap:=Gs.heap.push { cls:=.type "list",dict:=none,data:=.seq ([]:List Value).toArray } }:=bL GJ _ Gs.toks;have lnew:Gs.heap.get? l0=none:=hl0 ▸ aD _;have lat3:({ Gs with heap:=Gs.heap.push { cls:=.type "list",dict:=none,data:=.seq ([]:List Value).toArray } }:Shared).heap.get? l0=some { cls:=.type "list",dict:=none,data:=.seq ([]:List Value).toArray }:=hl0 ▸ Heap.get?_push_size _ rfl;clear hl0;generalize ({ Gs with heap:=Gs.heap.push { cls:=.type "list",dict:=none,data:=.seq ([]:List Value).toArray } }:Shared)=Gz at GB lat3;have uC:=GB.inv.fresh_un;have Cnew:=aD Gz.heap;refine wpAny_newFunctionEnv p2 dj (λh4 hns hsb=>?_) p1;generalize Gz.heap.objs.size=C0 at *
 have GS:Rn w Gk true [] Gl Gz Gl { Gz with heap:=h4,toks:=Gz.toks+([]:List (Str×Value)).length }:=
  kQ (bL (xt:=true) (Ib:=[]) GB.inv _ Gz.toks) _ hsb Cnew uC.1 uC.2
 replace hns:({ Gz with heap:=h4,toks:=Gz.toks+([]:List (Str×Value)).length }:Shared).heap.Ns C0 _:=hns;generalize ({ Gz with heap:=h4,toks:=Gz.toks+([]:List (Str×Value)).length }:Shared)=GZ at GS hns;clear hsb;have hlC:l0≠C0:=λq=>dt (Cnew.symm.trans (q ▸ lat3));have lat4:GZ.heap.get? l0=some { cls:=.type "list",dict:=none,data:=.seq ([]:List Value).toArray }:=by refine ao (GS.keep l0 _ lat3 ul.2 xw) λsl q z=>?_;simp only[z (.inl rfl)]at q;exact q
 have HA:=(Gu.trans GB).trans GS;have G9:Fm w H8 A Gl GZ.heap env L sc fr:=Gv.on HA;have clx:∀ c∈cl.map (·.2),∃ o,Gm.heap.get? c=some o:=λc hc=>by refine ao (List.mem_map.mp hc) λz5 hm z6=>?_;exact z6 ▸ Gv.ex _ (du (c1 _ _ hm))
 have i1':Gm.heap.get? l0=none:=Gu.fresh _ lnew;have i1C:Gm.heap.get? C0=none:=Gu.fresh _ (GB.fresh _ Cnew);have ncl:∀ c,Gm.heap.get? c=none->c∉cl.map (·.2):=λc hc q=>PS (clx c q) λo e=>dt (hc.symm.trans e);have hitC:it≠C0:=λq=>by refine ao hit.obj λo e _=>?_;refine ao (GB.there it o e) λo' e' _=>?_;exact dt (Cnew.symm.trans (q ▸ e'))
 have FC:Fm w H8 A Gl GZ.heap (compEnvC scope cl C0 env) L scope.names (aN scope.names fr):=G9.comp hsc c1 c2 hns uC.1 uC.2 (ncl _ i1C);have HB:ItAt w Gl GZ.heap it items:=(hit.rn GB i3 xw).rn GS i3 xw;have hfx:aa (aN scope.names fr) x=none:=by
  induction q:aa (aN scope.names fr) x with
  | none=>rfl
  | some d'=>exact nomatch (PY (hx.symm.trans (bZ q).1))
 have Ib:∀ {b:Addr},b≠C0->Gm.heap.get? b=none->b∉ownOf (compEnvC scope cl C0 env):=λn h q=>(P7 q).elim n (ncl _ h);refine iP (g:=⟨.Name x px,ie,[],0⟩) rfl rfl (λq=>m_ G9.rm GS.inv HB i2 q) (wl (cs:=scope.names) S gs (g:=⟨.Name x px,ie,[],0⟩) (i:=0) rfl hg items
  (HA.weak dj) ⟨FC,⟨[],0,lat4,.nil⟩,ul.1,ul.2,Ib hlC i1'⟩ hfx HB i1 i2 i3 (Ib hitC i1) (CK.mk hn (λHz GL GN G_ GH GW=>?_) λGL GN e Hc G_ GH Hd Hi Hj=>?_))
 ·have ns:∃ m,GL.heap.Ns C0 m:=ao GW.F.loc λm5 n5 _=>⟨m5,n5⟩;have apC:=GW.F.apart _ (.head _);exact CompEnd.ok ns (kN C0 l0 GL GN Hz (hc.trans G_) (j_ GC GH λb hb=>.inr (vP hb (λq=>q ▸ GC.fresh _ i1') λq=>q ▸ GC.fresh _ i1C)) (GC.fresh _ i1') (GC.fresh _ i1C) (λq=>hlC q.symm) ls GW.hB GW.hρ apC.1 apC.2 GW.lst ns)
 ·exact CompEnd.exc (wn GC Gv i1' i1C GH Hd Hi Hj λs' R' X'=>kE s' GN _ (hc.trans G_) R' X')
end
end
section
variable{w:World}{Gk:Heap}{mg mb:Str->Option Value}
section
variable{H8:Nat}{A:Around}{env:Env}{L:Addr}{sc:Sc}{fr:af}{G G':Gh}{s s':Shared}{E:Value->Shared->Prop}{r:Rc}{Ib:List Addr}{xt:Bool}
theorem Ok.eqn{α β γ:Type}{P:Gh->β->α->Prop}{Q:β->Shared->Prop}{m:M γ}{f:γ->M α}(h:Ok w Gk xt P Ib L G s (bnd m f G.σ) Q E):Ok w Gk xt (λG' (v:γ×St) d=>v=(d,G'.σ)) Ib L G s (bnd m ret G.σ) (λv _=>m G.σ=.ok v.1 v.2) E:=by
 unfold bnd at h ⊢
 induction hm:m G.σ with
 | ok d σ'=>intro v s' G' e _ p;subst p;subst e;rfl
 | exc σ'=>replace h:=(hm) ▸ h;exact h
 | stuck=>rw[hm]at h;exact h
theorem Ok.at'{α β γ:Type}{P:Gh->β->α->Prop}{Q:β->Shared->Prop}{m:M γ}{f:γ->M α}{d:γ}{Gl:Gh}(h:Ok w Gk xt P Ib L G s (bnd m f G.σ) Q E)(e:m G.σ=.ok d Gl.σ):Ok w Gk xt P Ib L G s (f d Gl.σ) Q E:=by rw[be e]at h;exact h
theorem Ok.exc'{α β γ:Type}{P:Gh->β->α->Prop}{Q:β->Shared->Prop}{m:M γ}{f:γ->M α}{σ':St}(h:Ok w Gk xt P Ib L G s (bnd m f G.σ) Q E)(e:m G.σ=.exc σ'):Ok w Gk xt P Ib L G s (.exc σ') Q E:=by rw[dn e]at h;exact h
theorem Ok.ne{α β γ:Type}{P:Gh->β->α->Prop}{Q:β->Shared->Prop}{m:M γ}{f:γ->M α}(h:Ok w Gk xt P Ib L G s (bnd m f G.σ) Q E):m G.σ≠.stuck:=λe=>by unfold bnd at h;replace h:=(e) ▸ h;exact h
theorem yw(S:bq w Gk H8 r){ks:List (Option Expr)}{vs:List Expr}{pos:Pos}{Q:Value->Shared->Prop}(I:Inv w Gk G s.heap)(F:Fm w H8 A G s.heap env L sc fr)
  (h:Ok w Gk true (rep w) [] L G s (bnd (pL r sc fr ks vs) (λq0=>match q0 with | .inl l=>ret (.sdict l) | .inr l=>ret (.idict l)) G.σ) Q E):wpAny (model pw w) A (eval (.Dict ks vs pos) env) Q E s:=by
 refine qi S I F h.eqn λd Gm Gl x R h1 h2 h3 h4 h5 h6=>?_;have e:=Ok.now (v:=(x,Gl.σ)) R.inv h6 rfl;have h:=h.at' e
 induction x with
 | inl l=>
  refine ao h5 λkvs hd hr=>?_;refine uL hd λo es ep ho hx=>?_;obtain⟨R',eB⟩:=gv R h1 h2 h3 ho;exact h _ Gm (Gl.add d o) rfl R' (.sdict h4 ⟨o,es,ep,eB,hx⟩ (hr.mono (λb o' q=>by show(if b=d then some o else Gl.B b)=some o';rw[PX (λz=>by rw[z,h2]at q;cases q)];exact q) ⟨[],by simp[Gh.add]⟩))
 | inr l=>
  refine ao h5 λkvs hd hr=>?_;refine uL hd λo es ep ho hx=>?_;obtain⟨R',eB⟩:=gv R h1 h2 h3 ho;have hr':RepI w (Gl.add d o).B (Gl.add d o).ρ kvs l:=by
   have sub:∀ b o',Gl.B b=some o'->(Gl.add d o).B b=some o':=λb o' q=>by show(if b=d then some o else Gl.B b)=some o';rw[PX (λz=>by rw[z,h2]at q;cases q)];exact q
   have go:∀ {kvs:List (Int×Value)} {l:List (Int×D)},RepI w Gl.B Gl.ρ kvs l->RepI w (Gl.add d o).B (Gl.add d o).ρ kvs l:=λ{kvs}=>by
    induction kvs with
    | nil=>intro l h;cases h;exact .nil
    | cons p ps ih=>intro l h;cases h with | cons a b=>exact .cons (a.mono sub ⟨[],by simp[Gh.add]⟩) (ih b)
   exact go hr
  exact h _ Gm (Gl.add d o) rfl R' (.idict h4 ⟨o,es,ep,eB,hx⟩ hr')
theorem ou(S:bq w Gk H8 r){elt:Expr}{gens:List Comprehension}{scope:Scope}{pos:Pos}{Q:Value->Shared->Prop}(I:Inv w Gk G s.heap)(F:Fm w H8 A G s.heap env L sc fr)(hsc:bK sc scope=true)
  (h:Ok w Gk true (rep w) [] L G s (bnd (eh r sc fr elt gens scope.names) (λl=>ret (.list l)) G.σ) Q E):wpAny (model pw w) A (eval (.ListComp elt gens scope pos) env) Q E s:=by
 simp only[eval_ListComp];refine ot S I F hsc h.ne (use:=none) (λC l s' G' acc e R h1 h2 h3 h4 h5 h6 h7 h8 ⟨vs,n,hl,hr⟩ hns=>?_) λs' G' x e R X=>?_
 ·intro h' hs';have R':Rn w Gk true [] G s G' { s' with heap:=h' }:=eZ R s'.toks (λb o hb e=>(hs'.2 b (λq=>hb (q ▸ .head _))).trans e) h2 h7 h8;have hl':h'.get? l=some { cls:=.type "list",data:=.seq (List.toArray vs) n }:=(hs'.2 l λq=>h3 q.symm).trans hl;refine PT (λR'' eB=>?_) (gv R' h1 h5 h6 hl');exact h.at' e _ _ (G'.add l _) rfl R'' (.list ⟨_,n,eB,rfl,rfl⟩ (hr.mono (λb o' q=>by show(if b=l then some _ else G'.B b)=some o';refine PV (PX (λz=>by rw[z]at q;replace q:=h5 ▸ q;injection q)) ?_;exact q) ⟨[],by simp[Gh.add]⟩))
 ·exact h.exc' e x s' G' rfl R X
theorem AL{Q:Value->Shared->Prop}{m:M Bool}(I:Inv w Gk G s.heap)(h:Ok w Gk true (rep w) [] L G s (bnd m (λb=>ret (.bool b)) G.σ) Q E):Ok w Gk true iI [] L G s (m G.σ) (λb s'=>Q (.bool b) s') E:=by
 unfold bnd at h
 induction hm:m G.σ with
 | ok d σ'=>replace h:=(hm) ▸ h;intro v s' G' e R p;exact p ▸ (h _ s' G' e R (.bool _))
 | exc σ'=>rw[hm]at h;exact h
 | stuck=>replace h:=(hm) ▸ h;exact h
end
end
section
variable{w:World}{Gk:Heap}{mg mb:Str->Option Value}
section
variable{H8:Nat}{A:Around}{env:Env}{L:Addr}{sc:Sc}{fr:af}{G:Gh}{s:Shared}{E:Value->Shared->Prop}{r:Rc}
set_option tactic.hygienic true in
theorem AM{call:Str->List D->M D}(X:Cx w Gk mg mb)(C:n_ w Gk H8 call)(S:bq w Gk H8 r):D4 w Gk H8 (sB call ji r).ev:=by
 intro A env L sc fr e G s Q E I F h
 induction e using Expr.casesOn <;> try exact(h:False).elim
 case BoolOp op vs pos=>rw[arm_eval_BoolOp];exact qb S I F h
 case BinOp l op b pos=>
  exact wpAny_BinOp (bB S I F h λv Gm Gl d R Gx Gv rv Gq=>bB S Gx Gv Gq λu Gs Gy HD Gu GJ GK ru Gw=>CG GJ (Gu.rep rv) ru Gw)
 case UnaryOp op x pos=>
  induction op <;> try exact(h:False).elim
  ·refine UnaryOp_ (bB S I F h λv Gm Gl d R Gx Gv rv Gq=>not_of (ky (xt:=true) (Ib:=[]) (Lf:=L) Gx rv ?_));exact Ok.bind (G7:=[]) (Hf:=iI) (λ_ q=>q) Gq λb Gs Gy b' Gu e Gw=>by induction e;exact Ok.now Gu.inv Gw (Rep.bool _)
  ·exact UnaryOp_ (bB S I F h λv Gm Gl d R Gx Gv rv Gq=>CF Gx rv Gq)
 case IfExp t a b pos=>
  refine IfExp_ (j7 S I F h λc Gm Gl R Gx Gv Gq=>?_)
  induction c
  ·exact S.ev Gx Gv Gq
  ·exact S.ev Gx Gv Gq
 case Dict ks vs pos=>exact yw S I F h
 case ListComp elt gens scope pos=>
  refine PT (λhsc h=>?_) (Ok.ite h);exact ou S I F hsc h
 case Compare l ops es pos=>
  refine PT (λhc h=>?_) (Ok.ite h);rw[arm_eval_Compare,markedEach_of_false _ _ _ hc.1];exact th (bB S I F h λv Gm Gl d R Gx Gv rv Gq=>mT S hc.2 Gx Gv rv (AL Gx Gq))
 case Call f args kws pos=>
  induction kws using List.casesOn with
  | cons k ks=>exact Ok.onAttr (λm=>m G.σ) h (λ_ _ _ _ h=>(h:False).elim) λ_ h=>(h:False).elim
  | nil=>
   refine Ok.onAttr (λm=>m G.σ) h (λo m apos z h9=>?_) λq h=>?_
   ·clear h;subst z;have h:=h9;refine PT (λhc h=>?_) (Ok.ite h);simp only[Bool.and_eq_true,decide_eq_true_eq]at hc;exact oo X C S I F hc.2.1.1.1 hc.2.1.1.2 hc.2.1.2 hc.2.2 h
   ·refine PT (λhc h=>?_) (Ok.ite h);exact yj X C S I F q (PZ hc).2 h
 case Constant c k pos=>exact we I h
 case Attribute o a pos=>
  refine PT (λhp h=>?_) (Ok.ite (c:=bT o) h);exact ye X S I F hp h
 case Subscript v i pos=>
  refine Ok.onSlice (λm=>m G.σ) h (λlo hi st p z h9=>?_) λq h=>?_
  ·clear h;subst z;have h:=h9;refine PT (λhc h8=>?_) (Ok.ite h);obtain⟨h1,h2⟩:=PZ hc
   induction st with
   | some e=>exact fH h2
   | none=>exact wd S I F h1 h8
  ·exact AB S I F q h
 case Name x pos=>exact Az (xt:=true) (Ib:=[]) X I F h
 case List es pos=>exact yf S I F h
 case Tuple es k pos=>exact wf S I F h
set_option tactic.hygienic true in
theorem yx{call:Str->List D->M D}(X:Cx w Gk mg mb)(C:n_ w Gk H8 call)(S:bq w Gk H8 r):D5 w Gk H8 (sB call ji r).tst:=by
 intro A env L sc fr e G s Q E I F h;have go:isTrue e env (eval e env)=(do let v <-eval e env;standAt e.pos;holding [v] (truthy v))->Ok w Gk true iI [] L G s (bnd (r.ev sc fr e) cA G.σ) Q E->wpAny (model pw w) A (isTrue e env (eval e env)) Q E s:=λhe h=>
  isTrue_plain (bB S I F h λv Gs Gy d Gu GJ GK rv Gw=>ky GJ rv Gw) he
 induction e using Expr.casesOn <;> try exact go rfl h
 case BoolOp op vs pos=>exact wpAny_isTrue_BoolOp (oh S I F h)
 case UnaryOp op x pos=>
  induction op <;> try exact go rfl h
  refine isTrue_not (j7 S I F h λc Gm Gl R Gx Gv Gq=>?_);exact Ok.now Gx Gq rfl
 case IfExp t a b pos=>
  refine isTrue_IfExp (j7 S I F h λc Gm Gl R Gx Gv Gq=>?_)
  induction c
  ·exact S.tst Gx Gv Gq
  ·exact S.tst Gx Gv Gq
 case Compare l ops es pos=>
  refine PT (λhc h=>?_) (Ok.ite h);simp only[arm_isTrue_Compare,markedEach_of_false _ _ _ hc.1];exact th (bB S I F h λv Gm Gl d R Gx Gv rv Gq=>qc S hc.2 Gx Gv rv Gq)
theorem ka{call:Str->List D->M D}(X:Cx w Gk mg mb)(C:n_ w Gk H8 call):∀ n,bq w Gk H8 (ES call ji n)
 | 0=>⟨λ_ _ h=>(h:False).elim,λ_ _ h=>(h:False).elim⟩
 | n+1=>⟨AM X C (ka X C n),yx X C (ka X C n)⟩
end
end
section
variable{w:World}{Gk:Heap}{mg mb:Str->Option Value}{xt:Bool}
theorem Rn.ev{G G':Gh}{s s':Shared}{Ib:List Addr}(R:Rn w Gk true [] G s G' s'):Rn w Gk xt Ib G s G' s':=
 ⟨R.same,R.B,R.newB,R.ρ,R.inv,λb o e h _=>let ⟨sl,q,z⟩:=R.keep b o e h (λq=>(nomatch q));⟨sl,q,λ_=>z (.inl rfl)⟩,R.there⟩
structure Bs(w:World)(Gk:Heap)(H8:Nat)(xt:Bool)(A:Around)(env:Env)(L:Addr)(sc:Sc)(Go:Gh)(Gn:Shared)(G:Gh)(s:Shared)(fr:af):Prop where
 F₀:∃ Ht,Fm w H8 A Go Gn.heap env L sc Ht
 R:Rn w Gk xt (ownOf env) Go Gn G s
 F:Fm w H8 A G s.heap env L sc fr
noncomputable def kW(w:World)(Gk:Heap)(H8:Nat)(xt:Bool)(x:Sx):Prop:=∀ {A:Around} {env:Env} {L:Addr} {sc:Sc} {st:Stmt} {fr:af} {k:K'} {Go G:Gh} {Gn s:Shared} {α β:Type} {P:Gh->β->α->Prop} {f:Flow'->M α} {Q:β->Shared->Prop} {E:Value->Shared->Prop} {Gp:Flow->Shared->Prop},
 Bs w Gk H8 xt A env L sc Go Gn G s fr->Ok w Gk xt P (ownOf env) L Go Gn (bnd (x sc st fr k) f G.σ) Q E →
 (∀ s' G' fr',Rn w Gk xt (ownOf env) G s G' s'->Bs w Gk H8 xt A env L sc Go Gn G' s' fr'->Ok w Gk xt P (ownOf env) L Go Gn (bnd (k fr') f G'.σ) Q E->Gp .next s') →
 (∀ v d s' G',Rn w Gk xt (ownOf env) Go Gn G' s'->Rep w G'.B G'.ρ v d->Ok w Gk xt P (ownOf env) L Go Gn (f (.ret d) G'.σ) Q E->Gp (.ret v) s') →
 wpAny (model pw w) A (exec st env) Gp E s
section
variable{H8:Nat}{A:Around}{env:Env}{L:Addr}{sc:Sc}{fr:af}{Go G:Gh}{Gn s:Shared}{E:Value->Shared->Prop}{r:Rc}{x:Sx}{α β:Type}{P:Gh->β->α->Prop}{f:Flow'->M α}{Q:β->Shared->Prop}{Gp:Flow->Shared->Prop}{k:K'}
theorem Bs.I(B:Bs w Gk H8 xt A env L sc Go Gn G s fr):Inv w Gk G s.heap:=B.R.inv
theorem Bs.on{Gl:Gh}{Gm:Shared}(B:Bs w Gk H8 xt A env L sc Go Gn G s fr)(R:Rn w Gk true [] G s Gl Gm):Bs w Gk H8 xt A env L sc Go Gn Gl Gm fr:=⟨B.F₀,B.R.trans R.ev,B.F.on R⟩
theorem Bs.excd{γ:Type}{m:M γ}{f:γ->M α}(B:Bs w Gk H8 xt A env L sc Go Gn G s fr)(h:Ok w Gk xt P (ownOf env) L Go Gn (bnd m f G.σ) Q E){y:Value}{s':Shared}{G':Gh}(e:m G.σ=.exc G'.σ)(R:Rn w Gk false (ownOf env) G s G' s')(X:ExcAt w s.heap G' s'.heap L y):E y s':=by rw[dn e]at h;exact h y s' G' rfl (B.R.slack.trans R) (X.back λb q=>B.R.fresh b q)
theorem s8(SR:bq w Gk H8 r)(B:Bs w Gk H8 xt A env L sc Go Gn G s fr){e:Expr}{f:D->M α}(h:Ok w Gk xt P (ownOf env) L Go Gn (bnd (r.ev sc fr e) f G.σ) Q E){Gp:Value->Shared->Prop}
  (k:∀ v Gm Gl d,Rn w Gk true [] G s Gl Gm->Bs w Gk H8 xt A env L sc Go Gn Gl Gm fr->Rep w Gl.B Gl.ρ v d->Ok w Gk xt P (ownOf env) L Go Gn (f d Gl.σ) Q E->Gp v Gm):wpAny (model pw w) A (eval e env) Gp E s:=by
 refine mZ SR B.I B.F (ba (f:=f) λq=>by rw[q]at h;exact h) (λv Gm Gl d e R F rv=>?_) λy s' G' e R X=>B.excd h e (R.weak dj) X;rw[be e]at h;exact k v Gm Gl d R (B.on R) rv h
theorem B9(SR:bq w Gk H8 r)(B:Bs w Gk H8 xt A env L sc Go Gn G s fr){e:Expr}{f:Bool->M α}(h:Ok w Gk xt P (ownOf env) L Go Gn (bnd (r.tst sc fr e) f G.σ) Q E){Gp:Bool->Shared->Prop}
  (k:∀ c Gm Gl,Rn w Gk true [] G s Gl Gm->Bs w Gk H8 xt A env L sc Go Gn Gl Gm fr->Ok w Gk xt P (ownOf env) L Go Gn (f c Gl.σ) Q E->Gp c Gm):wpAny (model pw w) A (isTrue e env (eval e env)) Gp E s:=by
 refine SR.tst B.I B.F ?_
 induction hm:r.tst sc fr e G.σ with
 | ok d σ'=>intro v s' G' e R p;rw[p];subst e;rw[be hm]at h;exact k _ s' G' R (B.on R) h
 | exc σ'=>intro y s' G' e R X;subst e;exact B.excd h hm (R.weak dj) X
 | stuck=>unfold bnd at h;replace h:=(hm) ▸ h;exact h
theorem e8(SX:kW w Gk H8 xt x):∀ {ss:List Stmt} {fr:af} {k:K'} {G:Gh} {s:Shared} {Gp:Flow->Shared->Prop},Bs w Gk H8 xt A env L sc Go Gn G s fr->Ok w Gk xt P (ownOf env) L Go Gn (bnd (gZ x sc ss fr k) f G.σ) Q E →
  (∀ s' G' fr',Rn w Gk xt (ownOf env) G s G' s'->Bs w Gk H8 xt A env L sc Go Gn G' s' fr'->Ok w Gk xt P (ownOf env) L Go Gn (bnd (k fr') f G'.σ) Q E->Gp .next s') →
  (∀ v d s' G',Rn w Gk xt (ownOf env) Go Gn G' s'->Rep w G'.B G'.ρ v d->Ok w Gk xt P (ownOf env) L Go Gn (f (.ret d) G'.σ) Q E->Gp (.ret v) s') →
  wpAny (model pw w) A (execs ss env) Gp E s
 | [],fr,k,G,s,Gp,B,h,hN,hR=>wpAny_execs_nil (hN s G fr (.refl B.I) B h)
 | st::ss,fr,k,G,s,Gp,B,h,hN,hR=>wpAny_execs_cons (SX (k:=λfr'=>gZ x sc ss fr' k) B h (λs' G' fr' R B' h'=>e8 SX B' h' (λs2 G2 bS R2 B2 h2=>hN s2 G2 bS (R.trans R2) B2 h2) hR) hR)
theorem yy{pos:Pos}(B:Bs w Gk H8 xt A env L sc Go Gn G s fr)(h:Ok w Gk xt P (ownOf env) L Go Gn (bnd (k fr) f G.σ) Q E)
  (hN:∀ s' G' fr',Rn w Gk xt (ownOf env) G s G' s'->Bs w Gk H8 xt A env L sc Go Gn G' s' fr'->Ok w Gk xt P (ownOf env) L Go Gn (bnd (k fr') f G'.σ) Q E->Gp .next s'):wpAny (model pw w) A (exec (.Pass pos) env) Gp E s:=by
 simp only[arm_exec_Pass];exact wpAny_bind (wpAny_standAt (wpAny_pure (hN s G fr (.refl B.I) B h)))
theorem kX(SR:bq w Gk H8 r){e:Option Expr}{pos:Pos}(B:Bs w Gk H8 xt A env L sc Go Gn G s fr)(h:Ok w Gk xt P (ownOf env) L Go Gn (bnd (bnd (DG r sc fr e) λv=>ret (Flow'.ret v)) f G.σ) Q E)
  (hR:∀ v d s' G',Rn w Gk xt (ownOf env) Go Gn G' s'->Rep w G'.B G'.ρ v d->Ok w Gk xt P (ownOf env) L Go Gn (f (.ret d) G'.σ) Q E->Gp (.ret v) s'):wpAny (model pw w) A (exec (.Return e pos) env) Gp E s:=by
 rw[aS]at h
 induction e with
 | none=>simp only[exec_Return_none];exact wpAny_bind (wpAny_standAt (wpAny_pure (hR _ .none s G B.R .none h)))
 | some e=>simp only[exec_Return_some];exact wpAny_bind (wpAny_standAt (wpAny_bind (s8 SR B h λv Gm Gl d R GI rv Gq=>wpAny_pure (hR v d Gm Gl GI.R rv Gq))))
theorem yz(SR:bq w Gk H8 r){e:Expr}{pos:Pos}(hc:kr e=true)(B:Bs w Gk H8 xt A env L sc Go Gn G s fr)(h:Ok w Gk xt P (ownOf env) L Go Gn (bnd (bnd (r.ev sc fr e) λ_=>k fr) f G.σ) Q E)
  (hN:∀ s' G' fr',Rn w Gk xt (ownOf env) G s G' s'->Bs w Gk H8 xt A env L sc Go Gn G' s' fr'->Ok w Gk xt P (ownOf env) L Go Gn (bnd (k fr') f G'.σ) Q E->Gp .next s'):wpAny (model pw w) A (exec (.Expr e pos) env) Gp E s:=by
 rw[aS]at h;have hi:interactive env=false:=by unfold interactive;exact B.F.kind ▸ rfl
 have hs:swapsWith e none pos.line env=pure false:=Expr.Call.elim (motive_1:=λe=>swapsWith e none pos.line env=pure false) e (eq_of_beq hc) λ_ _ _ _=>rfl;exact wpAny_Expr_any (s8 SR B h λv Gm Gl d R GI rv Gq=>hN Gm Gl fr R.ev GI Gq) hi hs
theorem CV(SR:bq w Gk H8 r)(SX:kW w Gk H8 xt x){t:Expr}{a b:List Stmt}{pos:Pos}(B:Bs w Gk H8 xt A env L sc Go Gn G s fr)(h:Ok w Gk xt P (ownOf env) L Go Gn (bnd (bnd (r.tst sc fr t) λc=>if c then gZ x sc a fr k else gZ x sc b fr k) f G.σ) Q E)
  (hN:∀ s' G' fr',Rn w Gk xt (ownOf env) G s G' s'->Bs w Gk H8 xt A env L sc Go Gn G' s' fr'->Ok w Gk xt P (ownOf env) L Go Gn (bnd (k fr') f G'.σ) Q E->Gp .next s')
  (hR:∀ v d s' G',Rn w Gk xt (ownOf env) Go Gn G' s'->Rep w G'.B G'.ρ v d->Ok w Gk xt P (ownOf env) L Go Gn (f (.ret d) G'.σ) Q E->Gp (.ret v) s'):wpAny (model pw w) A (exec (.If t a b pos) env) Gp E s:=by
 rw[aS]at h;simp only[arm_exec_If];refine wpAny_bind (wpAny_standAt (wpAny_bind (B9 SR B h λc Gm Gl R GI Gq=>?_)))
 induction c
 ·exact e8 SX GI Gq (λs2 G2 bS R2 B2 h2=>hN s2 G2 bS (R.ev.trans R2) B2 h2) hR
 ·exact e8 SX GI Gq (λs2 G2 bS R2 B2 h2=>hN s2 G2 bS (R.ev.trans R2) B2 h2) hR
theorem AN{o:Option NameKind}(h:(match o with | some .local | some .cell=>true | _=>false)=true):o=some .local\/o=some .cell:=by
 induction o using Option.casesOn with
 | none=>exact fH h
 | some k=>induction k using NameKind.casesOn <;> first | exact .inl rfl | exact .inr rfl | exact fH h
theorem yA{y:Str}(hv:gM sc y=true):sc.lookup y=some .local\/sc.lookup y=some .cell:=by exact AN hv
theorem ei{A':Around}(F:Fm w H8 A G s.heap env L sc fr)(I:Inv w Gk G s.heap){y:Str}{v:Value}{d:D}(rv:Rep w G.B G.ρ v d)(hv:gM sc y=true){Gp:Unit->Shared->Prop}
  (k:∀ s',Rn w Gk xt (ownOf env) G s G s'->Fm w H8 A G s'.heap env L sc (aj fr y d)->Gp () s'):wpAny (model pw w) A' (storeName env y v) Gp E s:=by
 refine PU (yA hv) (λhk=>?_) λhk=>?_
 ·exact jF F I rv hk λs' R F'=>k s' (R.weak λb hb=>by have q:b=env.locals:=List.mem_singleton.mp hb;simp only[q];exact .head _) F'
 ·exact sU F I rv hk λs' R F'=>k s' (R.weak λb hb=>.tail _ hb) F'
theorem ej{y:Str}{d:D}{σ:St}{f:af->M α}(h:bnd (aY sc fr y d) f σ≠.stuck):gM sc y=true/\aY sc fr y d=ret (aj fr y d):=by
 unfold aY at h ⊢;rcases P8 (gM sc y=true) with hv | hv
 ·exact⟨hv,by exact(PW hv)⟩
 ·rw[PX hv]at h;exact absurd rfl h
theorem Ok.nst{t:R α}{Ib:List Addr}(h:Ok w Gk xt P Ib L Go Gn t Q E):t≠.stuck:=λe=>by subst e;exact h
theorem kb{A':Around}{E':Value->Shared->Prop}(B:Bs w Gk H8 xt A env L sc Go Gn G s fr){y:Str}{v:Value}{d:D}{f:af->M α}(rv:Rep w G.B G.ρ v d)(h:Ok w Gk xt P (ownOf env) L Go Gn (bnd (aY sc fr y d) f G.σ) Q E){Gp:Unit->Shared->Prop}
  (k:∀ s' fr',Rn w Gk xt (ownOf env) G s G s'->Bs w Gk H8 xt A env L sc Go Gn G s' fr'->Ok w Gk xt P (ownOf env) L Go Gn (f fr' G.σ) Q E->Gp () s'):wpAny (model pw w) A' (storeName env y v) Gp E' s:=by
 refine PT (λhv hs=>?_) (ej h.nst);rw[hs]at h;exact ei B.F B.I rv hv λs' R F'=>k s' _ R ⟨B.F₀,B.R.trans R,F'⟩ h
theorem EZ{op:Operator}{a b:Int}{va vb:Value}{Ib:List Addr}{Lf:Addr}{Q:Value->Shared->Prop}(ho:xN op=true)(I:Inv w Gk G s.heap)(ra:Rep w G.B G.ρ va (.int a))(rb:Rep w G.B G.ρ vb (.int b))
  (h:Ok w Gk xt (rep w) Ib Lf G s (ag op (.int a) (.int b) G.σ) Q E):wpAny (model pw w) A (inplaceOp op va vb) Q E s:=by
 refine PS ra.int' λta zz1=>?_;rw[zz1];refine PS rb.int' λtb zz1=>?_;obtain rfl:=zz1
 induction op with
 | Add=>exact PySem.AutoIntOps.iadd_0 (h.int I _ _)
 | Sub=>exact PySem.AutoIntOps.isub_0 (h.int I _ _)
 | Mult=>refine PT (λhc h=>?_) (Ok.ite h);obtain⟨h1,h2⟩:=PZ hc;exact PySem.AutoIntOps.imul_0 (h.int I _ _) (pP h1 h2)
 | FloorDiv=>obtain⟨⟨h1,h2,h3⟩,h⟩:=Ok.ite h;exact PySem.AutoIntOps.ifloordiv_1 (by simpa using h1) (by rw[fT h3];decide) (h.int I _ _)
 | _=>exact fH ho
end
end
section
variable{w:World}{Gk:Heap}{mg mb:Str->Option Value}{xt:Bool}
section
variable{H8:Nat}{A:Around}{env:Env}{L:Addr}{sc:Sc}{fr:af}{Go G G':Gh}{Gn s s':Shared}{E:Value->Shared->Prop}{r:Rc}{x:Sx}{α β:Type}{P:Gh->β->α->Prop}{Q:β->Shared->Prop}{Ib:List Addr}
theorem Ok.ofEq{γ:Type}{m:M γ}(hs:m G.σ≠.stuck)(kE:∀ x s' G',m G.σ=.exc G'.σ->Rn w Gk false Ib G s G' s'->ExcAt w s.heap G' s'.heap L x->E x s') :
  Ok w Gk xt (λG' (v:γ×St) d=>v=(d,G'.σ)) Ib L G s (bnd m ret G.σ) (λv _=>m G.σ=.ok v.1 v.2) E:=by
 unfold bnd
 induction hm:m G.σ with
 | ok d σ'=>intro v s' G' e _ p;subst p;subst e;rfl
 | exc σ'=>intro x s' G' e R X;subst e;exact kE x s' G' hm R X
 | stuck=>exact absurd hm hs
noncomputable def B_(pool:Bool)(l:List D):M D:=if pool then bnd (ef (.list l)) λi=>ret (.ref i) else ret (.list l)
theorem nf(pool:Bool){acc:List D}{l:Addr}(R:Rn w Gk true Ib G s G' s')(h1:s.heap.get? l=none)(h2:G'.B l=none)(h3:l∉G'.ρ)(h4:l≠sysModules)(hl:∃ vs n,s'.heap.get? l=some { cls:=.type "list",data:=.seq (List.toArray vs) n }/\RepL w G'.B G'.ρ vs acc) :
  ∃ G'' d,B_ pool acc G'.σ=.ok d G''.σ/\Rn w Gk true Ib G s G'' s'/\Rep w G''.B G''.ρ (.ref l) d/\∀ c,c≠l->(G'.B c=none->G''.B c=none)/\(c∉G'.ρ->c∉G''.ρ):=by
 refine aI hl λvs n hl hr=>?_
 induction pool with
 | true=>
  have C:CellAt w G' s'.heap l (.list acc):=⟨vs,n,hl,hr⟩;refine⟨G'.more l (.list acc),.ref G'.σ.length,rfl,mX R h1 h2 h3 h4 C,.ref ?_,λc hc=>⟨λe=>e,λe q=>?_⟩⟩
  ·show(G'.ρ++[l])[G'.σ.length]?=some l;rw[<-R.inv.len,List.getElem?_append_right (Nat.le_refl _),Nat.sub_self];rfl
  ·rcases List.mem_append.mp q with q | q
   ·exact e q
   ·exact hc (List.mem_singleton.mp q)
 | false=>
  obtain⟨R'',eB⟩:=gv R h1 h2 h3 hl;refine⟨G'.add l _,.list acc,rfl,R'',.list ⟨_,n,eB,rfl,rfl⟩ (hr.mono (λb o' q=>?_) ⟨[],by simp[Gh.add]⟩),λc hc=>⟨λe=>?_,λe=>e⟩⟩
  ·show(if b=l then some _ else G'.B b)=some o';refine PV (PX (λz=>by rw[z]at q;replace q:=h2 ▸ q;exact dt q)) ?_;exact q
  ·show(if c=l then some _ else G'.B c)=none;refine PV (PX hc) ?_;exact e
theorem kY{pool:Bool}{elt:Expr}{gens:List Comprehension}{scope:Scope}{pos:Pos}:zU r sc fr pool (.ListComp elt gens scope pos)=if bK sc scope=true then bnd (eh r sc fr elt gens scope.names) (B_ pool) else stuck:=by
 show(if (!bK sc scope)=true then stuck else if pool=true then bnd (eh r sc fr elt gens scope.names) (λl=>bnd (ef (.list l)) λi=>ret (D.ref i)) else bnd (eh r sc fr elt gens scope.names) λl=>ret (D.list l))=_
 induction bK sc scope <;> induction pool <;> rfl
theorem yB{pool:Bool}{ks:List (Option Expr)}{vs:List Expr}{pos:Pos}:zU r sc fr pool (.Dict ks vs pos)=bnd (pL r sc fr ks vs) (λq0=>match q0 with | .inl l=>bnd (ef (.sdict l)) λi=>ret (.ref i) | .inr _=>stuck):=rfl
theorem wp{pool:Bool}(e:Expr):(∃ ks vs p,e=.Dict ks vs p)\/(∃ a b c p,e=.ListComp a b c p)\/zU r sc fr pool e=stuck\/zU r sc fr pool e=r.ev sc fr e:=
 if h:e.ctorIdx=6 then .inl (Expr.Dict.elim (motive_1:=λe=>∃ ks vs p,e=.Dict ks vs p) e h λks vs p=>⟨ks,vs,p,rfl⟩) else
 if h2:e.ctorIdx=8 then .inr (.inl (Expr.ListComp.elim (motive_1:=λe=>∃ a b c p,e=.ListComp a b c p) e h2 λa b c p=>⟨a,b,c,p,rfl⟩)) else
 .inr (.inr (if h3:e.ctorIdx=9\/e.ctorIdx=10 then .inl ((dif_neg h).trans ((dif_neg h2).trans (PW h3))) else .inr ((dif_neg h).trans ((dif_neg h2).trans (PX h3)))))
theorem CW(SR:bq w Gk H8 r)(I:Inv w Gk G s.heap)(F:Fm w H8 A G s.heap env L sc fr){pool:Bool}{e:Expr}{Gp:Value->Shared->Prop}(hs:zU r sc fr pool e G.σ≠.stuck)
  (k:∀ v Gm Gl d,zU r sc fr pool e G.σ=.ok d Gl.σ->Rn w Gk true [] G s Gl Gm->Fm w H8 A Gl Gm.heap env L sc fr->Rep w Gl.B Gl.ρ v d->Gp v Gm)
  (kE:∀ x s' G',zU r sc fr pool e G.σ=.exc G'.σ->Rn w Gk false [] G s G' s'->ExcAt w s.heap G' s'.heap L x->E x s'):wpAny (model pw w) A (eval e env) Gp E s:=by
 rcases wp (r:=r) (sc:=sc) (fr:=fr) (pool:=pool) e with⟨ks,vs,pos,rfl⟩ | ⟨elt,gens,scope,pos,rfl⟩ | he | he
 ·rw[yB]at hs k kE;refine qi SR I F (Ok.ofEq (Ib:=[]) (L:=L) (ba hs) λx s' G' e R X=>kE x s' G' (dn e) R X) λd Gm Gl x R h1 h2 h3 h4 h5 h6=>?_;have e:=Ok.now (v:=(x,Gl.σ)) R.inv h6 rfl;rw[be e]at hs k
  induction x with
  | inr l=>exact absurd rfl hs
  | inl l=>have R':=mX R h1 h2 h3 h4 (c:=.sdict l) h5;refine k _ Gm (Gl.more d (.sdict l)) (.ref Gl.σ.length) rfl R' (F.on R') (.ref ?_);show(Gl.ρ++[d])[Gl.σ.length]?=some d;rw[<-R.inv.len,List.getElem?_append_right (Nat.le_refl _),Nat.sub_self];rfl
 ·rw[kY]at hs k kE
  by_cases hsc:bK sc scope=true
  ·rw[PW hsc]at hs k kE;simp only[eval_ListComp];refine ot SR I F hsc (ba hs) (use:=none) (λC l s' G' acc e R h1 h2 h3 h4 h5 h6 h7 h8 hl hns=>?_) λs' G' x e R X=>kE x s' G' (dn e) R X;intro h' hs';have R':Rn w Gk true [] G s G' { s' with heap:=h' }:=eZ R s'.toks (λb o hb e=>(hs'.2 b (λq=>hb (q ▸ .head _))).trans e) h2 h7 h8;refine aI hl λvs n hl hr=>?_;refine aH (nf pool R' h1 h5 h6 h4 ⟨vs,n,(hs'.2 l λq=>h3 q.symm).trans hl,hr⟩) λG'' d e' R'' rv _=>?_;exact k _ _ G'' d ((be e).trans e') R'' (F.on R'') rv
  ·rw[PX hsc]at hs;exact absurd rfl hs
 ·exact absurd (congrFun he _) hs
 ·rw[he]at hs k kE;exact mZ SR I F hs k kE
theorem Fm.but{h':Heap}{fr':af}(F₀:Fm w H8 A G s.heap env L sc fr)(F:Fm w H8 A G' s'.heap env L sc fr'){C:Addr}(hC:s.heap.get? C=none)(hk:∀ b,b≠C->h'.get? b=s'.heap.get? b):Fm w H8 A G' h' env L sc fr':=by
 refine ar F₀.stk λGF outer f1 f2 f3=>?_;refine ar F.stk λHL HM g1 g2 g3=>?_;refine ao F.loc λm hn hm=>?_;have nl:env.locals≠C:=λq=>by obtain⟨o,e⟩:=F₀.there;rw[q,hC]at e;exact nomatch e
 have nc:∀ c∈env.cells.map (·.2),c≠C:=λc hc q=>by obtain⟨o,e⟩:=F₀.ex c hc;rw[q,hC]at e;exact nomatch e
 have cl:∀ {y c v},env.cells.lookup y=some c->s'.heap.IsCell c v->h'.IsCell c v:=λe ⟨o,ho,hd⟩=>⟨o,(hk _ (nc _ (du e))).trans ho,hd⟩;refine⟨F.handled,F.depth,F.units,⟨HL,HM,g1,g2,λen he=>?_⟩,F.frame,F.kind,F.globals,F.builtins,F.names,⟨m,let ⟨o,es,ep,ho,r⟩:=hn;⟨o,es,ep,(hk _ nl).trans ho,r⟩,hm⟩,λy d h1 h2=>?_,λy h1=>?_,F.apart,F.lc,λc hc=>?_,F.inj⟩
 ·refine pI (g3 en he) λhk' L' o a z1=>?_;refine cM z1 λb c d e=>?_;refine sr (f3 en (by replace g1:=(f1) ▸ g1;cases g1;exact he)) λ_ L'' o'' a' b' _=>?_;have:L''=L':=PY (a'.symm.trans a);subst this;exact⟨hk',L'',o,a,(hk _ λq=>by rw[q]at b';replace b':=hC ▸ b';injection b').trans b,c,d,e⟩
 ·refine ar (F.cel y d h1 h2) λc v e q r=>?_;exact⟨c,v,e,cl e q,r⟩
 ·refine aI (F.cel0 y h1) λc v e q=>?_;exact⟨c,v,e,cl e q⟩
 ·obtain⟨o,e⟩:=F.ex c hc;exact⟨o,(hk c (nc c hc)).trans e⟩
theorem g9{h h':Heap}(e:Heap.ExtBut h.objs.size h h'):∀ b o,h.get? b=some o->h'.get? b=some o:=λb o q=>e b o (Nat.ne_of_lt (Heap.lt_size q)) q
theorem ng{A':Around}{f:af->M α}{Gp:Unit->Shared->Prop}(ts:List Expr):∀ {ds:List D} {vs:List Value} {fr:af} {s:Shared},Bs w Gk H8 xt A env L sc Go Gn G s fr->RepL w G.B G.ρ vs ds->Ok w Gk xt P (ownOf env) L Go Gn (bnd (bc sc fr ts ds) f G.σ) Q E →
  (∀ s' fr',Rn w Gk xt (ownOf env) G s G s'->Bs w Gk H8 xt A env L sc Go Gn G s' fr'->Ok w Gk xt P (ownOf env) L Go Gn (f fr' G.σ) Q E->Gp () s')->wpAny (model pw w) A' (assignInOrder ((assignEach ts env).map (·.2)) vs) Gp E s:=by
 induction ts with
 | nil=>
  intro ds vs fr s B hl h k
  induction ds using List.casesOn with
  | nil=>cases hl;exact wpAny_pure (k s fr (.refl B.I) B h)
  | cons d ds=>exact(h:False).elim
 | cons t ts ih=>
  intro ds vs fr s B hl h k
  induction ds using List.casesOn with
  | nil=>exact(h:False).elim
  | cons d ds=>
  refine Ok.onName (λm=>bnd m f G.σ) h (λy py z h9=>?_) False.elim;clear h;subst z;have h:=h9;cases hl with
  | @cons v _ vs _ rv rl=>
  rw[aS]at h;show wpAny _ A' (do holding vs (assign (.Name y py) env v);assignInOrder ((assignEach ts env).map (·.2)) vs) _ _ s;exact wpAny_bind (wpAny_holding (wpAny_assign_Name (kb B rv h λs' fr' R B' h'=>ih B' (R.repL rl) h' λs2 bS R2 B2 h2=>k s2 bS (R.trans R2) B2 h2)))
theorem e9(env:Env){sc:Sc}:∀ {ts:List Expr} {ds:List D} {fr:af} {σ:St},bc sc fr ts ds σ≠.stuck->(assignEach ts env).length=ds.length/\(assignEach ts env).findIdx? (·.1)=none
 | [],[],fr,σ,h=>⟨rfl,rfl⟩
 | t::ts,d::ds,fr,σ,h=>by
  refine jh (λm:M af=>m σ≠.stuck) h (λy py z h9=>?_) (absurd rfl);clear h;subst z;have h:=h9;have:∃ fr' σ',bc sc fr' ts ds σ'≠.stuck:=by
   dsimp only[bnd]at h
   induction q:aY sc fr y d σ with
   | ok a σ'=>rw[q]at h;exact⟨a,σ',h⟩
   | exc σ'=>
    unfold aY at q
    split at q <;> injection q
   | stuck=>rw[q]at h;exact absurd rfl h
  refine gE this λfr' σ' h'=>?_;obtain⟨e1,e2⟩:=e9 env h';refine⟨congrArg (· + 1) e1, ?_⟩;refine PV (List.findIdx?_cons) ?_;simp[e2]
 | [],d::ds,fr,σ,h=>absurd rfl h
 | t::ts,[],fr,σ,h=>absurd rfl h
theorem AO{ts:List Expr}{n:Nat}{pos:Pos}{d:D}{v:Value}{f:af->M α}(B:Bs w Gk H8 xt A env L sc Go Gn G s fr)(rv:Rep w G.B G.ρ v d)(h:Ok w Gk xt P (ownOf env) L Go Gn (bnd (asTup d (bc sc fr ts)) f G.σ) Q E){Gp:Unit->Shared->Prop}
  (k:∀ s' fr',Rn w Gk xt (ownOf env) G s G s'->Bs w Gk H8 xt A env L sc Go Gn G s' fr'->Ok w Gk xt P (ownOf env) L Go Gn (f fr' G.σ) Q E->Gp () s'):wpAny (model pw w) A (assign (.Tuple ts n pos) env v) Gp E s:=by
 induction d using D.casesOn <;> try exact(h:False).elim
 refine ar rv.inv λ_ _ z2 hb hl=>?_;obtain rfl:=z2;obtain⟨e1,e2⟩:=e9 env (ba h.nst);refine wpAny_assign_Tuple B.F.handled (hb.tup B.I.stays) (by refine PV e1 (PV (Eq.symm hl.length) ?_);simp) e2 λh' he=>?_;have R:Rn w Gk true [] G s G { s with heap:=h' }:=dA B.I s.toks (g9 he);exact ng ts (B.on R) hl h λs2 bS R2 B2 h2=>k s2 bS (R.ev.trans R2) B2 h2
theorem s9(X:Cx w Gk mg mb)(SR:bq w Gk H8 r){t:Expr}{d:D}{v:Value}{f:af->M α}(B:Bs w Gk H8 xt A env L sc Go Gn G s fr)(rv:Rep w G.B G.ρ v d)(h:Ok w Gk xt P (ownOf env) L Go Gn (bnd (gm r sc fr d t) f G.σ) Q E){Gp:Unit->Shared->Prop}
  (k:∀ s' G' fr',Rn w Gk xt (ownOf env) G s G' s'->Bs w Gk H8 xt A env L sc Go Gn G' s' fr'->Ok w Gk xt P (ownOf env) L Go Gn (f fr' G'.σ) Q E->Gp () s'):wpAny (model pw w) A (assign t env v) Gp E s:=by
 refine Ok.onName (λm=>bnd m f G.σ) h (λy py z h9=>?_) λh1=>Ok.onTup (λm=>bnd m f G.σ) h1 (λts n pos z h9=>?_) λh2=>Ok.onAttr (λm=>bnd m f G.σ) h2 (λo a pos z h9=>?_) λ_ h3=>Ok.onSub (λm=>bnd m f G.σ) h3 (λo i pos z h9=>?_) False.elim
 ·clear h;subst z;exact wpAny_assign_Name (kb B rv h9 λs' fr' R B' h'=>k s' G fr' R B' h')
 ·clear h;subst z;exact AO B rv h9 λs' fr' R B' h'=>k s' G fr' R B' h'
 rotate_left
 ·clear h1 h2 h3 h;subst z;have h:=h9;dsimp only[arm_assign_Subscript];simp only[aS]at h;refine wpAny_bind (wpAny_holding (s8 SR B h λov Gm Gl od GC GI ro Gq=>wpAny_bind (wpAny_holding (s8 SR GI Gq λiv Gs Gy id Gu GX ri Gw=>wpAny_bind (wpAny_standAt (wpAny_bind (wpAny_holding ?_)))))));refine CH (xt:=true) (Ib:=[]) (Lf:=L) GX.F.rm GX.I (Gu.rep ro) ri ((GC.trans Gu).rep rv) ?_;have go:∀ vs,Ok w Gk true EX [] L Gy Gs (cL od id d Gy.σ) (λ_ s'=>wpAny (model pw w) A (release vs []) Gp E s') E:=λvs=>by
   induction hm:cL od id d Gy.σ with
   | ok u σ'=>intro _ s' G' e R' _;subst e;rw[be hm]at Gw;exact wpAny_release (k s' G' fr ((GC.trans Gu).trans R').ev (GX.on R') Gw)
   | exc σ'=>intro y s' G' e R' X';subst e;exact GX.excd Gw hm (R'.weak dj) X'
   | stuck=>exact absurd hm (ba Gw.nst)
  exact go _
 ·clear h1 h2 h;subst z;have h:=h9;simp only[arm_assign_Attribute];simp only[aS]at h;refine wpAny_bind (wpAny_holding (s8 SR B h λov Gs Gy od Gu GX ro Gw=>wpAny_bind (wpAny_standAt (wpAny_bind (wpAny_holding ?_)))));refine sO (xt:=true) (Ib:=[]) (Lf:=L) X GX.I ro (Gu.rep rv) ?_
  induction hm:eg od a d Gy.σ with
  | ok u σ'=>intro _ s' G' e R' _;subst e;rw[be hm]at Gw;exact wpAny_release (k s' G' fr (Gu.trans R').ev (GX.on R') Gw)
  | exc σ'=>intro y s' G' e R' X';subst e;exact GX.excd Gw hm (R'.weak dj) X'
  | stuck=>exact absurd hm (ba Gw.nst)
end
end
section
variable{w:World}{Gk:Heap}{mg mb:Str->Option Value}{xt:Bool}
noncomputable def FJ(value t:Expr)(env:Env):Prop:=(∃ elt gens scope pos y py,value=.ListComp elt gens scope pos/\t=.Name y py/\env.kindOf y=some .local)\/(∃ a b c d,value=.SetComp a b c d)\/∃ a b c d e,value=.DictComp a b c d e
noncomputable def Fl(value t:Expr)(line:Nat)(env:Env):Prop:=∃ b,swapsWith value (some t) line env=pure b/\(b=true->FJ value t env)
theorem EC{value t:Expr}{line:Nat}{env:Env}(h:swapsWith value (some t) line env=pure false):Fl value t line env:=⟨false,h,nofun⟩
set_option tactic.hygienic true in
theorem s_{value t:Expr}{line:Nat}{env:Env}:Fl value t line env:=by
 induction value using Expr.casesOn <;> try exact EC rfl
 case ListComp elt gens scope pos=>
  induction t using Expr.casesOn <;> try exact EC rfl
  rename_i y py;refine⟨_,rfl,λh=>.inl ⟨_,_,_,_,_,_,rfl,rfl, ?_⟩⟩;simp only[Bool.and_eq_true,beq_iff_eq]at h;exact h.1.1.2
 case SetComp a b c d=>
  induction t using Expr.casesOn <;> try exact EC rfl
  exact⟨_,rfl,λ_=>.inr (.inl ⟨_,_,_,_,rfl⟩)⟩
 case DictComp a b c d e=>
  induction t using Expr.casesOn <;> try exact EC rfl
  exact⟨_,rfl,λ_=>.inr (.inr ⟨_,_,_,_,_,rfl⟩)⟩
noncomputable def CX(t e:Expr):Prop:=∃ ts k p vs k' p',t=.Tuple ts k p/\e=.Tuple vs k' p'
noncomputable def D_(t e:Expr):Prop:=∃ ts p vs k' p',t=.List ts p/\e=.Tuple vs k' p'
noncomputable def Fo(t e:Expr)(env:Env):Prop:=CX t e\/D_ t e\/swappedStores [t] e env=pure none
theorem sn{t e:Expr}{env:Env}(h:swappedStores [t] e env=pure none):Fo t e env:=.inr (.inr h)
set_option tactic.hygienic true in
theorem sw1{t e:Expr}{env:Env}:Fo t e env:=by
 induction t using Expr.casesOn <;> try exact sn rfl
 case Tuple ts k p=>induction e using Expr.casesOn <;> first | exact sn rfl | exact .inl ⟨_,_,_,_,_,_,rfl,rfl⟩
 case List ts p=>induction e using Expr.casesOn <;> first | exact sn rfl | exact .inr (.inl ⟨_,_,_,_,_,rfl,rfl⟩)
theorem ow{t e:Expr}{env:Env}(h:¬ CX t e)(h':¬ D_ t e):swappedStores [t] e env=pure none:=sw1.elim (absurd · h) λq=>q.elim (absurd · h') id
theorem AP{F:Expr->Option Str}{n m:Expr}{x y:Str}(h1:F n=some x\/F n=none)(h2:F m=some y\/F m=none):List.filterMap F [n,m]=[x,y]\/(List.filterMap F [n,m]).length≠2:=
 h1.elim (λe1=>h2.elim (λe2=>.inl (by refine PV (List.filterMap_cons_some e1) ?_;exact congrArg _ (List.filterMap_cons_some e2))) λe2=>.inr (by rw[List.filterMap_cons_some e1,List.filterMap_cons_none e2];exact nofun))
  λe1=>h2.elim (λe2=>.inr (by rw[List.filterMap_cons_none e1,List.filterMap_cons_some e2];exact nofun)) λe2=>.inr (by rw[List.filterMap_cons_none e1,List.filterMap_cons_none e2];exact nofun)
noncomputable def E0(c1 c2:Bool)(N:List Str)(c3 c4:Bool):Sem (Option (List Str)):=if c1 then pure none else if c2 then pure none else if (N.length !=2||N.eraseDups.length !=N.length) then pure none else if c3 then pure none else if c4 then unsupported "assign.tuple-of-constant-expressions:order-of-the-stores" else pure (some N)
theorem CY{c1 c2 c3:Bool}{N:List Str}{x y:Str}(h:N=[x,y]\/N.length≠2):E0 c1 c2 N c3 false=pure none\/E0 c1 c2 N c3 false=pure (some [x,y]):=by
 induction c1 with
 | true=>exact .inl rfl
 | false=>
 induction c2 with
 | true=>exact .inl rfl
 | false=>
 refine h.elim (λq=>?_) λq=>.inl (PW (Bool.or_eq_true_iff.mpr (.inl (bne_iff_ne.mpr q))));rw[q];refine PU (P8 (([x,y].length !=2||[x,y].eraseDups.length !=[x,y].length)=true)) (λz=>.inl (PW z)) λz=>?_
 induction c3 with
 | true=>exact .inl (PX z)
 | false=>exact .inr (PX z)
theorem yC{α:Type}{c:Bool}{x:α}:(if c=true then some x else none)=some x\/(if c=true then some x else none)=none:=by
 induction c with
 | true=>exact .inl rfl
 | false=>exact .inr rfl
theorem ox{x y:Str}{px py:Pos}{a b:Expr}{k k':Nat}{p p':Pos}{env:Env}(hxy:(x==y)=false)(hc:[a,b].all (PySem.constantsAlone 8)=false) :
  swappedStores [.Tuple [.Name x px,.Name y py] k p] (.Tuple [a,b] k' p') env=pure none\/swappedStores [.Tuple [.Name x px,.Name y py] k p] (.Tuple [a,b] k' p') env=pure (some [x,y]):=by
 have e:∃ (c1 c2 c3:Bool) (F:Expr->Option Str),(F (.Name x px)=some x\/F (.Name x px)=none)/\(F (.Name y py)=some y\/F (.Name y py)=none)/\swappedStores [.Tuple [.Name x px,.Name y py] k p] (.Tuple [a,b] k' p') env=E0 c1 c2 (List.filterMap F [.Name x px,.Name y py]) c3 ([a,b].all (PySem.constantsAlone 8)):=
  ⟨_,_,_,fun | .Name id pos=>if (env.kindOf id==some .local&&pos.line==px.line)=true then some id else none | _=>none,yC,yC,rfl⟩
 refine eP e λc1 c2 c3 q=>?_;refine bj q λF h1 h2 e=>?_;simp only[e,hc];exact CY (AP h1 h2)
theorem wq{ts vs:List Expr}{k k':Nat}{p p':Pos}(h:sD (.Tuple ts k p) (.Tuple vs k' p')=true):∃ x px y py a b,ts=[.Name x px,.Name y py]/\vs=[a,b]/\(x==y)=false/\[a,b].all (PySem.constantsAlone 8)=false:=by
 have h:sC ts vs=true:=h;cases ts with
 | nil=>exact fH h
 | cons t ts=>
  cases ts with
  | nil=>exact fH h
  | cons u ts=>
   induction ts using List.casesOn with
   | cons=>exact fH h
   | nil=>
    cases vs with
    | nil=>exact fH h
    | cons a vs=>
     cases vs with
     | nil=>exact fH h
     | cons b vs=>
      induction vs using List.casesOn with
      | cons=>exact fH h
      | nil=>
       unfold sC at h;dsimp only at h
       induction q1:dc t <;> replace h:=q1 ▸ h
       case none=>exact fH h
       induction q2:dc u <;> simp only[q2]at h
       case none=>exact nomatch h
       obtain⟨_,rfl⟩:=f8 q1;obtain⟨_,rfl⟩:=f8 q2;have h:=(Bool.and_eq_true_iff.1 h);exact⟨_,_,_,_,_,_,rfl,rfl,(Bool.not_eq_true' _).mp h.1,(Bool.not_eq_true' _).mp h.2⟩
section
variable{H8:Nat}{A:Around}{env:Env}{L:Addr}{sc:Sc}{fr:af}{Go G G':Gh}{Gn s s':Shared}{E:Value->Shared->Prop}{r:Rc}{α β:Type}{P:Gh->β->α->Prop}{Q:β->Shared->Prop}{k:K'}{f:Flow'->M α}{Gp:Flow->Shared->Prop}
theorem yD(F:Fm w H8 A G s.heap env L sc fr){y:Str}(h:env.kindOf y=some .local):sc.lookup y=some .local:=by
 rcases F.names y with q | ⟨q,z⟩
 ·refine PV (Eq.symm (q)) ?_;exact h
 ·replace z:=(h) ▸ z;exact absurd z (by decide)
theorem qp(SR:bq w Gk H8 r){pool:Bool}{elt:Expr}{gens:List Comprehension}{scope:Scope}{cpos py pos:Pos}{y:Str}(B:Bs w Gk H8 xt A env L sc Go Gn G s fr)(hy:env.kindOf y=some .local)
  (hsw:swapsWith (.ListComp elt gens scope cpos) (some (.Name y py)) pos.line env=pure true)
  (h:Ok w Gk xt P (ownOf env) L Go Gn (bnd (zU r sc fr pool (.ListComp elt gens scope cpos)) (λv=>bnd (aY sc fr y v) λfr'=>bnd (k fr') f) G.σ) Q E)
  (hN:∀ s' G' fr',Rn w Gk xt (ownOf env) G s G' s'->Bs w Gk H8 xt A env L sc Go Gn G' s' fr'->Ok w Gk xt P (ownOf env) L Go Gn (bnd (k fr') f G'.σ) Q E->Gp .next s'):wpAny (model pw w) A (exec (.Assign [.Name y py] (.ListComp elt gens scope cpos) pos) env) Gp E s:=by
 have F:=B.F;have hl:=yD F hy;have hv:gM sc y=true:=by unfold gM;rw[hl]
 have hst:∀ v,aY sc fr y v=ret (aj fr y v):=λv=>by unfold aY;exact(PW hv)
 have hsc:bK sc scope=true:=by
  cases q:bK sc scope with
  | true=>rfl
  | false=>rw[kY,q]at h;exact(h:False).elim
 rw[kY,PW hsc,aS]at h;simp only[arm_exec_Assign];have hsw':swapsWithSole [.Name y py] (.ListComp elt gens scope cpos) pos.line env=pure true:=by unfold swapsWithSole;exact hsw
 rw[hsw'];refine wpAny_bind (wpAny_standAt (wpAny_bind (wpAny_pure ?_)));rw[PW rfl];refine wpAny_bind ?_;rw[show ∀ u,evalThenUse (.ListComp elt gens scope cpos) env u=(comprehension (.ListComp elt gens scope cpos) scope env (firstIterPos gens cpos) (newList []) (firstAsync gens) (firstIter gens env) (some u) >>= λ_=>pure ()) from λu=>by first | rfl | (unfold evalThenUse;rfl)];have kn:∀ C l s' G' acc,eh r sc fr elt gens scope.names G.σ=.ok acc G'.σ->Rn w Gk true [] G s G' s'->s.heap.get? l=none->s.heap.get? C=none->C≠l->l≠sysModules->G'.B l=none->l∉G'.ρ->G'.B C=none->C∉G'.ρ →
   (∃ vs n,s'.heap.get? l=some { cls:=.type "list",data:=.seq (List.toArray vs) n }/\RepL w G'.B G'.ρ vs acc)->(∃ m,s'.heap.Ns C m)->CU (model pw w) A E (some λv=>assignAll v ((assignEach [.Name y py] env).map (·.2))) (λ_ s'=>Gp .next s') (.ref l) C s':=by
  intro C l s' G' acc e R h1 h2 h3 h4 h5 h6 h7 h8 hl' hns;refine PS hns λm hns=>?_;show wpAny (model pw w) A (assignAll (.ref l) ((assignEach [.Name y py] env).map (·.2))) (λ_ s''=>∃ m,s''.heap.Ns C m/\∀ h',Heap.SameBut C s''.heap h'->Gp .next { s'' with heap:=h' }) E s';rw[be e]at h;refine aH (nf pool R h1 h5 h6 h4 hl') λG'' d e' R'' rv hC=>?_;rw[be e']at h;rw[hst]at h;have B'':=B.on R'';have Cl:C∉ownOf env:=λq=>PS ((P7 q).elim (λq=>q ▸ F.there) λq=>F.ex _ q) λo e=>dt (h2.symm.trans e);refine PT (λc1 c2=>?_) (hC C h3);refine wpAny_assign_Name (ei (xt:=xt) B''.F B''.I rv hv λs2 R2 F2=>?_);refine⟨m,kM (λo ho=>let ⟨sl,q,_⟩:=R2.keep C o ho (c2 h8) Cl;⟨sl,q⟩) hns,λh'' hs''=>?_⟩;have R4:Rn w Gk xt (ownOf env) Go Gn G'' { s2 with heap:=h'' }:=eZ (B''.R.trans R2) s2.toks (λb o hb e=>(hs''.2 b (λq=>hb (q ▸ .head _))).trans e) (B.R.fresh _ h2) (c1 h7) (c2 h8);have R5:Rn w Gk xt (ownOf env) G s G'' { s2 with heap:=h'' }:=eZ (R''.ev.trans R2) s2.toks (λb o hb e=>(hs''.2 b (λq=>hb (q ▸ .head _))).trans e) h2 (c1 h7) (c2 h8);exact hN _ G'' _ R5 ⟨B.F₀,R4,F.but F2 h2 λb hb=>hs''.2 b hb⟩ h
 have K:=ot (pos:=cpos) (pos':=firstIterPos gens cpos) SR B.I F hsc (ba h.nst) kn λs' G' x e R X=>B.excd h e (R.weak dj) X;exact wpAny_bind (wm K λ_ s' q=>wpAny_pure (wpAny_pure q))
theorem tc{a:Addr}{v1 v2:Value}{y z:Str}{stores:List (Value->Sem Unit)}(hh:A.handled=none)(ht:IsTup s.heap a [v1,v2].toArray)
  (h:∀ h',Heap.ExtBut s.heap.objs.size s.heap h'->wpAny (model pw w) A (storeName env z v2) (λ_ s2=>wpAny (model pw w) A (storeName env y v1) (λ_ s3=>Gp .next s3) E s2) E { s with heap:=h' }) :
  wpAny (model pw w) A (assignStores env (.ref a) (some [y,z]) stores) Gp E s:=by
 refine wpAny_bind (wpAny_rule ?_);have e:([y,z]:List Str).length=[v1,v2].toArray.size:=rfl;rw[e];refine wpAny_bind (wpAny_unpackItems_tuple hh ht λh' he=>?_);refine wpAny_bind ?_;dsimp only[assignInOrder];refine wpAny_bind (wpAny_holding (wpAny_bindName (wm (h h' he) λ_ s2 h2=>?_)));delta assignInOrder;exact wpAny_bind (wpAny_holding (wpAny_bindName (wm h2 λ_ s3 h3=>wpAny_pure (wpAny_pure h3))))
theorem AQ{y z:Str}{py pz:Pos}{ds:List D}{f:af->M α}{σ:St}(h:bnd (bc sc fr [.Name y py,.Name z pz] ds) f σ≠.stuck):∃ d1 d2,ds=[d1,d2]/\gM sc y=true/\gM sc z=true/\bc sc fr [.Name y py,.Name z pz] ds=ret (aj (aj fr y d1) z d2):=by
 match ds,h with
 | [],h=>exact absurd rfl h
 | d1::ds,h=>
  have e1:bc sc fr [.Name y py,.Name z pz] (d1::ds)=bnd (aY sc fr y d1) λfr'=>bc sc fr' [.Name z pz] ds:=rfl;rw[e1]at h ⊢;rw[aS]at h;refine PT (λvy sy=>?_) (ej h);rw[sy]at h ⊢;have h:bnd (bc sc (aj fr y d1) [.Name z pz] ds) f σ≠.stuck:=h
  match ds,h with
  | [],h=>exact absurd rfl h
  | d2::ds,h=>
   have e2:bc sc (aj fr y d1) [.Name z pz] (d2::ds)=bnd (aY sc (aj fr y d1) z d2) λfr'=>bc sc fr' [] ds:=rfl;rw[e2,aS]at h;refine PT (λvz sz=>?_) (ej h);replace h:=(sz) ▸ h
   match ds,h with
   | [],h=>exact⟨d1,d2,rfl,vy,vz,by show bnd (ret (aj fr y d1)) (λfr'=>bc sc fr' [.Name z pz] [d2])=_;show bc sc (aj fr y d1) [.Name z pz] [d2]=_;refine PV e2 ?_;rw[sz];rfl⟩
   | _::_,h=>exact absurd rfl h
theorem AR{r:Rc}{sc:Sc}{fr:af}{d:D}{t:Expr}{σ:St}{env:Env}(h:gm r sc fr d t σ≠.stuck):assignEach [t] env=[(false,assign t env)]:=by
 induction t using Expr.casesOn with
 | Starred=>exact absurd rfl h
 | _=>rfl
theorem qq(X:Cx w Gk mg mb)(SR:bq w Gk H8 r){t e:Expr}{pos:Pos}(B:Bs w Gk H8 xt A env L sc Go Gn G s fr)
  (h:Ok w Gk xt P (ownOf env) L Go Gn (bnd (if sD t e=true then bnd (zU r sc fr (xM t) e) λv=>bnd (gm r sc fr v t) λfr'=>k fr' else stuck) f G.σ) Q E)
  (hN:∀ s' G' fr',Rn w Gk xt (ownOf env) G s G' s'->Bs w Gk H8 xt A env L sc Go Gn G' s' fr'->Ok w Gk xt P (ownOf env) L Go Gn (bnd (k fr') f G'.σ) Q E->Gp .next s'):wpAny (model pw w) A (exec (.Assign [t] e pos) env) Gp E s:=by
 have hp:=(Ok.iteB h).1;replace h:=(Ok.iteB h).2;simp only[aS]at h;refine ao (s_ (value:=e) (t:=t) (line:=pos.line) (env:=env)) λb hb hb'=>?_
 induction b with
 | true=>
  rcases hb' rfl with⟨elt,gens,scope,cpos,y,py,rfl,rfl,hy⟩ | ⟨a,b,c,d,rfl⟩ | ⟨a,b,c,d,e,rfl⟩
  ·exact qp SR B hy hb h hN
  ·exact(h:False).elim
  ·exact(h:False).elim
 | false=>
  simp only[arm_exec_Assign];have hb2:swapsWithSole [t] e pos.line env=pure false:=by unfold swapsWithSole;exact hb
  rw[hb2];refine wpAny_bind (wpAny_standAt (wpAny_bind (wpAny_pure ?_)));rw[PX (by decide)];refine wpAny_bind (CW SR B.I B.F (ba h.nst) (λv Gm Gl d GM R Gv rv=>?_) λx s' G' GM R X'=>B.excd h GM (R.weak dj) X');replace h:=(be GM) ▸ h;have GI:=B.on R;have plain:swappedStores [t] e env=pure none->wpAny (model pw w) A (do let sw <-swappedStores [t] e env;assignStores env v sw ((assignEach [t] env).map (·.2))) Gp E Gm:=λhs=>by refine wpAny_bind (wpAny_of_eq hs ?_);have noStar:assignEach [t] env=[(false,assign t env)]:=AR (ba h.nst);rw[noStar];show wpAny _ A (do assign t env v;pure Flow.next) _ _ _;exact wpAny_bind (s9 X SR GI rv h λs2 G2 bS R2 B2 h2=>wpAny_pure (hN s2 G2 bS (R.ev.trans R2) B2 h2))
  by_cases hq:CX t e
  ·refine bp hq λts kk p vs z3=>?_;refine aI z3 λk' p' z1 z2=>?_;obtain rfl:=z1;obtain rfl:=z2;refine bp (wq hp) λy py z pz z6=>?_;refine aH z6 λa b z4 z5 hxy hc=>?_;obtain rfl:=z4;obtain rfl:=z5;rcases ox (px:=py) (py:=pz) (k:=kk) (k':=k') (p:=p) (p':=p') (env:=env) hxy hc with hs | hs
   ·exact plain hs
   ·refine wpAny_bind (wpAny_of_eq hs ?_);refine pK (λm=>Ok w Gk xt P (ownOf env) L Go Gn (bnd m (λfr'=>bnd (k fr') f) Gl.σ) Q E) h (λds z0 h0=>?_) False.elim;clear h plain;subst z0;have h:=h0;refine ar rv.inv λ_ _ z7 hb hl=>?_;rw[z7];refine aH (AQ h.nst) λd1 d2 z8 vy vz eu=>?_;obtain rfl:=z8;replace h:=(eu) ▸ h;refine ar (B6 hl) λv1 v2 z9 r1 r2=>?_;obtain rfl:=z9;refine tc Gv.handled (hb.tup R.inv.stays) λh' he=>?_;have R2:Rn w Gk true [] Gl Gm Gl { Gm with heap:=h' }:=dA R.inv Gm.toks (g9 he);have B2:=GI.on R2;refine ei (xt:=xt) B2.F B2.I r2 vz λs3 R3 F3=>ei (xt:=xt) F3 R3.inv r1 vy λs4 R4 F4=>?_;refine hN s4 Gl (aj (aj fr y d1) z d2) (((R.trans R2).ev.trans R3).trans R4) ⟨B.F₀,(B2.R.trans R3).trans R4,F4.less λu e hu=>?_⟩ h;rw[bm,bm]at hu ⊢
    by_cases q1:y=u
    ·subst q1;rw[PX (λq=>by subst q;simp at hxy)]at hu;rw[PW rfl]at hu ⊢;exact hu
    ·rw[PX q1]at hu ⊢;exact hu
  ·exact plain (ow hq λ⟨ts,p,vs,k',p',e1,e2⟩=>by subst e1;exact(h:False).elim)
end
end
section
variable{w:World}{Gk:Heap}{mg mb:Str->Option Value}{xt:Bool}
section
variable{H8:Nat}{A:Around}{env:Env}{L:Addr}{sc:Sc}{fr:af}{Go G G':Gh}{Gn s s':Shared}{E E':Value->Shared->Prop}{r:Rc}{x:Sx}{α β:Type}{P:Gh->β->α->Prop}{Q:β->Shared->Prop}{k:K'}{f:Flow'->M α}{Gp:Flow->Shared->Prop}{Ib:List Addr}
theorem CZ{y:Value}(F:Fm w H8 A G s.heap env L sc fr)(R:Rn w Gk false Ib G s G' s')(X:ExcAt w s.heap G' s'.heap L y)
  (k:∀ s'',Rn w Gk false Ib G s G' s''->ExcAt w s.heap G' s''.heap L y->kT y s''.heap->E y s''):notedBy (model pw w) A env E y s':=by
 refine ar F.stk λGF outer f1 f2 f3=>?_;unfold notedBy;exact(eS (env:=GF) (env':=env) (F.frame.trans f2.symm)) ▸ (iO f1 f2 R (f3.rn R) X λs'' ks R' S' X' ⟨e,oe,vs,T,oT,ts,n1,n2,n3,n4,_⟩=>k s'' R' X' ⟨e,oe,vs,T,n1,n2,n3,n4⟩)
theorem C1{y:Value}(F:Fm w H8 A G s.heap env L sc fr)(R:Rn w Gk false Ib G s G' s')(X:ExcAt w s.heap G' s'.heap L y)(N:kT y s'.heap)
  (k:∀ s'',Rn w Gk false Ib G s G' s''->ExcAt w s.heap G' s''.heap L y->E y s''):cameBackBy (model pw w) A env E y s':=by
 refine bp N λe oe vs T z2=>?_;refine cM z2 λz1 n1 n2 n3=>?_;obtain rfl:=z1;refine ar F.stk λGF outer f1 f2 f3=>?_;dsimp only[cameBackBy];refine wpAny_bind (wpAny_field n1 n2 n3 ?_);exact eR (.inr F.frame) R (f3.rn R) X λs'' ks R' S' X' _=>k s'' R' X'
abbrev ew(w:World)(A:Around)(env:Env)(E:Value->Shared->Prop):Value->Shared->Prop:=notedBy (model pw w) A env λe s'=>cameBackBy (model pw w) A env E e s'
theorem Ok.both{t:R α}(F:Fm w H8 A G s.heap env L sc fr)(h:Ok w Gk xt P Ib L G s t Q E):Ok w Gk xt P Ib L G s t Q (λy s'=>E y s'/\ew w A env E y s'):=by
 induction t with
 | ok d σ'=>exact h
 | stuck=>exact h
 | exc σ'=>intro y s' G' e R X;exact⟨h y s' G' e R X,CZ F R X λs2 R2 X2 N2=>C1 F R2 X2 N2 λs3 R3 X3=>h y s3 G' e R3 X3⟩
theorem Ok.monoE{t:R α}(h:Ok w Gk xt P Ib L G s t Q E)(k:∀ y s',E y s'->E' y s'):Ok w Gk xt P Ib L G s t Q E':=by
 induction t with
 | ok d σ'=>exact h
 | stuck=>exact h
 | exc σ'=>exact λy s' G' e R X=>k _ _ (h y s' G' e R X)
theorem ED{γ:Type}{m:Sem γ}{Q Q':γ->Shared->Prop}{E E':Value->Shared->Prop}(h:wpAny (model pw w) A m Q E s)(k:∀ a s',Q a s'->Q' a s')(kE:∀ a s',E a s'->E' a s'):wpAny (model pw w) A m Q' E' s:=wpAny_mono h k kE
theorem AS(SR:bq w Gk H8 r){y:Str}{npos pos:Pos}{op:Operator}{e:Expr}(B:Bs w Gk H8 xt A env L sc Go Gn G s fr)
  (h:Ok w Gk xt P (ownOf env) L Go Gn (bnd (if sc.lookup y=some .local/\xN op=true then bnd (ac (aa fr y)) λold=>bnd (r.ev sc fr e) λv=>uS op old v λn=>bnd (aY sc fr y n) λfr'=>k fr' else stuck) f G.σ) Q E)
  (hN:∀ s' G' fr',Rn w Gk xt (ownOf env) G s G' s'->Bs w Gk H8 xt A env L sc Go Gn G' s' fr'->Ok w Gk xt P (ownOf env) L Go Gn (bnd (k fr') f G'.σ) Q E->Gp .next s'):wpAny (model pw w) A (exec (.AugAssign (.Name y npos) op e pos) env) Gp E s:=by
 have F:=B.F;refine PT (λhc h=>?_) (Ok.iteB h);rw[aS]at h;refine ao (cg h) λold ho h=>?_;rw[aS]at h;refine ao F.loc λm hns hm=>?_;refine ao (hm y old hc.1 ho) λva e1 ra=>?_;have kk:env.kindOf y=some .local:=by
  rcases F.names y with q | ⟨q,_⟩
  ·refine PV q ?_;exact hc.1
  ·replace q:=hc.1 ▸ q;exact absurd q (by decide)
 refine wpAny_AugAssign_Name (wpAny_loadName_local F.kind kk hns e1 (s8 SR B h λvb Gm Gl d R GI rb Gq=>?_));refine kj (λm=>Ok w Gk xt P (ownOf env) L Go Gn (bnd m f Gl.σ) Q E) Gq (λa z Gw=>?_) False.elim;clear Gq;subst z;refine kj (λm=>Ok w Gk xt P (ownOf env) L Go Gn (bnd m f Gl.σ) Q E) Gw (λb z Gq=>?_) False.elim;clear Gw;subst z;simp only[aS]at Gq;refine EZ (xt:=true) (Ib:=[]) (Lf:=L) hc.2 GI.I (R.rep ra) rb ?_
 induction hm2:ag op (.int a) (.int b) Gl.σ with
 | ok n σ'=>intro v s' G' e R' rv;subst e;rw[be hm2]at Gq;exact kb (GI.on R') rv Gq λs' fr' R2 B' h'=>hN s' G' fr' ((R.trans R').ev.trans R2) B' h'
 | exc σ'=>intro z s' G' e R' X';subst e;exact GI.excd Gq hm2 (R'.weak dj) X'
 | stuck=>exact absurd hm2 (ba Gq.nst)
theorem wt(SR:bq w Gk H8 r)(SX:kW w Gk H8 xt x){t:Expr}{b:List Stmt}{pos:Pos}(n:Nat)(B:Bs w Gk H8 xt A env L sc Go Gn G s fr)
  (h:Ok w Gk xt P (ownOf env) L Go Gn (bnd (ay (gZ x sc b) (λfr=>r.tst sc fr t) n fr k) f G.σ) Q E)
  (hN:∀ s' G' fr',Rn w Gk xt (ownOf env) G s G' s'->Bs w Gk H8 xt A env L sc Go Gn G' s' fr'->Ok w Gk xt P (ownOf env) L Go Gn (bnd (k fr') f G'.σ) Q E->Gp .next s')
  (hR:∀ v d s' G',Rn w Gk xt (ownOf env) Go Gn G' s'->Rep w G'.B G'.ρ v d->Ok w Gk xt P (ownOf env) L Go Gn (f (.ret d) G'.σ) Q E->Gp (.ret v) s'):wpAny (model pw w) A (exec (.While t b [] pos) env) Gp E s:=by
 refine PS B.F₀ λHt F₀=>?_;refine wpAny_While (codeAny_whileLoop (λm s'=>∃ G' fr',Rn w Gk xt (ownOf env) G s G' s'/\Bs w Gk H8 xt A env L sc Go Gn G' s' fr'/\Ok w Gk xt P (ownOf env) L Go Gn (bnd (ay (gZ x sc b) (λfr=>r.tst sc fr t) m fr' k) f G'.σ) Q E) ?_ n ⟨G,fr,.refl B.I,B,h⟩)
 rintro m Gm ⟨Gl,GP,GC,GI,Gq⟩
 induction m using Nat.casesOn with
 | zero=>exact(Gq:False).elim
 | succ m=>
  have Gq:Ok w Gk xt P (ownOf env) L Go Gn (bnd (bnd (r.tst sc GP t) λb'=>if b' then gZ x sc b GP λfr'=>ay (gZ x sc b) (λfr=>r.tst sc fr t) m fr' k else k GP) f Gl.σ) Q E:=Gq;rw[aS]at Gq;refine ED (B9 SR GI (Gq.both F₀) λc Gs Gy Gu GX Gw=>?_) (λa s' q=>q) λa s' q=>q.2
  induction c with
  | true=>
   refine ED (e8 SX GX Gw (Gp:=λfl Gz=>match fl with | .next | .cont=>∃ m',m'<m+1/\∃ G' fr',Rn w Gk xt (ownOf env) G s G' Gz/\Bs w Gk H8 xt A env L sc Go Gn G' Gz fr'/\Ok w Gk xt P (ownOf env) L Go Gn (bnd (ay (gZ x sc b) (λfr=>r.tst sc fr t) m' fr' k) f G'.σ) Q E | .brk=>Gp .next Gz | .ret v=>Gp (.ret v) Gz) (λGz GG G4 GB HN G0=>?_) λv d Gz GG GB rv G0=>?_) (λa s' q=>q) λa s' q=>q.2
   ·exact⟨m,Nat.lt_succ_self m,GG,G4,(GC.trans Gu.ev).trans GB,HN,G0.monoE λy s' q=>q.1⟩
   ·exact hR v d Gz GG GB rv (G0.monoE λy s' q=>q.1)
  | false=>exact wpAny_execs_nil (hN Gs Gy GP (GC.trans Gu.ev) GX (Gw.monoE λy s' q=>q.1))
theorem Bs.unown(B:Bs w Gk H8 xt A env L sc Go Gn G s fr){it:Addr}(h:s.heap.get? it=none):it∉ownOf env:=λq=>PS ((P7 q).elim (λq=>q ▸ B.F.there) λq=>B.F.ex _ q) λo e=>dt (h.symm.trans e)
structure LS(w:World)(Gk:Heap)(H8:Nat)(xt:Bool)(A:Around)(env:Env)(L:Addr)(sc:Sc)(Go:Gh)(Gn:Shared)(G:Gh)(s:Shared)(it:Addr)(J:Gh->Heap->Prop)(G':Gh)(s':Shared)(fr':af):Prop where
 R:Rn w Gk xt (ownOf env) G s G' s'
 B:Bs w Gk H8 xt A env L sc Go Gn G' s' fr'
 j:J G' s'.heap
 j1:G'.B it=none
 j2:it∉G'.ρ
 i1:s.heap.get? it=none
section
variable{it:Addr}{J J':Gh->Heap->Prop}{Gl Gy:Gh}{Gm Gs:Shared}{GP G5:af}
theorem LS.un(S:LS w Gk H8 xt A env L sc Go Gn G s it J Gl Gm GP)(B:Bs w Gk H8 xt A env L sc Go Gn G s fr):it∉ownOf env:=B.unown S.i1
theorem LS.but(S:LS w Gk H8 xt A env L sc Go Gn G s it J Gl Gm GP)(B:Bs w Gk H8 xt A env L sc Go Gn G s fr){h':Heap}{tk:Nat}{oi:Obj}{ws:Array Value}(ho:Gm.heap.get? it=some oi)(hd:oi.data=.fields ws)(hk:∀ b o,b∉[it]->Gm.heap.get? b=some o->h'.get? b=some o)(j:J' Gl h') :
  LS w Gk H8 xt A env L sc Go Gn G s it J' Gl { Gm with heap:=h',toks:=tk } GP:=
 ⟨eZ S.R tk hk S.i1 S.j1 S.j2,⟨B.F₀,eZ S.B.R tk hk (B.R.fresh _ S.i1) S.j1 S.j2,S.B.F.kept ho hd hk λq=>S.un B (.tail _ q)⟩,j,S.j1,S.j2,S.i1⟩
theorem LS.to(S:LS w Gk H8 xt A env L sc Go Gn G s it J Gl Gm GP)(R:Rn w Gk xt (ownOf env) Gl Gm Gy Gs)(B:Bs w Gk H8 xt A env L sc Go Gn Gy Gs G5)(ho:∃ o,Gm.heap.get? it=some o)(j:J' Gy Gs.heap):LS w Gk H8 xt A env L sc Go Gn G s it J' Gy Gs G5:=
 PS ho λo e=>PT (λu1 u2=>⟨S.R.trans R,B,j,u1,u2,S.i1⟩) (bJ R e S.j1 S.j2)
theorem AT(SX:kW w Gk H8 xt x){T:Type}{μ:T->Nat}{J:T->Gh->Heap->Prop}{GO:T->K'}{target:Expr}{b:List Stmt}{I:Nat->Shared->Prop}(B:Bs w Gk H8 xt A env L sc Go Gn G s fr)
  (mk:∀ {t G' s' fr'},LS w Gk H8 xt A env L sc Go Gn G s it (J t) G' s' fr'->Ok w Gk xt P (ownOf env) L Go Gn (bnd (GO t fr') f G'.σ) Q E->I (μ t) s')
  (el:∀ {m s'},I m s'->∃ t G' fr',m=μ t/\LS w Gk H8 xt A env L sc Go Gn G s it (J t) G' s' fr'/\Ok w Gk xt P (ownOf env) L Go Gn (bnd (GO t fr') f G'.σ) Q E)
  (hj:∀ {t G' s' G'' s''},Rn w Gk xt (ownOf env) G' s' G'' s''->it∉G'.ρ->J t G' s'.heap->J t G'' s''.heap/\∃ o,s'.heap.get? it=some o)
  (step:∀ t G' s' fr',LS w Gk H8 xt A env L sc Go Gn G s it (J t) G' s' fr'->Ok w Gk xt P (ownOf env) L Go Gn (bnd (GO t fr') f G'.σ) Q (λy s'=>E y s'/\ew w A env E y s')->wpAny (model pw w) A (pyNext (.ref it)) (λr Gm=>match r with
   | none=>Gp .next Gm
   | some v=>wpAny (model pw w) A (letOwnedTupleGo target (.ref it) v) (λ_ Hu=>wpAny (model pw w) A (assign target env v) (λ_ Gs=>∃ t' Gy G5,μ t'<μ t/\LS w Gk H8 xt A env L sc Go Gn G s it (J t') Gy Gs G5/\Ok w Gk xt P (ownOf env) L Go Gn (bnd (gZ x sc b G5 (GO t')) f Gy.σ) Q (λy s'=>E y s'/\ew w A env E y s')) (ew w A env E) Hu) (ew w A env E) Gm) (ew w A env E) s')
  (hR:∀ v d s' G',Rn w Gk xt (ownOf env) Go Gn G' s'->Rep w G'.B G'.ρ v d->Ok w Gk xt P (ownOf env) L Go Gn (f (.ret d) G'.σ) Q E->Gp (.ret v) s') (m:Nat) (h:I m Gs) :
  codeAny (model pw w) A (.forLoop target (.ref it) b [] env) (λr s'=>match r with | .ok f=>Gp f s' | .error e=>cameBackBy (model pw w) A env E e s') Gs:=by
 refine PS B.F₀ λHt F₀=>?_;refine codeAny_forLoop_any I (λm Gm hI=>?_) m h;refine bz (el hI) λt Gl GP e HO Gq=>?_;refine wm (step t Gl Gm GP HO (Gq.both F₀)) λr Gs q=>?_
 induction r with
 | none=>exact wpAny_execs_nil q
 | some v=>refine wm q λ_ Gz q=>wm q λ_ GZ q=>?_;refine bz q λt' Gy G5 lt Hk Gw=>?_;refine ED (e8 SX Hk.B Gw (Gp:=λfl Gz=>match fl with | .next | .cont=>∃ m',m'<m/\I m' Gz | .brk=>Gp .next Gz | .ret v=>Gp (.ret v) Gz) (λGL GN Hc GH Hv Ha=>?_) λv d GL GN GH rv Ha=>hR v d GL GN GH rv (Ha.monoE λy s' q=>q.1)) (λa s' q=>q) λa s' q=>q.2;refine PT (λj o=>?_) (hj GH Hk.j2 Hk.j);exact⟨μ t',e ▸ lt,mk (Hk.to GH Hv o j) (Ha.monoE λy s' q=>q.1)⟩
theorem yE(SX:kW w Gk H8 xt x){T:Type}{μ:T->Nat}{J:T->Gh->Heap->Prop}{GO:T->K'}{target:Expr}{b:List Stmt}(B:Bs w Gk H8 xt A env L sc Go Gn G s fr)
  (hj:∀ {t G' s' G'' s''},Rn w Gk xt (ownOf env) G' s' G'' s''->it∉G'.ρ->J t G' s'.heap->J t G'' s''.heap/\∃ o,s'.heap.get? it=some o)
  (step:∀ t G' s' fr',LS w Gk H8 xt A env L sc Go Gn G s it (J t) G' s' fr'->Ok w Gk xt P (ownOf env) L Go Gn (bnd (GO t fr') f G'.σ) Q (λy s'=>E y s'/\ew w A env E y s')->wpAny (model pw w) A (pyNext (.ref it)) (λr Gm=>match r with
   | none=>Gp .next Gm
   | some v=>wpAny (model pw w) A (letOwnedTupleGo target (.ref it) v) (λ_ Hu=>wpAny (model pw w) A (assign target env v) (λ_ Gs=>∃ t' Gy G5,μ t'<μ t/\LS w Gk H8 xt A env L sc Go Gn G s it (J t') Gy Gs G5/\Ok w Gk xt P (ownOf env) L Go Gn (bnd (gZ x sc b G5 (GO t')) f Gy.σ) Q (λy s'=>E y s'/\ew w A env E y s')) (ew w A env E) Hu) (ew w A env E) Gm) (ew w A env E) s')
  (hR:∀ v d s' G',Rn w Gk xt (ownOf env) Go Gn G' s'->Rep w G'.B G'.ρ v d->Ok w Gk xt P (ownOf env) L Go Gn (f (.ret d) G'.σ) Q E->Gp (.ret v) s') {t:T} (S:LS w Gk H8 xt A env L sc Go Gn G s it (J t) Gl Gs GP) (h:Ok w Gk xt P (ownOf env) L Go Gn (bnd (GO t GP) f Gl.σ) Q E) :
  codeAny (model pw w) A (.forLoop target (.ref it) b [] env) (λr s'=>match r with | .ok f=>Gp f s' | .error e=>cameBackBy (model pw w) A env E e s') Gs:=
 AT (J:=J) (GO:=GO) (μ:=μ) SX B (λ{t G' s' fr'} S h=>⟨t,G',fr',rfl,S,h⟩) id hj step hR (μ t) ⟨t,Gl,GP,rfl,S,h⟩
end
theorem AU(X:Cx w Gk mg mb)(SR:bq w Gk H8 r)(SX:kW w Gk H8 xt x){y:Str}{py:Pos}{ie:Expr}{b:List Stmt}{pos:Pos}(hset:kq ie=false)(B:Bs w Gk H8 xt A env L sc Go Gn G s fr){src:D}{v:Value}(rv:Rep w G.B G.ρ v src)
  (h:Ok w Gk xt P (ownOf env) L Go Gn (bnd (a_ src) (λitems=>bnd (aE (gZ x sc b) (λfr d=>aY sc fr y d) items fr k) f) G.σ) Q E)
  (hN:∀ s' G' fr',Rn w Gk xt (ownOf env) G s G' s'->Bs w Gk H8 xt A env L sc Go Gn G' s' fr'->Ok w Gk xt P (ownOf env) L Go Gn (bnd (k fr') f G'.σ) Q E->Gp .next s')
  (hR:∀ v d s' G',Rn w Gk xt (ownOf env) Go Gn G' s'->Rep w G'.B G'.ρ v d->Ok w Gk xt P (ownOf env) L Go Gn (f (.ret d) G'.σ) Q E->Gp (.ret v) s'):wpAny (model pw w) A (pyIter v) (λit Gs=>codeAny (model pw w) A (.forLoop (.Name y py) it b [] env) (λr s'=>match r with | .ok f=>Gp f s' | .error e=>cameBackBy (model pw w) A env E e s') Gs) E s:=by
 refine oq B.I rv (ba h.nst) λit Gs items e Gu i1 i2 i3 hit=>?_;rw[be e]at h;have iown:=B.unown i1;refine yE SX (μ:=List.length) (J:=λitems G' h=>ItAt w G' h it items) (GO:=λitems fr'=>aE (gZ x sc b) (λfr d=>aY sc fr y d) items fr' k) B (λ{t G' s' G'' s''} R n j=>⟨j.rn R n iown,ao j.obj λo e _=>⟨o,e⟩⟩) (λHP GG Gz G4 S GD=>?_) hR ⟨Gu.ev,B.on Gu,hit,i2,i3,i1⟩ h;refine zV S.j.obj λoi ho ws hod=>?_
 induction HP using List.casesOn with
 | nil=>exact qk S.B.F.rm S.B.I S.j S.j1 S.j2 λh' tk hk=>hN _ GG G4 (S.but B ho hod hk (J':=λ_ _=>True) trivial).R (S.but B ho hod hk (J':=λ_ _=>True) trivial).B (GD.monoE λy s' q=>q.1)
 | cons d ds=>refine mY S.B.F.rm S.B.I S.j S.j1 S.j2 λv h' tk rv hk hit'=>wpAny_pure ?_;have GQ:=S.but B ho hod hk (tk:=tk) (J':=λG' h=>ItAt w G' h it ds) hit';have G0:Ok w Gk xt P (ownOf env) L Go Gn (bnd (aY sc G4 y d) (λfr'=>bnd (gZ x sc b fr' λfr''=>aE (gZ x sc b) (λfr d=>aY sc fr y d) ds fr'' k) f) GG.σ) Q (λy s'=>E y s'/\ew w A env E y s'):=congrFun (aS (aY sc G4 y d) (λfr'=>gZ x sc b fr' λfr''=>aE (gZ x sc b) (λfr d=>aY sc fr y d) ds fr'' k) f) GG.σ ▸ GD;exact wpAny_assign_Name (kb GQ.B rv G0 λGL Hc GH Hv Ha=>⟨ds,GG,Hc,Nat.lt_succ_self _,GQ.to GH Hv (ao GQ.j.obj λo e _=>⟨o,e⟩) (GQ.j.rn GH GQ.j2 iown),Ha⟩)
end
end
section
variable{w:World}{Gk:Heap}{mg mb:Str->Option Value}{xt:Bool}
theorem RepS.get{B:Addr->Option Obj}{ρ:List Addr}:∀ {kvs:List (Str×Value)} {l:List (Str×D)},RepS w B ρ kvs l->∀ {i:Nat} {k:Str} {v:Value},kvs[i]?=some (k,v)->∃ d,l[i]?=some (k,d)/\Rep w B ρ v d:=by
 intro kvs l r;show ∀ (i:Nat) (k:Str) (v:Value),kvs[i]?=some (k,v)->∃ d,l[i]?=some (k,d)/\Rep w B ρ v d;refine RepS.ind ?_ ?_ r
 ·intro i k v e;exact dt e
 ·intro _ _ _ _ _ a b ih;intro i k v e
  induction i using Nat.casesOn with
  | zero=>cases e;exact⟨_,rfl,a⟩
  | succ i=>exact ih _ _ _ (by simpa using e)
structure ItmAt(w:World)(G:Gh)(h:Heap)(it d:Addr)(o:Obj)(kvs:List (Str×Value))(l:List (Str×D))(ep i:Nat):Prop where
 B:G.B d=some o
 at':∀ h':Heap,h'.get? d=some o->h'.DictAt (sk w) d kvs ep
 rep:RepS w G.B G.ρ kvs l
 le:i<=kvs.length
 it:∃ ok ov,IsItemIter h it d i kvs.length ep ok ov
section
variable{H8:Nat}{A:Around}{env:Env}{L:Addr}{sc:Sc}{fr:af}{Go G G':Gh}{Gn s s':Shared}{E E':Value->Shared->Prop}{r:Rc}{x:Sx}{α β:Type}{P:Gh->β->α->Prop}{Q:β->Shared->Prop}{k:K'}{f:Flow'->M α}{Gp:Flow->Shared->Prop}{Ib:List Addr}
theorem ItmAt.rn{it d:Addr}{o:Obj}{kvs:List (Str×Value)}{l:List (Str×D)}{ep i:Nat}(x:ItmAt w G s.heap it d o kvs l ep i)(R:Rn w Gk xt Ib G s G' s')(h1:it∉G.ρ)(h2:it∉Ib):ItmAt w G' s'.heap it d o kvs l ep i:=by refine gE x.it λok ov hi=>?_;refine⟨R.B _ _ x.B,x.at',x.rep.mono R.B (let ⟨m,e,_⟩:=R.ρ;⟨m,e⟩),x.le,ok,ov, ?_⟩;refine ao (R.keep it _ hi h1 h2) λsl q z=>?_;rw[z (.inr ⟨_,rfl⟩)]at q;exact q
theorem qr{B:Addr->Option Obj}{ρ:List Addr}{v:Value}{l:List (Str×D)}(rv:Rep w B ρ v (.items l)) :
  ∃ rr a kvs od ep,v=.ref rr/\B rr=some { cls:=.type "dict_items",data:=.fields #[.ref a] }/\B a=some od/\(∀ h':Heap,h'.get? a=some od->h'.DictAt (sk w) a kvs ep)/\RepS w B ρ kvs l:=by
 refine ar rv.inv λrr a e hB rd=>?_;refine aH rd.inv λb kvs e' ns z1 hr=>?_;obtain⟨od,es,ep,hod,hx,hdd,hks,hps,hnd⟩:=z1;have e':a=b:=by injection e'
 rw[<-e']at hod;refine⟨rr,a,kvs,od,ep,e,hB,hod,λh' g=>?_,hr⟩;rw[e']at g ⊢;exact⟨od,es,g,hx,hdd,hks,hps,hnd⟩
noncomputable def qs(sc:Sc)(ts:List Expr)(fr:af)(d:D):M af:=asTup d (bc sc fr ts)
abbrev qt(x:Str×D):D:=.tup [.str x.1,x.2]
theorem wu{α:Type}{l:List α}{i:Nat}{a:α}(h:l[i]?=some a):l.drop i=a::l.drop (i+1):=PS (List.getElem?_eq_some_iff.mp h) λhi e=>(List.drop_eq_getElem_cons hi).trans (congrArg (· :: l.drop (i+1)) e)
theorem yF(SX:kW w Gk H8 xt x){ts:List Expr}{tk':Nat}{tpos:Pos}{b:List Stmt}(B:Bs w Gk H8 xt A env L sc Go Gn G s fr){l:List (Str×D)}{it a:Addr}{od:Obj}{kvs:List (Str×Value)}{ep:Nat}{Gs:Shared}
  (Gu:Rn w Gk true [] G s G Gs) (J:ItmAt w G Gs.heap it a od kvs l ep 0) (i1:s.heap.get? it=none) (i2:G.B it=none) (i3:it∉G.ρ)
  (h:Ok w Gk xt P (ownOf env) L Go Gn (bnd (aE (gZ x sc b) (qs sc ts) (l.map qt) fr k) f G.σ) Q E)
  (hN:∀ s' G' fr',Rn w Gk xt (ownOf env) G s G' s'->Bs w Gk H8 xt A env L sc Go Gn G' s' fr'->Ok w Gk xt P (ownOf env) L Go Gn (bnd (k fr') f G'.σ) Q E->Gp .next s')
  (hR:∀ v d s' G',Rn w Gk xt (ownOf env) Go Gn G' s'->Rep w G'.B G'.ρ v d->Ok w Gk xt P (ownOf env) L Go Gn (f (.ret d) G'.σ) Q E->Gp (.ret v) s'):codeAny (model pw w) A (.forLoop (.Tuple ts tk' tpos) (.ref it) b [] env) (λr s'=>match r with | .ok f=>Gp f s' | .error e=>cameBackBy (model pw w) A env E e s') Gs:=by
 have iown:=B.unown i1;refine yE SX (μ:=λi=>kvs.length - i) (J:=λi G' h=>ItmAt w G' h it a od kvs l ep i) (GO:=λi fr'=>aE (gZ x sc b) (qs sc ts) ((l.drop i).map qt) fr' k) B (λ{t G' s' G'' s''} R n j=>⟨j.rn R n iown,gE j.it λ_ _ e=>⟨_,e⟩⟩) (λi GG Gz G4 S GD=>?_) hR (t:=0) ⟨Gu.ev,B.on Gu,J,i2,i3,i1⟩ h;refine gE S.j.it λok ov G6=>?_;have len:=S.j.rep.length;have dict:=S.j.at' _ (S.B.I.stays _ _ S.j.B);refine PU (Nat.lt_or_ge i kvs.length) (λhi=>?_) λhi=>?_
 ·have hv:=List.getElem?_eq_getElem hi;generalize kvs[i]=kv at hv;refine ao (S.j.rep.get hv) λd hl rvv=>?_;have S':=wu hl;refine wpAny_pyNext_items_item (knd:=sk w) G6 dict hv λkey Gq hkey heo HQ H2 HR=>?_;refine wpAny_letOwnedTupleGo_items heo λGw HS Hl=>?_;replace Hl:Heap.SameBut it Gq Gw:=Hl;have hTi:Gz.heap.objs.size≠it:=λq=>by have:=Heap.lt_size G6;rw[q]at this;exact absurd this (Nat.lt_irrefl _)
  have HT:Gw.IsTuple Gz.heap.objs.size #[key,kv.2]:=⟨_,(Hl.2 _ hTi).trans HQ,rfl,_,rfl⟩;have GQ:=S.but B (tk:=Gz.toks) G6 rfl (λb o hb e=>(Hl.2 b (λq=>hb (q ▸ .head _))).trans (HR b o (λq=>hb (q ▸ .head _)) e)) (J':=λG' h=>ItmAt w G' h it a od kvs l ep (i+1)) ⟨S.j.B,S.j.at',S.j.rep,hi,key,kv.2,HS⟩;refine PS (Value.isStrOf_shape hkey) λt zz1=>?_;obtain rfl:=zz1;have G0:Ok w Gk xt P (ownOf env) L Go Gn (bnd (bc sc G4 ts [.str kv.1,d]) (λfr'=>bnd (gZ x sc b fr' λfr''=>aE (gZ x sc b) (qs sc ts) ((l.drop (i+1)).map qt) fr'' k) f) GG.σ) Q (λy s'=>E y s'/\ew w A env E y s'):=by rw[S']at GD;exact congrFun (aS (bc sc G4 ts [.str kv.1,d]) (λfr'=>gZ x sc b fr' λfr''=>aE (gZ x sc b) (qs sc ts) ((l.drop (i+1)).map qt) fr'' k) f) GG.σ ▸ GD
  refine PT (λe1 e2=>?_) (e9 env (ba G0.nst));refine wpAny_assign_Tuple GQ.B.F.handled HT (by exact e1) e2 λHa HU=>?_;have GH:Rn w Gk true [] GG { Gz with heap:=Gw } GG { Gz with heap:=Ha }:=dA GQ.B.I Gz.toks (g9 HU);refine ED (ng ts (GQ.B.on GH) (.cons (.str kv.1 t) (.cons rvv .nil)) G0 λHI HV He HW HX=>?_) (λa s' q=>q) λa s' q=>q.2;have R:=GH.ev.trans He;exact⟨i+1,GG,HV,Nat.sub_succ_lt_self _ _ hi,GQ.to R HW (gE GQ.j.it λ_ _ e=>⟨_,e⟩) (GQ.j.rn R GQ.j2 iown),HX⟩
 ·have hd:l.drop i=[]:=List.drop_eq_nil_of_le (len ▸ hi);rw[hd]at GD;refine wpAny_pyNext_items_end (knd:=sk w) S.B.F.handled G6 dict (List.getElem?_eq_none hi) λh' he=>?_;have GQ:=S.but B (tk:=Gz.toks) G6 rfl (λb o hb e=>he b o (λq=>hb (q ▸ .head _)) e) (J':=λ_ _=>True) trivial;exact hN _ GG G4 GQ.R GQ.B (GD.monoE λy s' q=>q.1)
theorem wv(SX:kW w Gk H8 xt x){ts:List Expr}{tk':Nat}{tpos:Pos}{b:List Stmt}(B:Bs w Gk H8 xt A env L sc Go Gn G s fr){l:List (Str×D)}{v:Value}(rv:Rep w G.B G.ρ v (.items l))
  (h:Ok w Gk xt P (ownOf env) L Go Gn (bnd (aE (gZ x sc b) (qs sc ts) (l.map qt) fr k) f G.σ) Q E)
  (hN:∀ s' G' fr',Rn w Gk xt (ownOf env) G s G' s'->Bs w Gk H8 xt A env L sc Go Gn G' s' fr'->Ok w Gk xt P (ownOf env) L Go Gn (bnd (k fr') f G'.σ) Q E->Gp .next s')
  (hR:∀ v d s' G',Rn w Gk xt (ownOf env) Go Gn G' s'->Rep w G'.B G'.ρ v d->Ok w Gk xt P (ownOf env) L Go Gn (f (.ret d) G'.σ) Q E->Gp (.ret v) s'):wpAny (model pw w) A (pyIter v) (λit Gs=>codeAny (model pw w) A (.forLoop (.Tuple ts tk' tpos) it b [] env) (λr s'=>match r with | .ok f=>Gp f s' | .error e=>cameBackBy (model pw w) A env E e s') Gs) E s:=by
 refine eP (qr rv) λrr a kvs z2=>?_;refine dM z2 λod ep e hB hod hat hr=>?_;rw[e];have I:=B.I;refine wpAny_pyIter_items (knd:=sk w) (kvs:=kvs) (ep:=ep) ⟨_,I.stays _ _ hB,rfl,rfl⟩ (hat _ (I.stays _ _ hod)) ?_;exact yF SX B (bL I _ s.toks) ⟨hod,hat,hr,Nat.zero_le _,.none,.none,Heap.get?_push_size _ rfl⟩ (aD _) I.fresh_un.1 I.fresh_un.2 h hN hR
end
end
section
variable{w:World}{Gk:Heap}{mg mb:Str->Option Value}{xt:Bool}
inductive RepB(w:World)(B:Addr->Option Obj)(ρ:List Addr):List (Str×Value)->List (Str×D)->Prop
 | nil:RepB w B ρ [] []
 | cons {x:Str} {v:Value} {d:D} {vs:List (Str×Value)} {ds:List (Str×D)}:Rep w B ρ v d->RepB w B ρ vs ds->RepB w B ρ ((x,v)::vs) ((x,d)::ds)
section
variable{B:Addr->Option Obj}{ρ:List Addr}
theorem RepB.zip:∀ {ns:List Str} {vs:List Value} {ds:List D},RepL w B ρ vs ds->RepB w B ρ (ns.zip vs) (ns.zip ds)
 | [],_,_,_=>.nil
 | _::_,_,_,.nil=>.nil
 | n::ns,_,_,.cons a b=>.cons a (RepB.zip b)
set_option tactic.hygienic true in
theorem RepB.look:∀ {vs:List (Str×Value)} {ds:List (Str×D)},RepB w B ρ vs ds->∀ x,(ds.lookup x=none->vs.lookup x=none)/\∀ d,ds.lookup x=some d->∃ v,vs.lookup x=some v/\Rep w B ρ v d:=by
 intro vs ds r
 induction r with
 | nil=>exact λx=>⟨λ_=>rfl,λd h=>nomatch h⟩
 | cons a b ih=>
  rename_i y v d vs ds;intro x;dsimp only[List.lookup_cons,List.lookup_cons]
  induction x==y with
  | true=>exact⟨(λh=>nomatch h),λd h=>by cases h;exact⟨_,rfl,a⟩⟩
  | false=>exact ih x
theorem RepB.look_none{vs:List (Str×Value)}{ds:List (Str×D)}(r:RepB w B ρ vs ds)(x:Str):(vs.lookup x).isNone=(ds.lookup x).isNone:=by
 refine PT (λh1 h2=>?_) (r.look x)
 induction q:ds.lookup x with
 | none=>exact congrArg _ (h1 q)
 | some d=>refine ao (h2 d q) λv e _=>?_;exact congrArg _ e
theorem RepB.app:∀ {vs:List (Str×Value)} {ds:List (Str×D)} {us:List (Str×Value)} {es:List (Str×D)},RepB w B ρ vs ds->RepB w B ρ us es->RepB w B ρ (vs++us) (ds++es):=by
 intro vs ds us es q r
 induction q with
 | nil=>exact r
 | cons a b ih=>exact .cons a ih
theorem RepB.fold:∀ {us:List (Str×Value)} {es:List (Str×D)},RepB w B ρ us es->∀ {vs:List (Str×Value)} {ds:List (Str×D)},RepB w B ρ vs ds →
  RepB w B ρ (us.foldl (λs p=>if (s.lookup p.1).isNone then s++[p] else s) vs) (es.foldl (λs p=>if (s.lookup p.1).isNone then s++[p] else s) ds):=by
 intro us es q
 induction q with
 | nil=>exact λr=>r
 | cons a b ih=>
  intro vs ds r;simp only[List.foldl_cons,List.foldl_cons];refine ih ?_;rw[r.look_none]
  split
  ·exact r.app (.cons a .nil)
  ·exact r
theorem RepB.names{vs:List (Str×Value)}{ds:List (Str×D)}(r:RepB w B ρ vs ds):∀ ns:List Str,RepB w B ρ (ns.filterMap λn=>(vs.lookup n).map (n,·)) (ns.filterMap λn=>(ds.lookup n).map (n,·))
 | []=>.nil
 | n::ns=>by
  rw[List.filterMap_cons,List.filterMap_cons];refine PT (λh1 h2=>?_) (r.look n)
  induction q:ds.lookup n with
  | none=>exact(h1 q) ▸ (r.names ns)
  | some d=>refine ao (h2 d q) λv e a=>?_;exact e ▸ (.cons a (r.names ns))
theorem ww{ps:List Str}{vs dv:List Value}{as dd:List D}{bs:List (Str×D)}(ra:RepL w B ρ vs as)(rd:RepL w B ρ dv dd)(h:fk ps as dd=some bs):∃ bv,fk ps vs dv=some bv/\RepB w B ρ bv bs:=by
 unfold fk at h ⊢;rw[ra.length,rd.length]
 by_cases h1:as.length<=ps.length
 ·rw[PW h1]at h ⊢;dsimp only at h ⊢;have rdd:=rd.drop (dd.length - ps.length);rw[rdd.length];have rz:RepB w B ρ (ps.zip vs) (ps.zip as):=.zip ra;have e:(List.filter (λn=>((ps.zip vs).lookup n).isNone) (List.take (ps.length - (List.drop (dd.length - ps.length) dd).length) ps))=(List.filter (λn=>((ps.zip as).lookup n).isNone) (List.take (ps.length - (List.drop (dd.length - ps.length) dd).length) ps)):=by congr 1;funext n;exact rz.look_none n
  rw[e]
  split at h
  ·rename_i hc;rw[PW hc];cases h;exact⟨_,rfl,(RepB.fold (.zip rdd) rz).names ps⟩
  ·exact nomatch h
 ·replace h:=(PX h1) ▸ h;exact nomatch h
theorem qu{α:Type}{ps:List Str}{as dv:List α}{bs:List (Str×α)}(h:fk ps as dv=some bs):∀ x∈bs,x.1∈ps:=by
 unfold fk at h
 split at h
 ·dsimp only at h
  split at h
  ·cases h;intro x hx;refine ao (List.mem_filterMap.mp hx) λn hn e=>?_;refine ao (Option.map_eq_some_iff.mp e) λv _ z1=>?_;rw[<-z1];exact hn
  ·exact dt h
 ·exact dt h
set_option tactic.hygienic true in
theorem qw{kindOf:Str->Option NameKind}:∀ {bv:List (Str×Value)} {bs:List (Str×D)},RepB w B ρ bv bs->∀ {m:Str->Option Value} {fr:af},(∀ x d,kindOf x=some .local->aa fr x=some d->∃ v,m x=some v/\Rep w B ρ v d) →
  ∀ x d,kindOf x=some .local->aa (bs.foldl (λfr p=>aj fr p.1 p.2) fr) x=some d->∃ v,bindL kindOf bv m x=some v/\Rep w B ρ v d:=by
 intro bv bs r
 induction r with
 | nil=>exact λh=>h
 | cons a b ih=>
  rename_i y v d vs ds;intro m fr h;simp only[List.foldl_cons];dsimp only[bindL];refine ih λx d hk hl=>?_;rw[bm]at hl;rcases P8 (y=x) with q | q
  ·subst q;replace hl:=(PW rfl) ▸ hl;cases hl;rw[PW hk];exact⟨v,PW rfl,a⟩
  ·rw[PX q]at hl;refine ao (h x d hk hl) λu e r=>?_;refine⟨u, ?_,r⟩
   split
   ·exact(PX λz=>q z.symm).trans e
   ·exact e
set_option tactic.hygienic true in
theorem td{kindOf:Str->Option NameKind}:∀ {bv:List (Str×Value)} {bs:List (Str×D)},RepB w B ρ bv bs->∀ {m:Str->Option Value} {fr:af},(∀ x d,kindOf x≠some .local->aa fr x=some d->∃ v,m x=some v/\Rep w B ρ v d) →
  ∀ x d,kindOf x≠some .local->aa (bs.foldl (λfr p=>aj fr p.1 p.2) fr) x=some d->∃ v,bindC kindOf bv m x=some v/\Rep w B ρ v d:=by
 intro bv bs r
 induction r with
 | nil=>exact λh=>h
 | cons a b ih=>
  rename_i y v d vs ds;intro m fr h;rw[List.foldl_cons];refine ih λx d hk hl=>?_;rw[bm]at hl
  by_cases q:y=x
  ·subst q;rw[PW rfl]at hl;cases hl;rw[PX hk];exact⟨v,PW rfl,a⟩
  ·rw[PX q]at hl;refine ao (h x d hk hl) λu e r=>?_;refine⟨u, ?_,r⟩
   split
   ·exact e
   ·exact(PX λz=>q z.symm).trans e
end
theorem te{B:Addr->Option Obj}{ρ:List Addr}:∀ {vs:List Value} {ds:List D},sQ vs ds=true->RepL w B ρ vs ds:=λ{vs}=>by
 induction vs with
 | nil=>
  intro ds h
  induction ds using List.casesOn with
  | nil=>exact .nil
  | cons=>exact fH h
 | cons v vs ih=>
  intro ds h
  induction v with
  | int i t=>
   induction ds using List.casesOn with
   | nil=>exact fH h
   | cons d ds=>
    induction d using D.casesOn with
    | int j=>refine PT (λh1 h2=>?_) (PZ h);exact .cons (beq_iff_eq.mp h1 ▸ .int i t) (ih h2)
    | _=>exact fH h
  | _=>induction ds using List.casesOn <;> exact fH h
theorem qy{A:Around}{R:Result->Shared->Prop}{s:Shared}{a:Addr}{o:Obj}{fd:FuncData}{body:List Stmt}{vs:List Value}{bs:List (Str×Value)}
  (hroom:A.depth<recursionLimit) (ho:s.heap.get? a=some o) (hdata:o.data=.func fd) (hlim:s.heap.NoLimit) (hcd:s.heap.CodeRec fd.code fd.qualname) (hbody:fd.body=.stmts body)
  (hbind:BindsTo s fd ⟨vs,[]⟩ bs) (hclo:fd.closure=[]) (hkind:∀ x∈bs,fd.scope.names.lookup x.1=some .local\/(fd.scope.names.lookup x.1=some .cell/\((cellsFrom (s.heap.objs.size+1) fd.scope.names []).lookup x.1).isSome=true))
  (hco:fd.scope.isCoroutine=false) (hgen:fd.scope.isGenerator=false) (hk:fd.scope.kind=.function)
  (h:∀ Gm,InCallC s (callEnvC fd s.heap.objs.size a).locals (bindL (callEnvC fd s.heap.objs.size a).kindOf bs λ_=>none) (callEnvC fd s.heap.objs.size a).cells (bindC (callEnvC fd s.heap.objs.size a).kindOf bs λ_=>none) Gm →
   wpAny (model pw w) (A.deeper (callEnvC fd s.heap.objs.size a)) (execs body (callEnvC fd s.heap.objs.size a)) (λf s'=>R (.ok (.ret (match f with | .ret v=>v | _=>.none))) s')
    (λe s'=>wpAny (model pw w) (A.deeper (callEnvC fd s.heap.objs.size a)) (leaving (callEnvC fd s.heap.objs.size a) e) (λ_ s''=>R (.error e) s'') (λe' s''=>R (.error e') s'') s') Gm) :
  codeAny (model pw w) A (.call (.ref a) ⟨vs,[]⟩) R s:=by
 refine codeAny_call_function hroom ho hdata hco hgen hbody hcd (hbind _ _ _ _ ?_);rw[hclo];refine wpAny_newFunctionEnv_cells hk hkind λenv he s' x=>?_;subst he;exact⟨hlim.keeps x.toInCall.keep,codeAny_func (h s' x)⟩
end
section
variable{w:World}{Gk:Heap}{mg mb:Str->Option Value}{xt:Bool}
theorem nh{K:Frag}{q:Str}{fd:FuncData}(h:mS K q fd=true):fd.globals=mainGlobals/\fd.closure=[]/\fd.builtins=builtinsNs/\codeIn K fd.code fd.qualname=true/\fd.scope.isCoroutine=false/\fd.scope.isGenerator=false/\fd.scope.kind=.function ∧
  sR K fd.defaults fd.params.defaults=true/\(∀ x∈fd.scope.names,x.2≠.free)/\((cellsFrom 0 fd.scope.names []).map (·.1)).Nodup/\∀ a∈fd.params.args,fd.scope.names.lookup a.arg=some .local\/fd.scope.names.lookup a.arg=some .cell:=by
 unfold mS at h;simp only[Bool.and_eq_true,Bool.not_eq_true',beq_iff_eq,List.all_eq_true,List.isEmpty_iff,Bool.or_eq_true,bne_iff_ne,ne_eq,decide_eq_true_eq]at h;obtain⟨⟨⟨⟨⟨⟨⟨⟨⟨⟨h1,h2⟩,h3⟩,h4⟩,h5⟩,h6⟩,h7⟩,h8⟩,h9⟩,h10⟩,h11⟩:=h;exact⟨h1,h2,h3,h4,h5,h6,h7,h8,h9,h10,λa ha=>(h11 a ha).imp id λz=>z.1⟩
theorem f_:∀ (names:List (Str×NameKind)) (n m:Nat) (acc acc':List (Str×Addr)),acc.map (·.1)=acc'.map (·.1)->(cellsFrom n names acc).map (·.1)=(cellsFrom m names acc').map (·.1)
 | [],_,_,_,_,h=>h
 | (x,k)::r,n,m,acc,acc',h=>by
  dsimp only[cellsFrom]
  split
  ·exact f_ r _ _ _ _ (by simp only[List.map_cons,List.map_cons,h])
  ·exact f_ r _ _ _ _ h
theorem wx{l:List (Str×Addr)}(ap:l.Pairwise λx y=>x.2≠y.2){x y:Str}{c:Addr}(h1:l.lookup x=some c)(h2:l.lookup y=some c):x=y:=name_of_addr ap (aX h1) (aX h2)
theorem kZ:∀ {l:List (Str×Addr)},(l.map (·.1)).Nodup->∀ {x:Str} {c:Addr},(x,c)∈l->l.lookup x=some c
 | (y,d)::l,hn,x,c,hm=>by
  rw[List.map_cons,List.nodup_cons]at hn;refine PV List.lookup_cons ?_;refine PU (P7 hm) (λe=>?_) λhm2=>?_
  ·cases e;rw[beq_self_eq_true]
  ·have:(x==y)=false:=by rw[beq_eq_false_iff_ne];intro e;subst e;exact hn.1 (List.mem_map.mpr ⟨_,hm2,rfl⟩)
   exact this ▸ (kZ hn.2 hm2)
theorem qz{P:Params}{B:Addr->Option Obj}{ρ:List Addr}{h:Heap}{fd:FuncData}{dd:List D}(X:(KH P).In h)(e:sR (KH P) fd.defaults fd.params.defaults=true)(hd:kx fd.params.defaults=some dd) :
  ∃ dv,RepL w B ρ dv dd/\((fd.defaults=.none/\dv=[])\/∃ T o items n,fd.defaults=.ref T/\h.get? T=some o/\o.data=.seq items n/\items.toList=dv):=by
 induction q:fd.defaults with
 | none=>rw[q]at e;have e:fd.params.defaults.isEmpty=true:=e;rw[List.isEmpty_iff.mp e]at hd;exact⟨[],PY hd ▸ .nil,.inl ⟨rfl,rfl⟩⟩
 | ref T=>rw[q]at e;refine ao (nY e) λo ho e=>?_;refine ao (nY e) λvs hv e=>?_;refine ao (nY e) λl hl e=>?_;refine aI (Av hv) λa n h1 h2=>?_;rw[hd]at hl;exact⟨vs,PY hl ▸ te e,.inr ⟨T,o,a,n,rfl,X _ _ ho,h1,h2⟩⟩
 | _=>rw[q]at e;exact fH e
theorem qA{a:Arguments}{as:List D}{σ:St}{t:R af}{P:Prop}(h:iG a as σ=t)(hs:t≠.stuck)
  (k:∀ ps dd bs,a=⟨[],ps,none,[],[],none,a.defaults⟩->kx a.defaults=some dd->fk (ps.map (·.arg)) as dd=some bs->R.ok (bs.foldl (λfr p=>aj fr p.1 p.2) []) σ=t->P):P:=by
 induction a using Arguments.casesOn with
 | mk po ps va ko kd kw ds=>
 induction po using List.casesOn with
 | cons _ _=>exact absurd h.symm hs
 | nil=>
 induction va using Option.casesOn with
 | some _=>exact absurd h.symm hs
 | none=>
 induction ko using List.casesOn with
 | cons _ _=>exact absurd h.symm hs
 | nil=>
 induction kd using List.casesOn with
 | cons _ _=>exact absurd h.symm hs
 | nil=>
 induction kw using Option.casesOn with
 | some _=>exact absurd h.symm hs
 | none=>
 induction e1:kx ds with
 | none=>exact absurd (h.symm.trans (gx e1)) hs
 | some dd=>
 induction e2:fk (ps.map (·.arg)) as dd with
 | none=>exact absurd (h.symm.trans ((f9 e1).trans (gx e2))) hs
 | some bs=>exact k ps dd bs rfl e1 e2 (((f9 e1).trans (f9 e2)).symm.trans h)
theorem k_{a:Arguments}{as:List D}{fr:af}{σ σ':St}(h:iG a as σ=.ok fr σ'):σ'=σ/\∃ ps dd bs,a=⟨[],ps,none,[],[],none,a.defaults⟩/\kx a.defaults=some dd/\fk (ps.map (·.arg)) as dd=some bs/\fr=bs.foldl (λfr p=>aj fr p.1 p.2) []/\a.args=ps:=
 qA h (λq=>by injection q) λps dd bs e1 e2 e3 e=>by injection e with x y;exact⟨y.symm,ps,dd,bs,e1,e2,e3,x.symm,congrArg Arguments.args e1⟩
theorem ni{a:Arguments}{as:List D}{σ σ':St}:iG a as σ≠.exc σ':=λh=>
 qA h (λq=>by injection q) λ_ _ _ _ _ _ e=>by injection e
section
variable{H8:Nat}{A:Around}{L:Addr}{G:Gh}{s:Shared}
theorem qB(X:Cx w Gk mg mb){x:Str}{a:Addr}{fd:FuncData}{t:Arguments×List Stmt×Scope}(hf:D3 (KH w.params) x a fd t)(I:Inv w Gk G s.heap)(hh':A.handled=none)(hdp:A.depth+4*(H8+1)+4<recursionLimit)(hun:A.units+20*(H8+1)+200<cLine){outer:List Env}(f1:A.frames=some outer)(f3:StkL G s.heap outer){as:List D}{vs:List Value}(ra:RepL w G.B G.ρ vs as){fr:af}{σ σ':St}(hb:iG t.1 as σ=.ok fr σ'){R:Result->Shared->Prop}
  (h:∀ env L' Gm,Rn w Gk true [] G s G Gm->Fm w H8 (A.deeper env) G Gm.heap env L' t.2.2.names fr->s.heap.get? L'=none->(∀ b∈ownOf env,s.heap.get? b=none) →
   wpAny (model pw w) (A.deeper env) (execs t.2.1 env) (λf s'=>R (.ok (.ret (match f with | .ret v=>v | _=>.none))) s')
    (λe s'=>wpAny (model pw w) (A.deeper env) (leaving env e) (λ_ s''=>R (.error e) s'') (λe' s''=>R (.error e') s'') s') Gm):codeAny (model pw w) A (.call (.ref a) ⟨vs,[]⟩) R s:=by
 have K:=I.K X;have T:=I.T X;obtain⟨_,⟨oc,od,sl,hobj⟩,hp,hbody,hsc,hchk⟩:=hf;refine bo (nh hchk) λc1 c2 c3 c4 z1=>?_;refine uM z1 λc5 c6 c7 c8 c9 IR Jg=>?_;refine DI (k_ hb) λz2 ps dd bs z4=>?_;refine bo z4 λep ed eb z3 eargs=>?_;obtain rfl:=z2;obtain rfl:=z3;rw[hp]at c8 Jg;refine ao (qz (w:=w) (B:=G.B) (ρ:=G.ρ) (fd:={ fd with params:=t.1 }) K c8 ed) λdv rd hdv=>?_;refine ao (ww ra rd eb) λbv ebv rb=>?_;have names:=qu ebv;have kinds:∀ x∈bv,fd.scope.names.lookup x.1=some .local\/fd.scope.names.lookup x.1=some .cell:=λx hx=>by refine ao (List.mem_map.mp (names x hx)) λp hp e=>?_;exact(Eq.symm e) ▸ (Jg p (by exact eargs ▸ hp))
 refine qy (by lia) (K _ _ hobj) rfl T.nolimit (codeRec_of K c4) hbody (p0 (hp.trans ep) hdv ebv) c2 (λx hx=>(kinds x hx).imp id λq=>⟨q,cellsFrom_some _ _ _ (.inl q)⟩) c5 c6 c7 λGm J=>?_;refine gE J.toInCall.same λhh tk es=>?_;have R:Rn w Gk true [] G s G Gm:=by simp only[es];exact dA I tk λb o e=>by have:=J.toInCall.keep b o e;rw[es]at this;exact this
 have lnew:s.heap.get? s.heap.objs.size=none:=aD _;have un:=I.fresh_un;have nsn:=p_ J.toInCall.ns;have cellx:∀ c∈(cellsFrom (s.heap.objs.size+1) fd.scope.names []).map (·.2),∃ n,(n,c)∈cellsFrom (s.heap.objs.size+1) fd.scope.names []:=λc hc=>let ⟨⟨n,c'⟩,hm,e⟩:=List.mem_map.mp hc;⟨n,e ▸ hm⟩
 have nd:((cellsFrom (s.heap.objs.size+1) fd.scope.names []).map (·.1)).Nodup:=by rw[f_ _ _ 0 _ [] rfl];exact IR
 have cnew:∀ c∈(cellsFrom (s.heap.objs.size+1) fd.scope.names []).map (·.2),s.heap.get? c=none/\s.heap.objs.size<c:=λc hc=>by refine PS (cellx c hc) λn hm=>?_;have:=J.above n c hm;refine⟨Heap.get?_none_of_le (Nat.le_of_lt this),this⟩
 have noB:∀ c,s.heap.get? c=none->G.B c=none/\c∉G.ρ:=λc hc=>by
  refine⟨?_,λq=>?_⟩
  ·induction q:G.B c with
   | none=>rfl
   | some o=>have:=I.stays _ _ q;replace this:=(hc) ▸ this;injection this
  ·refine ao (I.obj q) λo e _=>?_;replace e:=(hc) ▸ e;injection e
 have sc':t.2.2.names=fd.scope.names:=by rw[hsc]
 refine h (callEnvC fd s.heap.objs.size a) s.heap.objs.size Gm R ⟨hh', ?_, ?_,⟨callEnvC fd s.heap.objs.size a,outer,Around.frames_deeper f1,rfl,λen he=>?_⟩,rfl,c7,c1,c3,λx=>.inl ?_,⟨_,J.toInCall.ns,λx d hk hl=>?_⟩,λx d hk hl=>?_,λx hk=>?_,λb hb=>?_,λq=>?_,λc hc=>?_,λx y c h1 h2=>wx J.apart h1 h2⟩ lnew λb hb=>?_
 ·show A.depth+1+4*H8+6<recursionLimit;lia
 ·show A.units+3+20*H8+210<cLine;lia
 ·rcases P7 he with rfl | he
  ·refine⟨by simp only[show(callEnvC fd s.heap.objs.size a).scope.kind=fd.scope.kind from rfl,c7];decide,s.heap.objs.size, ?_⟩;refine ao nsn λo ho hn=>?_;exact⟨o,rfl,ho,hn,un.1,un.2⟩
  ·exact(f3.rn R.slack) en he
 ·rw[sc'];rfl
 ·rw[sc']at hk;exact qw (kindOf:=(callEnvC fd s.heap.objs.size a).kindOf) rb (m:=λ_=>none) (fr:=[]) (λ_ _ _ h=>nomatch h) x d hk hl
 ·rw[sc']at hk;have hkc:fd.scope.names.lookup x=some .cell:=hk.resolve_right λq=>c9 _ (aX q) rfl;refine ao (td (kindOf:=(callEnvC fd s.heap.objs.size a).kindOf) rb (m:=λ_=>none) (fr:=[]) (λ_ _ _ h=>nomatch h) x d (by simp only[show(callEnvC fd s.heap.objs.size a).kindOf x=fd.scope.names.lookup x from rfl,hkc];decide) hl) λv ev rv=>?_;refine PS (Option.isSome_iff_exists.mp (cellsFrom_some fd.scope.names (s.heap.objs.size+1) [] (.inl hkc))) λc hc=>?_;exact⟨c,v,hc,ev ▸ J.cell x c hc,rv⟩
 ·rw[sc']at hk;have hkc:fd.scope.names.lookup x=some .cell:=hk.resolve_right λq=>c9 _ (aX q) rfl;refine PS (Option.isSome_iff_exists.mp (cellsFrom_some fd.scope.names (s.heap.objs.size+1) [] (.inl hkc))) λc hc=>?_;exact⟨c,_,hc,J.cell x c hc⟩
 ·rcases P7 hb with rfl | hb
  ·exact un
  ·exact noB b (cnew b hb).1
 ·exact absurd (cnew _ q).2 (Nat.lt_irrefl _)
 ·refine PS (cellx c hc) λn hm=>?_;refine ao (J.cell n c (kZ nd hm)) λo e _=>?_;exact⟨o,e⟩
 ·rcases P7 hb with rfl | hb
  ·exact lnew
  ·exact(cnew b hb).1
end
end
section
variable{w:World}{Gk:Heap}{mg mb:Str->Option Value}{xt:Bool}
abbrev gS:List Value:=[.ref 38,.type "Exception",.type "BaseException",.type "object"]
abbrev jH:Obj:=excClassObj (nm "RunFault") (nm "RunFault") 51 50 [.ref 38] gS true [] [] false none none (some (.ref 42)) none (some (.str (nm "RunFault") 225)) (some (.str (nm "RunFault") 233)) (some (.bool true)) "Exception.__new__"
theorem g_(P:Params):(KH P).lookup 51=some jH:=by kernel_rfl
theorem u0(P:Params):nsIn (KH P) mainGlobals bE=some (some (.ref 51)):=by kernel_rfl
theorem u5(P:Params):findIn (KH P) (.ref 51) "__init__" = some (some (.ref 35))/\typeIn (KH P) (.ref 35)=some (.type "function"):=⟨by kernel_rfl,by kernel_rfl⟩
theorem u6(P:Params):specialIn (KH P) (.ref 51) "__call__" = some (some (.builtin "type.__call__"))/\instIn (KH P) (.ref 51) (.type "type")=some true:=⟨by kernel_rfl,by kernel_rfl⟩
theorem yG(P:Params):findIn (KH P) (.ref 51) "__setattr__" = some (some (.builtin "object.__setattr__"))/\findIn (KH P) (.ref 51) (nm "text")=some none:=⟨by kernel_rfl,by kernel_rfl⟩
theorem u7(P:Params):nsIn (KH P) mainGlobals (nm "Exception")=some none/\bootBuiltins (nm "Exception")=some (.type "Exception"):=⟨by kernel_rfl,by kernel_rfl⟩
theorem AV(P:Params):keepIn (KH P) (.ref 51)=true:=by kernel_rfl
section
variable{M:Model}{A:Around}{E:Value->Shared->Prop}{h:Heap}{g:Array GenState}{d:Drawn}{t:Nat}{os:OsState}
theorem C2{rest:List Value}{Q:Unit->Shared->Prop}(hC:h.get? 51=some jH)(hq:Q () ⟨h,g,d,t,os⟩):wpAny M A (checkBuiltinCall "Exception.__new__" ⟨.ref 51::rest,[]⟩) Q E ⟨h,g,d,t,os⟩:=by
 have Fn:=PySem.F.excBase_Exception;have hcont:(Value.ref 51::gS).contains (.type "Exception")=true:=by decide
 have hstar:=Fn.noStar;simp only[checkBuiltinCall,Fn.newKind,Fn.newSplit,Fn.newRow]
 repeat (first | refine wpAny_loadPart_at hC ?_ | (refine wpAny_isSubtype_exc hC ?_;rw[hcont]) | refine wpAny_staticBase_exc hC ?_ | refine wpAny_madeBy_exc hC ?_ | simp only[bne_self_eq_false,Bool.false_eq_true,if_false] | wp_step)
 exact hq
end
section
variable{prog:Program}{w:World}{A:Around}{R:Result->Shared->Prop}{h:Heap}{g:Array GenState}{d:Drawn}{t:Nat}{os:OsState}
abbrev bM(a:Addr):Obj:={ cls:=.ref 51,data:=.fields #[.ref a,.none,.none,.none,.bool false,.none] }
theorem C3{rest:List Value}(hC:h.get? 51=some jH)(hrest:rest.length<=sizeLine)
  (hq:R (.ok (.ret (.ref (h.objs.size+1)))) ⟨(h.push { cls:=.type "tuple",data:=.seq rest.toArray }).push (bM h.objs.size),g,d,t,os⟩) :
  codeAny (model prog w) A (.builtin "Exception.__new__" ⟨.ref 51::rest,[]⟩) R ⟨h,g,d,t,os⟩:=by
 have Fn:=PySem.F.excBase_Exception;have hends:=Fn.ends;have hcB:(Value.ref 51::gS).contains (.type "Exception")=true:=by decide
 have hcA:(Value.ref 51::gS).contains (.type "AttributeError")=false:=by decide
 have hcN:(Value.ref 51::gS).contains (.type "NameError")=false:=by decide
 refine codeAny_builtinAt Fn.entry ?_;unfold Builtin.«BaseException.__new__»;refine PySem.wpAt_bind ?_;show PySem.wpAt _ _ _ (stack >>= _) _ _ _;refine PySem.wpAt_bind (PySem.wpAt_stack λp below=>PySem.wpAt_of_wpAny ?_)
 wp_walk
 refine PySem.wpAt_of_wpAny ?_;rw[Fn.owner]
 repeat (first | with_reducible refine wpAny_madeHere_exc Fn.canon hC ?_ | with_reducible refine wpAny_loadPart_at hC ?_ | (with_reducible refine wpAny_isSubtype_exc hC ?_;first | rw[hcB] | rw[hcA] | rw[hcN]) | wp_step)
 show R _ _;rw[Heap.size_push];exact hq
theorem AW{P:Params}{txt:Value}(K:(KH P).In h)
  (hq:codeAny (model prog w) (A.under (.builtin "type.__call__" ⟨[.ref 51,txt],[]⟩)) (.call (.ref 35) ⟨[.ref (h.objs.size+1),txt],[]⟩) (InitBack (h.objs.size+1) R) ⟨(h.push { cls:=.type "tuple",data:=.seq [txt].toArray }).push (bM h.objs.size),g,d,t,os⟩) :
  codeAny (model prog w) A (.call (.ref 51) ⟨[txt],[]⟩) R ⟨h,g,d,t,os⟩:=by
 have hC:h.get? 51=some jH:=K _ _ (g_ P);have call:Looks (model prog w) h (specialOf (.ref 51) "__call__") (some (.builtin "type.__call__")):=looks_specialIn K (u6 P).1;have typ:Looks (model prog w) h (isInstance (.ref 51) (.type "type")) true:=looks_instIn K (u6 P).2;have made:Looks (model prog w) h (Bind.madeBy (.ref 51)) (some "Exception.__new__"):=λA Q E s k q=>by obtain⟨h',g',d',t',os'⟩:=s;exact wpAny_madeBy_exc (k _ _ hC) q
 have hm:Looks (model prog w) h (mroOf (.ref 51)) (.ref 51::gS):=λA Q E s k q=>by obtain⟨h',g',d',t',os'⟩:=s;exact wpAny_mroOf_exc (k _ _ hC) q
 have Fn:=PySem.F.excBase_Exception;refine codeAny_of_tree ?_;show wpAny _ _ (callAny (.ref 51) _) _ _ _;refine nd_load hC ?_;show wpAny _ _ (callAny.viaDunder (.ref 51) _) _ _ _;unfold callAny.viaDunder;refine wpAny_bind (call.at ?_);dsimp only;rw[tc_bind];refine wpAny_bind (wpAny_pure (wpAny_bind (wpAny_pure ?_)));refine wpAny_pure (a:=Fin.again (.call (.builtin "type.__call__") ⟨.ref 51::[txt],[]⟩)) (And.intro rfl ?_);refine codeAny_call_builtin_at (Code.quiet_builtin _ (by decide +kernel)) entry_typeCall (check_slot tc_kind tc_split typ (tc_args _ _ _) ?_);unfold Builtin.«type.__call__»
 repeat (first | simp only[List.isEmpty,Bool.false_eq_true,if_false] | with_reducible refine wpAny_call ?_ | lk)
 refine codeAny_call_builtin_code (Code.quiet_builtin _ Fn.quiet) (C2 hC ?_);refine C3 hC (by rw[bA];simp) ?_;have k:∀ b o,h.get? b=some o->((h.push { cls:=.type "tuple",data:=.seq [txt].toArray }).push (bM h.objs.size)).get? b=some o:=λb o e=>Heap.get?_push_of_some _ (Heap.get?_push_of_some _ e);have hx:((h.push { cls:=.type "tuple",data:=.seq [txt].toArray }).push (bM h.objs.size)).get? (h.objs.size+1)=some (bM h.objs.size):=by heap_get
 have t1:Looks (model prog w) ((h.push { cls:=.type "tuple",data:=.seq [txt].toArray }).push (bM h.objs.size)) (typeOf (.ref (h.objs.size+1))) (.ref 51):=(Looks.ld hx).andThen .now;have s1:Looks (model prog w) ((h.push { cls:=.type "tuple",data:=.seq [txt].toArray }).push (bM h.objs.size)) (isSubtype (.ref 51) (.ref 51)) true:=λA Q E s kk q=>by obtain⟨h',g',d',t',os'⟩:=s;exact wpAny_isSubtype_exc (kk _ _ (k _ _ hC)) q
 have i1:Looks (model prog w) ((h.push { cls:=.type "tuple",data:=.seq [txt].toArray }).push (bM h.objs.size)) (typeLookup (.ref 51) "__init__") (some (.ref 35)):=looks_findIn (K.keeps k) (u5 P).1;have b1:Looks (model prog w) ((h.push { cls:=.type "tuple",data:=.seq [txt].toArray }).push (bM h.objs.size)) (bindSpecial (.ref 35) (.ref (h.objs.size+1))) (.ref 35,[.ref (h.objs.size+1)]):=bind_fn (K.keeps k) (.ref (h.objs.size+1)) (u5 P).2;unfold isInstance callSpecial? specialOf
 repeat (first | with_reducible refine wpAny_call ?_ | lk)
 refine codeAny_mono hq λr s' z=>?_;rcases r with e | (v | _ | _ | _) <;> first | exact z | exact z.elim | skip
 obtain⟨rfl,z⟩:=z;exact wpAny_pure (wpAny_pure z)
end
end
section
variable{w:World}{Gk:Heap}{mg mb:Str->Option Value}{xt:Bool}
noncomputable def jQ:Arguments×List Stmt×Scope:=(fI 2 1).getD iw
theorem wy(P:Params):(kI P 35).map (λfd=>(fd.params,fd.body,fd.scope))=some (jQ.1,FuncBody.stmts jQ.2.1,jQ.2.2):=by kernel_rfl
theorem AX(P:Params):(kI P 35).any (mS (KH P) (nm "F77Error.__init__"))=true:=by kernel_rfl
theorem tf:jQ.1=⟨[],jQ.1.args,none,[],[],none,[]⟩/\jQ.1.args.map (·.arg)=[nm "self",nm "text"]:=⟨by kernel_rfl,by kernel_rfl⟩
theorem wz:jQ.2.2.names.lookup (nm "self")=some .local/\jQ.2.2.names.lookup (nm "text")=some .local/\jQ.2.2.names.lookup (nm "Exception")=some .globalImplicit:=⟨by kernel_rfl,by kernel_rfl,by kernel_rfl⟩
theorem yH(P:Params):findCls (KH P) (.type "Exception") (.type "type") (nm "__init__")=some (.val (.builtin "Exception.__init__")):=by kernel_rfl
theorem C4:∃ p1 p2 p3 p4 p5 p6 p7 p8 p9 p10,jQ.2.1=[.Expr (.Call (.Attribute (.Name (nm "Exception") p1) (nm "__init__") p2) [.Name (nm "self") p3,.Name (nm "text") p4] [] p5) p6,.Assign [.Attribute (.Name (nm "self") p7) (nm "text") p8] (.Name (nm "text") p9) p10]/\(p2.endLine==p5.line)=true:=
 ⟨⟨8,8,8,17⟩,⟨8,8,8,26⟩,⟨8,27,8,31⟩,⟨8,33,8,37⟩,⟨8,8,8,38⟩,⟨8,8,8,38⟩,⟨9,8,9,12⟩,⟨9,8,9,17⟩,⟨9,20,9,24⟩,⟨9,8,9,24⟩,by kernel_rfl,by kernel_rfl⟩
section
variable{M:Model}{A:Around}{E:Value->Shared->Prop}{h:Heap}{g:Array GenState}{d:Drawn}{t:Nat}{os:OsState}
theorem qC{e:Addr}{oe:Obj}{rest:List Value}{Q:Unit->Shared->Prop}(hC:h.get? 51=some jH)(he:h.get? e=some oe)(hcls:oe.cls=.ref 51)(hq:Q () ⟨h,g,d,t,os⟩) :
  wpAny M A (checkBuiltinCall "Exception.__init__" ⟨.ref e::rest,[]⟩) Q E ⟨h,g,d,t,os⟩:=by
 have F:=PySem.F.excBase_Exception;have hcB:(Value.ref 51::gS).contains (.type "Exception")=true:=by decide
 have hshort:=F.noStar;simp only[checkBuiltinCall,F.initKind,F.initSplit,F.initRow]
 repeat (first | (with_reducible refine wpAny_loadPart_at he ?_;rw[hcls]) | with_reducible refine wpAny_loadPart_at hC ?_ | (with_reducible refine wpAny_isSubtype_exc hC ?_;rw[hcB]) | wp_step)
 refine wpAny_onRaise ?_;rw[show ∀ (a b:String) (n:Nat),Bind.check ⟨.positional,"*","Exception",.self,[⟨"args",.varPos,false⟩]⟩ a b n (List.map (λx=>x.fst) ({ pos:=Value.ref e::rest }:Args).kw)=pure () from
  λa b n=>check_star_args _ _ _ _ _ _]
 exact wpAny_pure hq
end
section
variable{prog:Program}{A:Around}{E:Value->Shared->Prop}{h:Heap}{g:Array GenState}{d:Drawn}{t:Nat}{os:OsState}
theorem oy{e a:Addr}{v:Value}{Q:Value->Shared->Prop}(hC:h.get? 51=some jH)(he:h.get? e=some (bM a))
  (hq:∀ h',(∀ b o,b≠e->h.get? b=some o->h'.get? b=some o)->h'.get? e=some (bM h.objs.size)->Q .none ⟨h',g,d,t,os⟩):wpAny (model prog w) A (call (.builtin "Exception.__init__") [.ref e,v]) Q E ⟨h,g,d,t,os⟩:=by
 have F:=PySem.F.excBase_Exception;refine wpAny_call (codeAny_call_builtin F.init.plain F.initEntry (qC hC he rfl ?_))
 wp_walk
 have he':(h.push { cls:=.type "tuple",data:=.seq #[v] }).get? e=some (bM a):=Heap.get?_push_of_some _ he;refine hq _ (λb o hb e1=>(Heap.get?_update_other _ _ (Ne.symm hb)).trans (Heap.get?_push_of_some _ e1)) ?_;exact(Heap.get?_update_self _ he' rfl)
theorem tg{P:Params}{e a:Addr}{name:Str}{v:Value}{Q:Unit->Shared->Prop}(K:(KH P).In h)(hn:findIn (KH P) (.ref 51) name=some none)(he:h.get? e=some (bM a))
  (hq:∀ h' tk dx,(∀ b o,b≠e->h.get? b=some o->h'.get? b=some o)->h'.get? e=some { bM a with dict:=some dx }->Q () ⟨h',g,d,tk,os⟩):wpAny (model prog w) A (setAttr (.ref e) name v) Q E ⟨h,g,d,t,os⟩:=by
 have hC:h.get? 51=some jH:=K _ _ (g_ P);have SF:=PySem.F.store_object;have SE:=PySem.F.store_Exception;have I:InstAt h e (bM a) 51 none:=⟨he,rfl,rfl,trivial⟩;have ut:Looks (model prog w) h (isSubtype (.ref 51) (.type "object")) true:=λA Q E s k q=>by obtain⟨h',g',d',t',os'⟩:=s;exact wpAny_isSubtype_exc (k _ _ hC) q
 have hm:Looks (model prog w) h (mroOf (.ref 51)) (.ref 51::gS):=λA Q E s k q=>by obtain⟨h',g',d',t',os'⟩:=s;exact wpAny_mroOf_exc (k _ _ hC) q
 have sub:Looks (model prog w) h (isInstance (.ref e) (.type "object")) true:=I.type.andThen ut;refine W.set_plain (s:=⟨h,g,d,t,os⟩) K I (yG P).1 ?_;refine codeAny_call_builtin SF.slot.plain SF.entry (@check_slot (model prog w) _ _ ⟨h,g,d,t+1,os⟩ "object.__setattr__" "object" "__setattr__" (.ref e) [.str name t,v] [] _ SF.kind SF.split sub (SF.args (.ref e) (.str name t) v) ?_);rw[osa_eq,refuse_eq];refine wpAny_bind (wpAny_bind (I.type.at (wpAny_bind (hm.at ?_))));rw[refuseLoop_ref,refuseLoop_ref,SE.passes];refine wpAny_pure (wpAny_bind (I.type.at (wpAny_bind ((looks_findIn K hn).at (wpAny_bind (wpAny_pure ?_))))));show wpAny _ _ (PySem.Builtin.ObjectAttr.storeInOwnDict (.ref e) (.ref 51) (.str name t) name v false) _ _ _;delta PySem.Builtin.ObjectAttr.storeInOwnDict PySem.Builtin.ObjectAttr.ownDictForStores;refine wpAny_bind (wpAny_pure ?_);rw[PX (by decide)];have hcd:clsIn (KH P) 51=some { name:=nm "RunFault",bases:=[.ref 38],mro:=.ref 51::gS,ns:=50,qualname:=nm "RunFault",hasDict:=true,slotNames:=[],subclasses:=[],abstract:=false,collection:=none,hasDel:=false }:=by unfold clsIn;rw[g_ P]
 have Hm:(h.push { cls:=.type "dict",data:=.dict #[] }).get? e=some (bM a):=Heap.get?_push_of_some _ he;have hes:e≠h.objs.size:=Nat.ne_of_lt (Heap.lt_size he);dsimp only;refine wpAny_bind ?_;refine wpAny_bind (wpAny_loadPart he (wpAny_bind ((looks_clsIn K hcd).at ?_)));dsimp only;rw[PX (by decide),PX (by decide)];refine wpAny_bind (wpAny_alloc' (wpAny_bind (wpAny_update' Hm (wpAny_pure ?_))));have hgd:((h.push { cls:=.type "dict",data:=.dict #[] }).update e λo=>{ o with dict:=some h.objs.size }).get? h.objs.size=some { cls:=.type "dict",data:=.dict #[] }:=(Heap.get?_update_ne _ _ _ _ hes.symm).trans (Heap.get?_push_size _ rfl);have hge:((h.push { cls:=.type "dict",data:=.dict #[] }).update e λo=>{ o with dict:=some h.objs.size }).get? e=some { bM a with dict:=some h.objs.size }:=Heap.get?_update_self _ Hm rfl;have hnd:((h.push { cls:=.type "dict",data:=.dict #[] }).update e λo=>{ o with dict:=some h.objs.size }).Ns h.objs.size (λ_=>none):=⟨_,#[],_,hgd,rfl,λe he=>absurd he (by simp),λ_=>rfl⟩;delta PySem.Builtin.ObjectAttr.storeInDict PySem.Builtin.ObjectAttr.newKeyGuard;refine wpAny_bind (wpAny_pure (wpAny_bind (wpAny_nsSet1 (Heap.Ns1.of_empty hnd) λh' hn' hs=>?_)));refine bz (hn'.count (Within.cons name v Within.nil)) λoD esD epD hoD hdD hcD=>?_;refine wpAny_bind (wpAny_lookBehind hoD (by rw[hdD];exact pastItsLine_dict (PO hcD (by simp only[List.length_cons,List.length_nil,bA];omega))) (wpAny_pure ?_));refine hq h' _ h.objs.size (λb o hb eb=>(hs.2 b (Nat.ne_of_lt (Heap.lt_size eb))).trans ((Heap.get?_update_ne _ _ _ _ hb).trans (Heap.get?_push_of_some _ eb))) ?_;exact(hs.2 e hes).trans hge
end
end
section
variable{w:World}{Gk:Heap}{mg mb:Str->Option Value}{xt:Bool}
section
variable{A:Around}{s:Shared}{R:Result->Shared->Prop}
set_option tactic.hygienic true in
theorem yI{e a:Addr}{txt:Value}(K:(KH w.params).In s.heap)(T:TopRead qv (looseW qv BY) mg mb s.heap)(hKe:(KH w.params).lookup e=none)(he:s.heap.get? e=some (bM a))(hroom:A.depth<recursionLimit)
  (hq:∀ h' tk a' dx,(∀ b o,b≠e->s.heap.get? b=some o->h'.get? b=some o)->h'.get? e=some { bM a' with dict:=some dx }->R (.ok (.ret .none)) { s with heap:=h',toks:=tk }) :
  codeAny (model pw w) A (.call (.ref 35) ⟨[.ref e,txt],[]⟩) R s:=by
 have hp:=wy w.params;refine ao (Option.map_eq_some_iff.mp hp) λfd hfd hp=>?_;simp only[Prod.mk.injEq]at hp;refine jf hp λhp1 hp2 hp3=>?_;have hchk:=AX w.params;rw[hfd]at hchk;have hchk:mS (KH w.params) (nm "F77Error.__init__") fd=true:=hchk;refine eP (kJ hfd) λoc od sl hobj=>?_;refine bo (nh hchk) λc1 c2 c3 c4 z1=>?_;refine uM z1 λc5 c6 c7 c8 c9 IR Jg=>?_;refine PT (λq1 q2=>?_) tf;refine jf wz λn1 n2 n3=>?_;have hd0:fd.params.defaults=[]:=by rw[hp1,q1]
 refine ao (qz (w:=w) (B:=λ_=>none) (ρ:=[]) (fd:=fd) K c8 (dd:=[]) (by rw[hd0];rfl)) λdv rd hdv=>?_;obtain rfl:=List.eq_nil_of_length_eq_zero rd.length;have eb:fk (jQ.1.args.map (·.arg)) [.ref e,txt] []=some [(nm "self",.ref e),(nm "text",txt)]:=by rw[q2];kernel_rfl
 have kOf:∀ x,(callEnvC fd s.heap.objs.size 35).kindOf x=jQ.2.2.names.lookup x:=λx=>by rw[<-hp3];rfl
 have kk1:=(kOf (nm "self")).trans n1;have kk2:=(kOf (nm "text")).trans n2;have kk3:=(kOf (nm "Exception")).trans n3;refine qy hroom (K _ _ hobj) rfl T.nolimit (codeRec_of K c4) hp2 (p0 (hp1.trans q1) hdv eb) c2 (λx hx=>?_) c5 c6 c7 λGm J=>?_
 ·exact hp3 ▸ vP hx (λq=>q ▸ .inl n1) λq=>q ▸ .inl n2
 refine gE J.toInCall.same λhh1 tk es=>?_;subst es;generalize hL:s.heap.objs.size=L at *
 generalize henv:callEnvC fd L 35=env at *
 have hk:env.scope.kind=.function:=by rw[<-henv];exact c7
 have hgl:env.globals=mainGlobals:=by rw[<-henv];exact c1
 have hbu:env.builtins=builtinsNs:=by rw[<-henv];exact c3
 have hlo:env.locals=L:=by rw[<-henv];rfl
 have m1:bindL env.kindOf [(nm "self",Value.ref e),(nm "text",txt)] (λ_=>none) (nm "self")=some (.ref e):=by dsimp only[bindL,bindL,bindL];rw[PW kk1,PW kk2];rw[PX (by decide +kernel),PW rfl]
 have m2:bindL env.kindOf [(nm "self",Value.ref e),(nm "text",txt)] (λ_=>none) (nm "text")=some txt:=by dsimp only[bindL,bindL,bindL];rw[PW kk1,PW kk2];rw[PW rfl]
 generalize bindL env.kindOf [(nm "self",Value.ref e),(nm "text",txt)] (λ_=>none)=m at *
 refine bp C4 λp1 p2 p3 p4 z2=>?_;refine bp z2 λp5 p6 p7 p8 z3=>?_;refine aI z3 λp9 p10 hb hl=>?_;rw[hb];have Hn:=T.keeps J.toInCall.keep;have Hw:=K.keeps J.toInCall.keep;have HY:Fr s.heap env.locals hh1 m:=⟨J.toInCall.ns,J.toInCall.keep,J.toInCall.fresh⟩;have hi:interactive env=false:=by unfold interactive;rw[hk];rfl
 refine wpAny_execs_cons (wpAny_Expr_any ?_ hi rfl);rw[arm_eval_Call];refine th (g7 rfl (Name_function_global hk kk3 (loadGlobal_builtin (by rw[hgl];exact Hn.g) (mg_none_of Hw Hn.g (u7 w.params).1) (by rw[hbu];exact Hn.b) ((Hn.builtins _ (by decide +kernel)).trans (u7 w.params).2) ?_) (by decide +kernel)));refine th (wpAny_standAt ?_);have hf:methodCallForm (([.Name (nm "self") p3,.Name (nm "text") p4]:List Expr).length+([]:List Keyword).length) (backTo p5 (starEach [.Name (nm "self") p3,.Name (nm "text") p4] env)) (backToKw p5 (keywordEach [] env))=true:=by unfold methodCallForm;rw[jl (by rfl)];rfl
 unfold methodCall;rw[hf];refine th (wpAny_holding (method_type HY K (T:="Exception") (kitMeta_of (by decide +kernel)) (by decide +kernel) (yH w.params) rfl ?_));have hpos:methodCallPos true (.Name (nm "Exception") p1) env p2 p5=pure p5:=by unfold methodCallPos;rw[hl];rfl
 dsimp only;rw[hpos];refine th (wpAny_pure ?_);have HC:=J.tok (tk+1);have Hm:hh1.get? e=some (bM a):=J.toInCall.keep _ _ he;have heL:e≠L:=λq=>dt ((aD s.heap).symm.trans ((congrArg s.heap.get? (hL.trans q.symm)).trans he));refine callWith_of (P:=λhp=>∃ k,(k=Keeper.frame\/k=Keeper.machine\/k=Keeper.boundFrame)/\Looks (model pw w) hp (keeperOf (.builtin "Exception.__init__")) k) (by rw[eX rfl];rfl) (λ_ z=>z) ?_;have kkw:(backToKw p5 (keywordEach [] env))=[]:=rfl;rw[kkw];have aw:∀ {Q:List Value->Shared->Prop} {E:Value->Shared->Prop},Q [.ref e,txt] { s with heap:=hh1,toks:=tk+1 }->wpAny (model pw w) (A.deeper env) (spliced (backTo p5 (starEach [.Name (nm "self") p3,.Name (nm "text") p4] env))) Q E { s with heap:=hh1,toks:=tk+1 }:=λq=>
  args_cons (NameLC HC hk kk1 m1 (args_cons (NameLC HC hk kk2 m2 (args_nil q) (by decide +kernel)) rfl) (by decide +kernel)) rfl
 refine evalArgs_plain (aw ⟨⟨.machine,.inr (.inl rfl),Looks.of_pure rfl⟩, ?_⟩);refine oy (Hw _ _ (g_ w.params)) Hm λh' hk' he'=>?_;have Kh':(KH w.params).In h':=λb o q=>hk' b o (λz=>by rw[z,hKe]at q;cases q) (Hw b o q);have kL:h'.get? L=hh1.get? L:=by refine ao (p_ J.toInCall.ns) λo ho _=>?_;rw[hlo]at ho;exact(hk' L o heL.symm ho).trans ho.symm
 have ns':h'.Ns env.locals m:=by refine uL J.toInCall.ns λo es ep ho r=>?_;rw[hlo]at ho ⊢;exact⟨o,es,ep,kL.trans ho,r⟩
 refine wpAny_execs_cons ?_;rw[arm_exec_Assign];have hsw:swapsWithSole [.Attribute (.Name (nm "self") p7) (nm "text") p8] (.Name (nm "text") p9) p10.line env=pure false:=rfl;rw[hsw];refine wpAny_bind (wpAny_standAt (wpAny_bind (wpAny_pure ?_)));rw[PX (by decide)];refine wpAny_bind (wpAny_Name (wpAny_loadName_local hk kk2 ns' m2 ?_) (by decide +kernel));have hss:swappedStores [.Attribute (.Name (nm "self") p7) (nm "text") p8] (.Name (nm "text") p9) env=pure none:=rfl;rw[hss];refine wpAny_bind (wpAny_pure ?_);show wpAny _ _ (do assign (.Attribute (.Name (nm "self") p7) (nm "text") p8) env txt;pure Flow.next) _ _ _;refine wpAny_bind ?_;rw[arm_assign_Attribute];refine wpAny_bind (wpAny_holding (wpAny_Name (wpAny_loadName_local hk kk1 ns' m1 ?_) (by decide +kernel)));refine wpAny_bind (wpAny_standAt (wpAny_bind (wpAny_holding ?_)));refine tg Kh' (yG w.params).2 he' λh'' tk2 dx hk'' he''=>wpAny_release (wpAny_pure (wpAny_execs_nil ?_));exact hq h'' tk2 hh1.objs.size dx (λb o hb q=>hk'' b o hb (hk' b o hb (J.toInCall.keep b o q))) he''
end
end
section
variable{w:World}{Gk:Heap}{mg mb:Str->Option Value}{xt:Bool}
section
variable{M:Model}{A:Around}{E:Value->Shared->Prop}{s:Shared}{env:Env}
theorem yJ{x:Sem Value}{Q:Flow->Shared->Prop}(hh:A.handled=none)
  (h:wpAny M A x (λv Gm=>∃ e a dx,v=.ref e/\Gm.heap.get? 51=some jH/\Gm.heap.get? e=some { bM a with dict:=some dx }/\E (.ref e) Gm) E s):wpAny M A (raiseStmt env (some x) none) Q E s:=by
 have hcB:(Value.ref 51::gS).contains (.type "BaseException")=true:=rfl;refine wpAny_bind (wpAny_mono h (λv Gm Gq=>?_) λ_ _ x=>x);refine iu Gq λe a dx z1 hC he hE=>?_;obtain rfl:=z1;obtain⟨hp,g,d,tk,os⟩:=Gm
 repeat (first | with_reducible refine wpAny_loadPart_at he ?_ | with_reducible refine wpAny_loadPart_at hC ?_ | (with_reducible refine wpAny_isSubtype_exc hC ?_;dsimp only[hcB]) | wp_step)
 exact wpAny_raiseNew_none hh hE
end
section
variable{H8:Nat}{A:Around}{env:Env}{L:Addr}{sc:Sc}{fr:af}{Go G:Gh}{Gn s:Shared}{E:Value->Shared->Prop}{α β:Type}{P:Gh->β->α->Prop}{Q:β->Shared->Prop}{f:Flow'->M α}{Gp:Flow->Shared->Prop}
theorem wA(X:Cx w Gk mg mb){x txt:Str}{np kp cpos pos:Pos}{k:Nat}(B:Bs w Gk H8 xt A env L sc Go Gn G s fr)(h:Ok w Gk xt P (ownOf env) L Go Gn (bnd (if x=bE/\sc.lookup x=some .globalImplicit then aQ else stuck) f G.σ) Q E) :
  wpAny (model pw w) A (exec (.Raise (some (.Call (.Name x np) [.Constant (.str txt) k kp] [] cpos)) none pos) env) Gp E s:=by
 have I:=B.I;have F:=B.F;have hc:x=bE/\sc.lookup x=some .globalImplicit:=by
  refine PU (P8 (x=bE/\sc.lookup x=some .globalImplicit)) (λhc=>?_) λhc=>?_
  ·exact hc
  ·replace h:=(PX hc) ▸ h;exact(h:False).elim
 replace h:=(PW hc) ▸ h;obtain⟨rfl,hx⟩:=hc;have K:=I.K X;have T:=I.T X;have kk:env.kindOf bE=some .globalImplicit:=by
  rcases F.names bE with q | ⟨q,_⟩
  ·refine PV q ?_;exact hx
  ·replace q:=(hx) ▸ q;exact absurd q (by decide)
 simp only[arm_exec_Raise];refine wpAny_bind (wpAny_standAt (yJ F.handled ?_));refine th (Call_ (Name_function_global F.kind kk (loadGlobal_global (by exact F.globals ▸ T.g) (mg_of K T.g (u0 w.params)) ?_) (by decide +kernel)) (by rfl));refine callWith_of (P:=λhp=>∃ k,(k=Keeper.frame\/k=Keeper.machine\/k=Keeper.boundFrame)/\Looks (model pw w) hp (keeperOf (.ref 51)) k) (by rw[eX rfl];rfl) (λ_ z=>z) ?_;have aw:∀ {Q:List Value->Shared->Prop} {E:Value->Shared->Prop},Q [.str txt s.toks] { s with toks:=s.toks+1 }->wpAny (model pw w) A (spliced (backTo cpos (starEach [.Constant (.str txt) k kp] env))) Q E s:=λq=>args_cons (Constant_str (args_nil q)) rfl;refine evalArgs_plain (aw ⟨keeps_K (AV w.params) _ K,wpAny_call ?_⟩);obtain⟨hh,g,d,t,os⟩:=s;refine cM (qd (A:=A) (C:=51) (vs:=[.str txt t])) λu1 u2 u3 u4=>?_;refine AW (P:=w.params) K ?_;have kp':∀ b o,hh.get? b=some o->((hh.push { cls:=.type "tuple",data:=.seq [Value.str txt t].toArray }).push (bM hh.objs.size)).get? b=some o:=λb o e=>Heap.get?_push_of_some _ (Heap.get?_push_of_some _ e);have hx1:((hh.push { cls:=.type "tuple",data:=.seq [Value.str txt t].toArray }).push (bM hh.objs.size)).get? (hh.objs.size+1)=some (bM hh.objs.size):=by heap_get
 have enew:hh.get? (hh.objs.size+1)=none:=Heap.get?_none_of_le (Nat.le_succ _);have hKe:(KH w.params).lookup (hh.objs.size+1)=none:=by
  induction q:(KH w.params).lookup (hh.objs.size+1) with
  | none=>rfl
  | some o=>have:=K _ _ q;simp only[show(⟨hh,g,d,t,os⟩ : Shared).heap=hh from rfl]at this;rw[enew]at this;exact nomatch this
 have eB:G.B (hh.objs.size+1)=none:=by
  induction q:G.B (hh.objs.size+1) with
  | none=>rfl
  | some o=>have:=I.stays _ _ q;simp only[show(⟨hh,g,d,t,os⟩ : Shared).heap=hh from rfl]at this;rw[enew]at this;exact nomatch this
 refine yI (K.keeps kp') (T.keeps kp') hKe hx1 (PQ (show _<=A.depth+1 from u3) (by have:=F.depth;omega)) λh' tk a' dx hk' he'=>?_;refine⟨rfl,wpAny_bind (wpAny_standAt (wpAny_pure ⟨_,a',dx,rfl, ?_,he', ?_⟩))⟩
 ·exact hk' _ _ (λq=>by replace hKe:=(Eq.symm q) ▸ hKe;rw[g_]at hKe;injection hKe) (kp' _ _ (K _ _ (g_ w.params)))
 ·have R:Rn w Gk false (ownOf env) G ⟨hh,g,d,t,os⟩ G ⟨h',g,d,tk,os⟩:=dA I tk λb o e=>hk' b o (λq=>by replace e:=(q) ▸ e;replace e:=(enew) ▸ e;injection e) (kp' b o e);refine h _ _ G rfl (B.R.slack.trans R) (ExcAt.back (Gq:=hh) ⟨hh.objs.size+1,_,_,51,.ref a',rfl,enew,eB,he',u0 w.params,rfl,rfl,rfl,.inl rfl⟩ λb q=>B.R.fresh b q)
end
end
section
variable{w:World}{Gk:Heap}{mg mb:Str->Option Value}{xt:Bool}
theorem yK{α:Type}(m:M D)(f:D->M Flow')(h:M Flow')(g:Flow'->M α)(σ:St):bnd (vV m f h) g σ=match m σ with
   | .ok v σ'=>bnd (f v) g σ'
   | .exc σ'=>bnd h g σ'
   | .stuck=>.stuck:=by
 unfold vV bnd;dsimp only
 induction m σ <;> rfl
section
variable{H8:Nat}{A A':Around}{env:Env}{L:Addr}{sc:Sc}{fr:af}{Go G G':Gh}{Gn s s':Shared}{E:Value->Shared->Prop}{r:Rc}{α β:Type}{P:Gh->β->α->Prop}{Q:β->Shared->Prop}{f:Flow'->M α}{Gp:Flow->Shared->Prop}{k:K'}{Ib:List Addr}
theorem Fm.slots{fr':af}{s'':Shared}(F:Fm w H8 A G s.heap env L sc fr)(R:Rn w Gk false Ib G s G' s'')(F':Fm w H8 A G' s'.heap env L sc fr')(ks:∀ b o,s'.heap.get? b=some o->aV o->∃ sl,s''.heap.get? b=some { o with slots:=sl })
  (S:∀ l,A.frames=some l->StkL G' s''.heap l):Fm w H8 A G' s''.heap env L sc fr':=F'.sl ks S λc hc=>by
 refine PS (F.ex c hc) λo e=>?_;refine ao (R.there c o e) λo' q _=>?_;exact⟨o',q⟩
theorem C5{x:Value}{fr':af}(F:Fm w H8 A G s.heap env L sc fr)(R:Rn w Gk false Ib G s G' s')(F':Fm w H8 A G' s'.heap env L sc fr')(X:ExcAt w s.heap G' s'.heap L x){Q:Unit->Shared->Prop}
  (k:∀ s'',Rn w Gk false Ib G s G' s''->Fm w H8 A G' s''.heap env L sc fr'->ExcAt w s.heap G' s''.heap L x->Q () s''):wpAny (model pw w) A (noteFrame x env) Q E s':=by
 refine ar F'.stk λGF outer f1 f2 f3=>?_;exact(eS (env:=GF) (env':=env) (F.frame.trans f2.symm)) ▸ (iO f1 f2 R f3 X λs'' ks R' S' X' _=>k s'' R' (F.slots R' F' ks λl hl=>by replace hl:=(f1) ▸ hl;cases hl;exact S') X')
theorem yL{x:Value}{fr':af}(F:Fm w H8 A G s.heap env L sc fr)(R:Rn w Gk false Ib G s G' s')(F':Fm w H8 A G' s'.heap env L sc fr')(X:ExcAt w s.heap G' s'.heap L x){Q:Unit->Shared->Prop}
  (k:∀ s'',Rn w Gk false Ib G s G' s''->Fm w H8 A G' s''.heap env L sc fr'->ExcAt w s.heap G' s''.heap L x->Q () s''):wpAny (model pw w) A' (setFlight x none) Q E s':=by
 refine ar F'.stk λGF outer f1 f2 f3=>?_;exact eR (.inl rfl) R f3 X λs'' ks R' S' X' _=>k s'' R' (F.slots R' F' ks λl hl=>by replace hl:=PV (Eq.symm f1) hl;cases hl;exact S') X'
theorem jn{A':Around}{y:Str}{py cpos pos:Pos}{ck:Nat}(hy:gM sc y=true)(F:Fm w H8 A G s.heap env L sc fr)(I:Inv w Gk G s.heap)
  (k:∀ s',Rn w Gk xt (ownOf env) G s G s'->Fm w H8 A G s'.heap env L sc (aj fr y .none)->Gp .next s'):wpAny (model pw w) A' (exec (.Assign [.Name y py] (.Constant .none ck cpos) pos) env) Gp E s:=by
 simp only[arm_exec_Assign];have hsw:swapsWithSole [.Name y py] (.Constant .none ck cpos) pos.line env=pure false:=rfl;rw[hsw];refine wpAny_bind (wpAny_standAt (wpAny_bind (wpAny_pure ?_)));rw[PX (by decide)];refine wpAny_bind (Constant_none ?_);have hss:swappedStores [.Name y py] (.Constant .none ck cpos) env=pure none:=rfl;rw[hss];refine wpAny_bind (wpAny_pure ?_);exact wpAny_bind (wpAny_assign_Name (ei F I .none hy λs' R F'=>wpAny_pure (k s' R F')))
theorem AY{e:Expr}{z:Str}{pz:Pos}{l:Nat}{env:Env}(hc:kr e=true):swapsWithSole [.Name z pz] e l env=pure false/\swappedStores [.Name z pz] e env=pure none:=
 Expr.Call.elim (motive_1:=λe=>swapsWithSole [.Name z pz] e l env=pure false/\swappedStores [.Name z pz] e env=pure none) e (eq_of_beq hc) λ_ _ _ _=>⟨rfl,rfl⟩
theorem AZ(X:Cx w Gk mg mb)(SR:bq w Gk H8 r){z y x:Str}{e:Expr}{pz py np cp ap ap' hp pos:Pos}{ck:Nat}(B:Bs w Gk H8 false A env L sc Go Gn G s fr)
  (hc:x=bE/\sc.lookup x=some .globalImplicit/\kr e=true) (h:Ok w Gk false P (ownOf env) L Go Gn (bnd (vV (r.ev sc fr e) (λv=>bnd (aY sc fr z v) k) (bnd (aY sc fr y .none) k)) f G.σ) Q E)
  (hN:∀ s' G' fr',Rn w Gk false (ownOf env) G s G' s'->Bs w Gk H8 false A env L sc Go Gn G' s' fr'->Ok w Gk false P (ownOf env) L Go Gn (bnd (k fr') f G'.σ) Q E->Gp .next s') :
  wpAny (model pw w) A (exec (.Try [.Assign [.Name z pz] e ap'] [.ExceptHandler (some (.Name x np)) none [.Assign [.Name y py] (.Constant .none ck cp) ap] hp] [] [] pos) env) Gp E s:=by
 have F:=B.F;have I:=B.I;obtain⟨rfl,hx,hcall⟩:=hc;rw[yK]at h;refine wpAny_Try_except ?_;refine wpAny_execs_cons ?_;dsimp only[arm_exec_Assign];refine PT (λhsw hss=>?_) (AY (z:=z) (pz:=pz) (l:=ap'.line) (env:=env) hcall);rw[hsw];refine wpAny_bind (wpAny_standAt (wpAny_bind (wpAny_pure ?_)));rw[PX (by decide)];refine wpAny_bind (mZ SR I F (λq=>by rw[q]at h;exact h) (λv Gm Gl d GM R Gv rv=>?_) λy' s' G' GM R X'=>?_)
 ·rw[hss];refine wpAny_bind (wpAny_pure ?_);rw[GM]at h;have h:Ok w Gk false P (ownOf env) L Go Gn (bnd (bnd (aY sc fr z d) k) f Gl.σ) Q E:=h;rw[aS]at h;refine PT (λhv hst=>?_) (ej h.nst);replace h:=(hst) ▸ h;have GI:=B.on R;exact wpAny_bind (wpAny_assign_Name (ei Gv R.inv rv hv λs2 R2 F2=>wpAny_pure (wpAny_execs_nil (wpAny_execs_nil (hN s2 Gl _ (R.ev.trans R2) ⟨B.F₀,GI.R.trans R2,F2⟩ h)))))
 ·rw[GM]at h;have h:Ok w Gk false P (ownOf env) L Go Gn (bnd (bnd (aY sc fr y .none) k) f G'.σ) Q E:=h;rw[aS]at h;refine PT (λhv hst=>?_) (ej h.nst);replace h:=(hst) ▸ h;refine C5 F R (F.rn R λ_ _=>xw) X' λs2 R2 F2 X2=>yL F R2 F2 X2 λs3 R3 F3 X3=>?_;have I3:=R3.inv;have K3:=I3.K X;have T3:=I3.T X;obtain⟨ea,oe,vs,C,a0,rfl,x2,x3,x4,x5,x6,_⟩:=id X3;have hC:C=51:=by unfold sH jB at x5;rw[u0]at x5;cases x5;rfl
  subst hC;have kk:env.kindOf bE=some .globalImplicit:=by
   rcases F3.names bE with q | ⟨q,_⟩
   ·refine PV q ?_;exact hx
   ·replace q:=(hx) ▸ q;exact absurd q (by decide)
  refine wpAny_handleBy_cons (codeAny_handlers_test (Name_function_global F3.kind kk (loadGlobal_global (by exact F3.globals ▸ T3.g) (mg_of K3 T3.g (u0 w.params)) ?_) (by decide +kernel))) (by intro q;injection q);obtain⟨hh,g,d,t,os⟩:=s3;refine wpAny_excMatches_sub_self (K3 _ _ (g_ w.params)) x4 x6 (rfl) ?_;refine codeAny_handlers_suite (yL F R3 F3 X3 λs4 R4 F4 X4=>wpAny_execs_cons (jn (xt:=false) hv F4 R4.inv λs5 R5 F5=>wpAny_execs_nil ?_));have R45:=(R4.weak (own':=ownOf env) dj).trans R5;exact hN s5 G' _ R45 ⟨B.F₀,B.R.trans R45,F5⟩ h
end
end
section
variable{w:World}{Gk:Heap}{mg mb:Str->Option Value}
theorem no{α:Type}{a:α}{P:Prop}(h:none=some a):P:=nomatch h
theorem A6{as:List Expr}(h:sF as=true):∃ txt k kp,as=[.Constant (.str txt) k kp]:=by
 rcases as with _ | ⟨a,_ | _⟩
 ·exact fH h
 ·refine kt (· = true) h (λc k kp z h=>?_) fH;subst z;exact Const.str.elim (motive:=λc=>∃ txt k' kp',[Expr.Constant c k kp]=[.Constant (.str txt) k' kp']) c (eq_of_beq h) λtxt=>⟨txt,k,kp,rfl⟩
 ·exact fH h
theorem wB{e:Expr}{f:Str}(h:j4 e=some f):∃ np txt k kp cpos,e=.Call (.Name f np) [.Constant (.str txt) k kp] [] cpos:=by refine vU (· = some f) h (λg as ks cp z h=>?_) no;subst z;refine PU (P8 (sF as=true/\ks.isEmpty=true)) (λc=>?_) λc=>no ((PX c).symm.trans h);obtain⟨p,y1⟩:=f8 ((PW c).symm.trans h);refine eP (A6 c.1) λtxt k kp z1=>?_;exact⟨p,txt,k,kp,cp,by simp only[y1,z1,List.isEmpty_iff.mp c.2]⟩
theorem qD{α:Type}{e:Expr}{g:Str->α}{a:α}(h:(dc e).map g=some a):∃ z p,e=.Name z p/\g z=a:=by
 induction q:dc e with
 | none=>rw[q]at h;exact no h
 | some z=>rw[q]at h;obtain⟨p,rfl⟩:=f8 q;exact⟨z,p,rfl,PY h⟩
theorem lf{b:List Stmt}{z:Str}{e:Expr}(h:dz b=some (z,e)):∃ p q,b=[.Assign [.Name z p] e q]:=by
 rcases b with _ | ⟨s,_ | _⟩
 ·exact no h
 ·refine pM (· = some (z,e)) h (λts e' q z h=>?_) no;rw[z];rcases ts with _ | ⟨t,_ | _⟩
  ·exact no h
  ·refine aI (qD h) λz' p z2 e=>?_;cases e;exact⟨p,q,by rw[z2]⟩
  ·exact no h
 ·exact no h
theorem yM{hs:List ExceptHandler}{f:Str}{b:List Stmt}(h:nQ hs=some (f,b)):∃ np hp,hs=[.ExceptHandler (some (.Name f np)) none b hp]:=by
 rcases hs with _ | ⟨⟨_ | e,_ | _,b',hp⟩,_ | _⟩ <;> try exact no h
 refine aI (qD h) λz' p z3 e=>?_;cases e;exact⟨p,hp,by rw[z3]⟩
theorem yN{e:Expr}(h:uR e=true):∃ k p,e=.Constant .none k p:=by refine kt (· = true) h (λc k p z h=>?_) fH;subst z;exact Const.none.elim (motive:=λc=>∃ k' p',Expr.Constant c k p=.Constant .none k' p') c (eq_of_beq h) ⟨k,p,rfl⟩
theorem A7{H8:Nat}{tr:Bool}{r:Rc}{x:Sx}(X:Cx w Gk mg mb)(SR:bq w Gk H8 r)(SX:kW w Gk H8 (!tr) x):kW w Gk H8 (!tr) (xP tr r x):=by
 intro A env L sc st fr k Go G Gn s α β P f Q E Gp B h hN hR
 induction st using Stmt.casesOn with
 | Pass=>exact yy B h hN
 | Return o=>
  induction o with
  | none=>exact kX SR (e:=none) B h hR
  | some=>exact kX SR B h hR
 | Expr e=>exact PT (λhc h=>yz SR hc B h hN) (Ok.iteB h)
 | Assign ts=>
  rcases ts with _ | ⟨t,_ | _⟩
  ·exact(h:False).elim
  ·exact qq X SR B h hN
  ·exact(h:False).elim
 | AugAssign t op e p=>refine Ok.onName (λm=>bnd m f G.σ) h (λy py z h1=>?_) False.elim;clear h;subst z;exact AS SR B h1 hN
 | If=>exact CV SR SX B h hN hR
 | While t b o=>
  induction o using List.casesOn with
  | cons=>exact(h:False).elim
  | nil=>exact wt SR SX _ B h hN hR
 | For t i b o pos=>
  induction o using List.casesOn with
  | cons=>exact(h:False).elim
  | nil=>
   refine PT (λhset h1=>?_) (Ok.iteB h);rw[aS]at h1;refine wpAny_For (s8 SR B h1 λv Gm Gl src R GI rv Gq=>?_) λz=>e7 hset;clear h h1;refine Ok.onTup (λm=>bnd m f Gl.σ) Gq (λts n tp z h2=>?_) λh3=>Ok.onName (λm=>bnd m f Gl.σ) h3 (λy py z h2=>?_) False.elim
   ·clear Gq;subst z;refine Af (λm=>Ok w Gk (!tr) P (ownOf env) L Go Gn (bnd m f Gl.σ) Q E) h2 (λl z h3=>?_) False.elim;clear h2;subst z;exact wv SX GI rv h3 (λs2 G2 bS R2 B2 h2=>hN s2 G2 bS (R.ev.trans R2) B2 h2) hR
   ·clear Gq h3;subst z;rw[aS]at h2;exact AU (pos:=pos) X SR SX hset GI rv h2 (λs2 G2 bS R2 B2 h2=>hN s2 G2 bS (R.ev.trans R2) B2 h2) hR
 | Raise o c=>
  rcases o with _ | e
  ·exact(h:False).elim
  rcases c with _ | c
  case some=>exact(h:False).elim
  replace h:Ok w Gk (!tr) P (ownOf env) L Go Gn (bnd (xO sc (j4 e)) f G.σ) Q E:=h;rcases q:j4 e with _ | y <;> rw[q]at h
  ·exact(h:False).elim
  ·refine xv (wB q) λ_ _ _ _ _ z4=>?_;exact z4 ▸ (wA X B h)
 | Try b hs o fb=>
  rcases o with _ | _
  case cons=>exact(h:False).elim
  rcases fb with _ | _
  case cons=>exact(h:False).elim
  replace h:Ok w Gk (!tr) P (ownOf env) L Go Gn (bnd (DZ tr r sc fr k (dz b) (nQ hs)) f G.σ) Q E:=h;rcases q:dz b with _ | ⟨z,e⟩ <;> rw[q]at h
  ·exact(h:False).elim
  rcases q2:nQ hs with _ | ⟨HZ,b2⟩ <;> rw[q2]at h
  ·exact(h:False).elim
  refine gE (lf q) λ_ _ z5=>?_;rw[z5];refine gE (yM q2) λ_ _ z6=>?_;subst z6;replace h:Ok w Gk (!tr) P (ownOf env) L Go Gn (bnd (DY tr r sc fr k z e HZ (dz b2)) f G.σ) Q E:=h;rcases q3:dz b2 with _ | ⟨y,v⟩ <;> replace h:=q3 ▸ h
  ·exact(h:False).elim
  refine gE (lf q3) λ_ _ z7=>?_;rw[z7];refine PT (λhc h=>?_) (Ok.iteB h);refine gE (yN hc.1) λ_ _ z8=>?_;rw[z8];refine PT (λht hc2=>?_) hc.2;obtain rfl:=ht;exact AZ X SR B hc2 h hN
 | _=>exact(h:False).elim
theorem oz{H8:Nat}{tr:Bool}{r:Rc}(X:Cx w Gk mg mb)(SR:bq w Gk H8 r):∀ n,kW w Gk H8 (!tr) (EV tr r n)
 | 0=>λ_ h=>(h:False).elim
 | n+1=>A7 X SR (oz X SR n)
theorem wC{x:Str}(h:fnAddr.lookup x=none):vY x=none:=by unfold vY;rw[<-sP,eT,h];rfl
theorem wD{d:Nat}{x:Str}{as:List D}{σ:St}(h:fnAddr.lookup x=none):run d x as σ=.stuck:=by
 induction d using Nat.casesOn with
 | zero=>rfl
 | succ d=>show bnd (ac (vY x)) _ σ=_;exact(wC h) ▸ rfl
abbrev Ca:Flow'->M D:=λq0=>match q0 with
 | .ret d=>ret d
 | .next _=>ret .none
theorem u8{A:Around}{L L':Addr}{G:Gh}{s Gm:Shared}{env:Env}{Q:Value->Shared->Prop}{E:Value->Shared->Prop}{t:R D}{H8:Nat}{sc:Sc}{fr:af}{xt:Bool}(h:Ok w Gk xt (rep w) [] L G s t Q E)(GC:Rn w Gk true [] G s G Gm)(F:Fm w H8 (A.deeper env) G Gm.heap env L' sc fr){outer:List Env}(hA:A.frames=some outer)(hnew:∀ b∈ownOf env,s.heap.get? b=none) :
  Ok w Gk xt (rep w) (ownOf env) L' G Gm t Q (λe s'=>wpAny (model pw w) (A.deeper env) (leaving env e) (λ_ s''=>qa Q E (.error e) s'') (λe' s''=>qa Q E (.error e') s'') s'):=by
 have hf:∀ b∈ownOf env,b∈([]:List Addr)\/s.heap.get? b=none:=λb hb=>.inr (hnew b hb)
 induction t with
 | ok d σ'=>exact λv s' G' e R p=>h v s' G' e (j_ GC.ev R hf) p
 | stuck=>exact h
 | exc σ'=>intro x s' G' e R X;have hfr:=Around.frames_deeper (env:=env) hA;refine ar F.stk λGF H3 f1 f2 f3=>?_;replace f1:=(hfr) ▸ f1;cases f1;exact wa hfr F.frame R (f3.rn R) X λs'' _ R'' _ X''=>h x s'' G' e (j_ GC.slack R'' hf) ((X'' L).back λb q=>GC.fresh b q)
theorem u9(X:Cx w Gk mg mb):∀ d,n_ w Gk d (run d)
 | 0=>⟨λ_ _ _ _ _ h=>(h:False).elim,λ_ _ _ _=>rfl⟩
 | d+1=>⟨λ{A L x a ij as vs G s Q E} hx I Am ra hf h=>by
  have ih:=u9 X d;refine ao (cg h) λt ht h=>?_;refine gE (B8 ht w.params) λa' fd hfn=>?_;refine PS hfn.row λij' hrow=>?_;replace hrow:=(hf) ▸ hrow;cases hrow;have htr:(x==nm "law")=false:=by simpa using hx
  replace h:=(htr) ▸ h;obtain⟨fr,σ',hb⟩ : ∃ fr σ',iG t.1 as G.σ=.ok fr σ':=by
   induction q:iG t.1 as G.σ with
   | ok fr σ'=>exact⟨fr,σ',rfl⟩
   | exc σ'=>exact absurd q ni
   | stuck=>exact absurd q (ba h.nst)
  refine PT (λzz0 _=>?_) (k_ hb);obtain rfl:=zz0;rw[be hb]at h;refine ar Am.stk λGF outer f1 f2 f3=>?_;refine qB X hfn I Am.handled Am.depth Am.units f1 f3 ra hb λenv L' Gm GC F hnew Ib=>?_;refine e8 (xt:=true) (f:=Ca) (E:=λe s'=>wpAny (model pw w) (A.deeper env) (leaving env e) (λ_ s''=>qa Q E (.error e) s'') (λe' s''=>qa Q E (.error e') s'') s') (Q:=Q) (P:=rep w) (oz (tr:=false) X (ka X ih vW) vW) ⟨⟨fr,F⟩,.refl GC.inv,F⟩ (u8 h GC F f1 Ib) (λs' G' fr' _ B' h'=>?_) λv dd s' G' R' rv h'=>?_
  ·exact h' .none s' G' rfl B'.R .none
  ·exact h' v s' G' rfl R' rv,λx as σ hx=>wD hx⟩
theorem A8(X:Cx w Gk mg mb){d:Nat}{A:Around}{a:Addr}{ij:Nat×Nat}{as:List D}{vs:List Value}{G:Gh}{s:Shared}{Q:Value->Shared->Prop}{E:Value->Shared->Prop}(I:Inv w Gk G s.heap)(hh':A.handled=none)(hdp:A.depth+4*(d+1)+4<recursionLimit)(hun:A.units+20*(d+1)+200<cLine)
  (f1:A.frames=some []) (ra:RepL w G.B G.ρ vs as) (hf:fnAddr.lookup (nm "law")=some (a,ij)) (h:Ok w Gk false (rep w) [] 0 G s (run (d+1) (nm "law") as G.σ) Q E):codeAny (model pw w) A (.call (.ref a) ⟨vs,[]⟩) (qa Q E) s:=by
 have ih:=u9 X d;refine ao (cg h) λt ht h=>?_;refine gE (B8 ht w.params) λa' fd hfn=>?_;refine PS hfn.row λij' hrow=>?_;rw[hf]at hrow;cases hrow;rw[beq_self_eq_true]at h;obtain⟨fr,σ',hb⟩ : ∃ fr σ',iG t.1 as G.σ=.ok fr σ':=by
  induction q:iG t.1 as G.σ with
  | ok fr σ'=>exact⟨fr,σ',rfl⟩
  | exc σ'=>exact absurd q ni
  | stuck=>exact absurd q (ba h.nst)
 obtain⟨rfl,_⟩:=k_ hb;rw[be hb]at h;refine qB X hfn I hh' hdp hun f1 (λ_ q=>nomatch q) ra hb λenv L' Gm GC F hnew Ib=>?_;refine e8 (xt:=false) (f:=Ca) (E:=λe s'=>wpAny (model pw w) (A.deeper env) (leaving env e) (λ_ s''=>qa Q E (.error e) s'') (λe' s''=>qa Q E (.error e') s'') s') (Q:=Q) (P:=rep w) (oz (tr:=true) X (ka X ih vW) vW) ⟨⟨fr,F⟩,.refl GC.inv,F⟩ (u8 h GC F f1 Ib) (λs' G' fr' _ B' h'=>?_) λv dd s' G' R' rv h'=>?_
 ·exact h' .none s' G' rfl B'.R .none
 ·exact h' v s' G' rfl R' rv
end
section
noncomputable def ti(d:Nat)(ns:List Int):R D:=run d (nm "law") [.list (ns.map .int)] []
theorem lg:∀ {xs:List WData} {sh:WShape},sh=.int->WShape.hasItems [] xs sh=true->∃ ns:List Int,xs=ns.map .int
 | [],_,_,_=>⟨[],rfl⟩
 | x::xs,_,rfl,h=>by
  refine PT (λh1 h2=>?_) (PZ h);refine PS (lg rfl h2) λns zz1=>?_;rw[zz1]
  induction x using WData.casesOn <;> first | exact⟨_::ns,rfl⟩ | exact fH h1
theorem C6{args:List WData}(h:rw'.row.toRowW.claim.pre args=true):∃ ns:List Int,args=[.list (ns.map .int)]/\ns.length<=63:=by
 refine PT (λh1 h2=>?_) (PZ h);have h1:WShape.hasAll [] args [.list .int]=true:=h1
 induction args using List.casesOn with
 | nil=>exact fH h1
 | cons x r=>
  refine PT (λh3 h4=>?_) (PZ (h1:(WShape.has [] x (.list .int)&&WShape.hasAll [] r [])=true))
  induction r using List.casesOn with
  | cons y r=>exact fH h4
  | nil=>
   obtain⟨xs,rfl⟩ : ∃ xs,x=.list xs:=by induction x using WData.casesOn <;> first | exact⟨_,rfl⟩ | exact fH h3
   have h5:WShape.hasItems [] xs .int=true:=(Bool.or_false _).symm.trans h3;refine PS (lg rfl h5) λns zz1=>?_;obtain rfl:=zz1;refine⟨ns,rfl, ?_⟩;have h6:WTm.holds [] (.and (.not (.lt (.lit (.int 63)) (.len (.arg 0)))) (.lit (.bool true))) { args:=[.list (ns.map .int)] }=true:=h2;unfold WTm.holds at h6
   by_cases hn:ns.length<=63
   ·exact hn
   ·exfalso
    have e0:Num.less? (.int 63) (.int (ns.length:Int))=some (decide ((63:Int)<ns.length)):=rfl;have hn':(63:Int)<ns.length:=by omega
    simp[WTm.value,less?,e0,hn']at h6
theorem A9{as bs:List WData}:rw'.row.toRowW.claim.post as (.bool true) bs=true:=by
 show(WShape.has [] (.bool true) .bool&&WTm.holds [] (.eq .res (.lit (.bool true))) { args:=as,res:=some (.bool true),after:=bs })=true;have e1:WShape.has [] (.bool true) .bool=true:=by decide +kernel
 have e2:same (.bool true) (.bool true)=true:=by decide +kernel
 refine Bool.and_eq_true_iff.mpr ⟨e1, ?_⟩;unfold WTm.holds;simp[WTm.value,e2]
theorem Fp{a b:Nat}{g:Prop}(h:a=b)(k:Nat.beq a b=false):g:=fH (k.symm.trans (h ▸ Nat.beq_refl a))
section
variable{R:WRecords}{cl:Str->Option Addr}{h:Heap}
noncomputable def Ea(R:WRecords)(cl:Str->Option Addr)(h:Heap)(vs:List Value)(l:List WData):Prop:=l.casesOn (vs=[]) λd ds=>∃ v vs' as bs,vs=v::vs'/\ReadsW R cl h v d as/\ReadsAllW R cl h vs' ds bs
theorem gy{vs:List Value}{l:List WData}{as:List Addr}(r:ReadsAllW R cl h vs l as):Ea R cl h vs l:=ReadsAllW.casesOn (motive_2:=λvs l _ _=>Ea R cl h vs l) r rfl λa b=>⟨_,_,_,_,rfl,a,b⟩
theorem wE{v:Value}{n:Int}{as:List Addr}(r:ReadsW R cl h v (.int n) as):∃ t,v=.int n t:=by
 generalize e:WData.int n=x at r
 induction r using ReadsW.casesOn with
 | int i t=>exact⟨t,congrArg (λi=>Value.int i t) (WData.int.inj e).symm⟩
 | _=>exact Fp (congrArg WData.ctorIdx e) rfl
theorem tj{v:Value}{xs:List WData}{as:List Addr}(r:ReadsW R cl h v (.list xs) as):∃ al ol vs n,v=.ref al/\h.get? al=some ol/\ol.cls=.type "list" ∧ ol.data=.seq vs n/\∃ bs,ReadsAllW R cl h vs.toList xs bs:=by
 generalize e:WData.list xs=x at r
 induction r using ReadsW.casesOn with
 | list h1 h2 h3 h4=>exact⟨_,_,_,_,rfl,h1,h2,h3,_,WData.list.inj e ▸ h4⟩
 | _=>exact Fp (congrArg WData.ctorIdx e) rfl
theorem tl{w:World}{B:Addr->Option Obj}{ρ:List Addr}(ns:List Int):∀ {vs:List Value} {as:List Addr},ReadsAllW R cl h vs (ns.map .int) as->RepL w B ρ vs (ns.map .int):=by
 induction ns with
 | nil=>intro vs as r;rw[show vs=[] from gy r];exact .nil
 | cons n ns ih=>intro vs as r;refine bp (gy r) λv vs' as' bs q=>?_;refine jf q λe a b=>?_;refine PS (wE a) λt ev=>?_;rw[e,ev];exact .cons (.int _ t) (ih b)
theorem wG{w:World}{B:Addr->Option Obj}{ρ:List Addr}{ns:List Int}{vals:List Value}{as:List Addr}(r:ReadsAllW R cl h vals [.list (ns.map .int)] as) :
  ∃ al ol vs n,vals=[.ref al]/\h.get? al=some ol/\ol.cls=.type "list" ∧ ol.data=.seq vs n/\RepL w B ρ vs.toList (ns.map .int):=by
 refine bp (gy r) λv vs' as' bs q=>?_;refine jf q λe a b=>?_;refine bp (tj a) λal ol vs n q=>?_;refine bo q λev h1 h2 h3 h4=>?_;refine PS h4 λcs h4=>?_;exact⟨al,ol,vs,n,by simp only[e,ev,show vs'=[] from gy b],h1,h2,h3,tl ns h4⟩
end
theorem wH(d:Nat)(hd:d<=150)(P:∀ ns:List Int,ns.length<=63->∃ σ,ti (d+1) ns=.ok (.bool true) σ):rw'.Holds:=by
 refine head ?_;intro w Gn Gm mg mb Gr Y a o pm cd doc dV kV ho hdat hcr hdf hmg hgens args vals as hpre hlay hrd hwell hsys;refine ao (C6 hpre) λns z1 hns=>?_;obtain rfl:=z1;obtain⟨σ,hrun⟩:=P ns hns;have X:Cx w Gm.heap mg mb:=⟨Y,topRead_of Gr.T⟩;have ha:fnAddr.lookup (nm "law")=some (814,125,0):=by kernel_rfl
 have hma:mg (nm "law")=some (.ref 814):=by refine aI (uX (x:=nm "law") (i:=125) (by kernel_rfl) w.params) λa' ij' e1 e2=>?_;replace e1:=(ha) ▸ e1;cases e1;exact mg_of Y Gr.T.g e2
 have hglo:∃ o,Gm.heap.get? mainGlobals=some o:=by refine uL Gr.T.g λo es ep ho _=>?_;exact⟨o,ho⟩
 obtain rfl:a=814:=by have:mg (nm "law")=some (.ref a):=hmg;replace this:=(hma) ▸ this;cases this;rfl
 let G:Gh:=⟨λb=>Gm.heap.get? b,[],[]⟩
 have I:Inv w Gm.heap G Gm.heap:=⟨λ_ _ e=>e,λ_ _ e=>e,rfl,λi a c e=>by simp[G]at e,λa e=>by simp[G]at e,.nil,hglo,λa e=>by simp[G]at e⟩;refine bp (wG (w:=w) (B:=G.B) (ρ:=G.ρ) hrd) λal ol vs' n z3=>?_;refine bo z3 λz2 ho' hc hd' ra=>?_;rw[z2];have rep1:RepL w G.B G.ρ [.ref al] [.list (ns.map .int)]:=.cons (.list (vs:=vs'.toList) ⟨ol,n,ho',hc,by exact hd'⟩ ra) .nil;refine enter_call (codeAny_mono (A8 (Q:=λv s'=>v=.bool true/\(∃ h tk,s'={ Gm with heap:=h,toks:=tk })/\∀ b o,Gm.heap.get? b=some o->s'.heap.get? b=some o) (E:=λ_ _=>False) X (d:=d) (A:=callerA) (a:=814) (ij:=(125,0)) (as:=[.list (ns.map .int)]) (G:=G) I rfl ?_ ?_ rfl rep1 ha ?_) ?_)
 ·show 1+claimMargin+4*(d+1)+4<recursionLimit;have e1:claimMargin=300:=rfl;have e2:recursionLimit=1000:=rfl;lia
 ·show 4+20*(d+1)+200<cLine;have e1:cLine=9900:=rfl;lia
 ·have hrun:run (d+1) (nm "law") [.list (ns.map .int)] []=.ok (.bool true) σ:=hrun;show Ok w Gm.heap false (rep w) [] 0 G Gm (run (d+1) (nm "law") [.list (ns.map .int)] []) _ _;rw[hrun];intro v s' G' hσ R rv;exact⟨rv.inv,R.same,λb o e=>R.inv.stays _ _ (R.B _ _ e)⟩
 ·intro r s' q
  induction r with
  | error e=>exact q.elim
  | ok f=>
   induction f with
   | ret v=>refine jf q λz4 z5 hk=>?_;rw[z4];obtain⟨h,tk,rfl⟩:=z5;exact⟨.inl ⟨.bool true,.bool true,[],rfl,λcls=>rfl,ReadsW.bool true,A9,λ_=>⟨.nil,nofun⟩⟩,.of_keep hk,rfl,.of_eq hgens⟩
   | _=>exact q.elim
end
section
noncomputable def ah:List (M D)->M (List D)
 | []=>ret []
 | m::ms=>bnd m λa=>bnd (ah ms) λl=>ret (a::l)
noncomputable def di(ms:List (M D)):M D:=bnd (ah ms) λl=>if am l.length then ret (.list l) else stuck
noncomputable def aG(ms:List (M D)):M D:=bnd (ah ms) λl=>if am l.length then ret (.tup l) else stuck
noncomputable def oA:List (M D×M D)->M (List D×List D)
 | []=>ret ([],[])
 | (k,v)::r=>bnd k λkd=>bnd v λvd=>bnd (oA r) λ(a,b)=>ret (kd::a,vd::b)
noncomputable def Cb(ps:List (M D×M D)):M (List (Str×D) ⊕ List (Int×D)):=bnd (oA ps) λ(a,b)=>match a with
 | .int _::_=>bnd (ac (fR [] a b)) λl=>ret (.inr l)
 | _=>bnd (ac (fQ [] a b)) λl=>ret (.inl l)
noncomputable def fw(ps:List (M D×M D)):M D:=bnd (Cb ps) λq0=>match q0 with
 | .inl l=>ret (.sdict l)
 | .inr l=>ret (.idict l)
noncomputable def fz(ps:List (M D×M D)):M D:=bnd (Cb ps) λq0=>match q0 with
 | .inl l=>bnd (ef (.sdict l)) λi=>ret (.ref i)
 | .inr _=>stuck
noncomputable def wI(fr:af):List Str->List D->M af
 | [],[]=>ret fr
 | x::xs,d::ds=>bnd (ret (aj fr x d)) λfr'=>wI fr' xs ds
 | _,_=>stuck
noncomputable def de(fr:af)(xs:List Str)(v:D):M af:=asTup v (wI fr xs)
noncomputable def bi(op:BoolOp)(b:Bool)(x:M Bool):M Bool:=match op,b with
 | .And,false=>ret false
 | .Or,true=>ret true
 | _,_=>x
noncomputable def A_(op:BoolOp)(b:Bool)(v:D)(x:M D):M D:=match op,b with
 | .And,false | .Or,true=>ret v
 | _,_=>x
noncomputable def dK(src:D)(f:List D->M Flow'):M Flow':=bnd (a_ src) f
noncomputable def tm(call:Str->List D->M D)(H4:D):M Flow':=bnd (ae .Eq H4 (.int 5)) λc1=>if c1 then ret (.ret (.int 0)) else bnd (bnd (ae .Eq H4 (.int 2)) λb3=>bi .Or b3 (bnd (ae .Eq H4 (.int 3)) λb4=>bi .Or b4 (ret false))) λc2=>if c2 then ret (.ret (.int 2)) else ret (.ret (.int 1))
theorem tt(d:Nat)(H4:D):run (d+1) (nm "units_of") [H4]=aq (tm (run d) H4):=by kernel_rfl
noncomputable def mq(call:Str->List D->M D)(Iv Ig:D):M Flow':=bnd (bnd (subD Ig (.int 0)) λt2=>ae .Eq t2 (.int 5)) λc1=>if c1 then bnd (bnd (ah [aA Iv (nm "characters"),subD Ig (.int 1),subD Ig (.int 2)]) λl3=>call (nm "load_text") l3) λt4=>ret (.ret t4) else bnd (bnd (ah [aA Iv (nm "numeric"),subD Ig (.int 0),subD Ig (.int 1)]) λl5=>call (nm "load_number") l5) λt6=>ret (.ret t6)
theorem gU(d:Nat)(Iv Ig:D):run (d+1) (nm "Memory.load") [Iv,Ig]=aq (mq (run d) Iv Ig):=by kernel_rfl
noncomputable def lh(call:Str->List D->M D)(Iv Ig Ih:D):M Flow':=bnd (bnd (subD Ig (.int 0)) λt2=>ae .Eq t2 (.int 5)) λc1=>if c1 then bnd (bnd (ah [aA Iv (nm "characters"),subD Ig (.int 1),bnd (ah [ret Ih,subD Ig (.int 2)]) λl3=>call (nm "pad") l3]) λl4=>call (nm "store_text") l4) λt5=>ret (.next [(nm "self",Iv),(nm "place",Ig),(nm "value",Ih)]) else bnd (bnd (ah [aA Iv (nm "numeric"),subD Ig (.int 0),subD Ig (.int 1),ret Ih]) λl6=>call (nm "store_number") l6) λt7=>ret (.next [(nm "self",Iv),(nm "place",Ig),(nm "value",Ih)])
theorem ga(d:Nat)(Iv Ig Ih:D):run (d+1) (nm "Memory.store") [Iv,Ig,Ih]=aq (lh (run d) Iv Ig Ih):=by kernel_rfl
noncomputable def oB(call:Str->List D->M D)(Id H9 IY:D):M Flow':=bnd (bnd (ae .Lt H9 (.int 0)) λb2=>bi .Or b2 (bnd (bnd (ag .Add H9 IY) λt4=>bnd (au (nm "len") [Id]) λt5=>ae .Gt t4 t5) λb3=>bi .Or b3 (ret false))) λc1=>if c1 then aQ else ret (.next [(nm "cells",Id),(nm "address",H9),(nm "count",IY)])
theorem oC(d:Nat)(Id H9 IY:D):run (d+1) (nm "need_units") [Id,H9,IY]=aq (oB (run d) Id H9 IY):=by kernel_rfl
noncomputable def qE(call:Str->List D->M D)(Id H9 J9:D):M Flow':=bnd (subD Id H9) λt1=>bnd (bnd (ae .Is t1 .none) λb3=>bi .Or b3 (bnd (bnd (subD t1 (.int 0)) λt5=>ae .NotEq t5 J9) λb4=>bi .Or b4 (ret false))) λc2=>if c2 then aQ else bnd (subD t1 (.int 1)) λt6=>ret (.ret t6)
theorem qF(d:Nat)(Id H9 J9:D):run (d+1) (nm "read_cell") [Id,H9,J9]=aq (qE (run d) Id H9 J9):=by kernel_rfl
noncomputable def mr(call:Str->List D->M D)(Id H4 H9:D):M Flow':=bnd (bnd (ah [ret Id,ret H9,call (nm "units_of") [H4]]) λl1=>call (nm "need_units") l1) λt2=>bnd (ae .Eq H4 (.int 3)) λc3=>if c3 then bnd (aG [call (nm "read_cell") [Id,H9,(.int 1)],bnd (ah [ret Id,ag .Add H9 (.int 1),ret (.int 1)]) λl4=>call (nm "read_cell") l4]) λt5=>ret (.ret t5) else bnd (call (nm "read_cell") [Id,H9,H4]) λt6=>bnd (ae .Eq H4 (.int 2)) λc7=>if c7 then bnd (bnd (ah [ret Id,ag .Add H9 (.int 1),ret (.int 6)]) λl8=>call (nm "read_cell") l8) λt9=>ret (.ret t6) else ret (.ret t6)
theorem mu(d:Nat)(Id H4 H9:D):run (d+1) (nm "load_number") [Id,H4,H9]=aq (mr (run d) Id H4 H9):=by kernel_rfl
noncomputable def li(call:Str->List D->M D)(Id H4 H9 Ih:D):M Flow':=bnd (bnd (ah [ret Id,ret H9,call (nm "units_of") [H4]]) λl1=>call (nm "need_units") l1) λt2=>bnd (ae .Eq H4 (.int 3)) λc3=>if c3 then bnd (aG [ret (.int 1),subD Ih (.int 0)]) λt4=>bnd (bnd (cL Id H9 t4) λ_=>ret ([(nm "cells",Id),(nm "kind",H4),(nm "address",H9),(nm "value",Ih)])) λKV=>bnd (aG [ret (.int 1),bnd (ac (aa KV (nm "value"))) λt6=>subD t6 (.int 1)]) λt7=>bnd (bnd (ac (aa KV (nm "cells"))) λt9=>bnd (bnd (ac (aa KV (nm "address"))) λII=>ag .Add II (.int 1)) λIP=>bnd (cL t9 IP t7) λ_=>ret KV) λJK=>ret (.ret .none) else bnd (bnd (cL Id H9 (.tup [H4,Ih])) λ_=>ret ([(nm "cells",Id),(nm "kind",H4),(nm "address",H9),(nm "value",Ih)])) λIF=>bnd (bnd (ac (aa IF (nm "kind"))) λI6=>ae .Eq I6 (.int 2)) λKF=>if KF then bnd (aG [ret (.int 6),ac (aa IF (nm "value"))]) λIr=>bnd (bnd (ac (aa IF (nm "cells"))) λIH=>bnd (bnd (ac (aa IF (nm "address"))) λIZ=>ag .Add IZ (.int 1)) λI0=>bnd (cL IH I0 Ir) λ_=>ret IF) λMr=>ret (.next Mr) else ret (.next IF)
theorem lj(d:Nat)(Id H4 H9 Ih:D):run (d+1) (nm "store_number") [Id,H4,H9,Ih]=aq (li (run d) Id H4 H9 Ih):=by kernel_rfl
noncomputable def qG(call:Str->List D->M D)(Id H9 Im:D):M Flow':=bnd (call (nm "need_units") [Id,H9,Im]) λt1=>bnd (bnd (ag .Add H9 Im) λt2=>bt Id H9 t2) λt3=>bnd (ae .In .none t3) λc4=>if c4 then aQ else bnd (bnd (aZ (.str (nm "")) (nm "join")) λk5=>bd call (.str (nm "")) k5 [t3]) λt6=>ret (.ret t6)
theorem qH(d:Nat)(Id H9 Im:D):run (d+1) (nm "load_text") [Id,H9,Im]=aq (qG (run d) Id H9 Im):=by kernel_rfl
noncomputable def dp(call:Str->List D->M D)(IN:af)(k5:K'):M Flow':=bnd (bnd (ac (aa IN (nm "text"))) λt9=>bnd (ac (aa IN (nm "k"))) λII=>subD t9 II) λIP=>bnd (bnd (ac (aa IN (nm "cells"))) λIQ=>bnd (bnd (ac (aa IN (nm "address"))) λI6=>bnd (ac (aa IN (nm "k"))) λIr=>ag .Add I6 Ir) λIO=>bnd (cL IQ IO IP) λ_=>ret IN) λIF=>k5 IF
noncomputable def iQ(call:Str->List D->M D)(Id H9 Iz:D):M Flow':=bnd (bnd (ah [ret Id,ret H9,au (nm "len") [Iz]]) λl1=>call (nm "need_units") l1) λt2=>bnd (bnd (ah [au (nm "len") [Iz]]) λKG=>au (nm "range") KG) λIZ=>dK IZ λl6=>aE (dp call) (λJh d8=>ret (aj Jh (nm "k") d8)) l6 [(nm "cells",Id),(nm "address",H9),(nm "text",Iz)] λJV=>ret (.next JV)
theorem oE(d:Nat)(Id H9 Iz:D):run (d+1) (nm "store_text") [Id,H9,Iz]=aq (iQ (run d) Id H9 Iz):=by kernel_rfl
noncomputable def Eb(call:Str->List D->M D)(Iz Im:D):M Flow':=bnd (bnd (bt Iz .none Im) λt1=>bnd (bnd (bnd (au (nm "len") [Iz]) λt2=>ag .Sub Im t2) λt3=>ag .Mult (.str (nm " ")) t3) λt4=>ag .Add t1 t4) λt5=>ret (.ret t5)
theorem Ec(d:Nat)(Iz Im:D):run (d+1) (nm "pad") [Iz,Im]=aq (Eb (run d) Iz Im):=by kernel_rfl
noncomputable def gb(call:Str->List D->M D)(H4 Im:D):M Flow':=bnd (ae .Eq H4 (.int 5)) λc1=>if c1 then ret (.ret Im) else bnd (call (nm "units_of") [H4]) λt2=>ret (.ret t2)
theorem jI(d:Nat)(H4 Im:D):run (d+1) (nm "unit_size") [H4,Im]=aq (gb (run d) H4 Im):=by kernel_rfl
noncomputable def bF(call:Str->List D->M D)(KE:af)(k11:K'):M Flow':=bnd (bnd (ac (aa KE (nm "dims"))) λIr=>bnd (ac (aa KE (nm "k"))) λIO=>subD Ir IO) λIH=>bnd (de KE [(nm "low"),(nm "high")] IH) λIG=>bnd (bnd (bnd (bnd (ac (aa IG (nm "subscripts"))) λJz=>bnd (ac (aa IG (nm "k"))) λJA=>subD Jz JA) λJp=>bnd (ac (aa IG (nm "low"))) λJq=>ae .Lt Jp Jq) λb20=>bi .Or b20 (bnd (bnd (bnd (ac (aa IG (nm "high"))) λJL=>ae .IsNot JL .none) λb26=>bi .And b26 (bnd (bnd (bnd (ac (aa IG (nm "subscripts"))) λJr=>bnd (ac (aa IG (nm "k"))) λJs=>subD Jr Js) λKI=>bnd (ac (aa IG (nm "high"))) λJM=>ae .Gt KI JM) λb28=>bi .And b28 (ret true))) λb25=>bi .Or b25 (ret false))) λMs=>if Ms then aQ else bnd (ac (aa IG (nm "offset"))) λJW=>bnd (bnd (bnd (bnd (ac (aa IG (nm "subscripts"))) λJB=>bnd (ac (aa IG (nm "k"))) λJX=>subD JB JX) λJY=>bnd (ac (aa IG (nm "low"))) λKJ=>ag .Sub JY KJ) λIL=>bnd (ac (aa IG (nm "stride"))) λKn=>ag .Mult IL Kn) λJ_=>uS .Add JW J_ λn41=>bnd (ret (aj IG (nm "offset") n41)) λKa=>bnd (bnd (ac (aa Ka (nm "high"))) λJC=>ae .IsNot JC .none) λMt=>if Mt then bnd (ac (aa Ka (nm "stride"))) λKb=>bnd (bnd (bnd (ac (aa Ka (nm "high"))) λKc=>bnd (ac (aa Ka (nm "low"))) λJZ=>ag .Sub Kc JZ) λKm=>ag .Add Km (.int 1)) λKo=>uS .Mult Kb Ko λn50=>bnd (ret (aj Ka (nm "stride") n50)) λMu=>k11 Mu else k11 Ka
noncomputable def df(call:Str->List D->M D)(Ig ID:D):M Flow':=bnd (de [(nm "place",Ig),(nm "subscripts",ID)] [(nm "kind"),(nm "address"),(nm "length"),(nm "dims")] Ig) λJI=>bnd (bnd (bnd (ah [ac (aa JI (nm "subscripts"))]) λl3=>au (nm "len") l3) λt4=>bnd (bnd (ah [ac (aa JI (nm "dims"))]) λl5=>au (nm "len") l5) λt6=>ae .NotEq t4 t6) λc2=>if c2 then aQ else bnd (ret (aj JI (nm "offset") (.int 0))) λJh=>bnd (ret (aj Jh (nm "stride") (.int 1))) λJK=>bnd (bnd (ah [bnd (ah [ac (aa JK (nm "dims"))]) λMv=>au (nm "len") Mv]) λOW=>au (nm "range") OW) λKL=>dK KL λLK=>aE (bF call) (λIk Mw=>ret (aj Ik (nm "k") Mw)) LK JK λIS=>bnd (aG [ac (aa IS (nm "kind")),bnd (ac (aa IS (nm "address"))) λKd=>bnd (bnd (ac (aa IS (nm "offset"))) λJ0=>bnd (bnd (ah [ac (aa IS (nm "kind")),ac (aa IS (nm "length"))]) λMx=>call (nm "unit_size") Mx) λLL=>ag .Mult J0 LL) λKp=>ag .Add Kd Kp,ac (aa IS (nm "length")),ret ((.tup []))]) λK4=>ret (.ret K4)
theorem fB(d:Nat)(Ig ID:D):run (d+1) (nm "element_place") [Ig,ID]=aq (df (run d) Ig ID):=by kernel_rfl
noncomputable def jJ(call:Str->List D->M D)(Ig Kq Kr:D):M Flow':=bnd (bnd (ae .Is Kq .none) λc1=>if c1 then ret (.int 1) else ret Kq) λt2=>bnd (bnd (ae .Is Kr .none) λc3=>if c3 then subD Ig (.int 2) else ret Kr) λt4=>bnd (bnd (ae .Lt t2 (.int 1)) λb6=>bi .Or b6 (bnd (ae .Lt t4 t2) λb7=>bi .Or b7 (bnd (bnd (subD Ig (.int 2)) λt9=>ae .Gt t4 t9) λb8=>bi .Or b8 (ret false)))) λc5=>if c5 then aQ else bnd (aG [ret (.int 5),bnd (bnd (subD Ig (.int 1)) λII=>ag .Add II t2) λIP=>ag .Sub IP (.int 1),bnd (ag .Sub t4 t2) λIM=>ag .Add IM (.int 1),ret ((.tup []))]) λIQ=>ret (.ret IQ)
theorem qI(d:Nat)(Ig Kq Kr:D):run (d+1) (nm "sub_place") [Ig,Kq,Kr]=aq (jJ (run d) Ig Kq Kr):=by kernel_rfl
noncomputable def wJ(call:Str->List D->M D)(Iy H6:D):M Flow':=bnd (bnd (ag .Sub H6 (.int 1)) λt1=>ag .LShift (.int 1) t1) λt2=>bnd (bnd (bnd (dk t2) λt5=>ae .Lt Iy t5) λb4=>bi .Or b4 (bnd (ae .GtE Iy t2) λb6=>bi .Or b6 (ret false))) λc3=>if c3 then aQ else ret (.ret Iy)
theorem wK(d:Nat)(Iy H6:D):run (d+1) (nm "fit_int") [Iy,H6]=aq (wJ (run d) Iy H6):=by kernel_rfl
noncomputable def wL(call:Str->List D->M D)(Ie Ii H6:D):M Flow':=bnd (bnd (ah [ag .Add Ie Ii,ret H6]) λl1=>call (nm "fit_int") l1) λt2=>ret (.ret t2)
theorem wM(d:Nat)(Ie Ii H6:D):run (d+1) (nm "int_add") [Ie,Ii,H6]=aq (wL (run d) Ie Ii H6):=by kernel_rfl
noncomputable def wN(call:Str->List D->M D)(Ie Ii H6:D):M Flow':=bnd (bnd (ah [ag .Sub Ie Ii,ret H6]) λl1=>call (nm "fit_int") l1) λt2=>ret (.ret t2)
theorem wO(d:Nat)(Ie Ii H6:D):run (d+1) (nm "int_sub") [Ie,Ii,H6]=aq (wN (run d) Ie Ii H6):=by kernel_rfl
noncomputable def wP(call:Str->List D->M D)(Ie Ii H6:D):M Flow':=bnd (bnd (ah [ag .Mult Ie Ii,ret H6]) λl1=>call (nm "fit_int") l1) λt2=>ret (.ret t2)
theorem wQ(d:Nat)(Ie Ii H6:D):run (d+1) (nm "int_mul") [Ie,Ii,H6]=aq (wP (run d) Ie Ii H6):=by kernel_rfl
noncomputable def ll(call:Str->List D->M D)(Ie Ii:D):M Flow':=bnd (bnd (au (nm "abs") [Ie]) λt1=>bnd (au (nm "abs") [Ii]) λt2=>ag .FloorDiv t1 t2) λt3=>bnd (bnd (bnd (bnd (ae .Lt Ie (.int 0)) λb5=>ret (.bool b5)) λt6=>bnd (bnd (ae .Lt Ii (.int 0)) λb7=>ret (.bool b7)) λt8=>ae .Eq t6 t8) λc4=>if c4 then ret t3 else dk t3) λt9=>ret (.ret t9)
theorem lm(d:Nat)(Ie Ii:D):run (d+1) (nm "cut_quotient") [Ie,Ii]=aq (ll (run d) Ie Ii):=by kernel_rfl
noncomputable def wR(call:Str->List D->M D)(Ie Ii H6:D):M Flow':=bnd (ae .Eq Ii (.int 0)) λc1=>if c1 then aQ else bnd (bnd (ah [call (nm "cut_quotient") [Ie,Ii],ret H6]) λl2=>call (nm "fit_int") l2) λt3=>ret (.ret t3)
theorem wS(d:Nat)(Ie Ii H6:D):run (d+1) (nm "int_div") [Ie,Ii,H6]=aq (wR (run d) Ie Ii H6):=by kernel_rfl
noncomputable def jR(call:Str->List D->M D)(Ie Iy:D):M Flow':=bnd (ae .Eq Ie (.int 0)) λc1=>if c1 then aQ else bnd (bnd (ae .Eq Ie (.int 1)) λb3=>bi .Or b3 (bnd (bnd (ae .Eq Ie (.int (-1))) λb5=>bi .And b5 (bnd (bnd (ag .Mod Iy (.int 2)) λt7=>ae .Eq t7 (.int 0)) λb6=>bi .And b6 (ret true))) λb4=>bi .Or b4 (ret false))) λc2=>if c2 then ret (.ret (.int 1)) else bnd (bnd (ae .Eq Ie (.int (-1))) λc8=>if c8 then ret ((.int (-1))) else ret (.int 0)) λt9=>ret (.ret t9)
theorem jS(d:Nat)(Ie Iy:D):run (d+1) (nm "inverse_power") [Ie,Iy]=aq (jR (run d) Ie Iy):=by kernel_rfl
noncomputable def dR(call:Str->List D->M D)(Ik:af)(k15:K'):M Flow':=bnd (bnd (ah [bnd (ac (aa Ik (nm "found"))) λI0=>bnd (ac (aa Ik (nm "x"))) λI7=>ag .Mult I0 I7,ac (aa Ik (nm "width"))]) λOX=>call (nm "fit_int") OX) λJA=>bnd (ret (aj Ik (nm "found") JA)) λJl=>k15 Jl
noncomputable def qJ(call:Str->List D->M D)(Ie Iy H6:D):M Flow':=bnd (ae .Lt Iy (.int 0)) λc1=>if c1 then bnd (bnd (ah [call (nm "inverse_power") [Ie,Iy],ret H6]) λl2=>call (nm "fit_int") l2) λt3=>ret (.ret t3) else bnd (bnd (ae .Eq Ie (.int 0)) λb5=>bi .Or b5 (bnd (ae .Eq Ie (.int 1)) λb6=>bi .Or b6 (bnd (ae .Eq Ie (.int (-1))) λb7=>bi .Or b7 (ret false)))) λc4=>if c4 then bnd (bnd (ah [bnd (bnd (ae .Lt Iy (.int 2)) λc8=>if c8 then ret Iy else bnd (ag .Mod Iy (.int 2)) λt9=>ag .Sub (.int 2) t9) λII=>ag .Pow Ie II,ret H6]) λKM=>call (nm "fit_int") KM) λIM=>ret (.ret IM) else bnd (bnd (ah [bnd (ah [ret Iy,ag .Add H6 (.int 1)]) λOY=>au (nm "min") OY]) λLM=>au (nm "range") LM) λJJ=>dK JJ λMy=>aE (dR call) (λMz OZ=>ret (aj Mz (nm "turn") OZ)) My [(nm "x",Ie),(nm "n",Iy),(nm "width",H6),(nm "found",(.int 1))] λIT=>bnd (ac (aa IT (nm "found"))) λJL=>ret (.ret JL)
theorem qK(d:Nat)(Ie Iy H6:D):run (d+1) (nm "int_power") [Ie,Iy,H6]=aq (qJ (run d) Ie Iy H6):=by kernel_rfl
noncomputable def tu(call:Str->List D->M D)(Ie Ii:D):M Flow':=bnd (ae .Eq Ie Ii) λc1=>if c1 then ret (.ret (.int 0)) else bnd (bnd (ae .Lt Ie Ii) λc2=>if c2 then ret ((.int (-1))) else ret (.int 1)) λt3=>ret (.ret t3)
theorem ln(d:Nat)(Ie Ii:D):run (d+1) (nm "order_of") [Ie,Ii]=aq (tu (run d) Ie Ii):=by kernel_rfl
noncomputable def Ba(call:Str->List D->M D)(Il IE:D):M Flow':=bnd (ae .Eq Il (.str (nm "eq"))) λc1=>if c1 then bnd (bnd (ae .Eq IE (.int 0)) λb2=>ret (.bool b2)) λt3=>ret (.ret t3) else bnd (ae .Eq Il (.str (nm "ne"))) λc4=>if c4 then bnd (bnd (ae .NotEq IE (.int 0)) λb5=>ret (.bool b5)) λt6=>ret (.ret t6) else bnd (ae .Eq Il (.str (nm "lt"))) λc7=>if c7 then bnd (bnd (ae .Lt IE (.int 0)) λb8=>ret (.bool b8)) λt9=>ret (.ret t9) else bnd (ae .Eq Il (.str (nm "le"))) λIR=>if IR then bnd (bnd (ae .LtE IE (.int 0)) λb11=>ret (.bool b11)) λIM=>ret (.ret IM) else bnd (ae .Eq Il (.str (nm "gt"))) λKF=>if KF then bnd (bnd (ae .Gt IE (.int 0)) λb14=>ret (.bool b14)) λIr=>ret (.ret Ir) else bnd (ae .Eq Il (.str (nm "ge"))) λKe=>if Ke then bnd (bnd (ae .GtE IE (.int 0)) λb17=>ret (.bool b17)) λIZ=>ret (.ret IZ) else aQ
theorem Bb(d:Nat)(Il IE:D):run (d+1) (nm "holds") [Il,IE]=aq (Ba (run d) Il IE):=by kernel_rfl
noncomputable def iR(call:Str->List D->M D)(Il H4 Ie Ii H_:D):M Flow':=bnd (ae .Eq Il (.str (nm "add"))) λc1=>if c1 then bnd (bnd (ah [ret Ie,ret Ii,aA H_ (nm "width")]) λl2=>call (nm "int_add") l2) λt3=>ret (.ret t3) else bnd (ae .Eq Il (.str (nm "sub"))) λc4=>if c4 then bnd (bnd (ah [ret Ie,ret Ii,aA H_ (nm "width")]) λl5=>call (nm "int_sub") l5) λt6=>ret (.ret t6) else bnd (ae .Eq Il (.str (nm "mul"))) λc7=>if c7 then bnd (bnd (ah [ret Ie,ret Ii,aA H_ (nm "width")]) λl8=>call (nm "int_mul") l8) λt9=>ret (.ret t9) else bnd (ae .Eq Il (.str (nm "div"))) λIR=>if IR then bnd (bnd (ah [ret Ie,ret Ii,aA H_ (nm "width")]) λKM=>call (nm "int_div") KM) λIM=>ret (.ret IM) else bnd (bnd (ae .Eq Il (.str (nm "pow"))) λb14=>bi .Or b14 (bnd (ae .Eq Il (.str (nm "powi"))) λb15=>bi .Or b15 (ret false))) λKF=>if KF then bnd (bnd (ah [ret Ie,ret Ii,aA H_ (nm "width")]) λMy=>call (nm "int_power") My) λIH=>ret (.ret IH) else bnd (bnd (ah [ret Il,call (nm "order_of") [Ie,Ii]]) λMA=>call (nm "holds") MA) λI0=>ret (.ret I0)
theorem iS(d:Nat)(Il H4 Ie Ii H_:D):run (d+1) (nm "int_binary") [Il,H4,Ie,Ii,H_]=aq (iR (run d) Il H4 Ie Ii H_):=by kernel_rfl
noncomputable def lp(call:Str->List D->M D)(Il H4 Ie Ii H_:D):M Flow':=bnd (ae .Eq Il (.str (nm "and"))) λc1=>if c1 then bnd (bnd (cA Ie) λb2=>A_ .And b2 Ie (ret Ii)) λt3=>ret (.ret t3) else bnd (ae .Eq Il (.str (nm "or"))) λc4=>if c4 then bnd (bnd (cA Ie) λb5=>A_ .Or b5 Ie (ret Ii)) λt6=>ret (.ret t6) else bnd (ae .Eq Il (.str (nm "eqv"))) λc7=>if c7 then bnd (bnd (ae .Eq Ie Ii) λb8=>ret (.bool b8)) λt9=>ret (.ret t9) else bnd (ae .Eq Il (.str (nm "neqv"))) λIR=>if IR then bnd (bnd (ae .NotEq Ie Ii) λb11=>ret (.bool b11)) λIM=>ret (.ret IM) else aQ
theorem lq(d:Nat)(Il H4 Ie Ii H_:D):run (d+1) (nm "logic_binary") [Il,H4,Ie,Ii,H_]=aq (lp (run d) Il H4 Ie Ii H_):=by kernel_rfl
noncomputable def cG(call:Str->List D->M D)(bS:af)(k5:K'):M Flow':=bnd (ac (aa bS (nm "n"))) λt6=>uS .FloorDiv t6 (.int 1000000000) λn7=>bnd (ret (aj bS (nm "n") n7)) λJK=>bnd (ac (aa JK (nm "count"))) λt9=>uS .Add t9 (.int 9) λn10=>bnd (ret (aj JK (nm "count") n10)) λJm=>k5 Jm
noncomputable def cH(call:Str->List D->M D)(JV:af):M Bool:=bnd (ac (aa JV (nm "n"))) λIM=>ae .GtE IM (.int 1000000000)
noncomputable def ch(call:Str->List D->M D)(Ik:af)(k16:K'):M Flow':=bnd (ac (aa Ik (nm "n"))) λIH=>uS .FloorDiv IH (.int 10) λn18=>bnd (ret (aj Ik (nm "n") n18)) λKs=>bnd (ac (aa Ks (nm "count"))) λI7=>uS .Add I7 (.int 1) λn21=>bnd (ret (aj Ks (nm "count") n21)) λJ1=>k16 J1
noncomputable def ci(call:Str->List D->M D)(Iw:af):M Bool:=bnd (ac (aa Iw (nm "n"))) λJp=>ae .Gt Jp (.int 0)
noncomputable def gc(call:Str->List D->M D)(Iy:D):M Flow':=bnd (au (nm "abs") [Iy]) λt1=>ay (cG call) (cH call) cD [(nm "n",t1),(nm "count",(.int 0))] λIN=>ay (ch call) (ci call) cD IN λIT=>bnd (ac (aa IT (nm "count"))) λJq=>ret (.ret Jq)
theorem lr(d:Nat)(Iy:D):run (d+1) (nm "count_digits") [Iy]=aq (gc (run d) Iy):=by kernel_rfl
noncomputable def dZ(call:Str->List D->M D)(bS:af)(k5:K'):M Flow':=bnd (ac (aa bS (nm "m"))) λt6=>uS .FloorDiv t6 (.int 10) λn7=>bnd (ret (aj bS (nm "m") n7)) λJK=>bnd (ac (aa JK (nm "e"))) λt9=>uS .Add t9 (.int 1) λn10=>bnd (ret (aj JK (nm "e") n10)) λJm=>k5 Jm
noncomputable def d0(call:Str->List D->M D)(JV:af):M Bool:=bnd (bnd (ac (aa JV (nm "m"))) λIM=>ag .Mod IM (.int 10)) λIQ=>ae .Eq IQ (.int 0)
noncomputable def gV(call:Str->List D->M D)(JD Jt:D):M Flow':=bnd (ae .Eq JD (.int 0)) λc1=>if c1 then ret (.ret (.tup [.int 0,.int 0])) else ay (dZ call) (d0 call) cD [(nm "m",JD),(nm "e",Jt)] λIN=>bnd (aG [ac (aa IN (nm "m")),ac (aa IN (nm "e"))]) λI6=>ret (.ret I6)
theorem mv(d:Nat)(JD Jt:D):run (d+1) (nm "strip_zeros") [JD,Jt]=aq (gV (run d) JD Jt):=by kernel_rfl
noncomputable def gd(call:Str->List D->M D)(JD Jt Ia:D):M Flow':=bnd (bnd (call (nm "count_digits") [JD]) λt1=>ag .Sub t1 Ia) λt2=>bnd (ae .Gt t2 (.int 0)) λc3=>if c3 then bnd (ag .Pow (.int 10) t2) λt4=>bnd (bnd (ah [au (nm "abs") [JD],ret t4]) λl5=>au (nm "divmod") l5) λt6=>bnd (de [(nm "m",JD),(nm "e",Jt),(nm "digits",Ia),(nm "drop",t2),(nm "power",t4)] [(nm "kept"),(nm "rest")] t6) λJh=>bnd (bnd (bnd (bnd (ac (aa Jh (nm "rest"))) λII=>ag .Mult (.int 2) II) λIP=>bnd (ac (aa Jh (nm "power"))) λIM=>ae .Gt IP IM) λb9=>bi .Or b9 (bnd (bnd (bnd (bnd (ac (aa Jh (nm "rest"))) λIr=>ag .Mult (.int 2) Ir) λIO=>bnd (ac (aa Jh (nm "power"))) λIH=>ae .Eq IO IH) λb14=>bi .And b14 (bnd (bnd (bnd (ac (aa Jh (nm "kept"))) λI0=>ag .Mod I0 (.int 2)) λI7=>ae .Eq I7 (.int 1)) λb18=>bi .And b18 (ret true))) λb13=>bi .Or b13 (ret false))) λc8=>if c8 then bnd (ac (aa Jh (nm "kept"))) λJz=>uS .Add Jz (.int 1) λn22=>bnd (ret (aj Jh (nm "kept") n22)) λJl=>bnd (bnd (bnd (ac (aa Jl (nm "m"))) λJu=>ae .Gt Ju (.int 0)) λKt=>if Kt then ac (aa Jl (nm "kept")) else bnd (ac (aa Jl (nm "kept"))) λJJ=>dk JJ) λJL=>bnd (ret (aj Jl (nm "m") JL)) λI8=>bnd (ac (aa I8 (nm "e"))) λJr=>bnd (ac (aa I8 (nm "drop"))) λJs=>uS .Add Jr Js λn31=>bnd (ret (aj I8 (nm "e") n31)) λLN=>bnd (bnd (ah [ac (aa LN (nm "m")),ac (aa LN (nm "e"))]) λKN=>call (nm "strip_zeros") KN) λJB=>ret (.ret JB) else bnd (bnd (bnd (ac (aa Jh (nm "m"))) λJY=>ae .Gt JY (.int 0)) λMB=>if MB then ac (aa Jh (nm "kept")) else bnd (ac (aa Jh (nm "kept"))) λKJ=>dk KJ) λIL=>bnd (ret (aj Jh (nm "m") IL)) λI1=>bnd (ac (aa I1 (nm "e"))) λJ_=>bnd (ac (aa I1 (nm "drop"))) λKf=>uS .Add J_ Kf λn42=>bnd (ret (aj I1 (nm "e") n42)) λJ2=>bnd (bnd (ah [ac (aa J2 (nm "m")),ac (aa J2 (nm "e"))]) λO0=>call (nm "strip_zeros") O0) λKb=>ret (.ret Kb) else bnd (call (nm "strip_zeros") [JD,Jt]) λKc=>ret (.ret Kc)
theorem lu(d:Nat)(JD Jt Ia:D):run (d+1) (nm "round_digits") [JD,Jt,Ia]=aq (gd (run d) JD Jt Ia):=by kernel_rfl
noncomputable def oG(call:Str->List D->M D)(JD Jt Ia Io:D):M Flow':=bnd (call (nm "round_digits") [JD,Jt,Ia]) λt1=>bnd (de [(nm "m",JD),(nm "e",Jt),(nm "digits",Ia),(nm "top",Io)] [(nm "m"),(nm "e")] t1) λbS=>bnd (bnd (bnd (ac (aa bS (nm "e"))) λt3=>bnd (bnd (ah [ac (aa bS (nm "m"))]) λl4=>call (nm "count_digits") l4) λt5=>ag .Add t3 t5) λt6=>ag .Sub t6 (.int 1)) λt7=>bnd (ret (aj bS (nm "lead") t7)) λJK=>bnd (bnd (bnd (ac (aa JK (nm "m"))) λIP=>ae .Eq IP (.int 0)) λb10=>bi .Or b10 (bnd (bnd (ac (aa JK (nm "lead"))) λIQ=>bnd (bnd (ac (aa JK (nm "top"))) λI6=>dk I6) λIr=>ae .Lt IQ Ir) λb12=>bi .Or b12 (ret false))) λc9=>if c9 then ret (.ret (.tup [.int 0,.int 0])) else bnd (bnd (ac (aa JK (nm "lead"))) λIH=>bnd (ac (aa JK (nm "top"))) λIZ=>ae .Gt IH IZ) λKe=>if Ke then aQ else bnd (aG [ac (aa JK (nm "m")),ac (aa JK (nm "e"))]) λI0=>ret (.ret I0)
theorem oH(d:Nat)(JD Jt Ia Io:D):run (d+1) (nm "round_real") [JD,Jt,Ia,Io]=aq (oG (run d) JD Jt Ia Io):=by kernel_rfl
noncomputable def qL(call:Str->List D->M D)(Ie Ii:D):M Flow':=bnd (bnd (ah [subD Ie (.int 1),subD Ii (.int 1)]) λl1=>au (nm "min") l1) λt2=>bnd (aG [bnd (bnd (subD Ie (.int 0)) λt3=>bnd (bnd (bnd (subD Ie (.int 1)) λt4=>ag .Sub t4 t2) λt5=>ag .Pow (.int 10) t5) λt6=>ag .Mult t3 t6) λt7=>bnd (bnd (subD Ii (.int 0)) λt8=>bnd (bnd (bnd (subD Ii (.int 1)) λt9=>ag .Sub t9 t2) λII=>ag .Pow (.int 10) II) λIP=>ag .Mult t8 IP) λIM=>ag .Add t7 IM,ret t2]) λIQ=>ret (.ret IQ)
theorem qN(d:Nat)(Ie Ii:D):run (d+1) (nm "exact_add") [Ie,Ii]=aq (qL (run d) Ie Ii):=by kernel_rfl
noncomputable def qO(call:Str->List D->M D)(Ie Ii:D):M Flow':=bnd (aG [bnd (subD Ie (.int 0)) λt1=>bnd (subD Ii (.int 0)) λt2=>ag .Mult t1 t2,bnd (subD Ie (.int 1)) λt3=>bnd (subD Ii (.int 1)) λt4=>ag .Add t3 t4]) λt5=>ret (.ret t5)
theorem qP(d:Nat)(Ie Ii:D):run (d+1) (nm "exact_mul") [Ie,Ii]=aq (qO (run d) Ie Ii):=by kernel_rfl
noncomputable def tw(call:Str->List D->M D)(Iq Ip Jt Ia:D):M Flow':=bnd (bnd (ah [bnd (bnd (ag .Add Ia (.int 2)) λt1=>bnd (call (nm "count_digits") [Ip]) λt2=>ag .Add t1 t2) λt3=>bnd (call (nm "count_digits") [Iq]) λt4=>ag .Sub t3 t4,ret (.int 0)]) λl5=>au (nm "max") l5) λt6=>bnd (bnd (ah [bnd (au (nm "abs") [Iq]) λt7=>bnd (ag .Pow (.int 10) t6) λt8=>ag .Mult t7 t8,au (nm "abs") [Ip]]) λl9=>au (nm "divmod") l9) λII=>bnd (de [(nm "over",Iq),(nm "under",Ip),(nm "e",Jt),(nm "digits",Ia),(nm "shift",t6)] [(nm "kept"),(nm "rest")] II) λJm=>bnd (bnd (bnd (ac (aa Jm (nm "kept"))) λIM=>ag .Mult (.int 10) IM) λIQ=>bnd (bnd (bnd (ac (aa Jm (nm "rest"))) λIr=>cA Ir) λKu=>if Ku then ret (.int 1) else ret (.int 0)) λIO=>ag .Add IQ IO) λIH=>bnd (ret (aj Jm (nm "m") IH)) λIG=>bnd (bnd (bnd (ac (aa IG (nm "over"))) λI7=>bnd (ae .Lt I7 (.int 0)) λb21=>ret (.bool b21)) λJA=>bnd (bnd (ac (aa IG (nm "under"))) λJp=>bnd (ae .Lt Jp (.int 0)) λb24=>ret (.bool b24)) λJu=>ae .NotEq JA Ju) λMs=>if Ms then bnd (bnd (ac (aa IG (nm "m"))) λJJ=>dk JJ) λJL=>bnd (ret (aj IG (nm "m") JL)) λI8=>bnd (aG [ac (aa I8 (nm "m")),bnd (bnd (ac (aa I8 (nm "e"))) λJr=>bnd (ac (aa I8 (nm "shift"))) λJs=>ag .Sub Jr Js) λKI=>ag .Sub KI (.int 1)]) λJM=>ret (.ret JM) else bnd (aG [ac (aa IG (nm "m")),bnd (bnd (ac (aa IG (nm "e"))) λJW=>bnd (ac (aa IG (nm "shift"))) λJB=>ag .Sub JW JB) λJX=>ag .Sub JX (.int 1)]) λJY=>ret (.ret JY)
theorem ty(d:Nat)(Iq Ip Jt Ia:D):run (d+1) (nm "quotient") [Iq,Ip,Jt,Ia]=aq (tw (run d) Iq Ip Jt Ia):=by kernel_rfl
noncomputable def tz(call:Str->List D->M D)(Ie Ii Ia Io:D):M Flow':=bnd (call (nm "exact_add") [Ie,Ii]) λt1=>bnd (de [(nm "x",Ie),(nm "y",Ii),(nm "digits",Ia),(nm "top",Io)] [(nm "m"),(nm "e")] t1) λbS=>bnd (bnd (ah [ac (aa bS (nm "m")),ac (aa bS (nm "e")),ac (aa bS (nm "digits")),ac (aa bS (nm "top"))]) λl3=>call (nm "round_real") l3) λt4=>ret (.ret t4)
theorem tA(d:Nat)(Ie Ii Ia Io:D):run (d+1) (nm "real_add") [Ie,Ii,Ia,Io]=aq (tz (run d) Ie Ii Ia Io):=by kernel_rfl
noncomputable def tB(call:Str->List D->M D)(Ie Ii Ia Io:D):M Flow':=bnd (bnd (ah [ret Ie,call (nm "real_neg") [Ii]]) λl1=>call (nm "exact_add") l1) λt2=>bnd (de [(nm "x",Ie),(nm "y",Ii),(nm "digits",Ia),(nm "top",Io)] [(nm "m"),(nm "e")] t2) λIN=>bnd (bnd (ah [ac (aa IN (nm "m")),ac (aa IN (nm "e")),ac (aa IN (nm "digits")),ac (aa IN (nm "top"))]) λl4=>call (nm "round_real") l4) λt5=>ret (.ret t5)
theorem tC(d:Nat)(Ie Ii Ia Io:D):run (d+1) (nm "real_sub") [Ie,Ii,Ia,Io]=aq (tB (run d) Ie Ii Ia Io):=by kernel_rfl
noncomputable def tD(call:Str->List D->M D)(Ie Ii Ia Io:D):M Flow':=bnd (call (nm "exact_mul") [Ie,Ii]) λt1=>bnd (de [(nm "x",Ie),(nm "y",Ii),(nm "digits",Ia),(nm "top",Io)] [(nm "m"),(nm "e")] t1) λbS=>bnd (bnd (ah [ac (aa bS (nm "m")),ac (aa bS (nm "e")),ac (aa bS (nm "digits")),ac (aa bS (nm "top"))]) λl3=>call (nm "round_real") l3) λt4=>ret (.ret t4)
theorem tE(d:Nat)(Ie Ii Ia Io:D):run (d+1) (nm "real_mul") [Ie,Ii,Ia,Io]=aq (tD (run d) Ie Ii Ia Io):=by kernel_rfl
noncomputable def tG(call:Str->List D->M D)(Ie Ii Ia Io:D):M Flow':=bnd (bnd (subD Ii (.int 0)) λt2=>ae .Eq t2 (.int 0)) λc1=>if c1 then aQ else bnd (bnd (ah [subD Ie (.int 0),subD Ii (.int 0),bnd (subD Ie (.int 1)) λt3=>bnd (subD Ii (.int 1)) λt4=>ag .Sub t3 t4,ret Ia]) λl5=>call (nm "quotient") l5) λt6=>bnd (de [(nm "x",Ie),(nm "y",Ii),(nm "digits",Ia),(nm "top",Io)] [(nm "m"),(nm "e")] t6) λJh=>bnd (bnd (ah [ac (aa Jh (nm "m")),ac (aa Jh (nm "e")),ac (aa Jh (nm "digits")),ac (aa Jh (nm "top"))]) λl8=>call (nm "round_real") l8) λt9=>ret (.ret t9)
theorem tH(d:Nat)(Ie Ii Ia Io:D):run (d+1) (nm "real_div") [Ie,Ii,Ia,Io]=aq (tG (run d) Ie Ii Ia Io):=by kernel_rfl
noncomputable def lw(call:Str->List D->M D)(Ie Ii:D):M Flow':=bnd (bnd (bnd (ah [ret Ie,call (nm "real_neg") [Ii]]) λl1=>call (nm "exact_add") l1) λt2=>subD t2 (.int 0)) λt3=>bnd (ae .Eq t3 (.int 0)) λc4=>if c4 then ret (.ret (.int 0)) else bnd (bnd (ae .Gt t3 (.int 0)) λc5=>if c5 then ret (.int 1) else ret ((.int (-1)))) λt6=>ret (.ret t6)
theorem ly(d:Nat)(Ie Ii:D):run (d+1) (nm "real_compare") [Ie,Ii]=aq (lw (run d) Ie Ii):=by kernel_rfl
noncomputable def mw(call:Str->List D->M D)(Iy Ia Io:D):M Flow':=bnd (call (nm "round_real") [Iy,(.int 0),Ia,Io]) λt1=>ret (.ret t1)
theorem my(d:Nat)(Iy Ia Io:D):run (d+1) (nm "real_of_int") [Iy,Ia,Io]=aq (mw (run d) Iy Ia Io):=by kernel_rfl
noncomputable def mz(call:Str->List D->M D)(Ie:D):M Flow':=bnd (de [(nm "x",Ie)] [(nm "m"),(nm "e")] Ie) λJI=>bnd (bnd (ac (aa JI (nm "e"))) λt3=>ae .GtE t3 (.int 0)) λc2=>if c2 then bnd (bnd (ac (aa JI (nm "m"))) λt4=>bnd (bnd (ac (aa JI (nm "e"))) λt5=>ag .Pow (.int 10) t5) λt6=>ag .Mult t4 t6) λt7=>ret (.ret t7) else bnd (bnd (bnd (ah [ac (aa JI (nm "m"))]) λl8=>au (nm "abs") l8) λt9=>bnd (bnd (bnd (ac (aa JI (nm "e"))) λII=>dk II) λIP=>ag .Pow (.int 10) IP) λIM=>ag .FloorDiv t9 IM) λIQ=>bnd (ret (aj JI (nm "found") IQ)) λIT=>bnd (bnd (bnd (ac (aa IT (nm "m"))) λIO=>ae .Gt IO (.int 0)) λO1=>if O1 then ac (aa IT (nm "found")) else bnd (ac (aa IT (nm "found"))) λIH=>dk IH) λIZ=>ret (.ret IZ)
theorem mA(d:Nat)(Ie:D):run (d+1) (nm "real_to_int") [Ie]=aq (mz (run d) Ie):=by kernel_rfl
noncomputable def qQ(call:Str->List D->M D)(H4 H_:D):M Flow':=bnd (bnd (ae .Eq H4 (.int 1)) λc1=>if c1 then aA H_ (nm "real_digits") else aA H_ (nm "double_digits")) λt2=>ret (.ret t2)
theorem qR(d:Nat)(H4 H_:D):run (d+1) (nm "digits_of") [H4,H_]=aq (qQ (run d) H4 H_):=by kernel_rfl
noncomputable def mB(call:Str->List D->M D)(Il H4 Ie Ii H_:D):M Flow':=bnd (call (nm "digits_of") [H4,H_]) λt1=>bnd (aA H_ (nm "top_exponent")) λt2=>bnd (ae .Eq Il (.str (nm "add"))) λc3=>if c3 then bnd (call (nm "real_add") [Ie,Ii,t1,t2]) λt4=>ret (.ret t4) else bnd (ae .Eq Il (.str (nm "sub"))) λc5=>if c5 then bnd (call (nm "real_sub") [Ie,Ii,t1,t2]) λt6=>ret (.ret t6) else bnd (ae .Eq Il (.str (nm "mul"))) λc7=>if c7 then bnd (call (nm "real_mul") [Ie,Ii,t1,t2]) λt8=>ret (.ret t8) else bnd (ae .Eq Il (.str (nm "div"))) λc9=>if c9 then bnd (call (nm "real_div") [Ie,Ii,t1,t2]) λII=>ret (.ret II) else bnd (ae .Eq Il (.str (nm "powi"))) λJg=>if Jg then bnd (bnd (stuck) λIM=>bO call IM [Ie,Ii,t1,t2]) λIQ=>ret (.ret IQ) else bnd (bnd (ah [ret Il,call (nm "real_compare") [Ie,Ii]]) λK5=>call (nm "holds") K5) λIr=>ret (.ret Ir)
theorem gW(d:Nat)(Il H4 Ie Ii H_:D):run (d+1) (nm "real_binary") [Il,H4,Ie,Ii,H_]=aq (mB (run d) Il H4 Ie Ii H_):=by kernel_rfl
noncomputable def wT(call:Str->List D->M D)(Ie Ii:D):M Flow':=bnd (bnd (ah [au (nm "len") [Ie],au (nm "len") [Ii]]) λl1=>au (nm "max") l1) λt2=>bnd (bnd (ah [bnd (bnd (bnd (au (nm "len") [Ie]) λt3=>ag .Sub t2 t3) λt4=>ag .Mult (.str (nm " ")) t4) λt5=>ag .Add Ie t5,bnd (bnd (bnd (au (nm "len") [Ii]) λt6=>ag .Sub t2 t6) λt7=>ag .Mult (.str (nm " ")) t7) λt8=>ag .Add Ii t8]) λl9=>call (nm "order_of") l9) λII=>ret (.ret II)
theorem wU(d:Nat)(Ie Ii:D):run (d+1) (nm "collate") [Ie,Ii]=aq (wT (run d) Ie Ii):=by kernel_rfl
noncomputable def mC(call:Str->List D->M D)(Il H4 Ie Ii H_:D):M Flow':=bnd (ae .Eq Il (.str (nm "cat"))) λc1=>if c1 then bnd (ag .Add Ie Ii) λt2=>ret (.ret t2) else bnd (bnd (ah [ret Il,call (nm "collate") [Ie,Ii]]) λl3=>call (nm "holds") l3) λt4=>ret (.ret t4)
theorem mD(d:Nat)(Il H4 Ie Ii H_:D):run (d+1) (nm "text_binary") [Il,H4,Ie,Ii,H_]=aq (mC (run d) Il H4 Ie Ii H_):=by kernel_rfl
noncomputable def Bc(call:Str->List D->M D)(Il H4 Ie H_:D):M Flow':=bnd (bnd (ae .Eq Il (.str (nm "not"))) λb2=>bi .And b2 (bnd (ae .Eq H4 (.int 4)) λb3=>bi .And b3 (ret true))) λc1=>if c1 then bnd (bnd (cA Ie) λb4=>ret (.bool !b4)) λt5=>ret (.ret t5) else bnd (bnd (ae .Eq Il (.str (nm "neg"))) λb7=>bi .And b7 (bnd (ae .Eq H4 (.int 0)) λb8=>bi .And b8 (ret true))) λc6=>if c6 then bnd (bnd (ah [dk Ie,aA H_ (nm "width")]) λl9=>call (nm "fit_int") l9) λII=>ret (.ret II) else bnd (bnd (ae .Eq Il (.str (nm "neg"))) λb12=>bi .And b12 (bnd (bnd (ae .Eq H4 (.int 1)) λb14=>bi .Or b14 (bnd (ae .Eq H4 (.int 2)) λb15=>bi .Or b15 (ret false))) λb13=>bi .And b13 (ret true))) λJg=>if Jg then bnd (call (nm "real_neg") [Ie]) λIO=>ret (.ret IO) else bnd (bnd (ae .Eq Il (.str (nm "neg"))) λb18=>bi .And b18 (bnd (ae .Eq H4 (.int 3)) λb19=>bi .And b19 (ret true))) λMC=>if MC then bnd (bnd (stuck) λI7=>bO call I7 [Ie]) λJz=>ret (.ret Jz) else aQ
theorem oI(d:Nat)(Il H4 Ie H_:D):run (d+1) (nm "unary") [Il,H4,Ie,H_]=aq (Bc (run d) Il H4 Ie H_):=by kernel_rfl
noncomputable def wV(call:Str->List D->M D)(Ih IU IV H_:D):M Flow':=bnd (call (nm "digits_of") [IV,H_]) λt1=>bnd (ae .Eq IU (.int 0)) λc2=>if c2 then bnd (bnd (ah [ret Ih,ret t1,aA H_ (nm "top_exponent")]) λl3=>call (nm "real_of_int") l3) λt4=>ret (.ret t4) else bnd (ae .Eq IU (.int 3)) λc5=>if c5 then bnd (subD Ih (.int 0)) λt6=>bnd (bnd (ah [subD t6 (.int 0),subD t6 (.int 1),ret t1,aA H_ (nm "top_exponent")]) λl7=>call (nm "round_real") l7) λt8=>ret (.ret t8) else bnd (bnd (ah [subD Ih (.int 0),subD Ih (.int 1),ret t1,aA H_ (nm "top_exponent")]) λl9=>call (nm "round_real") l9) λII=>ret (.ret II)
theorem wW(d:Nat)(Ih IU IV H_:D):run (d+1) (nm "real_as") [Ih,IU,IV,H_]=aq (wV (run d) Ih IU IV H_):=by kernel_rfl
noncomputable def wX(call:Str->List D->M D)(Ih IU IV H_:D):M Flow':=bnd (ae .Eq IU IV) λc1=>if c1 then ret (.ret Ih) else bnd (bnd (ae .Eq IU (.int 4)) λb3=>bi .Or b3 (bnd (ae .Eq IU (.int 5)) λb4=>bi .Or b4 (bnd (ae .Eq IV (.int 4)) λb5=>bi .Or b5 (bnd (ae .Eq IV (.int 5)) λb6=>bi .Or b6 (ret false))))) λc2=>if c2 then aQ else bnd (ae .Eq IV (.int 3)) λc7=>if c7 then bnd (aG [call (nm "real_as") [Ih,IU,(.int 1),H_],ret ((.tup [.int 0,.int 0]))]) λt8=>ret (.ret t8) else bnd (bnd (ae .Eq IV (.int 1)) λb10=>bi .Or b10 (bnd (ae .Eq IV (.int 2)) λb11=>bi .Or b11 (ret false))) λc9=>if c9 then bnd (call (nm "real_as") [Ih,IU,IV,H_]) λIM=>ret (.ret IM) else bnd (ae .Eq IU (.int 3)) λKF=>if KF then bnd (subD Ih (.int 0)) λI6=>bnd (bnd (ah [call (nm "real_to_int") [I6],aA H_ (nm "width")]) λKv=>call (nm "fit_int") Kv) λIO=>ret (.ret IO) else bnd (bnd (ah [call (nm "real_to_int") [Ih],aA H_ (nm "width")]) λKG=>call (nm "fit_int") KG) λIZ=>ret (.ret IZ)
theorem nj(d:Nat)(Ih IU IV H_:D):run (d+1) (nm "convert") [Ih,IU,IV,H_]=aq (wX (run d) Ih IU IV H_):=by kernel_rfl
noncomputable def tI(call:Str->List D->M D)(Ic H5:D):M Flow':=bnd (bnd (subD H5 (.int 0)) λt2=>bnd (aA Ic (nm "expressions")) λt3=>ae .NotIn t2 t3) λc1=>if c1 then aQ else bnd (bnd (bnd (aA Ic (nm "expressions")) λt4=>bnd (subD H5 (.int 0)) λt5=>subD t4 t5) λt6=>bO call t6 [Ic,H5]) λt7=>ret (.ret t7)
theorem tJ(d:Nat)(Ic H5:D):run (d+1) (nm "evaluate") [Ic,H5]=aq (tI (run d) Ic H5):=by kernel_rfl
noncomputable def mE(call:Str->List D->M D)(Ic IK:D):M Flow':=bnd (bnd (aA Ic (nm "frame")) λt1=>bnd (aZ t1 (nm "get")) λk2=>bd call t1 k2 [IK]) λt3=>bnd (bnd (bnd (au (nm "isinstance") [t3,(.blt (nm "tuple"))]) λt6=>cA t6) λb5=>ret (!b5)) λc4=>if c4 then aQ else ret (.ret t3)
theorem mF(d:Nat)(Ic IK:D):run (d+1) (nm "named_place") [Ic,IK]=aq (mE (run d) Ic IK):=by kernel_rfl
noncomputable def hG(call:Str->List D->M D)(Ic H5:D):M Flow':=bnd (ae .Is H5 .none) λc1=>if c1 then ret (.ret .none) else bnd (call (nm "evaluate") [Ic,H5]) λt2=>ret (.ret t2)
theorem tK(d:Nat)(Ic H5:D):run (d+1) (nm "bound_of") [Ic,H5]=aq (hG (run d) Ic H5):=by kernel_rfl
noncomputable def oJ(call:Str->List D->M D)(Ic H5:D):M Flow':=bnd (bnd (ah [ret Ic,subD H5 (.int 2)]) λl1=>call (nm "place_of") l1) λt2=>bnd (bnd (ah [ret Ic,subD H5 (.int 3)]) λl3=>call (nm "bound_of") l3) λt4=>bnd (bnd (ah [ret t2,ret t4,bnd (ah [ret Ic,subD H5 (.int 4)]) λl5=>call (nm "bound_of") l5]) λl6=>call (nm "sub_place") l6) λt7=>ret (.ret t7)
theorem oK(d:Nat)(Ic H5:D):run (d+1) (nm "part_place") [Ic,H5]=aq (oJ (run d) Ic H5):=by kernel_rfl
noncomputable def hJ(call:Str->List D->M D)(Ic H5:D):M Flow':=bnd (bnd (subD H5 (.int 0)) λt2=>ae .Eq t2 (.str (nm "substr"))) λc1=>if c1 then bnd (call (nm "part_place") [Ic,H5]) λt3=>ret (.ret t3) else bnd (bnd (ah [ret Ic,subD H5 (.int 2)]) λl4=>call (nm "named_place") l4) λt5=>bnd (bnd (subD H5 (.int 0)) λt7=>ae .Eq t7 (.str (nm "elem"))) λc6=>if c6 then bnd (bnd (ah [ret t5,bnd (bnd (subD H5 (.int 3)) λt9=>bnd (a_ t9) λKw=>aJ (λO2 KW=>bnd (call (nm "evaluate") [Ic,O2]) λIQ=>if am (KW).length then ret (KW++[IQ]) else stuck) Kw []) λl8=>ret (.list l8)]) λK5=>call (nm "element_place") K5) λIr=>ret (.ret Ir) else ret (.ret t5)
theorem e_(d:Nat)(Ic H5:D):run (d+1) (nm "place_of") [Ic,H5]=aq (hJ (run d) Ic H5):=by kernel_rfl
noncomputable def iU(call:Str->List D->M D)(Ic H5:D):M Flow':=bnd (subD H5 (.int 2)) λt1=>ret (.ret t1)
theorem iV(d:Nat)(Ic H5:D):run (d+1) (nm "eval_const") [Ic,H5]=aq (iU (run d) Ic H5):=by kernel_rfl
noncomputable def oL(call:Str->List D->M D)(Ic H5:D):M Flow':=bnd (bnd (aA Ic (nm "memory")) λt1=>bnd (aZ t1 (nm "load")) λk2=>bnd (ah [call (nm "place_of") [Ic,H5]]) λl3=>bd call t1 k2 l3) λt4=>ret (.ret t4)
theorem oM(d:Nat)(Ic H5:D):run (d+1) (nm "eval_place") [Ic,H5]=aq (oL (run d) Ic H5):=by kernel_rfl
noncomputable def jK(call:Str->List D->M D)(Ic H5:D):M Flow':=bnd (bnd (ah [bnd (ah [ret Ic,subD H5 (.int 2)]) λl1=>call (nm "evaluate") l1,bnd (subD H5 (.int 2)) λt2=>subD t2 (.int 1),subD H5 (.int 1),aA Ic (nm "limits")]) λl3=>call (nm "convert") l3) λt4=>ret (.ret t4)
theorem qS(d:Nat)(Ic H5:D):run (d+1) (nm "eval_conv") [Ic,H5]=aq (jK (run d) Ic H5):=by kernel_rfl
noncomputable def iW(call:Str->List D->M D)(Ic H5:D):M Flow':=bnd (bnd (ah [subD H5 (.int 0),subD H5 (.int 1),bnd (ah [ret Ic,subD H5 (.int 2)]) λl1=>call (nm "evaluate") l1,aA Ic (nm "limits")]) λl2=>call (nm "unary") l2) λt3=>ret (.ret t3)
theorem oN(d:Nat)(Ic H5:D):run (d+1) (nm "eval_unary") [Ic,H5]=aq (iW (run d) Ic H5):=by kernel_rfl
noncomputable def yO(call:Str->List D->M D)(Ic IB H4 JE Jj:D):M Flow':=bnd (bnd (aA Ic (nm "operations")) λt2=>ae .NotIn H4 t2) λc1=>if c1 then aQ else bnd (bnd (bnd (aA Ic (nm "operations")) λt3=>subD t3 H4) λt4=>bnd (ah [ret IB,ret H4,ret JE,ret Jj,aA Ic (nm "limits")]) λl5=>bO call t4 l5) λt6=>ret (.ret t6)
theorem yP(d:Nat)(Ic IB H4 JE Jj:D):run (d+1) (nm "reckon") [Ic,IB,H4,JE,Jj]=aq (yO (run d) Ic IB H4 JE Jj):=by kernel_rfl
noncomputable def mG(call:Str->List D->M D)(Ic H5:D):M Flow':=bnd (bnd (ah [ret Ic,subD H5 (.int 2)]) λl1=>call (nm "evaluate") l1) λt2=>bnd (bnd (ah [ret Ic,subD H5 (.int 3)]) λl3=>call (nm "evaluate") l3) λt4=>bnd (bnd (ah [ret Ic,subD H5 (.int 0),subD H5 (.int 1),ret t2,ret t4]) λl5=>call (nm "reckon") l5) λt6=>ret (.ret t6)
theorem mH(d:Nat)(Ic H5:D):run (d+1) (nm "eval_binary") [Ic,H5]=aq (mG (run d) Ic H5):=by kernel_rfl
noncomputable def lz(call:Str->List D->M D)(Ic H5:D):M Flow':=bnd (bnd (ah [ret Ic,subD H5 (.int 2)]) λl1=>call (nm "evaluate") l1) λt2=>bnd (bnd (ah [ret Ic,subD H5 (.int 3)]) λl3=>call (nm "evaluate") l3) λt4=>bnd (bnd (ah [ret Ic,subD H5 (.int 0),bnd (subD H5 (.int 2)) λt5=>subD t5 (.int 1),ret t2,ret t4]) λl6=>call (nm "reckon") l6) λt7=>ret (.ret t7)
theorem lA(d:Nat)(Ic H5:D):run (d+1) (nm "eval_compare") [Ic,H5]=aq (lz (run d) Ic H5):=by kernel_rfl
noncomputable def tL(call:Str->List D->M D)(Ic H5:D):M Flow':=bnd (bnd (ah [ret Ic,subD H5 (.int 2)]) λl1=>call (nm "evaluate") l1) λt2=>bnd (bnd (bnd (ah [ret Ic,subD H5 (.int 3)]) λl3=>call (nm "evaluate") l3) λt4=>ag .Add t2 t4) λt5=>ret (.ret t5)
theorem tM(d:Nat)(Ic H5:D):run (d+1) (nm "eval_cat") [Ic,H5]=aq (tL (run d) Ic H5):=by kernel_rfl
noncomputable def fC(call:Str->List D->M D):M Flow':=bnd (di [ret (.str (nm "eq")),ret (.str (nm "ne")),ret (.str (nm "lt")),ret (.str (nm "le")),ret (.str (nm "gt")),ret (.str (nm "ge"))]) λt1=>ret (.ret t1)
theorem jT(d:Nat):run (d+1) (nm "_law_relations") []=aq (fC (run d)):=by kernel_rfl
noncomputable def iX(call:Str->List D->M D):M Flow':=bnd (fw [(ret (.str (nm "I")),ret ((.tup [(.int 0),(.int 0),(.int 0),(.tup [])]))),(ret (.str (nm "J")),ret ((.tup [(.int 0),(.int 1),(.int 0),(.tup [])]))),(ret (.str (nm "A")),ret ((.tup [(.int 0),(.int 2),(.int 0),(.tup [(.tup [(.int 0),(.int 2)]),(.tup [(.int (-1)),(.int 0)])])]))),(ret (.str (nm "X")),ret ((.tup [(.int 1),(.int 8),(.int 0),(.tup [])]))),(ret (.str (nm "B")),ret ((.tup [(.int 1),(.int 9),(.int 0),(.tup [(.tup [(.int 1),(.int 2)])])]))),(ret (.str (nm "L")),ret ((.tup [(.int 4),(.int 11),(.int 0),(.tup [])]))),(ret (.str (nm "C")),ret ((.tup [(.int 5),(.int 0),(.int 4),(.tup [])]))),(ret (.str (nm "D")),ret ((.tup [(.int 5),(.int 4),(.int 3),(.tup [(.tup [(.int 2),(.int 3)])])])))]) λt1=>ret (.ret t1)
theorem oO(d:Nat):run (d+1) (nm "_law_places") []=aq (iX (run d)):=by kernel_rfl
noncomputable def tN(call:Str->List D->M D)(H7 I9:D):M Flow':=bnd (bnd (au (nm "len") [H7]) λt2=>ae .Eq t2 (.int 0)) λc1=>if c1 then ret (.ret (.int 0)) else bnd (bnd (subD H7 (.int 0)) λt3=>ag .Mod t3 I9) λt4=>bnd (bnd (subD H7 (.int 0)) λt5=>ag .FloorDiv t5 I9) λt6=>bnd (bnd (cL H7 (.int 0) t6) λ_=>ret ([(nm "pool",H7),(nm "many",I9),(nm "digit",t4)])) λJh=>bnd (bnd (bnd (ac (aa Jh (nm "pool"))) λt9=>subD t9 (.int 0)) λII=>ae .Eq II (.int 0)) λc8=>if c8 then bnd (bnd (ac (aa Jh (nm "pool"))) λIP=>bnd (aZ IP (nm "pop")) λk12=>bd call IP k12 [(.int 0)]) λIQ=>bnd (ac (aa Jh (nm "digit"))) λI6=>ret (.ret I6) else bnd (ac (aa Jh (nm "digit"))) λIr=>ret (.ret Ir)
theorem tO(d:Nat)(H7 I9:D):run (d+1) (nm "_law_take") [H7,I9]=aq (tN (run d) H7 I9):=by kernel_rfl
noncomputable def oP(call:Str->List D->M D)(H7:D):M Flow':=bnd (bnd (bnd (call (nm "_law_take") [H7,(.int 23)]) λt1=>ag .Sub t1 (.int 11)) λt2=>bnd (bnd (call (nm "_law_take") [H7,(.int 4)]) λt3=>subD (.tup [(.int 1),(.int 1),(.int 1),(.int 10)]) t3) λt4=>ag .Mult t2 t4) λt5=>ret (.ret t5)
theorem oQ(d:Nat)(H7:D):run (d+1) (nm "_law_number") [H7]=aq (oP (run d) H7):=by kernel_rfl
noncomputable def lB(call:Str->List D->M D)(H7:D):M Flow':=bnd (bnd (ah [call (nm "_law_number") [H7],bnd (call (nm "_law_take") [H7,(.int 4)]) λt1=>subD (.tup [(.int 1),(.int 4),(.int 10),(.int 100)]) t1,ret (.int 3)]) λl2=>call (nm "_law_fit") l2) λt3=>ret (.ret t3)
theorem tP(d:Nat)(H7:D):run (d+1) (nm "_law_real") [H7]=aq (lB (run d) H7):=by kernel_rfl
noncomputable def lC(call:Str->List D->M D)(H7:D):M Flow':=bnd (bnd (aZ (.str (nm "")) (nm "join")) λk1=>bnd (ah [bnd (bnd (bnd (ah [bnd (call (nm "_law_take") [H7,(.int 3)]) λt3=>ag .Add (.int 1) t3]) λl4=>au (nm "range") l4) λt5=>bnd (a_ t5) λl6=>aJ (λd7 Kx=>bnd (bnd (call (nm "_law_take") [H7,(.int 4)]) λt9=>subD (.str (nm " AB0")) t9) λII=>if am (Kx).length then ret (Kx++[II]) else stuck) l6 []) λl2=>ret (.list l2)]) λKM=>bd call (.str (nm "")) k1 KM) λIM=>ret (.ret IM)
theorem tQ(d:Nat)(H7:D):run (d+1) (nm "_law_text") [H7]=aq (lC (run d) H7):=by kernel_rfl
noncomputable def qT(call:Str->List D->M D)(H7 H4:D):M Flow':=bnd (ae .Eq H4 (.int 0)) λc1=>if c1 then bnd (call (nm "_law_number") [H7]) λt2=>ret (.ret t2) else bnd (ae .Eq H4 (.int 1)) λc3=>if c3 then bnd (call (nm "_law_real") [H7]) λt4=>ret (.ret t4) else bnd (bnd (ae .Eq H4 (.int 4)) λc5=>if c5 then bnd (call (nm "_law_take") [H7,(.int 2)]) λt6=>bnd (ae .Eq t6 (.int 1)) λb7=>ret (.bool b7) else call (nm "_law_text") [H7]) λt8=>ret (.ret t8)
theorem qU(d:Nat)(H7 H4:D):run (d+1) (nm "_law_const") [H7,H4]=aq (qT (run d) H7 H4):=by kernel_rfl
noncomputable def tS(call:Str->List D->M D)(H7 H4:D):M Flow':=bnd (call (nm "_law_take") [H7,(.int 3)]) λt1=>bnd (ae .Eq t1 (.int 0)) λc2=>if c2 then bnd (aG [ret (.str (nm "const")),ret H4,call (nm "_law_const") [H7,H4]]) λt3=>ret (.ret t3) else bnd (ae .Eq H4 (.int 4)) λc4=>if c4 then ret (.ret (.tup [(.str (nm "var")),(.int 4),(.str (nm "L"))])) else bnd (ae .Eq t1 (.int 1)) λc5=>if c5 then bnd (aG [ret (.str (nm "var")),ret H4,bnd (di [bnd (call (nm "_law_take") [H7,(.int 2)]) λt6=>subD (.str (nm "IJ")) t6,ret (.str (nm "X")),ret (.str (nm "")),ret (.str (nm "")),ret (.str (nm "")),ret (.str (nm "C"))]) λt7=>subD t7 H4]) λt8=>ret (.ret t8) else bnd (aG [ret (.str (nm "elem")),ret H4,bnd (fw [(ret (.int 0),ret (.str (nm "A"))),(ret (.int 1),ret (.str (nm "B"))),(ret (.int 5),ret (.str (nm "D")))]) λt9=>subD t9 H4,bnd (bnd (bnd (ah [bnd (ae .Eq H4 (.int 0)) λJg=>if Jg then ret (.int 2) else ret (.int 1)]) λLK=>au (nm "range") LK) λIQ=>bnd (a_ IQ) λK5=>aJ (λO3 KX=>bnd (call (nm "_law_index") [H7,O3]) λIH=>if am (KX).length then ret (KX++[IH]) else stuck) K5 []) λKw=>ret (.list Kw)]) λIZ=>ret (.ret IZ)
theorem tT(d:Nat)(H7 H4:D):run (d+1) (nm "_law_leaf") [H7,H4]=aq (tS (run d) H7 H4):=by kernel_rfl
noncomputable def qV(call:Str->List D->M D)(H7 Mq:D):M Flow':=bnd (bnd (call (nm "_law_take") [H7,(.int 5)]) λt2=>ae .Eq t2 (.int 0)) λc1=>if c1 then ret (.ret (.tup [(.str (nm "var")),(.int 0),(.str (nm "I"))])) else bnd (aG [ret (.str (nm "const")),ret (.int 0),bnd (call (nm "_law_take") [H7,(.int 3)]) λt3=>ag .Sub t3 Mq]) λt4=>ret (.ret t4)
theorem qW(d:Nat)(H7 Mq:D):run (d+1) (nm "_law_index") [H7,Mq]=aq (qV (run d) H7 Mq):=by kernel_rfl
noncomputable def tV(call:Str->List D->M D)(H7 H4 It:D):M Flow':=bnd (bnd (ae .Eq It (.int 0)) λb2=>bi .Or b2 (bnd (bnd (call (nm "_law_take") [H7,(.int 6)]) λt4=>ae .Eq t4 (.int 0)) λb3=>bi .Or b3 (ret false))) λc1=>if c1 then bnd (call (nm "_law_leaf") [H7,H4]) λt5=>ret (.ret t5) else bnd (call (nm "_law_take") [H7,(.int 6)]) λt6=>bnd (bnd (ae .Eq H4 (.int 4)) λb8=>bi .And b8 (bnd (ae .Eq t6 (.int 0)) λb9=>bi .And b9 (ret true))) λc7=>if c7 then bnd (aG [ret (.str (nm "not")),ret (.int 4),bnd (ah [ret H7,ret (.int 4),ag .Sub It (.int 1)]) λKw=>call (nm "_law_tree") Kw]) λIP=>ret (.ret IP) else bnd (bnd (ae .Eq H4 (.int 4)) λb13=>bi .And b13 (bnd (ae .Lt t6 (.int 3)) λb14=>bi .And b14 (ret true))) λJv=>if Jv then bnd (bnd (di [ret (.str (nm "and")),ret (.str (nm "or")),ret (.str (nm "eqv")),ret (.str (nm "neqv"))]) λIr=>bnd (call (nm "_law_take") [H7,(.int 4)]) λIO=>subD Ir IO) λIH=>bnd (aG [ret IH,ret (.int 4),bnd (ah [ret H7,ret (.int 4),ag .Sub It (.int 1)]) λMA=>call (nm "_law_tree") MA,bnd (ah [ret H7,ret (.int 4),ag .Sub It (.int 1)]) λO4=>call (nm "_law_tree") O4]) λI7=>ret (.ret I7) else bnd (ae .Eq H4 (.int 4)) λKO=>if KO then bnd (bnd (call (nm "_law_relations") []) λJA=>bnd (call (nm "_law_take") [H7,(.int 6)]) λJp=>subD JA Jp) λJq=>bnd (bnd (call (nm "_law_take") [H7,(.int 3)]) λJu=>subD (.tup [(.int 0),(.int 1),(.int 5)]) Ju) λJJ=>bnd (aG [ret Jq,ret (.int 4),bnd (ah [ret H7,ret JJ,ag .Sub It (.int 1)]) λO5=>call (nm "_law_tree") O5,bnd (ah [ret H7,ret JJ,ag .Sub It (.int 1)]) λO6=>call (nm "_law_tree") O6]) λJr=>ret (.ret Jr) else bnd (bnd (ae .Eq H4 (.int 5)) λb31=>bi .And b31 (bnd (ae .Lt t6 (.int 3)) λb32=>bi .And b32 (ret true))) λO7=>if O7 then bnd (aG [ret (.str (nm "cat")),ret (.int 5),bnd (ah [ret H7,ret (.int 5),ag .Sub It (.int 1)]) λKN=>call (nm "_law_tree") KN,bnd (ah [ret H7,ret (.int 5),ag .Sub It (.int 1)]) λLO=>call (nm "_law_tree") LO]) λJX=>ret (.ret JX) else bnd (ae .Eq H4 (.int 5)) λO8=>if O8 then bnd (bnd (di [ret ((.tup [(.str (nm "var")),(.int 5),(.str (nm "C"))])),aG [ret (.str (nm "elem")),ret (.int 5),ret (.str (nm "D")),di [call (nm "_law_index") [H7,(.int 0)]]]]) λKJ=>bnd (call (nm "_law_take") [H7,(.int 2)]) λIL=>subD KJ IL) λKn=>bnd (bnd (bnd (a_ (.tup [(.int 0),(.int 1)])) λMD=>aJ (λPN JN=>bnd (bnd (bnd (call (nm "_law_take") [H7,(.int 4)]) λKb=>ae .Eq Kb (.int 0)) λLP=>if LP then ret (.none) else aG [ret (.str (nm "const")),ret (.int 0),bnd (call (nm "_law_take") [H7,(.int 4)]) λKc=>ag .Add (.int 1) Kc]) λJZ=>if am (JN).length then ret (JN++[JZ]) else stuck) MD []) λO9=>ret (.list O9)) λKm=>bnd (aG [ret (.str (nm "substr")),ret (.int 5),ret Kn,subD Km (.int 0),subD Km (.int 1)]) λKo=>ret (.ret Ko) else bnd (ae .Eq t6 (.int 0)) λO_=>if O_ then bnd (aG [ret (.str (nm "neg")),ret H4,bnd (ah [ret H7,ret H4,ag .Sub It (.int 1)]) λPa=>call (nm "_law_tree") Pa]) λKy=>ret (.ret Ky) else bnd (ae .Eq t6 (.int 1)) λLQ=>if LQ then bnd (aG [ret (.str (nm "conv")),ret H4,bnd (ah [ret H7,ag .Sub (.int 1) H4,ag .Sub It (.int 1)]) λME=>call (nm "_law_tree") ME]) λKd=>ret (.ret Kd) else bnd (bnd (ae .Eq H4 (.int 0)) λb57=>bi .And b57 (bnd (ae .Eq t6 (.int 2)) λb58=>bi .And b58 (ret true))) λPb=>if Pb then bnd (aG [ret (.str (nm "powi")),ret (.int 0),bnd (ah [ret H7,ret (.int 0),ag .Sub It (.int 1)]) λLR=>call (nm "_law_tree") LR,bnd (ah [ret H7,ret (.int 0),ag .Sub It (.int 1)]) λLT=>call (nm "_law_tree") LT]) λKP=>ret (.ret KP) else bnd (bnd (di [ret (.str (nm "add")),ret (.str (nm "sub")),ret (.str (nm "mul")),ret (.str (nm "div"))]) λPc=>bnd (call (nm "_law_take") [H7,(.int 4)]) λK6=>subD Pc K6) λK7=>bnd (aG [ret K7,ret H4,bnd (ah [ret H7,ret H4,ag .Sub It (.int 1)]) λPd=>call (nm "_law_tree") Pd,bnd (ah [ret H7,ret H4,ag .Sub It (.int 1)]) λK8=>call (nm "_law_tree") K8]) λMF=>ret (.ret MF)
theorem lD(d:Nat)(H7 H4 It:D):run (d+1) (nm "_law_tree") [H7,H4,It]=aq (tV (run d) H7 H4 It):=by kernel_rfl
noncomputable def ey(call:Str->List D->M D)(IN:af)(k6:K'):M Flow':=bnd (bnd (ac (aa IN (nm "size"))) λt7=>ag .Mult t7 (.int 10)) λt8=>bnd (ret (aj IN (nm "size") t8)) λKE=>bnd (bnd (ac (aa KE (nm "e"))) λII=>ag .Sub II (.int 1)) λIP=>bnd (ret (aj KE (nm "e") IP)) λIF=>k6 IF
noncomputable def ez(call:Str->List D->M D)(KV:af):M Bool:=bnd (bnd (ac (aa KV (nm "size"))) λIQ=>ag .Mult IQ (.int 10)) λI6=>bnd (bnd (ac (aa KV (nm "under"))) λIr=>bnd (bnd (ac (aa KV (nm "digits"))) λIO=>ag .Pow (.int 10) IO) λIH=>ag .Mult Ir IH) λIZ=>ae .Lt I6 IZ
noncomputable def cQ(call:Str->List D->M D)(Ks:af)(k22:K'):M Flow':=bnd (bnd (ac (aa Ks (nm "under"))) λJp=>ag .Mult Jp (.int 10)) λJq=>bnd (ret (aj Ks (nm "under") Jq)) λLU=>bnd (bnd (ac (aa LU (nm "e"))) λJJ=>ag .Add JJ (.int 1)) λJL=>bnd (ret (aj LU (nm "e") JL)) λI8=>k22 I8
noncomputable def cR(call:Str->List D->M D)(K9:af):M Bool:=bnd (ac (aa K9 (nm "size"))) λJr=>bnd (bnd (ac (aa K9 (nm "under"))) λJs=>bnd (bnd (ac (aa K9 (nm "digits"))) λKI=>ag .Pow (.int 10) KI) λJM=>ag .Mult Js JM) λJW=>ae .GtE Jr JW
noncomputable def cS(call:Str->List D->M D)(LV:af)(k62:K'):M Flow':=bnd (bnd (ac (aa LV (nm "m"))) λK6=>ag .FloorDiv K6 (.int 10)) λK7=>bnd (ret (aj LV (nm "m") K7)) λKg=>bnd (bnd (ac (aa Kg (nm "e"))) λPe=>ag .Add Pe (.int 1)) λMF=>bnd (ret (aj Kg (nm "e") MF)) λMG=>k62 MG
noncomputable def cT(call:Str->List D->M D)(MH:af):M Bool:=bnd (bnd (ac (aa MH (nm "m"))) λPf=>ag .Mod Pf (.int 10)) λMI=>ae .Eq MI (.int 0)
noncomputable def tW(call:Str->List D->M D)(LW:af)(k78:K'):M Flow':=bnd (bnd (ac (aa LW (nm "m"))) λMJ=>ag .FloorDiv MJ (.int 10)) λMK=>bnd (ret (aj LW (nm "m") MK)) λLX=>bnd (bnd (ac (aa LX (nm "e"))) λPg=>ag .Add Pg (.int 1)) λLY=>bnd (ret (aj LX (nm "e") LY)) λJ3=>k78 J3
noncomputable def tX(call:Str->List D->M D)(ML:af):M Bool:=bnd (bnd (ac (aa ML (nm "m"))) λPh=>ag .Mod Ph (.int 10)) λMM=>ae .Eq MM (.int 0)
noncomputable def gz(call:Str->List D->M D)(Iq Ip Ia:D):M Flow':=bnd (ae .Eq Iq (.int 0)) λc1=>if c1 then ret (.ret (.tup [(.int 0),(.int 0)])) else bnd (au (nm "abs") [Iq]) λt2=>ay (ey call) (ez call) cD [(nm "over",Iq),(nm "under",Ip),(nm "digits",Ia),(nm "e",(.int 0)),(nm "size",t2)] λJV=>ay (cQ call) (cR call) cD JV λJi=>bnd (bnd (ac (aa Ji (nm "size"))) λJB=>bnd (ac (aa Ji (nm "under"))) λJX=>ag .FloorDiv JB JX) λJY=>bnd (ret (aj Ji (nm "m") JY)) λJF=>bnd (bnd (bnd (ac (aa JF (nm "size"))) λIL=>bnd (bnd (ac (aa JF (nm "m"))) λKn=>bnd (ac (aa JF (nm "under"))) λJ_=>ag .Mult Kn J_) λKf=>ag .Sub IL Kf) λJO=>ag .Mult (.int 2) JO) λLZ=>bnd (ret (aj JF (nm "rest") LZ)) λIC=>bnd (bnd (bnd (ac (aa IC (nm "rest"))) λJZ=>bnd (ac (aa IC (nm "under"))) λKm=>ae .Gt JZ Km) λb46=>bi .Or b46 (bnd (bnd (bnd (ac (aa IC (nm "rest"))) λKh=>bnd (ac (aa IC (nm "under"))) λKy=>ae .Eq Kh Ky) λb50=>bi .And b50 (bnd (bnd (bnd (ac (aa IC (nm "m"))) λKL=>ag .Mod KL (.int 2)) λKd=>ae .Eq Kd (.int 1)) λb53=>bi .And b53 (ret true))) λb49=>bi .Or b49 (ret false))) λMN=>if MN then bnd (bnd (ac (aa IC (nm "m"))) λJ0=>ag .Add J0 (.int 1)) λKi=>bnd (ret (aj IC (nm "m") Ki)) λK_=>ay (cS call) (cT call) cD K_ λIW=>bnd (aG [bnd (bnd (ac (aa IW (nm "over"))) λL0=>ae .Gt L0 (.int 0)) λMO=>if MO then ac (aa IW (nm "m")) else bnd (ac (aa IW (nm "m"))) λMP=>dk MP,ac (aa IW (nm "e"))]) λMQ=>ret (.ret MQ) else ay (tW call) (tX call) cD IC λKQ=>bnd (aG [bnd (bnd (ac (aa KQ (nm "over"))) λL1=>ae .Gt L1 (.int 0)) λPi=>if Pi then ac (aa KQ (nm "m")) else bnd (ac (aa KQ (nm "m"))) λMR=>dk MR,ac (aa KQ (nm "e"))]) λMS=>ret (.ret MS)
theorem nk(d:Nat)(Iq Ip Ia:D):run (d+1) (nm "_law_fit") [Iq,Ip,Ia]=aq (gz (run d) Iq Ip Ia):=by kernel_rfl
noncomputable def lE(call:Str->List D->M D)(Ie:D):M Flow':=bnd (bnd (bnd (subD Ie (.int 1)) λt2=>ae .GtE t2 (.int 0)) λc1=>if c1 then aG [bnd (subD Ie (.int 0)) λt3=>bnd (bnd (subD Ie (.int 1)) λt4=>ag .Pow (.int 10) t4) λt5=>ag .Mult t3 t5,ret (.int 1)] else aG [subD Ie (.int 0),bnd (bnd (subD Ie (.int 1)) λt6=>dk t6) λt7=>ag .Pow (.int 10) t7]) λt8=>ret (.ret t8)
theorem lF(d:Nat)(Ie:D):run (d+1) (nm "_law_fraction") [Ie]=aq (lE (run d) Ie):=by kernel_rfl
noncomputable def qX(call:Str->List D->M D)(Iy H6:D):M Flow':=bnd (bnd (bnd (bnd (bnd (ag .Sub H6 (.int 1)) λt2=>ag .Pow (.int 2) t2) λt3=>dk t3) λt4=>bnd (ae .LtE t4 Iy) λc5=>if c5 then bnd (bnd (ag .Sub H6 (.int 1)) λt6=>ag .Pow (.int 2) t6) λt7=>ae .Lt Iy t7 else ret false) λc1=>if c1 then ret Iy else ret (.none)) λt8=>ret (.ret t8)
theorem qY(d:Nat)(Iy H6:D):run (d+1) (nm "_law_whole") [Iy,H6]=aq (qX (run d) Iy H6):=by kernel_rfl
noncomputable def oR(call:Str->List D->M D)(Iq Ip:D):M Flow':=bnd (bnd (au (nm "abs") [Iq]) λt1=>bnd (au (nm "abs") [Ip]) λt2=>ag .FloorDiv t1 t2) λt3=>bnd (bnd (bnd (bnd (ae .Lt Iq (.int 0)) λb5=>ret (.bool b5)) λt6=>bnd (bnd (ae .Lt Ip (.int 0)) λb7=>ret (.bool b7)) λt8=>ae .Eq t6 t8) λc4=>if c4 then ret t3 else dk t3) λt9=>ret (.ret t9)
theorem oS(d:Nat)(Iq Ip:D):run (d+1) (nm "_law_toward") [Iq,Ip]=aq (oR (run d) Iq Ip):=by kernel_rfl
noncomputable def qZ(call:Str->List D->M D)(Ie Iy H6:D):M Flow':=bnd (bnd (ae .Lt Iy (.int 0)) λb2=>bi .And b2 (bnd (ae .Eq Ie (.int 0)) λb3=>bi .And b3 (ret true))) λc1=>if c1 then ret (.ret .none) else bnd (ae .Lt Iy (.int 0)) λc4=>if c4 then bnd (bnd (ah [ret (.int 1),bnd (bnd (ah [dk Iy,bnd (ag .Mod Iy (.int 2)) λt5=>ag .Add (.int 8) t5]) λl6=>au (nm "min") l6) λt7=>ag .Pow Ie t7]) λl8=>call (nm "_law_toward") l8) λt9=>ret (.ret t9) else bnd (bnd (au (nm "abs") [Ie]) λIP=>ae .Lt IP (.int 2)) λIR=>if IR then bnd (bnd (bnd (ae .Lt Iy (.int 2)) λJv=>if Jv then ret Iy else bnd (ag .Mod Iy (.int 2)) λIQ=>ag .Add (.int 2) IQ) λI6=>ag .Pow Ie I6) λIr=>ret (.ret Ir) else bnd (bnd (ae .Lt Iy (.int 40)) λKe=>if Ke then bnd (ah [ag .Pow Ie Iy,ret H6]) λKG=>call (nm "_law_whole") KG else ret (.none)) λIZ=>ret (.ret IZ)
theorem q8(d:Nat)(Ie Iy H6:D):run (d+1) (nm "_law_power") [Ie,Iy,H6]=aq (qZ (run d) Ie Iy H6):=by kernel_rfl
noncomputable def wY(call:Str->List D->M D)(IB H4 Ie Ii H6:D):M Flow':=bnd (ae .Eq H4 (.int 0)) λc1=>if c1 then bnd (ae .Eq IB (.str (nm "powi"))) λc2=>if c2 then bnd (call (nm "_law_power") [Ie,Ii,H6]) λt3=>ret (.ret t3) else bnd (ae .Eq IB (.str (nm "div"))) λc4=>if c4 then bnd (bnd (ae .NotEq Ii (.int 0)) λc5=>if c5 then bnd (ah [call (nm "_law_toward") [Ie,Ii],ret H6]) λl6=>call (nm "_law_whole") l6 else ret (.none)) λt7=>ret (.ret t7) else bnd (bnd (ah [bnd (fw [(ret (.str (nm "add")),ag .Add Ie Ii),(ret (.str (nm "sub")),ag .Sub Ie Ii),(ret (.str (nm "mul")),ag .Mult Ie Ii)]) λt8=>subD t8 IB,ret H6]) λl9=>call (nm "_law_whole") l9) λII=>ret (.ret II) else bnd (call (nm "_law_fraction") [Ie]) λIP=>bnd (de [(nm "word",IB),(nm "kind",H4),(nm "x",Ie),(nm "y",Ii),(nm "width",H6)] [(nm "a"),(nm "b")] IP) λIF=>bnd (bnd (ah [ac (aa IF (nm "y"))]) λPj=>call (nm "_law_fraction") Pj) λI6=>bnd (de IF [(nm "c"),(nm "d")] I6) λIw=>bnd (bnd (ac (aa Iw (nm "word"))) λIH=>ae .Eq IH (.str (nm "mul"))) λKe=>if Ke then bnd (bnd (ah [bnd (ac (aa Iw (nm "a"))) λIZ=>bnd (ac (aa Iw (nm "c"))) λI0=>ag .Mult IZ I0,bnd (ac (aa Iw (nm "b"))) λI7=>bnd (ac (aa Iw (nm "d"))) λJz=>ag .Mult I7 Jz,ret (.int 3)]) λL2=>call (nm "_law_fit") L2) λJp=>ret (.ret Jp) else bnd (bnd (ac (aa Iw (nm "word"))) λJu=>ae .Eq Ju (.str (nm "div"))) λKt=>if Kt then bnd (bnd (bnd (ac (aa Iw (nm "c"))) λJL=>ae .Eq JL (.int 0)) λMT=>if MT then ret (.none) else bnd (ah [bnd (bnd (ac (aa Iw (nm "c"))) λJr=>ae .Gt Jr (.int 0)) λMU=>if MU then bnd (ac (aa Iw (nm "a"))) λJs=>bnd (ac (aa Iw (nm "d"))) λKI=>ag .Mult Js KI else bnd (bnd (ac (aa Iw (nm "a"))) λJM=>dk JM) λJW=>bnd (ac (aa Iw (nm "d"))) λJB=>ag .Mult JW JB,bnd (ac (aa Iw (nm "b"))) λJX=>bnd (bnd (ah [ac (aa Iw (nm "c"))]) λL3=>au (nm "abs") L3) λKJ=>ag .Mult JX KJ,ret (.int 3)]) λPk=>call (nm "_law_fit") Pk) λKn=>ret (.ret Kn) else bnd (bnd (ah [bnd (bnd (ac (aa Iw (nm "word"))) λKf=>ae .Eq Kf (.str (nm "add"))) λLa=>if La then bnd (bnd (ac (aa Iw (nm "a"))) λJO=>bnd (ac (aa Iw (nm "d"))) λLZ=>ag .Mult JO LZ) λJC=>bnd (bnd (ac (aa Iw (nm "c"))) λKb=>bnd (ac (aa Iw (nm "b"))) λKc=>ag .Mult Kb Kc) λJZ=>ag .Add JC JZ else bnd (bnd (ac (aa Iw (nm "a"))) λKm=>bnd (ac (aa Iw (nm "d"))) λKo=>ag .Mult Km Ko) λL4=>bnd (bnd (ac (aa Iw (nm "c"))) λKh=>bnd (ac (aa Iw (nm "b"))) λKy=>ag .Mult Kh Ky) λL5=>ag .Sub L4 L5,bnd (ac (aa Iw (nm "b"))) λKL=>bnd (ac (aa Iw (nm "d"))) λKd=>ag .Mult KL Kd,ret (.int 3)]) λPl=>call (nm "_law_fit") Pl) λKi=>ret (.ret Ki)
theorem nq(d:Nat)(IB H4 Ie Ii H6:D):run (d+1) (nm "_law_two") [IB,H4,Ie,Ii,H6]=aq (wY (run d) IB H4 Ie Ii H6):=by kernel_rfl
noncomputable def q9(call:Str->List D->M D)(H4 Ie Ii:D):M Flow':=bnd (ae .Eq H4 (.int 1)) λc1=>if c1 then bnd (call (nm "_law_fraction") [Ie]) λt2=>bnd (de [(nm "kind",H4),(nm "x",Ie),(nm "y",Ii)] [(nm "a"),(nm "b")] t2) λIN=>bnd (bnd (ah [ac (aa IN (nm "y"))]) λl4=>call (nm "_law_fraction") l4) λt5=>bnd (de IN [(nm "c"),(nm "d")] t5) λKj=>bnd (aG [bnd (ac (aa Kj (nm "a"))) λt7=>bnd (ac (aa Kj (nm "d"))) λt8=>ag .Mult t7 t8,bnd (ac (aa Kj (nm "c"))) λt9=>bnd (ac (aa Kj (nm "b"))) λII=>ag .Mult t9 II]) λIP=>bnd (de Kj [(nm "x"),(nm "y")] IP) λIF=>bnd (bnd (ac (aa IF (nm "kind"))) λI6=>ae .Eq I6 (.int 5)) λKF=>if KF then bnd (aG [bnd (ac (aa IF (nm "x"))) λIr=>bnd (aZ Ir (nm "ljust")) λk16=>bd call Ir k16 [(.int 60)],bnd (ac (aa IF (nm "y"))) λIH=>bnd (aZ IH (nm "ljust")) λk18=>bd call IH k18 [(.int 60)]]) λI0=>bnd (de IF [(nm "x"),(nm "y")] I0) λJi=>bnd (bnd (bnd (ac (aa Ji (nm "x"))) λJA=>bnd (ac (aa Ji (nm "y"))) λJp=>ae .Eq JA Jp) λKO=>if KO then ret (.int 0) else bnd (bnd (ac (aa Ji (nm "x"))) λJu=>bnd (ac (aa Ji (nm "y"))) λJJ=>ae .Gt Ju JJ) λKt=>if Kt then ret (.int 1) else ret ((.int (-1)))) λJL=>ret (.ret JL) else bnd (bnd (bnd (ac (aa IF (nm "x"))) λJr=>bnd (ac (aa IF (nm "y"))) λJs=>ae .Eq Jr Js) λMU=>if MU then ret (.int 0) else bnd (bnd (ac (aa IF (nm "x"))) λJM=>bnd (ac (aa IF (nm "y"))) λJW=>ae .Gt JM JW) λMV=>if MV then ret (.int 1) else ret ((.int (-1)))) λJB=>ret (.ret JB) else bnd (ae .Eq H4 (.int 5)) λMB=>if MB then bnd (aG [bnd (aZ Ie (nm "ljust")) λk36=>bd call Ie k36 [(.int 60)],bnd (aZ Ii (nm "ljust")) λk37=>bd call Ii k37 [(.int 60)]]) λIL=>bnd (de [(nm "kind",H4),(nm "x",Ie),(nm "y",Ii)] [(nm "x"),(nm "y")] IL) λI1=>bnd (bnd (bnd (ac (aa I1 (nm "x"))) λKf=>bnd (ac (aa I1 (nm "y"))) λJO=>ae .Eq Kf JO) λLa=>if La then ret (.int 0) else bnd (bnd (ac (aa I1 (nm "x"))) λJC=>bnd (ac (aa I1 (nm "y"))) λKb=>ae .Gt JC Kb) λMt=>if Mt then ret (.int 1) else ret ((.int (-1)))) λKc=>ret (.ret Kc) else bnd (bnd (ae .Eq Ie Ii) λPm=>if Pm then ret (.int 0) else bnd (ae .Gt Ie Ii) λPn=>if Pn then ret (.int 1) else ret ((.int (-1)))) λKo=>ret (.ret Ko)
theorem gf(d:Nat)(H4 Ie Ii:D):run (d+1) (nm "_law_order") [H4,Ie,Ii]=aq (q9 (run d) H4 Ie Ii):=by kernel_rfl
noncomputable def tY(call:Str->List D->M D)(Ij IK Jk:D):M Flow':=bnd (bnd (subD Ij IK) λt1=>bnd (aZ t1 (nm "get")) λk2=>bd call t1 k2 [Jk]) λt3=>ret (.ret t3)
theorem tZ(d:Nat)(Ij IK Jk:D):run (d+1) (nm "_law_held") [Ij,IK,Jk]=aq (tY (run d) Ij IK Jk):=by kernel_rfl
noncomputable def eE(call:Str->List D->M D)(KE:af)(k11:K'):M Flow':=bnd (bnd (bnd (bnd (call (nm "_law_places") []) λIr=>bnd (bnd (ac (aa KE (nm "tree"))) λIO=>subD IO (.int 2)) λIH=>subD Ir IH) λIZ=>subD IZ (.int 3)) λI0=>bnd (ac (aa KE (nm "at"))) λI7=>subD I0 I7) λJz=>bnd (de KE [(nm "low"),(nm "high")] Jz) λJ1=>bnd (bnd (bnd (ac (aa J1 (nm "low"))) λJu=>bnd (bnd (ac (aa J1 (nm "found"))) λJJ=>bnd (ac (aa J1 (nm "at"))) λJL=>subD JJ JL) λOV=>bnd (ae .LtE Ju OV) λPo=>if Po then bnd (ac (aa J1 (nm "high"))) λJs=>ae .LtE OV Js else ret false) λb24=>ret (!b24)) λPp=>if Pp then ret (.ret .none) else k11 J1
noncomputable def jo(call:Str->List D->M D)(Ij H5 H6:D):M Flow':=bnd (bnd (bnd (subD H5 (.int 3)) λt2=>bnd (a_ t2) λl3=>aJ (λd4 Jn=>bnd (call (nm "_law_value") [Ij,d4,H6]) λt6=>if am (Jn).length then ret (Jn++[t6]) else stuck) l3 []) λl1=>ret (.list l1)) λt7=>bnd (ae .In .none t7) λc8=>if c8 then ret (.ret .none) else bnd (bnd (ah [au (nm "len") [t7]]) λPq=>au (nm "range") Pq) λJM=>dK JM λLK=>aE (eE call) (λIk Mw=>ret (aj Ik (nm "at") Mw)) LK [(nm "held",Ij),(nm "tree",H5),(nm "width",H6),(nm "found",t7)] λIS=>bnd (bnd (ah [ac (aa IS (nm "found"))]) λKN=>au (nm "tuple") KN) λJB=>ret (.ret JB)
theorem eF(d:Nat)(Ij H5 H6:D):run (d+1) (nm "_law_subscripts") [Ij,H5,H6]=aq (jo (run d) Ij H5 H6):=by kernel_rfl
noncomputable def bu(call:Str->List D->M D)(Ij H5 H6:D):M Flow':=bnd (subD H5 (.int 0)) λt1=>bnd (ae .Eq t1 (.str (nm "const"))) λc2=>if c2 then bnd (subD H5 (.int 2)) λt3=>ret (.ret t3) else bnd (ae .Eq t1 (.str (nm "var"))) λc4=>if c4 then bnd (bnd (ah [ret Ij,subD H5 (.int 2),ret ((.tup []))]) λl5=>call (nm "_law_held") l5) λt6=>ret (.ret t6) else bnd (ae .Eq t1 (.str (nm "elem"))) λc7=>if c7 then bnd (call (nm "_law_subscripts") [Ij,H5,H6]) λt8=>bnd (bnd (ae .Is t8 .none) λc9=>if c9 then ret (.none) else bnd (ah [ret Ij,subD H5 (.int 2),ret t8]) λKw=>call (nm "_law_held") Kw) λIP=>ret (.ret IP) else bnd (ae .Eq t1 (.str (nm "substr"))) λJv=>if Jv then bnd (call (nm "_law_part") [Ij,H5,H6]) λIQ=>ret (.ret IQ) else bnd (bnd (ah [ret Ij,subD H5 (.int 2),ret H6]) λK5=>call (nm "_law_value") K5) λIr=>bnd (ae .Is Ir .none) λKe=>if Ke then ret (.ret .none) else bnd (ae .Eq t1 (.str (nm "not"))) λMC=>if MC then bnd (bnd (cA Ir) λb18=>ret (.bool !b18)) λI0=>ret (.ret I0) else bnd (ae .Eq t1 (.str (nm "neg"))) λL6=>if L6 then bnd (bnd (bnd (subD H5 (.int 1)) λJA=>ae .Eq JA (.int 0)) λKO=>if KO then bnd (ah [dk Ir,ret H6]) λLb=>call (nm "_law_whole") Lb else aG [bnd (subD Ir (.int 0)) λJq=>dk Jq,subD Ir (.int 1)]) λJu=>ret (.ret Ju) else bnd (bnd (ae .Eq t1 (.str (nm "conv"))) λb27=>bi .And b27 (bnd (bnd (subD H5 (.int 1)) λJr=>ae .Eq Jr (.int 1)) λb28=>bi .And b28 (ret true))) λMT=>if MT then bnd (call (nm "_law_fit") [Ir,(.int 1),(.int 3)]) λJs=>ret (.ret Js) else bnd (ae .Eq t1 (.str (nm "conv"))) λMV=>if MV then bnd (call (nm "_law_fraction") [Ir]) λJM=>bnd (de [(nm "held",Ij),(nm "tree",H5),(nm "width",H6),(nm "word",t1),(nm "x",Ir)] [(nm "over"),(nm "under")] JM) λJ4=>bnd (bnd (ah [bnd (ah [ac (aa J4 (nm "over")),ac (aa J4 (nm "under"))]) λLO=>call (nm "_law_toward") LO,ac (aa J4 (nm "width"))]) λL7=>call (nm "_law_whole") L7) λJY=>ret (.ret JY) else bnd (bnd (ah [ret Ij,subD H5 (.int 3),ret H6]) λL8=>call (nm "_law_value") L8) λIL=>bnd (ae .Is IL .none) λMW=>if MW then ret (.ret .none) else bnd (bnd (call (nm "_law_relations") []) λKf=>ae .In t1 Kf) λLa=>if La then bnd (bnd (ah [bnd (subD H5 (.int 2)) λJO=>subD JO (.int 1),ret Ir,ret IL]) λL9=>call (nm "_law_order") L9) λJC=>bnd (bnd (fw [(ret (.str (nm "eq")),bnd (ae .Eq JC (.int 0)) λb45=>ret (.bool b45)),(ret (.str (nm "ne")),bnd (ae .NotEq JC (.int 0)) λb46=>ret (.bool b46)),(ret (.str (nm "lt")),bnd (ae .Lt JC (.int 0)) λb47=>ret (.bool b47)),(ret (.str (nm "le")),bnd (ae .Lt JC (.int 1)) λb48=>ret (.bool b48)),(ret (.str (nm "gt")),bnd (ae .Gt JC (.int 0)) λb49=>ret (.bool b49)),(ret (.str (nm "ge")),bnd (ae .Gt JC (.int (-1))) λb50=>ret (.bool b50))]) λKh=>subD Kh t1) λKy=>ret (.ret Ky) else bnd (ae .In t1 (.tup [(.str (nm "and")),(.str (nm "or")),(.str (nm "eqv")),(.str (nm "neqv"))])) λLQ=>if LQ then bnd (bnd (fw [(ret (.str (nm "and")),au (nm "min") [Ir,IL]),(ret (.str (nm "or")),au (nm "max") [Ir,IL]),(ret (.str (nm "eqv")),bnd (ae .Eq Ir IL) λb54=>ret (.bool b54)),(ret (.str (nm "neqv")),bnd (ae .NotEq Ir IL) λb55=>ret (.bool b55))]) λJ0=>subD J0 t1) λKi=>ret (.ret Ki) else bnd (bnd (ae .Eq t1 (.str (nm "cat"))) λMX=>if MX then ag .Add Ir IL else bnd (ah [ret t1,subD H5 (.int 1),ret Ir,ret IL,ret H6]) λLR=>call (nm "_law_two") LR) λK4=>ret (.ret K4)
theorem bQ(d:Nat)(Ij H5 H6:D):run (d+1) (nm "_law_value") [Ij,H5,H6]=aq (bu (run d) Ij H5 H6):=by kernel_rfl
noncomputable def lG(call:Str->List D->M D)(Ij H5 H6:D):M Flow':=bnd (subD H5 (.int 2)) λt1=>bnd (bnd (bnd (subD t1 (.int 0)) λt3=>ae .Eq t3 (.str (nm "var"))) λc2=>if c2 then ret ((.tup [])) else call (nm "_law_subscripts") [Ij,t1,H6]) λt4=>bnd (ae .Is t4 .none) λc5=>if c5 then ret (.ret .none) else bnd (bnd (bnd (call (nm "_law_places") []) λt6=>bnd (subD t1 (.int 2)) λt7=>subD t6 t7) λt8=>subD t8 (.int 2)) λt9=>bnd (bnd (bnd (subD H5 (.int 3)) λIP=>ae .Is IP .none) λIR=>if IR then ret (.int 1) else bnd (subD H5 (.int 3)) λIM=>subD IM (.int 2)) λIQ=>bnd (bnd (bnd (subD H5 (.int 4)) λIr=>ae .Is Ir .none) λKu=>if Ku then ret t9 else bnd (subD H5 (.int 4)) λIO=>subD IO (.int 2)) λIH=>bnd (bnd (bnd (ae .LtE (.int 1) IQ) λL6=>if L6 then bnd (ae .LtE IQ IH) λKO=>if KO then ae .LtE IH t9 else ret false else ret false) λb19=>ret (!b19)) λMY=>if MY then ret (.ret .none) else bnd (bnd (ah [ret Ij,subD t1 (.int 2),ret t4]) λL2=>call (nm "_law_held") L2) λJp=>bnd (bnd (ae .Is Jp .none) λKt=>if Kt then ret (.none) else bnd (ag .Sub IQ (.int 1)) λJu=>bt Jp Ju IH) λJJ=>ret (.ret JJ)
theorem t_(d:Nat)(Ij H5 H6:D):run (d+1) (nm "_law_part") [Ij,H5,H6]=aq (lG (run d) Ij H5 H6):=by kernel_rfl
set_option exponentiation.threshold 10000
noncomputable def aR:Option D->M D
 | some d=>ret d
 | none=>aQ
theorem lH{α β γ:Type}(m:M α)(f:α->M β)(g:β->M γ):bnd (bnd m f) g=bnd m λa=>bnd (f a) g:=by funext σ;unfold bnd;induction m σ <;> rfl
theorem C7{α:Type}(m:M α):bnd m ret=m:=by funext σ;unfold bnd;induction h:m σ <;> rfl
theorem yQ{α β:Type}(c:Prop)[Decidable c](a b:M α)(f:α->M β):bnd (if c then a else b) f=if c then bnd a f else bnd b f:=by split <;> rfl
theorem fe{α:Type}(m:M α)(f:α->M Flow'):aq (bnd m f)=bnd m λa=>aq (f a):=lH ..
theorem C8(c:Prop)[Decidable c](a b:M Flow'):aq (if c then a else b)=if c then aq a else aq b:=by split <;> rfl
theorem SM:(∀ {α β:Type} (a:α) (f:α->M β),bnd (ret a) f=f a)/\(∀ {α β γ:Type} (m:M α) (f:α->M β) (g:β->M γ),bnd (bnd m f) g=bnd m λa=>bnd (f a) g)
  ∧ (∀ {α β:Type} (f:α->M β),bnd stuck f=stuck)/\(∀ {α β:Type} (f:α->M β),bnd aQ f=aQ)/\(∀ {α β:Type} (c:Prop) [Decidable c] (a b:M α) (f:α->M β),bnd (if c then a else b) f=if c then bnd a f else bnd b f)
  ∧ (∀ {α:Type} (a:α),ac (some a)=ret a)/\(∀ {α:Type},ac (none:Option α)=stuck)
  ∧ (∀ d,aq (ret (.ret d))=ret d)/\(∀ fr,aq (ret (.next fr))=ret .none)/\(aq aQ=aQ)/\(aq stuck=stuck)
  ∧ (∀ {α:Type} (m:M α) (f:α->M Flow'),aq (bnd m f)=bnd m λa=>aq (f a))/\(∀ (c:Prop) [Decidable c] (a b:M Flow'),aq (if c then a else b)=if c then aq a else aq b)
  ∧ (∀ b x,bi .And b x=if b=true then x else ret false)/\(∀ b x,bi .Or b x=if b=true then ret true else x)
  ∧ (∀ b v x,A_ .And b v x=if b=true then x else ret v)/\(∀ b v x,A_ .Or b v x=if b=true then ret v else x)
  ∧ (ah []=ret [])/\(∀ m ms,ah (m::ms)=bnd m λa=>bnd (ah ms) λl=>ret (a::l))
  ∧ (aR none=aQ)/\(∀ d,aR (some d)=ret d)/\(∀ (c:Prop) [Decidable c] a b,aR (if c then a else b)=if c then aR a else aR b)/\(∀ {α:Type} (m:M α),(bnd m λa=>ret a)=m):=
 ⟨λ_ _=>rfl,lH,λ_=>rfl,λ_=>rfl,yQ,λ_=>rfl,rfl,λ_=>rfl,λ_=>rfl,rfl,rfl,fe,C8,
  λb x=>by induction b <;> rfl,λb x=>by induction b <;> rfl,λb v x=>by induction b <;> rfl,λb v x=>by induction b <;> rfl,rfl,λ_ _=>rfl,rfl,λ_=>rfl,λc _ a b=>by split <;> rfl,C7⟩
theorem SI:(∀ x y:Int,ae .Eq (.int x) (.int y)=ret (decide (x=y)))/\(∀ x y:Int,ae .NotEq (.int x) (.int y)=ret (!decide (x=y)))/\(∀ x y:Int,ae .Lt (.int x) (.int y)=ret (decide (x<y)))
  ∧ (∀ x y:Int,ae .LtE (.int x) (.int y)=ret (decide (x<=y)))/\(∀ x y:Int,ae .Gt (.int x) (.int y)=ret (decide (y<x)))/\(∀ x y:Int,ae .GtE (.int x) (.int y)=ret (decide (y<=x)))
  ∧ (∀ x y:Bool,ae .Eq (.bool x) (.bool y)=ret (x==y))/\(∀ x y:Bool,ae .NotEq (.bool x) (.bool y)=ret (!(x==y)))
  ∧ (∀ x y:Str,ae .Eq (.str x) (.str y)=ret (decide (x=y)))/\(∀ x y:Str,ae .NotEq (.str x) (.str y)=ret (!decide (x=y)))
  ∧ (∀ x:Int,ae .IsNot (.int x) .none=ret true)/\(∀ x:Int,ae .Is (.int x) .none=ret false)/\(ae .Is .none .none=ret true)/\(ae .IsNot .none .none=ret false)
  ∧ (∀ x y:Int,ag .Add (.int x) (.int y)=ret (.int (x+y)))/\(∀ x y:Int,ag .Sub (.int x) (.int y)=ret (.int (x - y)))
  ∧ (∀ x y:Int,ag .Mult (.int x) (.int y)=if (fits x&&fits y)=true then ret (.int (x*y)) else stuck)
  ∧ (∀ x y:Int,ag .FloorDiv (.int x) (.int y)=if y≠0/\fits x=true/\fits y=true then ret (.int (x.fdiv y)) else stuck)
  ∧ (∀ x y:Int,ag .Mod (.int x) (.int y)=if y≠0 then ret (.int (x.fmod y)) else stuck)
  ∧ (∀ x y:Int,ag .Pow (.int x) (.int y)=if 0<=y/\y<=4000/\fits x=true then ret (.int (x ^ y.toNat)) else stuck)
  ∧ (∀ x y:Int,ag .LShift (.int x) (.int y)=if 0<=y/\y<=4000/\fits x=true then ret (.int (x*2 ^ y.toNat)) else stuck)
  ∧ (∀ x:Int,dk (.int x)=ret (.int (-x)))/\(∀ b,cA (.bool b)=ret b)/\(∀ i:Int,cA (.int i)=ret (i !=0))
  ∧ (∀ op (a b:Int) k,uS op (.int a) (.int b) k=bnd (ag op (.int a) (.int b)) k):=
 ⟨λ_ _=>rfl,λ_ _=>rfl,λ_ _=>rfl,λ_ _=>rfl,λ_ _=>rfl,λ_ _=>rfl,λ_ _=>rfl,λ_ _=>rfl,λ_ _=>rfl,λ_ _=>rfl,λ_=>rfl,λ_=>rfl,rfl,rfl,
  λ_ _=>rfl,λ_ _=>rfl,λ_ _=>rfl,λ_ _=>rfl,λ_ _=>rfl,λ_ _=>rfl,λ_ _=>rfl,λ_=>rfl,λ_=>rfl,λ_=>rfl,λ_ _ _ _=>rfl⟩
theorem q_(a b:String):(nm a=nm b)=(a=b):=by
 apply propext
 refine⟨λh=>?_,λh=>by rw[h]⟩;unfold nm at h;simp only[Str.ofString_eq_toList,Str.ofString_eq_toList]at h;injection h with h
 have h:a.toList.map Char.toNat=b.toList.map Char.toNat:=by injection h
 exact String.toList_inj.mp ((List.map_inj_right (f:=Char.toNat) λx y e=>Char.toNat_inj.mp e).mp h)
theorem SF:(∀ a b:String,(nm a=nm b)=(a=b))/\(∀ x,aa [] x=none)/\(∀ y d r x,aa ((y,d)::r) x=if y=x then some d else aa r x)
  ∧ (∀ x d,aj [] x d=[(x,d)])/\(∀ y e r x d,aj ((y,e)::r) x d=if y=x then (y,d)::r else (y,e)::aj r x d)
  ∧ (∀ fr,wI fr [] []=ret fr)/\(∀ fr x xs d ds,wI fr (x::xs) (d::ds)=wI (aj fr x d) xs ds)/\(∀ fr xs l,de fr xs (.tup l)=wI fr xs l):=
 ⟨q_,λ_=>rfl,λ_ _ _ _=>rfl,λ_ _=>rfl,λ_ _ _ _ _=>rfl,λ_=>rfl,λ_ _ _ _ _=>rfl,λ_ _ _=>rfl⟩
theorem kf{x:Int}{k:Nat}(hk:k<=8192)(h:x.natAbs<2 ^ k):fits x=true:=by unfold fits xr;simp only[decide_eq_true_eq];exact PP h (Nat.pow_le_pow_right (by lia) hk)
theorem ak{k d:Nat}(h:k+1<=d):∃ e,d=e+1/\k<=e:=⟨d - 1,by lia,by lia⟩
theorem SB:(∀ a,au (nm "len") [a]=xB a)/\(∀ i:Int,au (nm "abs") [.int i]=ret (.int i.natAbs))/\(∀ a b:Int,au (nm "min") [.int a,.int b]=ret (.int (if b<a then b else a)))
  ∧ (∀ a b:Int,au (nm "max") [.int a,.int b]=ret (.int (if a<b then b else a)))/\(∀ a b:Bool,au (nm "min") [.bool a,.bool b]=ret (.bool (a&&b)))/\(∀ a b:Bool,au (nm "max") [.bool a,.bool b]=ret (.bool (a||b)))
  ∧ (∀ b:Int,au (nm "range") [.int b]=if b<=100000 then ret (.range 0 b) else stuck)/\(∀ a b:Int,au (nm "range") [.int a,.int b]=if -100000<=a/\b<=100000 then ret (.range a b) else stuck)
  ∧ (∀ a b:Int,au (nm "divmod") [.int a,.int b]=if b≠0/\fits a=true/\fits b=true then ret (.tup [.int (a.fdiv b),.int (a.fmod b)]) else stuck)
  ∧ (∀ l:List D,au (nm "tuple") [.list l]=if am l.length=true then ret (.tup l) else stuck)/\(∀ a,au (nm "isinstance") [a,.blt (nm "bool")]=nO a)/\(∀ a,au (nm "isinstance") [a,.blt (nm "tuple")]=sv a):=
 ⟨λ_=>by kernel_rfl,λ_=>by kernel_rfl,λ_ _=>by kernel_rfl,λ_ _=>by kernel_rfl,λ_ _=>by kernel_rfl,λ_ _=>by kernel_rfl,λ_=>by kernel_rfl,λ_ _=>by kernel_rfl,λ_ _=>by kernel_rfl,λ_=>by kernel_rfl,λ_=>by kernel_rfl,λ_=>by kernel_rfl⟩
theorem SL:(∀ (a b:Int) (f:List D->M Flow'),dK (.range a b) f=if -100000<=a/\a<=100000 ∧ -100000<=b/\b<=100000 then f (range a b) else stuck)/\(∀ (l:List D) (f:List D->M Flow'),dK (.list l) f=f l)/\(∀ (l:List D) (f:List D->M Flow'),dK (.tup l) f=f l)
  ∧ (∀ (l:List (Str×D)) (f:List D->M Flow'),dK (.sdict l) f=f (l.map λx=>.str x.1))/\(∀ (l:List (Str×D)) (f:List D->M Flow'),sG (.items l) f=f (l.map λx=>.tup [.str x.1,x.2]))
  ∧ (∀ a b:Int,a_ (.range a b)=if -100000<=a/\a<=100000 ∧ -100000<=b/\b<=100000 then ret (range a b) else stuck)/\(∀ l,a_ (.list l)=ret l)/\(∀ l,a_ (.tup l)=ret l):=
 ⟨λa b f=>by
  have e:dK (.range a b) f=bnd (if -100000<=a/\a<=100000 ∧ -100000<=b/\b<=100000 then ret (range a b) else stuck) f:=by kernel_rfl
  simp only[e,yQ];rfl,λ_ _=>by kernel_rfl,λ_ _=>by kernel_rfl,λ_ _=>by kernel_rfl,λ_ _=>by kernel_rfl,λ_ _=>rfl,λ_=>rfl,λ_=>rfl⟩
theorem B1{α β:Type}{m:M α}{f:α->M β}{a:α}{r:M β}(h:m=ret a)(k:f a=r):bnd m f=r:=by rw[h];exact k
theorem BF{α β:Type}{m:M α}{f:α->M β}(h:m=aQ):bnd m f=aQ:=by rw[h];rfl
theorem E1{m:M Flow'}{d:D}(h:m=ret (.ret d)):aq m=ret d:=by rw[h];rfl
theorem EF{m:M Flow'}(h:m=aQ):aq m=aQ:=by rw[h];rfl
theorem iT{α:Type}{c:Prop}[Decidable c]{A B r:α}(h:c)(k:A=r):(if c then A else B)=r:=by rw[PW h];exact k
theorem iF{α:Type}{c:Prop}[Decidable c]{A B r:α}(h:¬ c)(k:B=r):(if c then A else B)=r:=by rw[PX h];exact k
theorem oF{b:Bool}{x r:M Bool}(h:b=false)(k:x=r):bi .Or b x=r:=by rw[h];exact k
theorem oT{b:Bool}{x:M Bool}(h:b=true):bi .Or b x=ret true:=by rw[h];rfl
theorem aT{b:Bool}{x r:M Bool}(h:b=true)(k:x=r):bi .And b x=r:=by rw[h];exact k
theorem aF{b:Bool}{x:M Bool}(h:b=false):bi .And b x=ret false:=by rw[h];rfl
theorem eV{m:M D}{ms a l}(h:m=ret a)(k:ah ms=ret l):ah (m::ms)=ret (a::l):=B1 h (B1 k rfl)
theorem tU{ms l}(h:ah ms=ret l)(k:am l.length=true):aG ms=ret (.tup l):=B1 h (iT k rfl)
theorem lI{ms l}(h:ah ms=ret l)(k:am l.length=true):di ms=ret (.list l):=B1 h (iT k rfl)
theorem pC{k v:M D}{r a b x y}(h:k=ret a)(h2:v=ret b)(h3:oA r=ret (x,y)):oA ((k,v)::r)=ret (a::x,b::y):=B1 h (B1 h2 (B1 h3 rfl))
theorem eC{f:D->List D->M (List D)}{d ds acc a r}(h:f d acc=ret a)(k:aJ f ds a=r):aJ f (d::ds) acc=r:=B1 h k
theorem oU{x y:Int}(h:fits x=true)(k:fits y=true):ag .Mult (.int x) (.int y)=ret (.int (x*y)):=PW (by rw[h,k];rfl)
theorem Bd{x y:Int}(z:y≠0)(h:fits x=true)(k:fits y=true):ag .FloorDiv (.int x) (.int y)=ret (.int (x.fdiv y)):=PW ⟨z,h,k⟩
theorem FK{x y:Int}(z:y≠0):ag .Mod (.int x) (.int y)=ret (.int (x.fmod y)):=PW z
theorem C9{x y:Int}(z:0<=y)(z':y<=4000)(h:fits x=true):ag .Pow (.int x) (.int y)=ret (.int (x ^ y.toNat)):=PW ⟨z,z',h⟩
theorem E2{x y:Int}(z:0<=y)(z':y<=4000)(h:fits x=true):ag .LShift (.int x) (.int y)=ret (.int (x*2 ^ y.toNat)):=PW ⟨z,z',h⟩
theorem dT{p:Prop}[Decidable p](h:p):decide p=true:=decide_eq_true h
theorem dF{p:Prop}[Decidable p](h:¬ p):decide p=false:=decide_eq_false h
theorem nT{b:Bool}(h:b=false):(!b)=true:=by rw[h];rfl
theorem nF{b:Bool}(h:b=true):(!b)=false:=by rw[h];rfl
theorem tF{b:Bool}(h:b=false):¬ b=true:=by rw[h];decide
theorem cv{α β:Type}{m:M α}{f:α->M β}{a:α}{σ σ':St}{r:R β}(h:m σ=.ok a σ')(k:f a σ'=r):bnd m f σ=r:=by unfold bnd;exact h ▸ k
theorem rS{α:Type}{m:M α}{a:α}{σ:St}(h:m=ret a):m σ=.ok a σ:=by rw[h];rfl
theorem F1{m:M Flow'}{d:D}{σ σ':St}(h:m σ=.ok (.ret d) σ'):aq m σ=.ok d σ':=cv h rfl
theorem Ed{α:Type}{c:Prop}[Decidable c]{A B:M α}{σ r}(h:c)(k:A σ=r):(if c then A else B) σ=r:=by rw[PW h];exact k
theorem F6{α:Type}{c:Prop}[Decidable c]{A B:M α}{σ r}(h:¬ c)(k:B σ=r):(if c then A else B) σ=r:=by rw[PX h];exact k
theorem F8{b:Bool}{x:M Bool}{σ r}(h:b=false)(k:x σ=r):bi .Or b x σ=r:=by rw[h];exact k
theorem F9{b:Bool}{x:M Bool}{σ r}(h:b=true)(k:x σ=r):bi .And b x σ=r:=by rw[h];exact k
theorem dH{m:M D}{ms a l σ σ' σ''}(h:m σ=.ok a σ')(k:ah ms σ'=.ok l σ''):ah (m::ms) σ=.ok (a::l) σ'':=cv h (cv k rfl)
theorem F_{ms l σ σ'}(h:ah ms σ=.ok l σ')(k:am l.length=true):aG ms σ=.ok (.tup l) σ':=cv h (Ed k rfl)
theorem Ga{f:D->List D->M (List D)}{d ds acc a σ σ' r}(h:f d acc σ=.ok a σ')(k:aJ f ds a σ'=r):aJ f (d::ds) acc σ=r:=cv h k
theorem ET{m r:M D}(h:m=r):aq (bnd m λt=>ret (.ret t))=r:=by subst h;funext σ;unfold aq bnd;induction m σ <;> rfl
theorem Gb{m:M Flow'}{x:M D}(h:aq m=x):aq m=x:=h
theorem FL{m:M Flow'}{σ:St}{x:R D}(h:aq m σ=x):aq m σ=x:=h
theorem Be{α:Type}{m:M α}{f:α->M Flow'}{a:α}{r:M D}(h:m=ret a)(k:aq (f a)=r):aq (bnd m f)=r:=by rw[h];exact k
theorem Gc{c:Prop}[Decidable c]{A B:M Flow'}{r:M D}(h:c)(k:aq A=r):aq (if c then A else B)=r:=by rw[PW h];exact k
theorem Gd{c:Prop}[Decidable c]{A B:M Flow'}{r:M D}(h:¬ c)(k:aq B=r):aq (if c then A else B)=r:=by rw[PX h];exact k
theorem u_{m:M D}{σ r}(h:m σ=r):aq (bnd m λt=>ret (.ret t)) σ=r:=by rw[ET rfl];exact h
theorem dL{α:Type}{m:M α}{f:α->M Flow'}{a:α}{σ σ':St}{r:R D}(h:m σ=.ok a σ')(k:aq (f a) σ'=r):aq (bnd m f) σ=r:=by have e:bnd m f σ=f a σ':=cv h rfl;unfold aq at k ⊢;refine PV ?_ k;unfold bnd at e ⊢;rw[e]
theorem ua{c:Prop}[Decidable c]{A B:M Flow'}{σ r}(h:c)(k:aq A σ=r):aq (if c then A else B) σ=r:=by rw[PW h];exact k
theorem hO{c:Prop}[Decidable c]{A B:M Flow'}{σ r}(h:¬ c)(k:aq B σ=r):aq (if c then A else B) σ=r:=by rw[PX h];exact k
theorem Ee{m:M D}{o:Option Int}(h:m=aR (o.map .int)):(o=none/\m=aQ)\/∃ v,o=some v/\m=ret (.int v):=by induction o with | none=>exact .inl ⟨rfl,h⟩ | some v=>exact .inr ⟨v,rfl,h⟩
theorem lk{fr:af}{x:Str}{v:D}(h:aa fr x=some v):ac (aa fr x)=ret v:=by rw[h];rfl
theorem cw:∀ (fr:af) (x:Str) (d:D) (y:Str),aa (aj fr x d) y=if x=y then some d else aa fr y:=by
 intro fr
 induction fr with
 | nil=>intro x d y;rfl
 | cons a fr ih=>
  intro x d y;obtain⟨z,e⟩:=a;dsimp only[aj]
  by_cases h:z=x
  ·rw[PW h];subst h
   by_cases h':z=y
   ·subst h';simp[aa]
   ·simp[aa,h']
  ·rw[PX h]
   by_cases h':z=y
   ·subst h';have:¬ x=z:=λq=>h q.symm;simp[aa,this]
   ·simp only[aa,PX h',ih]
theorem FM{fr:af}{x:Str}{v:D}:aa (aj fr x v) x=some v:=by rw[cw,PW rfl]
theorem Ge{fr:af}{a b:String}{v w:D}(h:¬ a=b)(k:aa fr (nm b)=some v):aa (aj fr (nm a) w) (nm b)=some v:=by rw[cw,PX λe=>h ((q_ a b).mp e)];exact k
theorem Bm{α β:Type}{m m':M α}{f f':α->M β}(h:m=m')(k:f=f'):bnd m f=bnd m' f':=by rw[h,k]
local macro_rules | `(tactic| walk_at $s:str)=>do
 let f:=λ(x:String)=>
  let i:=Lean.mkIdent (.mkSimple (x.drop 1).toString)
  match x.front with
  | '.'=>`(tactic| with_reducible apply $i)
  | '?'=>`(tactic| (with_reducible apply $i;walk_at "c"))
  | '!'=>`(tactic| apply $i)
  | '#'=>`(tactic| decide)
  | '&'=>`(tactic| focus (walk_at "e";done))
  | '-'=>`(tactic| with_reducible assumption)
  | _=>`(tactic| walk_at $(Lean.Syntax.mkStrLit x))
 let p:=match s.getString with
  | "l"=>"- .FM .Ge;#;l"
  | "c"=>"- .dT;- .dF;- # ?nT ?nF ?tF"
  | "b"=>".oU;c;c .FK;c .Bd;c;c;c .C9;c;c;c .E2;c;c;c"
  | "k"=>".lk;l"
  | "e1"=>"- .B1 .eV .tU .lI ?iT ?iF ?oF ?oT ?aT ?aF b k !rfl .eC !B1"
  | "e"=>"*.E1 e1"
  | "t"=>"*.ET .Be ?Gc ?Gd .Gb;!Be e1"
  | "s1"=>"- .cv .dH .F_ ?Ed ?F6 ?F8 ?F9 .rS;s3 !rfl .Ga"
  | "s3"=>"- ?oT ?aF b k"
  | "s"=>"*.F1 s1"
  | "u"=>"*.u_ .dL ?ua ?hO .FL;!dL s1"
  | "g"=>"*.GT .GE .GA ?Gg ?Gi ?gT ?gF ?FW ?Gj ?gO ?gN .G1;& .Gf;!GE"
  | _=>""
 if p == "" then Lean.Macro.throwUnsupported
 let q <-((if p.front == '*' then (p.drop 1).toString else p).splitOn " ").foldrM (λx (r:Lean.TSyntax `tactic)=>do
  let a:=(<-(x.splitOn ";").mapM f).toArray
  `(tactic| first | ($[$a:tactic];*) | $r:tactic)) (← `(tactic| fail))
 if p.front == '*' then `(tactic| repeat' $q:tactic) else pure q
noncomputable def bb(w n:Int):Option Int:=if -2 ^ (w - 1).toNat<=n/\n<2 ^ (w - 1).toNat then some n else none
theorem bR{d:Nat}{n w:Int}(hd:1<=d)(h1:1<=w)(h2:w<=12):run d (nm "fit_int") [.int n,.int w]=aR ((bb w n).map .int):=by
 refine ao (ak hd) λd z1 _=>?_;rw[z1];rw[wK];have e:fits 1=true:=by decide +kernel
 have e1:0<=w - 1/\w - 1<=4000:=by lia
 obtain⟨e0,e1⟩:=e1;have q:ag .LShift (.int 1) (.int (w - 1))=ret (.int (2 ^ (w - 1).toNat)):=by refine PV (E2 e0 e1 e) ?_;rw[Int.one_mul]
 unfold bb
 by_cases c1:-2 ^ (w - 1).toNat<=n
 ·have c1':¬ n < -2 ^ (w - 1).toNat:=Int.not_lt.mpr c1
  by_cases c2:n<2 ^ (w - 1).toNat
  ·have c2':¬ 2 ^ (w - 1).toNat<=n:=Int.not_le.mpr c2;rw[PW ⟨c1,c2⟩];exact E1 (by walk_at "e")
  ·have c2':2 ^ (w - 1).toNat<=n:=Int.not_lt.mp c2;rw[PX λq=>c2 q.2];exact EF (by walk_at "e")
 ·have c1':n < -2 ^ (w - 1).toNat:=Int.not_le.mp c1;rw[PX λq=>c1 q.1];exact EF (by walk_at "e")
theorem ub{w x:Int}(h2:w<=12)(h:bb w x=some y):fits x=true/\y=x ∧ -2048<=x/\x<2048:=by
 unfold bb at h
 split at h
 ·rename_i hc;cases h;have hp:(2:Int) ^ (w - 1).toNat<=2 ^ 11:=by
   have:(w - 1).toNat<=11:=by omega
   exact_mod_cast Nat.pow_le_pow_right (n:=2) (by omega) this
  have hb:(2:Int) ^ 11=2048:=by decide
  refine⟨kf (k:=12) (by omega) ?_,rfl,by omega,by omega⟩;have:(2:Nat) ^ 12=4096:=by decide
  omega
 ·exact dt h
theorem uc{d:Nat}{x y w:Int}(hd:2<=d)(h1:1<=w)(h2:w<=12):run d (nm "int_add") [.int x,.int y,.int w]=aR ((bb w (x+y)).map .int):=by refine ao (ak hd) λd z2 _=>?_;obtain rfl:=z2;rw[wM];have q:=bR (n:=x+y) (d:=d) (by assumption) h1 h2;exact ET (by walk_at "e")
theorem ud{d:Nat}{x y w:Int}(hd:2<=d)(h1:1<=w)(h2:w<=12):run d (nm "int_sub") [.int x,.int y,.int w]=aR ((bb w (x - y)).map .int):=by refine ao (ak hd) λd z3 _=>?_;obtain rfl:=z3;rw[wO];have q:=bR (n:=x - y) (d:=d) (by assumption) h1 h2;exact ET (by walk_at "e")
theorem ue{d:Nat}{x y w:Int}(hd:2<=d)(h1:1<=w)(h2:w<=12)(hx:fits x=true)(hy:fits y=true):run d (nm "int_mul") [.int x,.int y,.int w]=aR ((bb w (x*y)).map .int):=by refine ao (ak hd) λd z4 _=>?_;obtain rfl:=z4;rw[wQ];have q:=bR (n:=x*y) (d:=d) (by assumption) h1 h2;exact ET (by walk_at "e")
noncomputable def fG(x y:Int):Int:=if (decide (x<0)==decide (y<0))=true then ((x.natAbs / y.natAbs:Nat):Int) else -((x.natAbs / y.natAbs:Nat):Int)
theorem b_{x:Int}(h:fits x=true):fits (x.natAbs:Int)=true:=by unfold fits at *;simpa using h
theorem cZ(a b:Nat):(a:Int).fdiv b=((a / b:Nat):Int):=by exact(Int.fdiv_eq_ediv_of_nonneg _ (by lia))
theorem iY(a b:Nat):(a:Int).fmod b=((a % b:Nat):Int):=by exact(Int.fmod_eq_emod_of_nonneg _ (by omega))
theorem jU{d:Nat}{x y:Int}(hd:1<=d)(hx:fits x=true)(hy:fits y=true)(h0:y≠0):run d (nm "cut_quotient") [.int x,.int y]=ret (.int (fG x y)):=by
 refine ao (ak hd) λd z5 _=>?_;obtain rfl:=z5;rw[lm];have e1:(y.natAbs:Int)≠0:=by lia
 have q:ag .FloorDiv (.int x.natAbs) (.int y.natAbs)=ret (.int (x.natAbs / y.natAbs:Nat)):=by refine PV (Bd e1 (b_ hx) (b_ hy)) ?_;rw[cZ]
 unfold fG
 induction h:(decide (x<0)==decide (y<0))
 ·rw[PX Bool.false_ne_true];walk_at "e"
 ·rw[PW rfl];walk_at "e"
theorem uf{d:Nat}{x y w:Int}(hd:2<=d)(h1:1<=w)(h2:w<=12)(hx:fits x=true)(hy:fits y=true):run d (nm "int_div") [.int x,.int y,.int w]=aR (if y=0 then none else (bb w (fG x y)).map .int):=by
 refine ao (ak hd) λd z6 _=>?_;obtain rfl:=z6;rw[wS]
 by_cases h0:y=0
 ·rw[PW h0];exact EF (B1 rfl (iT (dT h0) rfl))
 ·rw[PX h0];have q1:=jU (d:=d) (by assumption) hx hy h0;have q:=bR (n:=fG x y) (d:=d) (by assumption) h1 h2;walk_at "t"
noncomputable def jp(x n:Int):Option Int:=if x=0 then none else if x=1\/(x = -1/\n.fmod 2=0) then some 1 else if x = -1 then some (-1) else some 0
theorem jq{d:Nat}{x n:Int}(hd:1<=d):run d (nm "inverse_power") [.int x,.int n]=aR ((jp x n).map .int):=by
 refine ao (ak hd) λd z7 _=>?_;obtain rfl:=z7;rw[jS];unfold jp
 by_cases c0:x=0
 ·rw[PW c0];exact EF (B1 rfl (iT (dT c0) rfl))
 ·rw[PX c0]
  by_cases c1:x=1
  ·rw[PW (.inl c1)];exact E1 (by walk_at "e")
  ·by_cases c2:x = -1
   ·by_cases c3:n.fmod 2=0
    ·rw[PW (.inr ⟨c2,c3⟩)];exact E1 (by walk_at "e")
    ·rw[PX λq=>q.elim c1 λq=>c3 q.2,PW c2];exact E1 (by walk_at "e")
   ·rw[PX λq=>q.elim c1 λq=>c2 q.1,PX c2];exact E1 (by walk_at "e")
noncomputable def bV(w x:Int):Nat->Int->Option Int
 | 0,f=>some f
 | k+1,f=>match bb w (f*x) with
  | some g=>bV w x k g
  | none=>none
theorem vc{d:Nat}{x n w:Int}{K:K'}(hd:1<=d)(h1:1<=w)(h2:w<=12)(hx:fits x=true)(st:af->D->M af)(hst:st=λfr v=>ret (aj fr (nm "turn") v)) :
  ∀ (items:List D) (f:Int) (t:af),fits f=true->(t=[]\/∃ v,t=[(nm "turn",v)])->(∀ g t',(t'=[]\/∃ v,t'=[(nm "turn",v)])->K ((nm "x",.int x)::(nm "n",.int n)::(nm "width",.int w)::(nm "found",.int g)::t')=ret (.ret (.int g))) →
  aE (dR (run d)) st items ((nm "x",.int x)::(nm "n",.int n)::(nm "width",.int w)::(nm "found",.int f)::t) K=(match bV w x items.length f with | some g=>ret (.ret (.int g)) | none=>aQ)
 | [],f,t,_,ht,hK=>by simp[aE,bV,hK f t ht]
 | v::vs,f,t,hf,ht,hK=>by
  have key:aE (dR (run d)) st (v::vs) ((nm "x",.int x)::(nm "n",.int n)::(nm "width",.int w)::(nm "found",.int f)::t) K
    = bnd (aR ((bb w (f*x)).map .int)) λg=>aE (dR (run d)) st vs ((nm "x",.int x)::(nm "n",.int n)::(nm "width",.int w)::(nm "found",g)::[(nm "turn",v)]) K  :=by
   rw[<-bR (d:=d) hd h1 h2];have m:=oU hf hx;rcases ht with rfl | ⟨v0,rfl⟩ <;> subst hst <;> exact B1 rfl (Bm (B1 (eV (B1 rfl (B1 rfl m)) (eV rfl rfl)) rfl) rfl)
  simp only[key,List.length_cons,bV]
  induction q:bb w (f*x) with
  | none=>rfl
  | some g=>show aE _ _ _ _ _=_;refine jf (ub h2 q) λa z8 _=>?_;obtain rfl:=z8;exact vc hd h1 h2 hx st hst vs _ _ a (.inr ⟨v,rfl⟩) hK
noncomputable def hV(w x n:Int):Option Int:=
 if n<0 then (match jp x n with | some g=>bb w g | none=>none)
 else if x=0\/x=1\/x = -1 then bb w (x ^ (if n<2 then n else 2 - n.fmod 2).toNat)
 else bV w x (min n.toNat (w.toNat+1)) 1
theorem nt(a b:Int):(range a b).length=(b - a).toNat:=by simp[range]
theorem Ef{x:Int}(h:x=0\/x=1\/x = -1):(bnd (ae .Eq (.int x) (.int 0)) λb5=>bi .Or b5 (bnd (ae .Eq (.int x) (.int 1)) λb6=>bi .Or b6 (bnd (ae .Eq (.int x) (.int (-1))) λb7=>bi .Or b7 (ret false))))=ret true:=by rcases h with rfl | rfl | rfl <;> rfl
theorem C_{x:Int}(h:¬ (x=0\/x=1\/x = -1)):(bnd (ae .Eq (.int x) (.int 0)) λb5=>bi .Or b5 (bnd (ae .Eq (.int x) (.int 1)) λb6=>bi .Or b6 (bnd (ae .Eq (.int x) (.int (-1))) λb7=>bi .Or b7 (ret false))))=ret false:=
 B1 rfl (oF (dF λq=>h (.inl q)) (B1 rfl (oF (dF λq=>h (.inr (.inl q))) (B1 rfl (oF (dF λq=>h (.inr (.inr q))) rfl)))))
theorem Fq{w x n:Int}(h:n<0):hV w x n=(match jp x n with | some g=>bb w g | none=>none):=PW h
theorem Fs{w x n:Int}(h:¬ n<0)(h1:x=0\/x=1\/x = -1):hV w x n=bb w (x ^ (if n<2 then n else 2 - n.fmod 2).toNat):=(PX h).trans (PW h1)
theorem Ft{w x n:Int}(h:¬ n<0)(h1:¬ (x=0\/x=1\/x = -1)):hV w x n=bV w x (min n.toNat (w.toNat+1)) 1:=(PX h).trans (PX h1)
theorem Eg{n w:Int}(h1:1<=w)(h2:w<=12)(hn:n<=4000)(h0:¬ n<0):∃ m:Int,(if w+1<n then w+1 else n)=m/\m<=100000 ∧ -100000<=m/\(range 0 m).length=min n.toNat (w.toNat+1):=by
 obtain⟨W,rfl⟩:=Int.eq_ofNat_of_zero_le (Int.le_trans (by decide) h1);obtain⟨N,rfl⟩:=Int.eq_ofNat_of_zero_le (Int.not_lt.mp h0);have b:∀ k:Nat,(-100000:Int)<=k:=λk=>Int.le_trans (by decide) (Int.natCast_nonneg k);have l:∀ k:Nat,(range 0 (k:Int)).length=k:=λk=>(nt _ _).trans (congrArg Int.toNat (Int.sub_zero _))
 by_cases h:W+1<N
 ·exact⟨((W+1:Nat):Int),PW (Int.ofNat_lt.mpr h),Int.le_trans (Int.add_le_add_right h2 1) (by decide),b _,(l _).trans (Nat.min_eq_right (Nat.le_of_lt h)).symm⟩
 ·exact⟨(N:Int),PX λq=>h (Int.ofNat_lt.mp q),Int.le_trans hn (by decide),b _,(l _).trans (Nat.min_eq_left (Nat.not_lt.mp h)).symm⟩
theorem oV{d:Nat}{x n w:Int}(hd:2<=d)(h1:1<=w)(h2:w<=12)(hx:fits x=true)(hn:n<=4000):run d (nm "int_power") [.int x,.int n,.int w]=aR ((hV w x n).map .int):=by
 refine ao (ak hd) λd z9 hd'=>?_;rw[z9];have hf:=λv=>bR (n:=v) hd' h1 h2;refine(qK ..).trans ?_
 by_cases h0:n<0
 ·refine PV ?_ (congrArg (λo=>aR (o.map .int)) (Fq h0)).symm;rcases Ee (jq (x:=x) (n:=n) hd') with⟨e,q⟩ | ⟨v,e,q⟩ <;> rw[e]
  ·exact EF (B1 rfl (iT (dT h0) (BF (BF (BF q)))))
  ·have:=hf v;walk_at "t"
 ·by_cases hx1:x=0\/x=1\/x = -1
  ·refine PV ?_ (congrArg (λo=>aR (o.map .int)) (Fs h0 hx1)).symm;have pc:=Ef hx1
   by_cases hn2:n<2
   ·have e2:0<=n:=Int.not_lt.mp h0;have:=hf (x ^ n.toNat);rw[PW hn2];walk_at "t"
   ·have p1:=Int.fmod_nonneg_of_pos n (b:=2) (by decide);have p2:=Int.fmod_lt_of_pos n (b:=2) (by decide);have a1:0<=2 - n.fmod 2:=by lia
    have a2:2 - n.fmod 2<=4000:=by lia
    have:=hf (x ^ (2 - n.fmod 2).toNat);rw[PX hn2];walk_at "t"
  ·refine PV ?_ (congrArg (λo=>aR (o.map .int)) (Ft h0 hx1)).symm;obtain⟨m,em,m1,m2,m3⟩:=Eg h1 h2 hn h0;have k:=vc (n:=n) (K:=λIT=>bnd (ac (aa IT (nm "found"))) λJL=>ret (.ret JL)) hd' h1 h2 hx _ rfl (range 0 m) 1 [] (by decide +kernel) (.inl rfl) (λg t' ht=>rfl);refine(congrArg aq (B1 rfl (iF (tF (dF h0)) (B1 (C_ hx1) (iF Bool.false_ne_true (B1 (B1 (eV (B1 (eV rfl (eV rfl rfl)) rfl) rfl) ((congrArg (λm=>au (nm "range") [.int m]) em).trans ((SB.2.2.2.2.2.2.1 _).trans (PW m1)))) ((SL.1 _ _ _).trans ((PW ⟨by decide,by decide,m2,m1⟩).trans k)))))))).trans ?_;rw[m3]
   induction bV w x (min n.toNat (w.toNat+1)) 1 <;> rfl
noncomputable def ug(x y:Int):Int:=if x=y then 0 else if x<y then -1 else 1
noncomputable def uh(x y:Str):Int:=if x=y then 0 else if gL x.cps.toList y.cps.toList=true then -1 else 1
theorem oW{d:Nat}{x y:Int}(hd:1<=d):run d (nm "order_of") [.int x,.int y]=ret (.int (ug x y)):=by
 refine ao (ak hd) λd z1 _=>?_;obtain rfl:=z1;rw[ln];unfold ug
 by_cases h1:x=y
 ·rw[PW h1];walk_at "e"
 ·rw[PX h1]
  by_cases h2:x<y
  ·rw[PW h2];walk_at "e"
  ·rw[PX h2];walk_at "e"
theorem oX{d:Nat}{x y:Str}(hd:1<=d):run d (nm "order_of") [.str x,.str y]=ret (.int (uh x y)):=by
 refine ao (ak hd) λd z2 _=>?_;obtain rfl:=z2;rw[ln];have e:ae .Lt (.str x) (.str y)=ret (gL x.cps.toList y.cps.toList):=rfl;unfold uh
 by_cases h1:x=y
 ·rw[PW h1];walk_at "e"
 ·rw[PX h1]
  induction h2:gL x.cps.toList y.cps.toList <;> rw[h2]at e
  ·rw[PX Bool.false_ne_true];walk_at "e"
  ·rw[PW rfl];walk_at "e"
noncomputable def iZ(w:String)(o:Int):Bool:=if w = "eq" then decide (o=0) else if w = "ne" then !decide (o=0) else if w = "lt" then decide (o<0) else if w = "le" then decide (o<=0) else if w = "gt" then decide (0<o) else decide (0<=o)
noncomputable def rels:List String:=["eq","ne","lt","le","gt","ge"]
theorem lJ{d:Nat}{w:String}{o:Int}(hd:1<=d)(hw:w∈rels):run d (nm "holds") [.str (nm w),.int o]=ret (.bool (iZ w o)):=by refine ao (ak hd) λd z3 _=>?_;obtain rfl:=z3;rw[Bb];simp only[rels,List.mem_cons,List.not_mem_nil,or_false]at hw;rcases hw with rfl | rfl | rfl | rfl | rfl | rfl <;> kernel_rfl
structure dC(lim:D)(w:Int)(σ:St):Prop where
 width:aA lim (nm "width") σ=.ok (.int w) σ
 digits:aA lim (nm "real_digits") σ=.ok (.int 3) σ
 top:aA lim (nm "top_exponent") σ=.ok (.int 90) σ
theorem aB{α β:Type}{m:M α}{σ σ':St}{a:α}(h:m σ=.ok a σ')(f:α->M β):bnd m f σ=f a σ':=by unfold bnd;rw[h]
theorem aO{α β:Type}{m:M α}{σ σ':St}(h:m σ=.exc σ')(f:α->M β):bnd m f σ=.exc σ':=by unfold bnd;rw[h]
noncomputable def fD(w:Int)(op:String)(x y:Int):Option Int:=
 if op = "add" then bb w (x+y) else if op = "sub" then bb w (x - y) else if op = "mul" then bb w (x*y) else if op = "div" then (if y=0 then none else bb w (fG x y)) else hV w x y
theorem mI{d:Nat}{op:String}{x y w:Int}{k lim:D}{σ:St}(hd:4<=d)(h1:1<=w)(h2:w<=12)(hx:fits x=true)(hy:fits y=true)(hn:y<=4000)(L:dC lim w σ)(ho:op∈["add","sub","mul","div","powi"]) :
  run d (nm "int_binary") [.str (nm op),k,.int x,.int y,lim] σ=aR ((fD w op x y).map .int) σ:=by
 refine ao (ak hd) λd z4 hd'=>?_;obtain rfl:=z4;rw[iS];have a1:2<=d:=by lia
 simp only[List.mem_cons,List.not_mem_nil,or_false]at ho;have l:=L.width;rcases ho with rfl | rfl | rfl | rfl | rfl
 ·have q:_=aR ((fD w "add" x y).map .int) σ:=congrFun (uc a1 h1 h2) σ;walk_at "u"
 ·have q:_=aR ((fD w "sub" x y).map .int) σ:=congrFun (ud a1 h1 h2) σ;walk_at "u"
 ·have q:_=aR ((fD w "mul" x y).map .int) σ:=congrFun (ue a1 h1 h2 hx hy) σ;walk_at "u"
 ·have q:=congrFun (uf a1 h1 h2 hx hy) σ;rw[show(if y=0 then none else (bb w (fG x y)).map .int)=(fD w "div" x y).map D.int by show _=(if y=0 then none else bb w (fG x y)).map D.int;split <;> rfl]at q;walk_at "u"
 ·have q:_=aR ((fD w "powi" x y).map .int) σ:=congrFun (oV a1 h1 h2 hx hn) σ;walk_at "u"
theorem ui{d:Nat}{op:String}{x y:Int}{k lim:D}(hd:3<=d)(ho:op∈rels):run d (nm "int_binary") [.str (nm op),k,.int x,.int y,lim]=ret (.bool (iZ op (ug x y))):=by
 refine ao (ak hd) λd z5 hd'=>?_;obtain rfl:=z5;rw[iS];have e:iR (run d) (.str (nm op)) k (.int x) (.int y) lim=bnd (bnd (ah [ret (.str (nm op)),run d (nm "order_of") [.int x,.int y]]) λl=>run d (nm "holds") l) λt=>ret (.ret t):=by have ho:=ho;simp only[rels,List.mem_cons,List.not_mem_nil,or_false]at ho;rcases ho with rfl | rfl | rfl | rfl | rfl | rfl <;> kernel_rfl
 rw[e,oW (by lia)];show aq (bnd (run d (nm "holds") [.str (nm op),.int (ug x y)]) _)=_;rw[lJ (by lia) ho];rfl
noncomputable def yR(op:String)(x y:Bool):Bool:=if op = "and" then x&&y else if op = "or" then x||y else if op = "eqv" then x==y else !(x==y)
theorem jV{d:Nat}{op:String}{x y:Bool}{k lim:D}(hd:1<=d)(ho:op∈["and","or","eqv","neqv"]):run d (nm "logic_binary") [.str (nm op),k,.bool x,.bool y,lim]=ret (.bool (yR op x y)):=by refine ao (ak hd) λd z6 hd'=>?_;obtain rfl:=z6;rw[lq];simp only[List.mem_cons,List.not_mem_nil,or_false]at ho;rcases ho with rfl | rfl | rfl | rfl <;> induction x <;> induction y <;> kernel_rfl
theorem dq{d:Nat}{n w:Int}(hd:1<=d)(h1:1<=w)(h2:w<=12):run d (nm "_law_whole") [.int n,.int w]=ret (((bb w n).map .int).getD .none):=by
 refine ao (ak hd) λd z7 _=>?_;obtain rfl:=z7;rw[qY];have e1:fits (-2)=true:=by decide +kernel
 have e2:fits 2=true:=by decide +kernel
 have e3:w<=4000+1:=by lia
 have e0:0<=w - 1:=by lia
 have e4:w - 1<=4000:=by lia
 unfold bb
 by_cases q1:-2 ^ (w - 1).toNat<=n
 ·by_cases q2:n<2 ^ (w - 1).toNat
  ·rw[PW ⟨q1,q2⟩];walk_at "e"
  ·rw[PX λq=>q2 q.2];walk_at "e"
 ·rw[PX λq=>q1 q.1];walk_at "e"
theorem d6{d:Nat}{x y:Int}(hd:1<=d)(hx:fits x=true)(hy:fits y=true)(h0:y≠0):run d (nm "_law_toward") [.int x,.int y]=ret (.int (fG x y)):=by
 refine ao (ak hd) λd z8 _=>?_;obtain rfl:=z8;rw[oS];have e1:(y.natAbs:Int)≠0:=by lia
 have q:ag .FloorDiv (.int x.natAbs) (.int y.natAbs)=ret (.int (x.natAbs / y.natAbs:Nat)):=by refine PV (Bd e1 (b_ hx) (b_ hy)) ?_;rw[cZ]
 unfold fG
 induction h:(decide (x<0)==decide (y<0))
 ·rw[PX Bool.false_ne_true];walk_at "e"
 ·rw[PW rfl];walk_at "e"
theorem re{w v:Int}(h:2 ^ (w - 1).toNat<v.natAbs):bb w v=none:=by
 unfold bb;have e:((2:Int) ^ (w - 1).toNat)=((2 ^ (w - 1).toNat:Nat):Int):=by simp
 exact(PX (by omega))
theorem yS{v:Int}{n:Nat}(q:v.natAbs<n):-(n:Int)<=v/\v<n:=⟨Int.neg_le_of_neg_le (Int.le_trans (Int.le_natAbs (a:=-v)) (Int.ofNat_le.mpr (PO (PR (Int.natAbs_neg v)) (Nat.le_of_lt q)))),Int.lt_of_le_of_lt Int.le_natAbs (Int.ofNat_lt.mpr q)⟩
theorem yT{v:Int}{n:Nat}(h:-(n:Int)<=v)(h':v<=n):v.natAbs<=n:=(Int.natAbs_eq v).elim (λe=>Int.ofNat_le.mp (Int.le_trans (Int.le_of_eq e.symm) h')) λe=>Int.ofNat_le.mp (Int.le_of_neg_le_neg (Int.le_trans h (Int.le_of_eq e)))
theorem yU{w v:Int}(h:bb w v=none):2 ^ (w - 1).toNat<=v.natAbs:=by
 unfold bb at h;have e:((2:Int) ^ (w - 1).toNat)=((2 ^ (w - 1).toNat:Nat):Int):=by simp
 rw[e]at h;refine Nat.not_lt.mp λq=>?_;rw[PW (yS q)]at h;exact DK h
theorem jr{w v:Int}(h1:5<=w)(h:v.natAbs<=1):bb w v=some v:=by
 unfold bb;have e:((2:Int) ^ (w - 1).toNat)=((2 ^ (w - 1).toNat:Nat):Int):=by simp
 have:2 ^ 1<=2 ^ (w - 1).toNat:=Nat.pow_le_pow_right (by omega) (by omega);rw[e,PW (yS (PQ h (PP (by decide) this)))]
theorem rf{w x:Int}(hx:2<=x.natAbs):∀ (k:Nat) (f:Int),f≠0->(k≠0\/bb w f=some f)->bV w x k f=bb w (f*x ^ k)
 | 0,f,_,h=>by rcases h with h | h;exact absurd rfl h;simp[bV,h]
 | k+1,f,hf,_=>by
  dsimp only[bV];have e:f*x ^ (k+1)=f*x*x ^ k:=by simp only[Int.pow_succ,Int.mul_assoc,Int.mul_comm x]
  rw[e]
  induction q:bb w (f*x) with
  | some g=>
   have hg:g=f*x:=by unfold bb at q;split at q <;> cases q;rfl
   subst hg;exact rf hx k _ (by intro h;rcases Int.mul_eq_zero.mp h with h | h;exact hf h;subst h;simp at hx) (.inr q)
  | none=>
   induction k using Nat.casesOn with
   | zero=>simp[q]
   | succ k=>
    have h1:=yU q;refine(re ?_).symm;rw[Int.natAbs_mul,Int.natAbs_pow];have h2:2<=x.natAbs ^ (k+1):=by
     calc 2<=x.natAbs:=hx
      _=x.natAbs ^ 1:=(Nat.pow_one _).symm
      _<=_:=Nat.pow_le_pow_right (by lia) (by lia)
    have h3:0<2 ^ (w - 1).toNat:=Nat.pos_of_ne_zero (by simp)
    calc 2 ^ (w - 1).toNat<2 ^ (w - 1).toNat*2:=by lia
     _<=_:=Nat.mul_le_mul h1 h2
noncomputable def hW(w x n:Int):Option Int:=
 if n<0/\x=0 then none
 else if n<0 then some (fG 1 (x ^ (if 8+n.fmod 2 < -n then 8+n.fmod 2 else -n).toNat))
 else if x.natAbs<2 then some (x ^ (if n<2 then n else 2+n.fmod 2).toNat)
 else if n<40 then bb w (x ^ n.toNat) else none
theorem yV(k:Nat):(1:Int) ^ k=1:=by induction k with | zero=>rfl | succ k ih=>rw[Int.pow_succ,ih];rfl
theorem yW(k:Nat):(-1:Int) ^ k=if k % 2=0 then 1 else -1:=by
 induction k with
 | zero=>rfl
 | succ k ih=>
  rw[Int.pow_succ,ih];rcases Nat.mod_two_eq_zero_or_one k with h | h
  ·have:(k+1) % 2=1:=by lia
   simp[h,this]
  ·have:(k+1) % 2=0:=by lia
   simp[h,this]
theorem Cc(n:Int):n.fmod 2=n % 2:=Int.fmod_eq_emod_of_nonneg _ (by lia)
theorem lx{n:Int}(h:n<0):∃ k:Nat,(if 8+n.fmod 2 < -n then 8+n.fmod 2 else -n)=k/\k≠0/\k<=60/\(k % 2=0 ↔ n.fmod 2=0):=by
 obtain⟨m,hm⟩:=Int.eq_ofNat_of_zero_le (Int.le_of_lt (Int.neg_pos_of_neg h));have hp:n % 2=((m % 2:Nat):Int):=by rw[<-Int.neg_emod_two,hm];rfl
 simp only[Cc,hm,hp]
 split
 ·rcases Nat.mod_two_eq_zero_or_one m with q | q <;> rw[q]
  ·exact⟨8,rfl,by decide,by decide,by decide⟩
  ·exact⟨9,rfl,by decide,by decide,by decide⟩
 ·refine⟨m,rfl,λz=>?_,by lia,Int.natCast_eq_zero.symm⟩;rw[z]at hm;exact Int.ne_of_lt h (Int.neg_eq_zero.mp hm)
theorem Fu{w x n:Int}(h:n<0)(hx:¬ x=0):hW w x n=some (fG 1 (x ^ (if 8+n.fmod 2 < -n then 8+n.fmod 2 else -n).toNat)):=(PX λq=>hx q.2).trans (PW h)
theorem Fv{w x n:Int}(h:¬ n<0)(hx:x.natAbs<2):hW w x n=some (x ^ (if n<2 then n else 2+n.fmod 2).toNat):=(PX λq=>h q.1).trans ((PX h).trans (PW hx))
theorem Fw{w x n:Int}(h:¬ n<0)(hx:¬ x.natAbs<2):hW w x n=if n<40 then bb w (x ^ n.toNat) else none:=(PX λq=>h q.1).trans ((PX h).trans (PX hx))
theorem three{x:Int}:x.natAbs<2 ↔ x=0\/x=1\/x = -1:=by
 refine⟨λh=>?_,λh=>by rcases h with rfl | rfl | rfl <;> decide⟩;rcases Nat.eq_zero_or_pos x.natAbs with q | q
 ·exact .inl (Int.natAbs_eq_zero.mp q)
 ·have q:x.natAbs=1:=Nat.le_antisymm (Nat.le_of_lt_succ h) q;exact .inr ((Int.natAbs_eq x).imp (λe=>e.trans (congrArg Nat.cast q)) λe=>e.trans (congrArg (λk:Nat=>-(k:Int)) q))
theorem Eh{x:Int}{k:Nat}(h:¬ x.natAbs<2):2 ^ k<=(x ^ k).natAbs:=by rw[Int.natAbs_pow];exact Nat.pow_le_pow_left (Nat.not_lt.mp h) k
theorem Bf{x n:Int}{k:Nat}(x0:¬ x=0)(hk:k≠0)(hp:k % 2=0 ↔ n.fmod 2=0):∃ g:Int,jp x n=some g/\g.natAbs<=1/\fG 1 (x ^ k)=g:=by
 by_cases h:x.natAbs<2
 ·rcases (three.mp h).resolve_left x0 with rfl | rfl
  ·exact⟨1,(PX x0).trans (PW (.inl rfl)),Nat.le_refl 1,by rw[yV];decide⟩
  ·rw[yW]
   by_cases hn:n.fmod 2=0
   ·rw[PW (hp.mpr hn)];exact⟨1,(PX x0).trans (PW (.inr ⟨rfl,hn⟩)),Nat.le_refl 1,by decide⟩
   ·rw[PX λq=>hn (hp.mp q)];exact⟨-1,(PX x0).trans ((PX λq=>q.elim (by decide) λq=>hn q.2).trans (PW rfl)),Nat.le_refl 1,by decide⟩
 ·have hx:=mt three.mpr h;refine⟨0,(PX x0).trans ((PX λq=>hx (.inr (q.imp id And.left))).trans (PX λq=>hx (.inr (.inr q)))),Nat.zero_le 1, ?_⟩;have hb:1<(x ^ k).natAbs:=PP (Nat.one_lt_two_pow hk) (Eh h);unfold fG;rw[show(1:Int).natAbs=1 from rfl,Nat.div_eq_of_lt hb]
  split <;> rfl
theorem Bg{w x n:Int}(h1:5<=w)(h2:w<=12):hV w x n=hW w x n:=by
 by_cases h0:n<0
 ·refine PV (Fq h0) ?_
  by_cases x0:x=0
  ·have e:hW w x n=none:=PW ⟨h0,x0⟩;have e':jp x n=none:=PW x0;simp only[e,e']
  ·obtain⟨k,ek,k0,_,kp⟩:=lx h0;obtain⟨g,e1,e2,e3⟩:=Bf x0 k0 kp;simp only[Fu h0 x0,ek,e1];exact(jr h1 e2).trans (congrArg some e3.symm)
 ·by_cases x2:x.natAbs<2
  ·have s:∀ k,(x ^ k).natAbs<=1:=λk=>by rw[Int.natAbs_pow];exact PO (Nat.pow_le_pow_left (Nat.le_of_lt_succ x2) k) (PR (Nat.one_pow k))
   refine PV (Fs h0 (three.mp x2)) ?_;simp only[Fv h0 x2,jr h1 (s _)]
   by_cases hn:n<2
   ·rw[PW hn,PW hn]
   ·rw[PX hn,PX hn,Cc];rcases Int.emod_two_eq n with q | q <;> rw[q]
    ·rfl
    ·rcases three.mp x2 with rfl | rfl | rfl <;> rfl
  ·simp only[Ft h0 (mt three.mpr x2),Fw h0 x2,rf (Nat.not_lt.mp x2) _ 1 Int.one_ne_zero (.inr (jr h1 (by decide))),Int.one_mul];obtain⟨W,rfl⟩:=Int.eq_ofNat_of_zero_le (Int.le_trans (by decide) h1);obtain⟨N,rfl⟩:=Int.eq_ofNat_of_zero_le (Int.not_lt.mp h0);have xr:∀ k:Nat,W<=k->bb W (x ^ k)=none:=λk hk=>by refine re (PP (Nat.pow_lt_pow_right (by decide) ?_) (Eh x2));lia
   show bb W (x ^ min N (W+1))=if (N:Int)<40 then bb W (x ^ N) else none
   by_cases hn:N<=W+1
   ·rw[Nat.min_eq_left hn,PW (by lia)]
   ·have hn:=Nat.le_of_not_le hn;simp only[Nat.min_eq_right hn,xr _ (Nat.le_succ W)]
    split
    ·simp only[xr _ (Nat.le_of_succ_le hn)]
    ·rfl
theorem oY{d:Nat}{x n w:Int}(hd:2<=d)(h1:1<=w)(h2:w<=12)(hx:x.natAbs<=2048):run d (nm "_law_power") [.int x,.int n,.int w]=ret (((hW w x n).map .int).getD .none):=by
 refine ao (ak hd) λd z9 hd'=>?_;obtain rfl:=z9;refine(q8 ..).trans ?_;have fp:∀ k:Nat,k<=60->fits (x ^ k)=true:=λk hk=>by refine kf (k:=11*61) (by decide) ?_;simp only[Int.natAbs_pow,Nat.pow_mul];exact PQ (Nat.pow_le_pow_left hx k) (Nat.pow_lt_pow_right (by decide) (Nat.lt_succ_of_le hk))
 have hfx:fits x=true:=(congrArg fits (Int.pow_one x)).symm.trans (fp 1 (by decide))
 by_cases h0:n<0
 ·by_cases x0:x=0
  ·refine PV ?_ (congrArg (λo=>ret ((Option.map D.int o).getD .none)) (PW ⟨h0,x0⟩ : hW w x n=none)).symm;walk_at "e"
  ·refine PV ?_ (congrArg (λo=>ret ((Option.map D.int o).getD .none)) (Fu h0 x0)).symm;obtain⟨k,ek,k0,k1,kp⟩:=lx h0;have q2:=SB.2.2.1 (-n) (8+n.fmod 2);rw[ek]at q2 ⊢;have c1:=Int.natCast_nonneg k;have c2:(k:Int)<=4000:=Int.ofNat_le.mpr (PO k1 (by decide));have q1:=d6 (x:=1) (y:=x ^ (k:Int).toNat) hd' (by decide +kernel) (fp k k1) (Int.pow_ne_zero x0);walk_at "e"
 ·by_cases x2:x.natAbs<2
  ·have e1:(x.natAbs:Int)<2:=Int.ofNat_lt.mpr x2;refine PV ?_ (congrArg (λo=>ret ((Option.map D.int o).getD .none)) (Fv h0 x2)).symm
   by_cases hn:n<2
   ·have g1:0<=n:=Int.not_lt.mp h0;have g2:n<=4000:=Int.le_trans (Int.le_of_lt hn) (by decide);rw[PW hn];walk_at "e"
   ·have p1:=Int.fmod_nonneg_of_pos n (b:=2) (by decide);have p2:=Int.fmod_lt_of_pos n (b:=2) (by decide);have g1:0<=2+n.fmod 2:=by lia
    have g2:2+n.fmod 2<=4000:=by lia
    rw[PX hn];walk_at "e"
  ·have e1:¬ (x.natAbs:Int)<2:=mt Int.ofNat_lt.mp x2;refine PV ?_ (congrArg (λo=>ret ((Option.map D.int o).getD .none)) (Fw h0 x2)).symm
   by_cases hn:n<40
   ·have g1:0<=n:=Int.not_lt.mp h0;have g2:n<=4000:=Int.le_trans (Int.le_of_lt hn) (by decide);have q:=dq (n:=x ^ n.toNat) hd' h1 h2;rw[PW hn];walk_at "e"
   ·rw[PX hn];walk_at "e"
noncomputable def EE:Nat->Nat->Nat
 | 0,_=>0
 | k+1,n=>if n=0 then 0 else EE k (n / 10)+1
noncomputable def cd(n:Nat):Nat:=EE n n
theorem i4:cd 0=0:=rfl
theorem Da:∀ {m k j:Nat},m<=k->m<=j->EE k m=EE j m:=by
 intro m
 induction m using Nat.strongRecOn with
 | ind m ih=>
  intro k j hk hj;cases m with
  | zero=>obtain⟨⟩:=k <;> induction j <;> rfl
  | succ m=>
   induction k using Nat.casesOn with
   | zero=>exact absurd hk (Nat.not_succ_le_zero m)
   | succ k=>
    induction j using Nat.casesOn with
    | zero=>exact absurd hj (Nat.not_succ_le_zero m)
    | succ j=>have l:(m+1) / 10<m+1:=Nat.div_lt_self (Nat.succ_pos m) (by decide);exact congrArg (· + 1) (ih _ l (PO (Nat.le_of_lt_succ l) (Nat.le_of_succ_le_succ hk)) (PO (Nat.le_of_lt_succ l) (Nat.le_of_succ_le_succ hj)))
theorem cU{n:Nat}(h:n≠0):cd n=cd (n / 10)+1:=by
 induction n with
 | zero=>exact absurd rfl h
 | succ n=>exact congrArg (· + 1) (Da (Nat.le_of_lt_succ (Nat.div_lt_self (Nat.succ_pos n) (by decide))) (Nat.le_refl _))
theorem nu:∀ n:Nat,n<10 ^ cd n:=by
 intro n
 induction n using Nat.strongRecOn with
 | ind n ih=>
  by_cases h:n=0
  ·rw[h];simp only[i4];decide
  ·simp only[cU h,Nat.pow_succ];have:=ih (n / 10) (by lia);lia
theorem vf:∀ {n:Nat},n≠0->10 ^ (cd n - 1)<=n:=by
 intro n
 induction n using Nat.strongRecOn with
 | ind n ih=>
  intro h;rw[cU h,Nat.add_sub_cancel]
  by_cases h':n / 10=0
  ·rw[h',i4];simp;lia
  ·have:=ih (n / 10) (by lia) h';have e:10 ^ cd (n / 10)=10*10 ^ (cd (n / 10) - 1):=by simp only[cU h',Nat.add_sub_cancel,Nat.pow_succ,Nat.mul_comm]
   rw[e];lia
theorem bk{n k:Nat}(h:n<10 ^ k):cd n<=k:=by
 by_cases h0:n=0
 ·subst h0;simp only[i4];lia
 ·have h1:=vf h0;have h2:10 ^ (cd n - 1)<10 ^ k:=PQ h1 h;have h3:=(Nat.pow_lt_pow_iff_right (a:=10) (by lia)).mp h2;have:cd n≠0:=by rw[cU h0];lia
  lia
theorem lK{n k:Nat}(h:10 ^ k<=n):k+1<=cd n:=by have h1:=nu n;have h2:10 ^ k<10 ^ cd n:=PQ h h1;exact(Nat.pow_lt_pow_iff_right (a:=10) (by omega)).mp h2
theorem uj{n:Nat}(h:n≠0):∀ k,cd (n*10 ^ k)=cd n+k
 | 0=>by simp
 | k+1=>by
  have hp:n*10 ^ (k+1)=n*10 ^ k*10:=by simp only[Nat.pow_succ,Nat.mul_assoc]
  have hq:n*10 ^ k≠0:=Nat.mul_ne_zero h (by simp);rw[hp,cU (by lia),Nat.mul_div_cancel _ (by lia),uj h k];lia
theorem Db{n:Nat}(k:Nat)(h:10 ^ k<=n):cd n=cd (n / 10 ^ k)+k:=by
 induction k generalizing n with
 | zero=>simp
 | succ k ih=>
  have hp:10 ^ (k+1)=10 ^ k*10:=Nat.pow_succ ..;have hk:0<10 ^ k:=Nat.pos_of_ne_zero (by simp);have h0:n≠0:=by lia
  have h1:10 ^ k<=n / 10:=by rw[Nat.le_div_iff_mul_le (by lia)];lia
  simp only[cU h0,ih h1,Nat.div_div_eq_div_mul,Nat.pow_succ,Nat.mul_comm (10 ^ k)];lia
noncomputable def gh:Nat->Int->Int->Int×Int
 | 0,m,e=>(m,e)
 | k+1,m,e=>if m≠0/\m % 10=0 then gh k (m / 10) (e+1) else (m,e)
noncomputable def aL(m e:Int):Int×Int:=gh m.natAbs m e
theorem lL(k:Nat):(10:Int) ^ k≠0:=by have:(0:Int)<10 ^ k:=Int.pow_pos (by decide);omega
theorem eG{k:Nat}{m e:Int}(h:¬ (m≠0/\m % 10=0)):gh k m e=(m,e):=by
 induction k using Nat.casesOn with
 | zero=>rfl
 | succ k=>exact PX h
theorem nv{m:Int}(h0:m≠0)(h:m % 10=0):∃ q:Int,m=q*10/\m / 10=q/\q≠0/\q.natAbs<m.natAbs:=by have e:=Int.ediv_mul_cancel_of_emod_eq_zero h;have z:m / 10≠0:=λz=>h0 (by refine PV (Eq.symm e) ?_;rw[z];rfl);refine⟨m / 10,e.symm,rfl,z, ?_⟩;have a:(m / 10).natAbs*10=m.natAbs:=(Int.natAbs_mul (m / 10) 10).symm.trans (congrArg Int.natAbs e);simp only[<-a];exact(Nat.lt_mul_iff_one_lt_right (Int.natAbs_pos.mpr z)).mpr (by decide)
theorem wZ:∀ {k j:Nat} {m e:Int},m.natAbs<=k->m.natAbs<=j->gh k m e=gh j m e:=by
 intro k
 induction k with
 | zero=>intro j m e h _;have z:¬ (m≠0/\m % 10=0):=λq=>q.1 (Int.natAbs_eq_zero.mp (Nat.le_zero.mp h));refine PV (eG z) ?_;rw[eG z]
 | succ k ih=>
  intro j m e h h'
  by_cases c:m≠0/\m % 10=0
  ·obtain⟨q,_,e2,_,l⟩:=nv c.1 c.2
   induction j using Nat.casesOn with
   | zero=>exact absurd (PP l h') (Nat.not_lt_zero _)
   | succ j=>rw[gh,gh,PW c,PW c,e2];exact ih (Nat.le_of_lt_succ (PP l h)) (Nat.le_of_lt_succ (PP l h'))
  ·refine PV (eG c) ?_;rw[eG c]
theorem hZ{m e:Int}(h:m≠0)(h':m % 10=0):aL m e=aL (m / 10) (e+1):=by obtain⟨n,hn⟩:=Nat.exists_eq_succ_of_ne_zero (Int.natAbs_ne_zero.mpr h);obtain⟨q,_,e2,_,l⟩:=nv h h';unfold aL;rw[hn,gh,PW ⟨h,h'⟩];exact wZ (e2 ▸ Nat.le_of_lt_succ (hn ▸ l)) (Nat.le_refl _)
theorem eI{m e:Int}(h':m % 10≠0):aL m e=(m,e):=eG λq=>h' q.2
theorem gA{m e:Int}(h:m≠0):aL (m*10) e=aL m (e+1):=by refine PV (hZ (Int.mul_ne_zero h (by decide)) (Int.mul_emod_left m 10)) ?_;rw[Int.mul_ediv_cancel _ (by decide)]
theorem nw{m:Int}(h:m≠0):∀ (k:Nat) (e:Int),aL (m*10 ^ k) e=aL m (e+k)
 | 0,e=>by simp
 | k+1,e=>by
  have hq:m*10 ^ k≠0:=Int.mul_ne_zero h (lL k);rw[Int.pow_succ,<-Int.mul_assoc,gA hq,nw h k]
  congr 1;lia
theorem w0:∀ (n:Nat) (m e:Int),m.natAbs=n->aL (-m) e=(-(aL m e).1,(aL m e).2):=by
 intro n
 induction n using Nat.strongRecOn with
 | ind n ih=>
  intro m e hm
  by_cases h0:m=0
  ·subst h0;rfl
  ·by_cases h1:m % 10=0
   ·obtain⟨q,rfl,_,q0,l⟩:=nv h0 h1;rw[<-Int.neg_mul,gA q0,gA (Int.neg_ne_zero.mpr q0)];exact ih q.natAbs (hm ▸ l) _ _ rfl
   ·exact(eI h1) ▸ ((eI (m:=-m) λz=>h1 (Int.emod_eq_zero_of_dvd (Int.dvd_neg.mp (Int.dvd_of_emod_eq_zero z)))))
theorem w4:∀ (n:Nat) (m e:Int),m.natAbs=n->m≠0->(aL m e).1 % 10≠0/\∃ k:Nat,(aL m e).2=e+k/\m=(aL m e).1*10 ^ k:=by
 intro n
 induction n using Nat.strongRecOn with
 | ind n ih=>
  intro m e hm h0
  by_cases h:m % 10=0
  ·obtain⟨q,rfl,_,q0,l⟩:=nv h0 h;rw[gA q0];obtain⟨a,k,b,c⟩:=ih q.natAbs (hm ▸ l) q (e+1) rfl q0;refine⟨a,k+1,b.trans ((Int.add_assoc ..).trans (congrArg (e + ·) (Int.add_comm ..))), ?_⟩;rw[Int.pow_succ,<-Int.mul_assoc,<-c]
  ·rw[eI h];exact⟨h,0,(Int.add_zero e).symm,(Int.mul_one m).symm⟩
noncomputable def i5(N D:Nat):Nat:=if D<2*(N % D)\/(2*(N % D)=D/\N / D % 2=1) then N / D+1 else N / D
theorem i6(N D:Nat){c:Nat}(hc:0<c):i5 (N*c) (D*c)=i5 N D:=by
 unfold i5;simp only[Nat.mul_div_mul_right _ _ hc,Nat.mul_mod_mul_right];have e1:(D*c<2*(N % D*c)) ↔ D<2*(N % D):=by rw[<-Nat.mul_assoc];exact Nat.mul_lt_mul_right hc
 have e2:(2*(N % D*c)=D*c) ↔ 2*(N % D)=D:=by rw[<-Nat.mul_assoc];exact Nat.mul_left_inj (by lia)
 simp only[e1,e2]
theorem yX{N D N' D':Nat}(h:0<D)(h':0<D')(e:N*D'=N'*D):i5 N D=i5 N' D':=by simp only[<-i6 N D h',<-i6 N' D' h,e,Nat.mul_comm D']
theorem Bh(N:Nat):i5 N 1=N:=by unfold i5;simp[Nat.mod_one]
theorem js{N D:Nat}(hD:0<D)(h1:100*D<=N)(h2:N<1000*D):100<=i5 N D/\i5 N D<=1000:=by have a:100<=N / D:=(Nat.le_div_iff_mul_le hD).mpr h1;have b:N / D<1000:=(Nat.div_lt_iff_lt_mul hD).mpr h2;unfold i5;split <;> lia
noncomputable def Fit(N D:Nat)(m:Nat)(e:Int):Prop:=∃ a b:Nat,100*(D*10 ^ b)<=N*10 ^ a/\N*10 ^ a<1000*(D*10 ^ b)/\m=i5 (N*10 ^ a) (D*10 ^ b)/\e=b - a
theorem Fit.same{N D N' D' m m':Nat}{e e':Int}(hD:0<D)(hD':0<D')(h:N*D'=N'*D)(f:Fit N D m e)(f':Fit N' D' m' e'):m=m'/\e=e':=by
 refine aH f λa b h1 h2 z1 z2=>?_;obtain rfl:=z1;rw[z2];refine aH f' λa' b' h1' h2' z3 z4=>?_;obtain rfl:=z3;obtain rfl:=z4;have key:∀ {N D N' D' a b a' b':Nat},0<D->0<D'->N*D'=N'*D->100*(D*10 ^ b)<=N*10 ^ a->N'*10 ^ a'<1000*(D'*10 ^ b')->b+a'<=b'+a:=by
  intro N D N' D' a b a' b' hD hD' h h1 h2;have s1:100*(D*10 ^ b)*(D'*10 ^ a')<=N*10 ^ a*(D'*10 ^ a'):=Nat.mul_le_mul_right _ h1;have s2:N'*10 ^ a'*(D*10 ^ a)<1000*(D'*10 ^ b')*(D*10 ^ a):=Nat.mul_lt_mul_of_pos_right h2 (Nat.mul_pos hD (Nat.pos_of_ne_zero (by simp)));have s3:N*10 ^ a*(D'*10 ^ a')=N'*10 ^ a'*(D*10 ^ a):=by
   have:N*10 ^ a*(D'*10 ^ a')=N*D'*(10 ^ a*10 ^ a'):=by ac_rfl
   refine PV this ?_;rw[h];ac_rfl
  have s4:100*(D*10 ^ b)*(D'*10 ^ a')=(D*D'*100)*10 ^ (b+a'):=by rw[Nat.pow_add];ac_rfl
  have s5:1000*(D'*10 ^ b')*(D*10 ^ a)=(D*D'*100)*10 ^ (b'+a+1):=by simp only[Nat.pow_succ,Nat.pow_add,show(1000:Nat)=100*10 from rfl];ac_rfl
  have s6:(D*D'*100)*10 ^ (b+a')<(D*D'*100)*10 ^ (b'+a+1):=PQ (PO (PR s4.symm) (PO s1 (PR s3))) (Nat.lt_of_lt_of_eq s2 s5);have s7:=Nat.lt_of_mul_lt_mul_left s6;exact Nat.le_of_lt_succ ((Nat.pow_lt_pow_iff_right (a:=10) (by decide)).mp s7)
 have q1:=key hD hD' h h1 h2';have q2:=key hD' hD h.symm h1' h2;refine⟨yX (Nat.mul_pos hD (Nat.pos_of_ne_zero (by simp))) (Nat.mul_pos hD' (Nat.pos_of_ne_zero (by simp))) ?_,by lia⟩;have e1:N*10 ^ a*(D'*10 ^ b')=N*D'*10 ^ (a+b'):=by simp only[Nat.pow_add];ac_rfl
 have e2:N'*10 ^ a'*(D*10 ^ b)=N'*D*10 ^ (a'+b):=by rw[Nat.pow_add];ac_rfl
 simp only[e1,e2,h,show a+b'=a'+b from by lia]
theorem Fit.shift{N D m:Nat}{e:Int}(f:Fit N D m e)(p q:Nat):Fit (N*10 ^ p) (D*10 ^ q) m (e+p - q):=by
 refine aH f λa b h1 h2 z5 z6=>?_;obtain rfl:=z5;obtain rfl:=z6;have e1:N*10 ^ p*10 ^ (a+q)=N*10 ^ a*10 ^ (p+q):=by simp only[Nat.pow_add,Nat.pow_add];ac_rfl
 have e2:D*10 ^ q*10 ^ (b+p)=D*10 ^ b*10 ^ (p+q):=by simp only[Nat.pow_add,Nat.pow_add];ac_rfl
 have hp:0<10 ^ (p+q):=Nat.pos_of_ne_zero (by simp);refine⟨a+q,b+p, ?_, ?_, ?_,by lia⟩
 ·rw[e1,e2,<-Nat.mul_assoc];exact Nat.mul_le_mul_right _ h1
 ·rw[e1,e2,<-Nat.mul_assoc];exact Nat.mul_lt_mul_of_pos_right h2 hp
 ·simp only[e1,e2,i6 _ _ hp]
theorem Fit.unshift{N D m:Nat}{e:Int}{p:Nat}(f:Fit (N*10 ^ p) D m e):Fit N D m (e - p):=by refine aH f λa b h1 h2 z7 z8=>?_;rw[z7];rw[z8];refine⟨p+a,b, ?_, ?_, ?_,by lia⟩ <;> simp only[Nat.pow_add,<-Nat.mul_assoc N] <;> assumption
theorem Fit.range{N D m:Nat}{e:Int}(hD:0<D)(f:Fit N D m e):100<=m/\m<=1000:=by refine aH f λa b h1 h2 z9 z10=>?_;obtain rfl:=z9;obtain rfl:=z10;exact js (Nat.mul_pos hD (Nat.pos_of_ne_zero (by simp))) h1 h2
noncomputable def sg(x:Int)(m:Nat):Int:=if 0<x then (m:Int) else -(m:Int)
noncomputable def gi(m e:Int):Int×Int:=if m=0 then (0,0) else aL m e
noncomputable def bn(m e:Int):Int×Int:=if 3<cd m.natAbs then gi (sg m (i5 m.natAbs (10 ^ (cd m.natAbs - 3)))) (e+(cd m.natAbs - 3:Nat)) else gi m e
theorem vg{n:Nat}(h:n≠0)(h3:3<cd n):∃ k,cd n=k+3/\100*10 ^ k<=n/\n<1000*10 ^ k:=by have a1:=vf h;have a2:=nu n;obtain⟨k,hk⟩ : ∃ k,cd n=k+3:=⟨cd n - 3,(Nat.sub_add_cancel (Nat.le_of_lt h3)).symm⟩;rw[hk]at a1 a2;exact⟨k,hk,PO (PR ((Nat.mul_comm _ _).trans (Nat.pow_add 10 k 2).symm)) a1,PP a2 (PR ((Nat.pow_add 10 k 3).trans (Nat.mul_comm _ _)))⟩
theorem Ei{n:Nat}(h:n≠0)(h3:¬ 3<cd n):∃ k,cd n+k=3/\100<=n*10 ^ k/\n*10 ^ k<1000:=by
 have a1:=vf h;have a2:=nu n;obtain⟨k,hk⟩:=Nat.exists_eq_add_of_le (Nat.not_lt.mp h3);have hk':cd (n / 10)+k=2:=by rw[cU h]at hk;lia
 refine⟨k,hk.symm, ?_,PP (Nat.mul_lt_mul_of_pos_right a2 (Nat.pow_pos (by decide))) (PR ((Nat.pow_add 10 _ _).symm.trans (congrArg (10 ^ ·) hk.symm)))⟩;rw[cU h]at a1;exact PO (PR ((congrArg (10 ^ ·) hk'.symm).trans (Nat.pow_add 10 _ _))) (Nat.mul_le_mul_right _ a1)
theorem yY{m:Int}{q:Nat}(h:0<q):sg m q≠0:=by
 have:=Int.ofNat_ne_zero.mpr (Nat.ne_of_gt h);unfold sg
 split
 ·exact this
 ·exact Int.neg_ne_zero.mpr this
theorem FN(m:Int):sg m m.natAbs=m:=by
 unfold sg
 split
 ·exact Int.natAbs_of_nonneg (Int.le_of_lt ‹_›)
 ·exact(congrArg Neg.neg (Int.ofNat_natAbs_of_nonpos (Int.not_lt.mp ‹_›))).trans (Int.neg_neg m)
theorem Dc(m:Int)(a b:Nat):sg m (a*b)=sg m a*b:=by
 unfold sg
 split
 ·rfl
 ·exact(congrArg Neg.neg (Int.natCast_mul a b)).trans (Int.neg_mul ..).symm
theorem yZ{m e:Int}(h:m≠0):∃ m0 e0,Fit m.natAbs 1 m0 e0/\bn m e=aL (sg m m0) (e+e0)/\e0=cd m.natAbs - 3:=by
 have hn:m.natAbs≠0:=Int.natAbs_ne_zero.mpr h;unfold bn
 by_cases h3:3<cd m.natAbs
 ·obtain⟨k,hk,a1,a2⟩:=vg hn h3;rw[PW h3,hk,Nat.add_sub_cancel];have f:Fit m.natAbs 1 (i5 m.natAbs (10 ^ k)) k:=⟨0,k,by simp only[Nat.one_mul,Nat.pow_zero,Nat.mul_one];exact a1,by simp only[Nat.one_mul,Nat.pow_zero,Nat.mul_one];exact a2,by simp only[Nat.one_mul,Nat.pow_zero,Nat.mul_one],(Int.sub_zero _).symm⟩;exact⟨_,_,f,PX (yY (PP (by decide) (f.range (by decide)).1)),(Int.add_sub_cancel (k:Int) 3).symm⟩
 ·obtain⟨k,hk,a1,a2⟩:=Ei hn h3;rw[PX h3];refine⟨m.natAbs*10 ^ k,(0:Nat) - (k:Int),⟨k,0,by simp only[Nat.pow_zero,Nat.one_mul];exact a1,by simp only[Nat.pow_zero,Nat.one_mul];exact a2,by simp only[Nat.pow_zero,Nat.one_mul,Bh],rfl⟩, ?_,by clear a1 a2;lia⟩;refine(PX h).trans ?_;simp only[Dc,FN,Int.natCast_pow];refine PV ?_ (nw h k _).symm;rw[show e+(((0:Nat):Int) - k)+k=e from by lia]
theorem cn(k:Nat):0<10 ^ k:=Nat.pos_of_ne_zero (by simp)
theorem Fit.scale{N D m:Nat}{e:Int}{c:Nat}(hc:0<c):Fit (N*c) (D*c) m e ↔ Fit N D m e:=by
 unfold Fit;have e1:∀ a,N*c*10 ^ a=N*10 ^ a*c:=λa=>by ac_rfl
 have e2:∀ b,D*c*10 ^ b=D*10 ^ b*c:=λb=>by ac_rfl
 constructor
 ·rintro ⟨a,b,h1,h2,h3,h4⟩
  rw[e1,e2]at h1 h2 h3;rw[i6 _ _ hc]at h3;rw[<-Nat.mul_assoc]at h1 h2;exact⟨a,b,Nat.le_of_mul_le_mul_right h1 hc,Nat.lt_of_mul_lt_mul_right h2,h3,h4⟩
 ·rintro ⟨a,b,h1,h2,h3,h4⟩
  refine⟨a,b, ?_, ?_, ?_,h4⟩
  ·rw[e1,e2,<-Nat.mul_assoc];exact Nat.mul_le_mul_right _ h1
  ·rw[e1,e2,<-Nat.mul_assoc];exact Nat.mul_lt_mul_of_pos_right h2 hc
  ·rw[e1,e2,i6 _ _ hc];exact h3
theorem Fit.cross{N D N' D' m:Nat}{e:Int}(hD:0<D)(hD':0<D')(h:N*D'=N'*D)(f:Fit N D m e):Fit N' D' m e:=by have:=(Fit.scale (c:=D') hD').mpr f;rw[h,Nat.mul_comm D D']at this;exact(Fit.scale hD).mp this
theorem cq(k:Nat):((10:Int) ^ k).natAbs=10 ^ k:=by rw[Int.natAbs_pow];rfl
theorem Cd{x y:Int}(m:Nat)(h:0<x ↔ 0<y):sg x m=sg y m:=by unfold sg;simp only[h]
theorem w6{m e over:Int}{under pl nl:Nat}(hm:m≠0)(hu:0<under)(he:e=(pl:Int) - nl)(h:over*10 ^ nl=m*10 ^ pl*under):∃ m0 e0,Fit over.natAbs under m0 e0/\bn m e=aL (sg over m0) e0:=by
 refine ar (yZ hm (e:=e)) λm0 e0 f hr _=>?_;have f':=f.shift pl nl;have hab:m.natAbs*10 ^ pl*under=over.natAbs*(1*10 ^ nl):=by have:=congrArg Int.natAbs h;simp only[Int.natAbs_mul,Int.natAbs_mul,Int.natAbs_mul,cq,cq,Int.natAbs_natCast]at this;simp only[Nat.one_mul];exact this.symm
 have f'':=Fit.cross (Nat.mul_pos (by lia) (cn nl)) hu hab f';refine⟨m0,_,f'', ?_⟩;refine PV hr ?_;have hs:0<m ↔ 0<over:=by
  have p1:(0:Int)<10 ^ nl:=Int.pow_pos (by decide);have p2:(0:Int)<10 ^ pl:=Int.pow_pos (by decide);have p3:(0:Int)<10 ^ pl*under:=Int.mul_pos p2 (by lia);simp only[Int.mul_assoc]at h
  constructor
  ·intro q;have:0<over*10 ^ nl:=by rw[h];exact Int.mul_pos q p3
   exact Int.pos_of_mul_pos_left this p1
  ·intro q;have:0<m*(10 ^ pl*under):=by rw[<-h];exact Int.mul_pos q p1
   exact Int.pos_of_mul_pos_left this p3
 simp only[Cd m0 hs,he]
 congr 1;lia
theorem y0{x e:Int}(h:x≠0):∃ (y:Int) (j:Nat),aL x e=(y,e+j)/\y % 10≠0/\y.natAbs<=x.natAbs/\10 ^ j<=x.natAbs:=by
 obtain⟨a,j,b,c⟩:=w4 _ x e rfl h;have p:=(Int.natAbs_mul (aL x e).1 (10 ^ j)).trans (congrArg (_ * ·) (cq j));rw[<-c]at p;refine⟨_,j,Prod.ext rfl b,a, ?_, ?_⟩ <;> simp only[p]
 ·exact Nat.le_mul_of_pos_right _ (cn j)
 ·exact Nat.le_mul_of_pos_left _ (Int.natAbs_pos.mpr λz=>a (by rw[z];rfl))
theorem Ej{y:Int}(h:y % 10≠0)(l:y.natAbs<=1000):y.natAbs<1000:=
 Nat.lt_of_le_of_ne l λz=>h (Int.emod_eq_zero_of_dvd (Int.ofNat_dvd_left.mpr (by rw[z];decide)))
theorem Dd(m:Int)(q:Nat):(sg m q).natAbs=q:=by
 unfold sg
 split
 ·rfl
 ·exact Int.natAbs_neg _
theorem h_{m e:Int}(hm:m≠0):(bn m e).1 % 10≠0/\(bn m e).1.natAbs<1000/\e<=(bn m e).2/\(bn m e).2<=e+cd m.natAbs:=by
 have hn:m.natAbs≠0:=Int.natAbs_ne_zero.mpr hm;unfold bn
 by_cases h3:3<cd m.natAbs
 ·obtain⟨k,hk,a1,a2⟩:=vg hn h3;have hr:=js (cn k) a1 a2;have h0:sg m (i5 m.natAbs (10 ^ k))≠0:=yY (PP (by decide) hr.1);obtain⟨y,j,e1,b1,b2,b3⟩:=y0 (e:=e+k) h0;rw[Dd]at b2 b3;rw[PW h3,hk,Nat.add_sub_cancel,gi,PX h0,e1];have hj:j<=3:=(Nat.pow_le_pow_iff_right (a:=10) (by decide)).mp (PO b3 hr.2);refine⟨b1,Ej b1 (PO b2 hr.2), ?_, ?_⟩
  ·exact Int.le_trans (Int.le_add_of_nonneg_right (Int.natCast_nonneg k)) (Int.le_add_of_nonneg_right (Int.natCast_nonneg j))
  ·exact(Int.add_assoc ..).symm ▸ Int.add_le_add_left (Int.ofNat_le.mpr (Nat.add_le_add_left hj k)) e
 ·obtain⟨y,j,e1,b1,b2,b3⟩:=y0 (e:=e) hm;rw[PX h3,gi,PX hm,e1];refine⟨b1,PQ b2 (PP (nu _) (Nat.pow_le_pow_right (by decide) (Nat.not_lt.mp h3))),Int.le_add_of_nonneg_right (Int.natCast_nonneg j),Int.add_le_add_left (Int.ofNat_le.mpr (Nat.le_of_succ_le (lK b3))) e⟩
theorem cV(e:Int):bn 0 e=(0,0):=by unfold bn gi;rw[show Int.natAbs 0=0 from rfl,i4];simp
theorem y5{N D q t:Nat}(h:N=D*q+t)(l:t<D):i5 N D=if D<2*t\/(2*t=D/\q % 2=1) then q+1 else q:=by
 have e1:N / D=q:=by simp only[h,Nat.mul_add_div (PQ (Nat.zero_le _) l),Nat.div_eq_of_lt l];rfl
 have e2:N % D=t:=by simp only[h,Nat.mul_add_mod];exact(Nat.mod_eq_of_lt l)
 unfold i5;simp only[e1,e2]
theorem E3{U p t r s:Nat}(hr:r<U)(hs:(s=0/\r=0)\/(s=1/\0<r)):(10*p<10*t+s ↔ U*p<U*t+r)/\(10*t+s=10*p ↔ U*t+r=U*p):=by
 rcases Nat.lt_trichotomy t p with h | rfl | h
 ·have l:U*t+U<=U*p:=Nat.mul_le_mul_left U h;have l1:=PP (Nat.add_lt_add_left hr (U*t)) l;have l2:10*t+s<10*p:=by clear l l1 hr;lia
  exact⟨iff_of_false (Nat.not_lt.mpr (Nat.le_of_lt l2)) (Nat.not_lt.mpr (Nat.le_of_lt l1)),iff_of_false (Nat.ne_of_lt l2) (Nat.ne_of_lt l1)⟩
 ·rcases hs with⟨rfl,rfl⟩ | ⟨rfl,h⟩
  ·exact⟨iff_of_false (Nat.lt_irrefl _) (Nat.lt_irrefl _),iff_of_true rfl rfl⟩
  ·exact⟨iff_of_true (Nat.lt_succ_self _) (Nat.lt_add_of_pos_right h),iff_of_false (Nat.succ_ne_self _) (Nat.ne_of_gt (Nat.lt_add_of_pos_right h))⟩
 ·have l:U*p+U<=U*t:=Nat.mul_le_mul_left U h;have l1:U*p<U*t+r:=PP (PP (Nat.lt_add_of_pos_right (Nat.zero_lt_of_lt hr)) l) (Nat.le_add_right _ _);have l2:10*p<10*t+s:=PP (Nat.mul_lt_mul_of_pos_left h (by decide)) (Nat.le_add_right _ _);exact⟨iff_of_true l2 l1,iff_of_false (Nat.ne_of_gt l2) (Nat.ne_of_gt l1)⟩
theorem De{A U M k:Nat}(hU:0<U)(hM:M=10*(A / U)+(if A % U=0 then 0 else 1))(hk:1<=k):i5 M (10 ^ (k+1))=i5 A (U*10 ^ k):=by
 obtain⟨p,hP⟩ : ∃ p,10 ^ k=2*p:=by obtain⟨j,rfl⟩:=Nat.exists_eq_add_of_le' hk;exact⟨5*10 ^ j,by simp only[Nat.pow_succ,Nat.mul_comm,<-Nat.mul_assoc]⟩
 have hp:0<2*p:=hP ▸ cn k;have e1:10 ^ (k+1)=2*(10*p):=by simp only[Nat.pow_succ,hP,Nat.mul_assoc,Nat.mul_comm p]
 have e2:U*10 ^ k=2*(U*p):=by simp only[hP,Nat.mul_left_comm]
 have hr:=Nat.mod_lt A hU;have hA:=Nat.div_add_mod A U;obtain⟨s,hs⟩ : ∃ s,(if A % U=0 then 0 else 1)=s:=⟨_,rfl⟩;have hs':(s=0/\A % U=0)\/(s=1/\0<A % U):=by
  rw[<-hs]
  split
  ·exact .inl ⟨rfl,‹_›⟩
  ·exact .inr ⟨rfl,Nat.pos_of_ne_zero ‹_›⟩
 rw[hs]at hM;generalize A % U=r at *
 generalize A / U=K at *
 have hK:=Nat.div_add_mod K (2*p);have ht:=Nat.mod_lt K hp;generalize K % (2*p)=t at *
 generalize K / (2*p)=q at *
 have c:=E3 (p:=p) (t:=t) hr hs';have m1:M=2*(10*p)*q+(10*t+s):=by refine PV hM ?_;rw[<-hK,Nat.mul_add,<-Nat.mul_assoc 10,Nat.mul_left_comm 10 2,Nat.add_assoc]
 have m2:A=2*(U*p)*q+(U*t+r):=by rw[<-hA,<-hK,Nat.mul_add,<-Nat.mul_assoc U,Nat.mul_left_comm U 2,Nat.add_assoc]
 have l1:10*t+s<2*(10*p):=PP (Nat.add_lt_add_left (hs'.elim (λq=>q.1.symm ▸ (by decide:0<10)) λq=>q.1.symm ▸ (by decide:1<10)) _) (PO (Nat.mul_le_mul_left 10 ht) (PR (Nat.mul_left_comm 10 2 p)));have l2:U*t+r<2*(U*p):=by simp only[Nat.mul_left_comm];exact PP (Nat.add_lt_add_left hr _) (Nat.mul_le_mul_left U ht)
 have two:0<2:=by decide
 simp only[e1,e2,y5 m1 l1,y5 m2 l2];simp only[Nat.mul_lt_mul_left two,Nat.mul_right_inj (Nat.ne_of_gt two),c.1,c.2]
noncomputable def bg(x y:Int):Nat:=5+cd y.natAbs - cd x.natAbs
noncomputable def qM(x y:Int):Nat:=10*(x.natAbs*10 ^ bg x y / y.natAbs)+(if x.natAbs*10 ^ bg x y % y.natAbs=0 then 0 else 1)
noncomputable def dI(x y e:Int):Int×Int:=(if (decide (x<0)==decide (y<0))=true then (qM x y:Int) else -(qM x y:Int),e - bg x y - 1)
theorem Ek(a c:Nat):4+c<=a+(5+c - (a+1)):=by
 have:=Nat.le_add_of_sub_le (Nat.le_refl (5+c - (a+1)));generalize 5+c - (a+1)=s at *
 lia
theorem E4(r:Nat):(if r=0 then 0 else 1)<=r:=by
 split
 ·exact Nat.zero_le _
 ·exact Nat.pos_of_ne_zero ‹_›
theorem lM{x y:Int}(hx:x≠0)(hy:y≠0):10 ^ 5<=qM x y/\qM x y<=10*(x.natAbs*10 ^ bg x y):=by
 have hY:0<y.natAbs:=Int.natAbs_pos.mpr hy;have a1:=vf (Int.natAbs_ne_zero.mpr hx);have b:10 ^ 4*y.natAbs<=x.natAbs*10 ^ bg x y:=by refine PO (Nat.mul_le_mul_left _ (Nat.le_of_lt (nu y.natAbs))) (PO ?_ (Nat.mul_le_mul_right _ a1));rw[<-Nat.pow_add,<-Nat.pow_add,bg,cU (Int.natAbs_ne_zero.mpr hx)];exact Nat.pow_le_pow_right (by decide) (Ek _ _)
 unfold qM;generalize x.natAbs*10 ^ bg x y=A at *
 have b':=(Nat.le_div_iff_mul_le hY).mpr b;refine⟨PO (Nat.mul_le_mul_left 10 b') (Nat.le_add_right _ _),PO (Nat.add_le_add_left (PO (E4 _) (Nat.le_mul_of_pos_left _ (by decide:0<10))) _) ?_⟩;rw[<-Nat.mul_add];exact Nat.mul_le_mul_left 10 (PO (Nat.add_le_add_right (Nat.le_mul_of_pos_left _ hY) _) (PR (Nat.div_add_mod A y.natAbs)))
theorem oZ{x y e:Int}:(dI x y e).1.natAbs=qM x y:=by
 unfold dI;dsimp only
 split
 ·rfl
 ·exact Int.natAbs_neg _
theorem Bi{x y e:Int}(hx:x≠0)(hy:y≠0):∃ m0 e0,Fit x.natAbs y.natAbs m0 e0/\bn (dI x y e).1 (dI x y e).2=aL (sg (dI x y e).1 m0) (e+e0):=by
 have b1:=(lM hx hy).1;have hY:0<y.natAbs:=Int.natAbs_pos.mpr hy;have c1:6<=cd (qM x y):=lK b1;have c0:3<cd (qM x y):=PP (by decide) c1;obtain⟨k',hk,a1,a2⟩:=vg (Nat.ne_of_gt (PP (by decide) b1)) c0;rw[hk]at c1;obtain⟨k,rfl⟩:=Nat.exists_eq_add_of_le' (Nat.le_of_add_le_add_right (PO (by decide:1+3<=6) c1));have st:=De (A:=x.natAbs*10 ^ bg x y) (M:=qM x y) (k:=k) hY rfl (Nat.le_of_add_le_add_right (PO (by decide:1+4<=6) c1));have f:Fit (x.natAbs*10 ^ bg x y) y.natAbs (i5 (x.natAbs*10 ^ bg x y) (y.natAbs*10 ^ k)) k:=by
  have hs1:(if x.natAbs*10 ^ bg x y % y.natAbs=0 then 0 else 1)<=1:=by
   split
   ·exact Nat.zero_le 1
   ·exact Nat.le_refl 1
  unfold qM at a1 a2;rw[Nat.pow_succ]at a1 a2;generalize (if x.natAbs*10 ^ bg x y % y.natAbs=0 then 0 else 1)=z at *
  generalize x.natAbs*10 ^ bg x y=A at *
  clear st c0 c1 hk b1;have g1:100*10 ^ k<=A / y.natAbs:=by generalize A / y.natAbs=K at *;generalize 10 ^ k=P at *;lia
  have g2:A / y.natAbs<1000*10 ^ k:=by generalize A / y.natAbs=K at *;generalize 10 ^ k=P at *;lia
  have g5:∀ c,c*(y.natAbs*10 ^ k)=c*10 ^ k*y.natAbs:=λc=>by simp only[Nat.mul_comm y.natAbs,Nat.mul_assoc]
  refine⟨0,k, ?_, ?_, ?_,(Int.sub_zero _).symm⟩ <;> simp only[Nat.pow_zero,Nat.mul_one]
  ·rw[g5];exact(Nat.le_div_iff_mul_le hY).mp g1
  ·rw[g5];exact(Nat.div_lt_iff_lt_mul hY).mp g2
 refine⟨_,_,f.unshift, ?_⟩;unfold bn;rw[oZ,PW c0,hk,Nat.add_sub_cancel,st,gi,PX (yY (PP (by decide) (f.range hY).1))];refine congrArg (aL _) ?_;show e - bg x y - 1+(k+1:Nat)=_;generalize bg x y=s;lia
theorem nx{x y e:Int}(hx:x≠0)(hy:y≠0)(hx3:x.natAbs<1000)(hy3:y.natAbs<1000):(dI x y e).1≠0/\e - 8<=(dI x y e).2/\(dI x y e).2+cd (dI x y e).1.natAbs<=e+3/\(dI x y e).1.natAbs<10 ^ 20:=by
 obtain⟨b1,b2⟩:=lM hx hy;have h1:cd x.natAbs<=3:=bk (k:=3) hx3;have h2:cd y.natAbs<=3:=bk (k:=3) hy3;have h3:1<=cd x.natAbs:=by rw[cU (Int.natAbs_ne_zero.mpr hx)];exact Nat.le_add_left 1 _
 have hs:bg x y<=7:=PO (Nat.sub_le_sub_left h3 _) (Nat.sub_le_sub_right (Nat.add_le_add_left h2 5) 1);have h4:qM x y<10 ^ (cd x.natAbs+bg x y+1):=by refine PQ b2 ?_;rw[Nat.pow_succ,Nat.mul_comm,Nat.pow_add];exact Nat.mul_lt_mul_of_pos_right (Nat.mul_lt_mul_of_pos_right (nu _) (cn _)) (by decide)
 have h5:=bk h4;rw[oZ];refine⟨λz=>?_, ?_, ?_,PP h4 (Nat.pow_le_pow_right (by decide) (PO (Nat.add_le_add_right (Nat.add_le_add h1 hs) 1) (by decide)))⟩
 ·have q:=oZ (x:=x) (y:=y) (e:=e);rw[z]at q;rw[<-q]at b1;exact absurd b1 (by decide)
 ·show e - 8<=e - bg x y - 1;generalize bg x y=s at *
  clear h5 h4 b2 b1 h1 h2 h3;lia
 ·show e - bg x y - 1+(cd (qM x y):Int)<=e+3;generalize bg x y=s at *
  generalize cd (qM x y)=c at *
  generalize cd x.natAbs=b at *
  clear h4 b2 b1 h2 h3 hs;lia
noncomputable def sm(x:Int):Prop:=x.natAbs<10 ^ 400
theorem aM{x:Int}(h:sm x):fits x=true:=by
 refine kf (k:=1600) (by decide) (PP h ?_)
 calc 10 ^ 400<=16 ^ 400:=Nat.pow_le_pow_left (by decide) _
  _=2 ^ 1600:=by rw[show(16:Nat)=2 ^ 4 from rfl,<-Nat.pow_mul]
theorem dS{x y:Int}(h:fits x=true)(e:y.natAbs<=x.natAbs):fits y=true:=by
 unfold fits at *
 rw[decide_eq_true_eq] at *
 lia
theorem y9{x:Int}(h:sm x):cd x.natAbs<=400:=bk h
noncomputable def bS(a b:String)(x y:Int):af:=[(nm a,.int x),(nm b,.int y)]
theorem Bj(call:Str->List D->M D)(K:K'):∀ (N n:Nat) (c:Int),cd n<N->fits (n:Int)=true->ay (ch call) (ci call) N (bS "n" "count" n c) K=K (bS "n" "count" 0 (c+cd n)):=by
 intro N
 induction N with
 | zero=>intro n c h;exact absurd h (Nat.not_lt_zero _)
 | succ N ih=>
  intro n c h hf;dsimp only[ay]
  by_cases h0:n=0
  ·subst h0;simp only[i4,show c+((0:Nat):Int)=c from Int.add_zero c];walk_at "e"
  ·have mJ:fits 10=true:=by decide +kernel
   have e1:(0:Int)<n:=Int.natCast_pos.mpr (Nat.pos_of_ne_zero h0);rw[cU h0]at h ⊢;have:=ih (n / 10) (c+1) (Nat.lt_of_succ_lt_succ h) (dS hf (Nat.div_le_self n 10));rw[Int.add_assoc,Int.add_comm 1,<-show(n:Int).fdiv 10=((n / 10:Nat):Int) from cZ n 10]at this;refine PV ?_ this;walk_at "e"
theorem Bk(call:Str->List D->M D)(K:K'):∀ (N n:Nat) (c:Int),cd n<9*N+9->fits (n:Int)=true->∃ (n':Nat) (c':Int),n'<10 ^ 9/\c'+cd n'=c+cd n/\ay (cG call) (cH call) (N+1) (bS "n" "count" n c) K=K (bS "n" "count" n' c'):=by
 have out:∀ (N n:Nat) (c:Int),¬ 1000000000<=n->ay (cG call) (cH call) (N+1) (bS "n" "count" n c) K=K (bS "n" "count" n c):=λN n c hn=>by have hn':¬ (1000000000:Int)<=n:=λq=>hn (Int.ofNat_le.mp q);simp only[ay];walk_at "e"
 intro N
 induction N with
 | zero=>intro n c h hf;have hn:¬ 1000000000<=n:=λh'=>absurd (lK (n:=n) (k:=9) h') (Nat.not_le.mpr (Nat.lt_succ_of_lt h));exact⟨n,c,Nat.not_le.mp hn,rfl,out 0 n c hn⟩
 | succ N ih=>
  intro n c h hf
  by_cases hn:1000000000<=n
  ·have mJ:fits 1000000000=true:=by decide +kernel
   have e2:(n:Int).fdiv 1000000000=((n / 10 ^ 9:Nat):Int):=cZ n 1000000000;have e3:(1000000000:Int)<=n:=Int.ofNat_le.mpr hn;rw[Db (n:=n) 9 hn]at h ⊢;obtain⟨n',c',a,b,e⟩:=ih (n / 10 ^ 9) (c+9) (Nat.lt_of_add_lt_add_right h) (dS hf (Nat.div_le_self n _));rw[<-e2]at e;refine⟨n',c',a,b.trans ((Int.add_assoc ..).trans (congrArg (c + ·) (Int.add_comm ..))),PV ?_ e⟩;rw[ay];walk_at "e"
  ·exact⟨n,c,Nat.not_le.mp hn,rfl,out _ n c hn⟩
theorem bG{d:Nat}{n:Int}(hd:1<=d)(h:sm n):run d (nm "count_digits") [.int n]=ret (.int (cd n.natAbs)):=by
 refine ao (ak hd) λd z1 _=>?_;obtain rfl:=z1;rw[lr];have hc:=y9 h;have hf:=b_ (aM h);refine ar (Bk (run d) (λIN=>ay (ch (run d)) (ci (run d)) cD IN λIT=>bnd (ac (aa IT (nm "count"))) λJq=>ret (.ret Jq)) 4999 n.natAbs 0 (by lia) hf) λn' c' a b e=>?_;have hn':cd n'<=9:=bk a;have e':=Bj (run d) (λIT=>bnd (ac (aa IT (nm "count"))) λJq=>ret (.ret Jq)) 5000 n' c' (by lia) (kf (k:=40) (by decide) (by
  have:10 ^ 9<2 ^ 40:=by decide
  omega))
 have t:gc (run d) (.int n)=ay (cG (run d)) (cH (run d)) (4999+1) (bS "n" "count" n.natAbs 0) (λIN=>ay (ch (run d)) (ci (run d)) cD IN λIT=>bnd (ac (aa IT (nm "count"))) λJq=>ret (.ret Jq)):=by kernel_rfl
 rw[t,e];show aq (ay _ _ 5000 _ _)=_;rw[e',b,Int.zero_add];rfl
noncomputable def pr(p:Int×Int):D:=.tup [.int p.1,.int p.2]
theorem uk(call:Str->List D->M D)(K:K'):∀ (N:Nat) (m e:Int),m≠0->cd m.natAbs<=N->fits m=true->ay (dZ call) (d0 call) N (bS "m" "e" m e) K=K (bS "m" "e" (aL m e).1 (aL m e).2):=by
 intro N
 induction N with
 | zero=>intro m e h0 h;rw[cU (Int.natAbs_ne_zero.mpr h0)]at h;exact absurd h (Nat.not_succ_le_zero _)
 | succ N ih=>
  intro m e h0 h hf;have e1:m.fmod 10=m % 10:=Int.fmod_eq_emod_of_nonneg _ (by decide);simp only[ay]
  by_cases hm:m % 10=0
  ·obtain⟨q,h1,h2,h3,h4⟩:=nv h0 hm;have mJ:fits 10=true:=by decide +kernel
   have e2:m.fdiv 10=q:=(Int.fdiv_eq_ediv_of_nonneg _ (by decide)).trans h2;have hq:cd m.natAbs=cd q.natAbs+1:=by rw[h1,Int.natAbs_mul];exact uj (Int.natAbs_ne_zero.mpr h3) 1
   have:=ih q (e+1) h3 (Nat.le_of_succ_le_succ (PO (PR hq.symm) h)) (dS hf (Nat.le_of_lt h4));rw[hZ h0 hm,h2];refine PV ?_ this;rw[<-e1]at hm;rw[<-e2];walk_at "e"
  ·rw[eI hm];rw[<-e1]at hm;walk_at "e"
theorem gj{d:Nat}{m e:Int}(hd:1<=d)(h:sm m):run d (nm "strip_zeros") [.int m,.int e]=ret (pr (gi m e)):=by
 refine ao (ak hd) λd z2 _=>?_;obtain rfl:=z2;rw[mv]
 by_cases h0:m=0
 ·subst h0;kernel_rfl
 ·have hc:=y9 h;have t:gV (run d) (.int m) (.int e)=ay (dZ (run d)) (d0 (run d)) cD (bS "m" "e" m e) λIN=>bnd (aG [ac (aa IN (nm "m")),ac (aa IN (nm "e"))]) λI6=>ret (.ret I6):=by exact B1 rfl (iF (tF (dF h0)) rfl)
  rw[t,uk _ _ _ _ _ h0 (by unfold cD;lia) (aM h)];simp only[show gi m e=aL m e from PX h0];rfl
theorem lN{k P:Nat}(h:10 ^ k=P):(10:Int) ^ k=(P:Int):=by simp only[<-h,Int.natCast_pow];rfl
theorem bX{x:Int}{k:Nat}(hk:k<=400)(h:x.natAbs<10 ^ k):sm x:=PP h (Nat.pow_le_pow_right (by omega) hk)
theorem mJ:fits 10=true:=by decide +kernel
theorem f2:fits 2=true:=by decide +kernel
theorem f1:fits 1=true:=by decide +kernel
theorem Df(N D:Nat):i5 N D<=N / D+1:=by unfold i5;split <;> lia
theorem Dg(x:Int)(q:Nat):(sg x q).natAbs=q:=by unfold sg;split <;> lia
theorem um{R:Str->List D->M D}{m e c:Int}{q r P:Nat}{z:D}(hcount:R (nm "count_digits") [.int m]=ret (.int c))(hk:0<c - 3)(hpow:ag .Pow (.int 10) (.int (c - 3))=ret (.int P))
  (hdm:au (nm "divmod") [.int m.natAbs,.int P]=ret (.tup [.int q,.int r])) (fr:fits (r:Int)=true) (hst:R (nm "strip_zeros") [.int (sg m (if P<2*r\/(2*r=P/\q % 2=1) then q+1 else q)),.int (e+(c - 3))]=ret z) :
  gd R (.int m) (.int e) (.int 3)=ret (.ret z):=by
 have f2:=f2;have e5:(q:Int).fmod 2=(q % 2:Nat):=iY q 2;unfold sg at hst
 by_cases hb:P<2*r\/(2*r=P/\q % 2=1)
 ·refine B1 (B1 hcount rfl) (B1 rfl (iT (dT hk) (B1 hpow (B1 (B1 (eV rfl (eV rfl rfl)) hdm) (B1 rfl (B1 (a:=true) ?z1 (iT rfl ?z2)))))))
  case z1=>
   by_cases c1:(P:Int)<2*r
   ·walk_at "e"
   ·have c2:2*(r:Int)=P:=by lia
    have c3:(q:Int).fmod 2=1:=by lia
    walk_at "e"
  rw[PW hb]at hst
  by_cases h0:0<m
  ·rw[PW h0]at hst;have hst:R (nm "strip_zeros") [.int ((q:Int)+1),.int (e+(c - 3))]=ret z:=hst;walk_at "e"
  ·rw[PX h0]at hst;have hst:R (nm "strip_zeros") [.int (-((q:Int)+1)),.int (e+(c - 3))]=ret z:=hst;walk_at "e"
 ·refine B1 (B1 hcount rfl) (B1 rfl (iT (dT hk) (B1 hpow (B1 (B1 (eV rfl (eV rfl rfl)) hdm) (B1 rfl (B1 (a:=false) ?z3 (iF (by decide) ?z4)))))))
  case z3=>
   have c1:¬ (P:Int)<2*r:=by lia
   by_cases c2:2*(r:Int)=P
   ·have c3:¬ (q:Int).fmod 2=1:=by lia
    walk_at "e"
   ·walk_at "e"
  rw[PX hb]at hst
  by_cases h0:0<m
  ·rw[PW h0]at hst;walk_at "e"
  ·rw[PX h0]at hst;walk_at "e"
theorem jW{d:Nat}{m e:Int}(hd:2<=d)(h:sm m):run d (nm "round_digits") [.int m,.int e,.int 3]=ret (pr (bn m e)):=by
 refine ao (ak hd) λd z1 hd'=>?_;obtain rfl:=z1;refine(lu ..).trans ?_;unfold bn
 by_cases h3:3<cd m.natAbs
 ·have hn:m.natAbs≠0:=λz=>by rw[z]at h3;exact absurd h3 (by decide)
  obtain⟨k,hk,a1,a2⟩:=vg hn h3;rw[PW h3];have e3:(cd m.natAbs:Int) - 3=(k:Int):=by rw[hk];exact Int.add_sub_cancel (k:Int) 3
  have hk0:0<k:=Nat.lt_of_add_lt_add_right (n:=3) (by simp only[Nat.zero_add,<-hk];exact h3);have g2:(k:Int)<=4000:=Int.ofNat_le.mpr (PO (PO (PO (Nat.le_add_right k 3) (PR hk.symm)) (y9 h)) (by decide));have hf:=aM h;have hP1:1<10 ^ k:=Nat.one_lt_pow (Nat.ne_of_gt hk0) (by decide);have hmP:10 ^ k<=m.natAbs:=PO (Nat.le_mul_of_pos_left _ (by decide)) a1;have hq:sm (sg m (i5 m.natAbs (10 ^ k))):=by unfold sm at h ⊢;rw[Dg];exact PQ (PO (Df _ _) (Nat.div_lt_self (Nat.pos_of_ne_zero hn) hP1)) h
  have hst:=gj (e:=e+(cd m.natAbs - 3)) hd' hq;have e4:=lN (k:=k) rfl;rw[show cd m.natAbs - 3=k from (congrArg (· - 3) hk).trans (Nat.add_sub_cancel k 3),<-e3];refine E1 (um (bG hd' h) (by rw[e3];exact Int.natCast_pos.mpr hk0) (by simp only[e3,C9 (Int.natCast_nonneg k) g2 mJ,<-e4];rfl) ((SB.2.2.2.2.2.2.2.2.1 _ _).trans ((PW ⟨Int.natCast_ne_zero.mpr (Nat.ne_of_gt (Nat.lt_of_succ_lt hP1)),b_ hf,dS hf hmP⟩).trans ?_)) (dS hf (Nat.mod_le _ (10 ^ k))) hst);rw[cZ,iY]
 ·rw[PX h3];have h3':¬ (0:Int)<(cd m.natAbs:Int) - 3:=λq=>h3 (Int.ofNat_lt.mp (Int.lt_of_sub_pos q));exact E1 (B1 (B1 (bG hd' h) rfl) (B1 rfl (iF (tF (dF h3')) (B1 (gj hd' h) rfl))))
noncomputable def bw(m e:Int):Option (Int×Int):=if (bn m e).1=0\/(bn m e).2+cd (bn m e).1.natAbs - 1 < -90 then some (0,0) else if 90<(bn m e).2+cd (bn m e).1.natAbs - 1 then none else some (bn m e)
theorem Bl{m e:Int}:sm (bn m e).1:=by
 by_cases h:m=0
 ·subst h;rw[cV];unfold sm;exact cn _
 ·exact bX (k:=3) (by omega) (h_ h).2.1
theorem ca{d:Nat}{m e:Int}(hd:3<=d)(h:sm m):run d (nm "round_real") [.int m,.int e,.int 3,.int 90]=aR ((bw m e).map pr):=by
 refine ao (ak hd) λd z2 hd'=>?_;obtain rfl:=z2;rw[oH];unfold bw;have hs:=Bl (m:=m) (e:=e);have q1:=jW (e:=e) hd' h;generalize bn m e=p at *
 have q2:=bG (d:=d) (by lia) hs;rcases P8 (p.1=0) with c1 | c1
 ·rw[PW (.inl c1)];refine E1 ?_;walk_at "e"
 ·by_cases c2:p.2+cd p.1.natAbs - 1 < -90
  ·rw[PW (.inr c2)];refine E1 ?_;walk_at "e"
  ·rw[PX λq=>q.elim c1 c2]
   by_cases c3:90<p.2+cd p.1.natAbs - 1
   ·rw[PW c3];refine EF ?_;walk_at "e"
   ·rw[PX c3];refine E1 ?_;walk_at "e"
theorem rj{m e:Int}(h1:-85<=e)(h2:e+cd m.natAbs<=87):bw m e=some (bn m e):=by
 unfold bw
 by_cases h:m=0
 ·rw[h];rw[cV];simp
 ·refine cM (h_ h (e:=e)) λb1 b2 b3 b4=>?_;have hz:(bn m e).1≠0:=λz=>b1 (by rw[z];rfl);have:cd (bn m e).1.natAbs<=3:=bk (by lia);exact(PX (by lia)).trans ((PX (by lia)))
noncomputable def aK(x y:Int×Int):Int×Int:=(x.1*10 ^ (x.2 - min x.2 y.2).toNat+y.1*10 ^ (y.2 - min x.2 y.2).toNat,min x.2 y.2)
structure Rl(b:Nat)(x:Int×Int):Prop where
 low:x.1.natAbs<1000
 exp:x.2.natAbs<=b
theorem lO{k:Nat}(h:k<400):sm (10 ^ k):=by unfold sm;exact Nat.pow_lt_pow_right (by lia) h
theorem ab{x:Int}{b:Nat}(h:x.natAbs<=b):-(b:Int)<=x/\x<=b:=⟨Int.neg_le_of_neg_le (Int.le_trans (Int.le_natAbs (a:=-x)) (Int.ofNat_le.mpr (PO (PR (Int.natAbs_neg x)) h))),Int.le_trans Int.le_natAbs (Int.ofNat_le.mpr h)⟩
theorem Fx{b:Nat}{x y:Int}(hx:x.natAbs<=b)(hy:y.natAbs<=b)(h:x<=y):∃ j:Nat,y - x=j/\j<=2*b ∧ -(b:Int)<=x/\x+j<=b:=by obtain⟨j,e⟩:=Int.eq_ofNat_of_zero_le (Int.sub_nonneg_of_le h);obtain⟨h1,_⟩:=ab hx;obtain⟨_,h2⟩:=ab hy;exact⟨j,e,by lia,h1,by lia⟩
theorem mn{b:Nat}{x y:Int}(hx:x.natAbs<=b)(hy:y.natAbs<=b):∃ (m:Int) (i j:Nat),min x y=m/\x - m=i/\y - m=j/\i<=2*b/\j<=2*b ∧ -(b:Int)<=m/\m+i+j<=b:=by
 rcases Int.le_total x y with h | h
 ·obtain⟨j,e,h1,h2,h3⟩:=Fx hx hy h;exact⟨x,0,j,Int.min_eq_left h,Int.sub_self x,e,Nat.zero_le _,h1,h2,(congrArg (· + (j:Int)) (Int.add_zero x)).symm ▸ h3⟩
 ·obtain⟨j,e,h1,h2,h3⟩:=Fx hy hx h;exact⟨y,j,0,Int.min_eq_right h,e,Int.sub_self y,h1,Nat.zero_le _,h2,(Int.add_zero (y+j)).symm ▸ h3⟩
theorem Bn(a b:Int):(if b<a then b else a)=min a b:=PU (Int.lt_or_le b a) (λh=>(PW h).trans (Int.min_eq_right (Int.le_of_lt h)).symm) λh=>(PX (Int.not_lt.mpr h)).trans (Int.min_eq_left h).symm
theorem ff{d b:Nat}{x y:Int×Int}(hd:1<=d)(hb:b<=100)(hx:Rl b x)(hy:Rl b y):run d (nm "exact_add") [pr x,pr y]=ret (pr (aK x y)):=by refine ao (ak hd) λd z3 hd'=>?_;obtain rfl:=z3;refine(qN ..).trans ?_;obtain⟨x1,x2⟩:=x;obtain⟨y1,y2⟩:=y;have fx:fits x1=true:=aM (bX (k:=3) (by decide) hx.low);have fy:fits y1=true:=aM (bX (k:=3) (by decide) hy.low);unfold aK;dsimp only;obtain⟨m,i,j,e1,e2,e3,h1,h2,_⟩:=mn hx.exp hy.exp;dsimp only at e1 e2 e3;have hm:au (nm "min") [.int x2,.int y2]=ret (.int (min x2 y2)):=(SB.2.2.1 _ _).trans (congrArg (λz=>ret (D.int z)) (Bn x2 y2));rw[e1]at hm ⊢;have q:∀ k:Nat,k<=2*b->(k:Int)<=4000/\fits (10 ^ (k:Int).toNat)=true:=λk hk=>⟨Int.ofNat_le.mpr (PO hk (PO (Nat.mul_le_mul_left 2 hb) (by decide))),aM (lO (PQ hk (PQ (Nat.mul_le_mul_left 2 hb) (by decide))))⟩;obtain⟨g3,s1⟩:=q i h1;obtain⟨g4,s2⟩:=q j h2;have g1:=Int.natCast_nonneg i;have g2:=Int.natCast_nonneg j;have mJ:=mJ;simp only[e2,e3];have p1:ag .Sub (.int x2) (.int m)=ret (.int i):=congrArg (λz=>ret (D.int z)) e2;have p2:ag .Sub (.int y2) (.int m)=ret (.int j):=congrArg (λz=>ret (D.int z)) e3;exact E1 (by walk_at "e")
theorem FO(a b:Int):subD (.tup [.int a,.int b]) (.int 0)=ret (.int a):=rfl
theorem El(a b:Int):subD (.tup [.int a,.int b]) (.int 1)=ret (.int b):=rfl
theorem Rl.fits{b:Nat}{x:Int×Int}(h:Rl b x):fits x.1=true:=aM (bX (k:=3) (by lia) h.low)
theorem o3{d b:Nat}{x y:Int×Int}(hd:1<=d)(hx:Rl b x)(hy:Rl b y):run d (nm "exact_mul") [pr x,pr y]=ret (pr (x.1*y.1,x.2+y.2)):=by refine ao (ak hd) λd z1 hd'=>?_;obtain rfl:=z1;rw[qP];have a:=hx.fits;have b:=hy.fits;walk_at "e"
noncomputable def ic(x:Int×Int):Int×Int:=(-x.1,x.2)
theorem gk{d:Nat}{x:Int×Int}(hd:1<=d):run d (nm "real_neg") [pr x]=ret (pr (ic x)):=by refine ao (ak hd) λd z2 hd'=>?_;obtain rfl:=z2;exact E1 rfl
theorem Rl.neg{b:Nat}{x:Int×Int}(h:Rl b x):Rl b (ic x):=⟨by have:=h.low;unfold ic;simp;omega,h.exp⟩
theorem dU{b:Nat}{x y:Int×Int}(hx:Rl b x)(hy:Rl b y):(aK x y).1.natAbs<10 ^ (2*b+4) ∧ -(b:Int)<=(aK x y).2/\(aK x y).2+cd (aK x y).1.natAbs<=b+4:=by
 obtain⟨m,i,j,e1,e2,e3,h1,h2,h3,h4⟩:=mn hx.exp hy.exp;unfold aK;dsimp only;simp only[e1,e2,e3];have e:∀ {z:Int} {j k:Nat},z.natAbs<1000->j<=k->(z*10 ^ j).natAbs<=1000*10 ^ k:=λ{z j k} hz hj=>by simp only[Int.natAbs_mul,cq];exact Nat.mul_le_mul (Nat.le_of_lt hz) (Nat.pow_le_pow_right (by decide) hj)
 have key:∀ k:Nat,i<=k->j<=k->(x.1*10 ^ i+y.1*10 ^ j).natAbs<10 ^ (k+4):=λk p q=>by refine PQ (PO (Int.natAbs_add_le _ _) (Nat.add_le_add (e hx.low p) (e hy.low q))) ?_;simp only[Nat.pow_add];have:=cn k;lia
 refine⟨key _ h1 h2,h3, ?_⟩;exact Int.le_trans (Int.add_le_add_left (Int.ofNat_le.mpr (bk (key (i+j) (Nat.le_add_right _ _) (Nat.le_add_left _ _)))) m) (by clear key e e1 e2 e3;omega)
theorem rp{d b:Nat}{x y:Int×Int}(hd:4<=d)(hb:b<=80)(hx:Rl b x)(hy:Rl b y):run d (nm "real_add") [pr x,pr y,.int 3,.int 90]=aR ((bw (aK x y).1 (aK x y).2).map pr):=by
 refine ao (ak hd) λd z3 hd'=>?_;obtain rfl:=z3;rw[tA];have h:=bX (k:=2*b+4) (by lia) (dU hx hy).1;have a1:1<=d:=by lia
 have e:=ff (d:=d) a1 (by lia) hx hy;have r:=λe=>ca (e:=e) hd' h;have r:=r (aK x y).2;walk_at "t"
theorem rq{d b:Nat}{x y:Int×Int}(hd:4<=d)(hb:b<=80)(hx:Rl b x)(hy:Rl b y):run d (nm "real_sub") [pr x,pr y,.int 3,.int 90]=aR ((bw (aK x (ic y)).1 (aK x (ic y)).2).map pr):=by
 refine ao (ak hd) λd z4 hd'=>?_;obtain rfl:=z4;rw[tC];have h:=bX (k:=2*b+4) (by omega) (dU hx hy.neg).1;have a1:1<=d:=by omega
 have e:=ff (d:=d) a1 (by omega) hx hy.neg;have q:=gk (x:=y) a1;have r:=λe=>ca (e:=e) hd' h;have r:=r (aK x (ic y)).2;walk_at "t"
theorem rs{d b:Nat}{x y:Int×Int}(hd:4<=d)(hx:Rl b x)(hy:Rl b y):run d (nm "real_mul") [pr x,pr y,.int 3,.int 90]=aR ((bw (x.1*y.1) (x.2+y.2)).map pr):=by
 refine ao (ak hd) λd z5 hd'=>?_;obtain rfl:=z5;rw[tE];have h:sm (x.1*y.1):=bX (k:=6) (by lia) (by rw[Int.natAbs_mul];have:=Nat.mul_le_mul (Nat.le_of_lt_succ (show x.1.natAbs<999+1 from hx.low)) (Nat.le_of_lt_succ (show y.1.natAbs<999+1 from hy.low));lia)
 have a1:1<=d:=by lia
 have e:=o3 (d:=d) a1 hx hy;have r:=ca (e:=x.2+y.2) hd' h;walk_at "t"
theorem ry{d:Nat}{x y e:Int}(hd:2<=d)(hx:x.natAbs<1000)(hy:y.natAbs<1000)(h0:y≠0):run d (nm "quotient") [.int x,.int y,.int e,.int 3]=ret (pr (dI x y e)):=by
 refine ao (ak hd) λd z6 hd'=>?_;obtain rfl:=z6;rw[ty];have sx:sm x:=bX (k:=3) (by lia) hx;have sy:sm y:=bX (k:=3) (by lia) hy;have hc:=bk (n:=y.natAbs) (k:=3) (by lia);have hle:cd x.natAbs<=5+cd y.natAbs:=PO (bk (k:=3) hx) (PO (by decide:3<=5) (Nat.le_add_right 5 _));obtain⟨S,hS⟩ : ∃ S,bg x y=S:=⟨_,rfl⟩;have hs:S<=8:=by rw[<-hS];exact PO (Nat.sub_le _ _) (Nat.add_le_add_left (bk (k:=3) hy) 5)
 have e0:(3:Int)+2+cd y.natAbs - cd x.natAbs=(S:Int):=by rw[<-hS];exact(Int.ofNat_sub hle).symm
 have e1:(if (3:Int)+2+cd y.natAbs - cd x.natAbs<0 then 0 else (3:Int)+2+cd y.natAbs - cd x.natAbs)=(S:Int):=by rw[e0];exact PX (Int.not_lt.mpr (Int.natCast_nonneg S))
 obtain⟨P,hP⟩ : ∃ P:Nat,10 ^ S=P:=⟨_,rfl⟩;have e2:=lN hP;have fP:fits (P:Int)=true:=by rw[<-e2];exact aM (lO (PQ hs (by decide)))
 have fA:fits ((x.natAbs:Int)*(P:Int))=true:=by rw[<-e2];refine aM (bX (k:=12) (by decide) ?_);simp only[Int.natAbs_mul,cq];exact PQ (Nat.mul_le_mul (Nat.le_of_lt hx) (Nat.pow_le_pow_right (by decide) hs)) (by decide)
 have g1:(0:Int)<=S:=Int.natCast_nonneg S;have g2:(S:Int)<=4000:=Int.ofNat_le.mpr (PO hs (by decide));have g3:¬ (y.natAbs:Int)=0:=Int.natCast_ne_zero.mpr (Int.natAbs_ne_zero.mpr h0);have e3:(x.natAbs:Int)*(P:Int)=((x.natAbs*P:Nat):Int):=(Int.natCast_mul ..).symm;have a1:1<=d:=hd';have e4:au (nm "divmod") [.int (x.natAbs*P),.int y.natAbs]=ret (.tup [.int (x.natAbs*P / y.natAbs:Nat),.int (x.natAbs*P % y.natAbs:Nat)]):=by refine(SB.2.2.2.2.2.2.2.2.1 _ _).trans ((PW ⟨g3,fA,b_ (aM sy)⟩).trans ?_);simp only[e3,cZ,iY]
 have fK:fits (((x.natAbs*P / y.natAbs:Nat):Int))=true:=dS fA (by simp only[e3,Int.natAbs_natCast,Int.natAbs_natCast];exact Nat.div_le_self ..);have hq:dI x y e=(if (decide (x<0)==decide (y<0))=true then ((10*(x.natAbs*P / y.natAbs)+(if x.natAbs*P % y.natAbs=0 then 0 else 1):Nat):Int) else -((10*(x.natAbs*P / y.natAbs)+(if x.natAbs*P % y.natAbs=0 then 0 else 1):Nat):Int),e - S - 1):=by unfold dI qM;rw[hS,hP]
 simp only[hq];generalize x.natAbs*P / y.natAbs=K at *
 generalize x.natAbs*P % y.natAbs=r at *
 have mJ:=mJ;have fa:=b_ (aM sx);have c1:=bG a1 sx;have c2:=bG a1 sy;have hm:au (nm "max") [.int (3+2+cd y.natAbs - cd x.natAbs),.int 0]=ret (.int S):=(SB.2.2.2.1 _ _).trans (congrArg (λz=>ret (D.int z)) e1);have hp:ag .Pow (.int 10) (.int S)=ret (.int P):=by refine PV (C9 g1 g2 mJ) ?_;exact(Eq.symm e2) ▸ rfl
 clear hs hS e0 hle hP e1 e2 e3 fA g1 g2 g3 hq sx sy hc hx hy a1 hd hd' h0;have hr:(if ((r:Int) !=0)=true then D.int 1 else D.int 0)=.int (if r=0 then 0 else 1:Nat):=by by_cases hr:r=0 <;> simp[hr]
 refine E1 (B1 (B1 (eV (B1 (B1 rfl (B1 c2 rfl)) (B1 c1 rfl)) (eV rfl rfl)) hm) (B1 (B1 (eV (B1 rfl (B1 hp (oU fa fP))) (eV rfl rfl)) e4) (B1 rfl (B1 (a:=.int (10*(K:Int)+(if r=0 then 0 else 1:Nat))) ?_ ?_))))
 ·refine B1 (B1 rfl (oU mJ fK)) (B1 (a:=.int (if r=0 then 0 else 1:Nat)) ?_ rfl);rw[<-hr];refine B1 rfl ?_
  split <;> rfl
 ·induction hs':(decide (x<0)==decide (y<0))
  ·rw[PX Bool.false_ne_true];walk_at "e"
  ·rw[PW (c:=true=true) rfl];walk_at "e"
theorem rA{d b:Nat}{x y:Int×Int}(hd:4<=d)(hx:Rl b x)(hy:Rl b y) :
  run d (nm "real_div") [pr x,pr y,.int 3,.int 90]=aR (if y.1=0 then none else (bw (dI x.1 y.1 (x.2 - y.2)).1 (dI x.1 y.1 (x.2 - y.2)).2).map pr):=by
 refine ao (ak hd) λd z7 hd'=>?_;obtain rfl:=z7;rw[tH]
 by_cases h0:y.1=0
 ·rw[PW h0];exact EF (B1 (B1 rfl rfl) (iT (dT h0) rfl))
 ·have h:sm (dI x.1 y.1 (x.2 - y.2)).1:=by
   by_cases hx0:x.1=0
   ·have:(dI x.1 y.1 (x.2 - y.2)).1=0:=by unfold dI qM;rw[hx0];simp
    simp only[this];exact cn _
   ·exact bX (k:=20) (by lia) (nx hx0 h0 hx.low hy.low).2.2.2
  have e:=ry (d:=d) (x:=x.1) (y:=y.1) (e:=x.2 - y.2) (by lia) hx.low hy.low h0;have r:=ca (e:=(dI x.1 y.1 (x.2 - y.2)).2) hd' h;rw[PX h0];walk_at "t"
theorem jX{d b:Nat}{x y:Int×Int}(hd:2<=d)(hb:b<=80)(hx:Rl b x)(hy:Rl b y):run d (nm "real_compare") [pr x,pr y]=ret (.int (if (aK x (ic y)).1=0 then 0 else if 0<(aK x (ic y)).1 then 1 else -1)):=by
 refine ao (ak hd) λd z8 hd'=>?_;obtain rfl:=z8;rw[ly];have e:=ff (d:=d) hd' (by omega) hx hy.neg;have q:=gk (x:=y) hd'
 by_cases h1:(aK x (ic y)).1=0
 ·rw[PW h1];walk_at "e"
 ·rw[PX h1]
  by_cases h2:0<(aK x (ic y)).1
  ·rw[PW h2];walk_at "e"
  ·rw[PX h2];walk_at "e"
theorem lP{d:Nat}{n:Int}(hd:4<=d)(h:sm n):run d (nm "real_of_int") [.int n,.int 3,.int 90]=aR ((bw n 0).map pr):=by refine ao (ak hd) λd z9 hd'=>?_;obtain rfl:=z9;rw[my];exact ET (ca hd' h)
noncomputable def jL(x:Int×Int):Int:=if 0<=x.2 then x.1*10 ^ x.2.toNat else if 0<x.1 then ((x.1.natAbs / 10 ^ (-x.2).toNat:Nat):Int) else -((x.1.natAbs / 10 ^ (-x.2).toNat:Nat):Int)
theorem lQ{d b:Nat}{x:Int×Int}(hd:1<=d)(hb:b<=300)(hx:Rl b x):run d (nm "real_to_int") [pr x]=ret (.int (jL x)):=by
 refine ao (ak hd) λd z10 hd'=>?_;rw[z10];rw[mA];have hf:=hx.fits;obtain⟨a1,a2⟩:=hx;obtain⟨m,e⟩:=x;dsimp only at a1 a2 hf;delta jL pr
 by_cases he:0<=e
 ·have g:e<=4000:=by lia
  have s:=aM (lO (k:=e.toNat) (by lia));have mJ:=mJ;rw[PW he];walk_at "e"
 ·obtain⟨P,hP⟩ : ∃ P:Nat,10 ^ (-e).toNat=P:=⟨_,rfl⟩;have e2:=lN hP;have fP:fits (P:Int)=true:=by rw[<-e2];exact aM (lO (by lia))
  have hp:¬ (P:Int)=0:=by have:=cn (-e).toNat;lia
  have g1:0 ≤ -e:=by lia
  have g2:-e<=4000:=by lia
  rw[hP];have q:ag .Pow (.int 10) (.int (-e))=ret (.int P):=by simp only[C9 g1 g2 mJ,<-e2]
  have q2:ag .FloorDiv (.int m.natAbs) (.int P)=ret (.int (m.natAbs / P:Nat)):=by simp only[Bd hp (b_ hf) fP,cZ]
  rw[PX he]
  by_cases hm:0<m
  ·rw[PW hm];walk_at "e"
  ·rw[PX hm];walk_at "e"
noncomputable def vm(op:String)(x y:Int×Int):Option (Int×Int):=
 if op = "add" then bw (aK x y).1 (aK x y).2 else if op = "sub" then bw (aK x (ic y)).1 (aK x (ic y)).2
 else if op = "mul" then bw (x.1*y.1) (x.2+y.2) else if y.1=0 then none else bw (dI x.1 y.1 (x.2 - y.2)).1 (dI x.1 y.1 (x.2 - y.2)).2
theorem fg{d:Nat}{lim:D}{w:Int}{σ:St}(hd:1<=d)(L:dC lim w σ):run d (nm "digits_of") [.int 1,lim] σ=.ok (.int 3) σ:=by refine ao (ak hd) λd z11 hd'=>?_;obtain rfl:=z11;rw[qR];exact u_ (cv rfl L.digits)
theorem lR{d b:Nat}{op:String}{x y:Int×Int}{w:Int}{lim:D}{σ:St}(hd:5<=d)(hb:b<=80)(hx:Rl b x)(hy:Rl b y)(L:dC lim w σ)(ho:op∈["add","sub","mul","div"]) :
  run d (nm "real_binary") [.str (nm op),.int 1,pr x,pr y,lim] σ=aR ((vm op x y).map pr) σ:=by
 refine ao (ak hd) λd z12 hd'=>?_;obtain rfl:=z12;rw[gW];simp only[List.mem_cons,List.not_mem_nil,or_false]at ho;have e:=fg (d:=d) (by lia) L;have t:=L.top;rcases ho with rfl | rfl | rfl | rfl
 ·have q:_=aR ((vm "add" x y).map pr) σ:=congrFun (rp hd' hb hx hy) σ;walk_at "u"
 ·have q:_=aR ((vm "sub" x y).map pr) σ:=congrFun (rq hd' hb hx hy) σ;walk_at "u"
 ·have q:_=aR ((vm "mul" x y).map pr) σ:=congrFun (rs hd' hx hy) σ;walk_at "u"
 ·have q:=congrFun (rA hd' hx hy) σ;rw[show vm "div" x y=if y.1=0 then none else bw (dI x.1 y.1 (x.2 - y.2)).1 (dI x.1 y.1 (x.2 - y.2)).2 from rfl];rw[show(if y.1=0 then none else (bw (dI x.1 y.1 (x.2 - y.2)).1 (dI x.1 y.1 (x.2 - y.2)).2).map pr)=(if y.1=0 then none else bw (dI x.1 y.1 (x.2 - y.2)).1 (dI x.1 y.1 (x.2 - y.2)).2).map pr by split <;> rfl]at q;walk_at "u"
theorem rB{d b:Nat}{op:String}{x y:Int×Int}{w:Int}{lim:D}{σ:St}(hd:5<=d)(hb:b<=80)(hx:Rl b x)(hy:Rl b y)(L:dC lim w σ)(ho:op∈rels) :
  run d (nm "real_binary") [.str (nm op),.int 1,pr x,pr y,lim] σ=.ok (.bool (iZ op (if (aK x (ic y)).1=0 then 0 else if 0<(aK x (ic y)).1 then 1 else -1))) σ:=by
 refine ao (ak hd) λd z13 hd'=>?_;obtain rfl:=z13;rw[gW];have ho':=ho;have a1:1<=d:=by lia
 have a2:2<=d:=by lia
 simp only[rels,List.mem_cons,List.not_mem_nil,or_false]at ho;have e:=fg (d:=d) (by lia) L;have t:=L.top;have q:=jX a2 hb hx hy;have q2:=rS (σ:=σ) (lJ a1 ho' (o:=if (aK x (ic y)).1=0 then 0 else if 0<(aK x (ic y)).1 then 1 else -1));rcases ho with rfl | rfl | rfl | rfl | rfl | rfl <;> walk_at "u"
noncomputable def F5(over under e size:Int):af:=[(nm "over",.int over),(nm "under",.int under),(nm "digits",.int 3),(nm "e",.int e),(nm "size",.int size)]
noncomputable def F7(over under e size m rest:Int):af:=[(nm "over",.int over),(nm "under",.int under),(nm "digits",.int 3),(nm "e",.int e),(nm "size",.int size),(nm "m",.int m),(nm "rest",.int rest)]
theorem vn:fits 1000=true:=by decide +kernel
theorem vo:ag .Pow (.int 10) (.int 3)=ret (.int 1000):=by kernel_rfl
theorem dD{n k:Nat}(hk:k<=400)(h:n<10 ^ k):fits (n:Int)=true:=aM (bX hk (by simpa using h))
theorem w7(call:Str->List D->M D)(K:K')(over:Int)(u:Nat)(hu:u<10 ^ 300):∀ (N s:Nat) (e:Int),0<s->s<10 ^ 310->u*1000<=s*10 ^ (N+1) →
  ∃ a:Nat,u*1000<=s*10 ^ a*10/\(a=0\/s*10 ^ a<u*1000)/\ay (ey call) (ez call) (N+1) (F5 over u e s) K=K (F5 over u (e - a) (s*10 ^ a:Nat)):=by
 have mJ:=mJ;have vn:=vn;have vo:=vo;have fu:=dD (by decide) hu;have out:∀ (N s:Nat) (e:Int),s<10 ^ 310->¬ s*10<u*1000->∃ a:Nat,u*1000<=s*10 ^ a*10/\(a=0\/s*10 ^ a<u*1000)/\ay (ey call) (ez call) (N+1) (F5 over u e s) K=K (F5 over u (e - a) (s*10 ^ a:Nat)):=λN s e hs h=>by have c1:¬ (s:Int)*10<u*1000:=λq=>h (Int.ofNat_lt.mp q);have fs:=dD (by decide) hs;refine⟨0,by simp only[Nat.pow_zero,Nat.mul_one];exact Nat.not_lt.mp h,.inl rfl, ?_⟩;simp only[ay,Nat.pow_zero,Nat.mul_one,show e - ((0:Nat):Int)=e from Int.sub_zero e];walk_at "e"
 intro N
 induction N with
 | zero=>exact λs e h0 hs h=>out 0 s e hs (Nat.not_lt.mpr h)
 | succ N ih=>
  intro s e h0 hs h
  by_cases hc:s*10<u*1000
  ·have fs:=dD (by decide) hs;have c1:(s:Int)*10<u*1000:=Int.ofNat_lt.mpr hc;obtain⟨a,h1,h2,h3⟩:=ih (s*10) (e - 1) (Nat.mul_pos h0 (by decide)) (PP hc (PO (Nat.mul_le_mul_right 1000 (Nat.le_of_lt hu)) (by decide +kernel))) (by rw[Nat.mul_assoc,<-Nat.pow_succ'];exact h);have e1:s*10*10 ^ a=s*10 ^ (a+1):=by simp only[Nat.pow_succ',Nat.mul_assoc]
   rw[e1]at h1 h2 h3;refine⟨a+1,h1,.inr ?_, ?_⟩
   ·rcases h2 with rfl | h2
    ·exact hc
    ·exact h2
   ·rw[show e - ((a+1:Nat):Int)=e - 1 - a from by clear h1 h2 h3 c1 hc;lia,<-h3];rw[ay];walk_at "e"
  ·exact out _ s e hs hc
theorem w8(call:Str->List D->M D)(K:K')(over:Int)(s:Nat)(hs:s<10 ^ 310):∀ (N u:Nat) (e:Int),0<u->u<10 ^ 311->s<u*1000*10 ^ N →
  ∃ b:Nat,s<u*10 ^ b*1000/\(b=0\/u*10 ^ b*100<=s)/\ay (cQ call) (cR call) (N+1) (F5 over u e s) K=K (F5 over (u*10 ^ b:Nat) (e+b) s):=by
 have mJ:=mJ;have vn:=vn;have vo:=vo;have fs:=dD (by decide) hs;have out:∀ (N u:Nat) (e:Int),u<10 ^ 311->¬ u*1000<=s->∃ b:Nat,s<u*10 ^ b*1000/\(b=0\/u*10 ^ b*100<=s)/\ay (cQ call) (cR call) (N+1) (F5 over u e s) K=K (F5 over (u*10 ^ b:Nat) (e+b) s):=λN u e hu h=>by have c1:¬ (u:Int)*1000<=s:=λq=>h (Int.ofNat_le.mp q);have fu:=dD (by decide) hu;refine⟨0,by rw[Nat.pow_zero,Nat.mul_one];exact Nat.not_le.mp h,.inl rfl, ?_⟩;simp only[ay,Nat.pow_zero,Nat.mul_one,show e+((0:Nat):Int)=e from Int.add_zero e];walk_at "e"
 intro N
 induction N with
 | zero=>exact λu e h0 hu h=>out 0 u e hu (Nat.not_le.mpr (Nat.lt_of_lt_of_eq h (Nat.mul_one _)))
 | succ N ih=>
  intro u e h0 hu h
  by_cases hc:u*1000<=s
  ·have fu:=dD (by decide) hu;have c1:(u:Int)*1000<=s:=Int.ofNat_le.mpr hc;obtain⟨b,h1,h2,h3⟩:=ih (u*10) (e+1) (Nat.mul_pos h0 (by decide)) (PQ (PO (Nat.mul_le_mul_left u (by decide:10<=1000)) hc) (PP hs (by decide +kernel))) (by
    have:u*10*1000*10 ^ N=u*1000*10 ^ (N+1):=by rw[Nat.pow_succ'];ac_rfl
    simp only[this];exact h)
   have e1:u*10*10 ^ b=u*10 ^ (b+1):=by rw[Nat.pow_succ',Nat.mul_assoc]
   rw[e1]at h1 h2 h3;refine⟨b+1,h1,.inr ?_, ?_⟩
   ·rcases h2 with rfl | h2
    ·simp only[Nat.zero_add,Nat.pow_one,Nat.mul_assoc];exact hc
    ·exact h2
   ·rw[show e+((b+1:Nat):Int)=e+1+b from by clear h1 h2 h3 c1 hc;lia,<-h3];rw[ay];walk_at "e"
  ·exact out _ u e hu hc
theorem w9(call:Str->List D->M D)(K:K')(over u s r:Int):∀ (N:Nat) (m e:Int),m≠0->cd m.natAbs<=N->fits m=true →
  ay (cS call) (cT call) N (F7 over u e s m r) K=K (F7 over u (aL m e).2 s (aL m e).1 r):=by
 intro N
 induction N with
 | zero=>intro m e h0 h;rw[cU (Int.natAbs_ne_zero.mpr h0)]at h;exact absurd h (Nat.not_succ_le_zero _)
 | succ N ih=>
  intro m e h0 h hf;have e1:m.fmod 10=m % 10:=Int.fmod_eq_emod_of_nonneg _ (by decide);simp only[ay]
  by_cases hm:m % 10=0
  ·obtain⟨q,h1,h2,h3,h4⟩:=nv h0 hm;have mJ:=mJ;have e2:m.fdiv 10=q:=(Int.fdiv_eq_ediv_of_nonneg _ (by decide)).trans h2;have hq:cd m.natAbs=cd q.natAbs+1:=by rw[h1,Int.natAbs_mul];exact uj (Int.natAbs_ne_zero.mpr h3) 1
   have:=ih q (e+1) h3 (Nat.le_of_succ_le_succ (PO (PR hq.symm) h)) (dS hf (Nat.le_of_lt h4));rw[hZ h0 hm,h2];refine PV ?_ this;rw[<-e1]at hm;rw[<-e2];walk_at "e"
  ·rw[eI hm];rw[<-e1]at hm;walk_at "e"
noncomputable def rC:K':=λIW=>bnd (aG [bnd (bnd (ac (aa IW (nm "over"))) λL0=>ae .Gt L0 (.int 0)) λMO=>if MO then ac (aa IW (nm "m")) else bnd (ac (aa IW (nm "m"))) λMP=>dk MP,ac (aa IW (nm "e"))]) λMQ=>ret (.ret MQ)
theorem Bo{over u e s m r:Int}:rC (F7 over u e s m r)=ret (.ret (pr (if 0<over then m else -m,e))):=by
 by_cases h:0<over
 ·rw[PW h];walk_at "e"
 ·rw[PX h];walk_at "e"
noncomputable def ny(R:Str->List D->M D):K':=λJi=>bnd (bnd (ac (aa Ji (nm "size"))) λJB=>bnd (ac (aa Ji (nm "under"))) λJX=>ag .FloorDiv JB JX) λJY=>bnd (ret (aj Ji (nm "m") JY)) λJF=>bnd (bnd (bnd (ac (aa JF (nm "size"))) λIL=>bnd (bnd (ac (aa JF (nm "m"))) λKn=>bnd (ac (aa JF (nm "under"))) λJ_=>ag .Mult Kn J_) λKf=>ag .Sub IL Kf) λJO=>ag .Mult (.int 2) JO) λLZ=>bnd (ret (aj JF (nm "rest") LZ)) λIC=>bnd (bnd (bnd (ac (aa IC (nm "rest"))) λJZ=>bnd (ac (aa IC (nm "under"))) λKm=>ae .Gt JZ Km) λb46=>bi .Or b46 (bnd (bnd (bnd (ac (aa IC (nm "rest"))) λKh=>bnd (ac (aa IC (nm "under"))) λKy=>ae .Eq Kh Ky) λb50=>bi .And b50 (bnd (bnd (bnd (ac (aa IC (nm "m"))) λKL=>ag .Mod KL (.int 2)) λKd=>ae .Eq Kd (.int 1)) λb53=>bi .And b53 (ret true))) λb49=>bi .Or b49 (ret false))) λMN=>if MN then bnd (bnd (ac (aa IC (nm "m"))) λJ0=>ag .Add J0 (.int 1)) λKi=>bnd (ret (aj IC (nm "m") Ki)) λK_=>ay (cS R) (cT R) cD K_ rC else ay (cS R) (cT R) cD IC rC
theorem Bp{R:Str->List D->M D}{over e:Int}{S U q r:Nat}(q0:(U:Int)≠0)(fS:fits (S:Int)=true)(fU:fits (U:Int)=true)(fm:fits (q:Int)=true)(frest:fits (r:Int)=true)(hdiv:(S:Int).fdiv U=q)(hsub:(S:Int) - (q:Int)*(U:Int)=r) :
  ny R (F5 over U e S)=ay (cS R) (cT R) cD (F7 over U e S (if U<2*r\/(2*r=U/\q % 2=1) then q+1 else q:Nat) (2*r)) rC:=by
 have hd1:ag .FloorDiv (.int S) (.int U)=ret (.int q):=by refine PV (Bd q0 fS fU) ?_;rw[hdiv]
 have hs:ag .Sub (.int S) (.int (q*U))=ret (.int r):=by rw[<-hsub];rfl
 have f2:=f2;have e5:(q:Int).fmod 2=(q % 2:Nat):=iY q 2
 by_cases hb:U<2*r\/(2*r=U/\q % 2=1)
 ·rw[PW hb];refine B1 (B1 rfl (B1 rfl hd1)) (B1 rfl (B1 (B1 (B1 rfl (B1 (B1 rfl (B1 rfl (oU fm fU))) hs)) (oU f2 frest)) (B1 rfl (B1 (a:=true) ?z1 (iT rfl ?z2)))))
  case z1=>
   by_cases c1:(U:Int)<2*r
   ·walk_at "e"
   ·have c2:2*(r:Int)=U:=by lia
    have c3:(q:Int).fmod 2=1:=by lia
    walk_at "e"
  walk_at "e"
 ·rw[PX hb];refine B1 (B1 rfl (B1 rfl hd1)) (B1 rfl (B1 (B1 (B1 rfl (B1 (B1 rfl (B1 rfl (oU fm fU))) hs)) (oU f2 frest)) (B1 rfl (B1 (a:=false) ?z3 (iF (by decide) ?z4)))))
  case z3=>
   have c1:¬ (U:Int)<2*r:=by lia
   by_cases c2:2*(r:Int)=U
   ·have c3:¬ (q:Int).fmod 2=1:=by lia
    walk_at "e"
   ·walk_at "e"
  walk_at "e"
theorem lS{d:Nat}{over:Int}{u m0:Nat}{e0:Int}(hd:1<=d)(h0:over≠0)(hu:0<u)(ho':over.natAbs<10 ^ 300)(hu':u<10 ^ 300)(f:Fit over.natAbs u m0 e0) :
  run d (nm "_law_fit") [.int over,.int u,.int 3]=ret (pr (aL (sg over m0) e0)):=by
 refine ao (ak hd) λd z1 _=>?_;obtain rfl:=z1;rw[nk];obtain⟨N,hN,hN4⟩ : ∃ N,cD=N+1/\400<=N:=⟨4999,rfl,by decide⟩;have t:gz (run d) (.int over) (.int u) (.int 3)=ay (ey (run d)) (ez (run d)) (N+1) (F5 over u 0 over.natAbs) λJV=>ay (cQ (run d)) (cR (run d)) (N+1) JV (ny (run d)):=by
  rw[<-hN];have t0:gz (run d) (.int over) (.int u) (.int 3)=if decide (over=0)=true then ret (.ret (pr (0,0))) else ay (ey (run d)) (ez (run d)) cD (F5 over u 0 over.natAbs) λJV=>ay (cQ (run d)) (cR (run d)) cD JV (ny (run d)):=by kernel_rfl
  exact t0.trans ((PX (by simpa using h0)))
 have xr:10 ^ 300*1000<=10 ^ (N+1):=by rw[show(1000:Nat)=10 ^ 3 from rfl,<-Nat.pow_add];exact Nat.pow_le_pow_right (by lia) (by lia)
 refine bj (w7 (run d) (λJV=>ay (cQ (run d)) (cR (run d)) (N+1) JV (ny (run d))) over u hu' N over.natAbs 0 (by lia) (by lia) (by have:=Nat.le_mul_of_pos_left (10 ^ (N+1)) (show 0<over.natAbs by lia);lia)) λa a1 a2 a3=>?_
 simp only[t,a3];obtain⟨S,hS⟩ : ∃ S,over.natAbs*10 ^ a=S:=⟨_,rfl⟩;rw[hS]at a1 a2 ⊢;have hS310:S<10 ^ 310:=by
  rcases a2 with rfl | h
  ·simp at hS;lia
  ·lia
 have big2:10 ^ 310<=10 ^ N:=Nat.pow_le_pow_right (by lia) (by lia);refine bj (w8 (run d) (ny (run d)) over S hS310 N u (0 - a) hu (by lia) (by have:=Nat.le_mul_of_pos_left (10 ^ N) (show 0<u*1000 by lia);lia)) λb b1 b2 b3=>?_
 rw[b3];obtain⟨U,hU⟩ : ∃ U,u*10 ^ b=U:=⟨_,rfl⟩;rw[hU]at b1 b2 ⊢;have hUpos:0<U:=by rw[<-hU];exact Nat.mul_pos hu (cn b)
 have hU311:U<10 ^ 311:=by
  rcases b2 with rfl | h
  ·simp at hU;lia
  ·lia
 have h100:100*U<=S:=by
  rcases b2 with rfl | h
  ·simp at hU;lia
  ·lia
 have fit:Fit over.natAbs u (i5 S U) (b - a):=⟨a,b,by simp only[hU,hS];exact h100,by simp only[hU,hS];lia,by simp only[hU,hS],rfl⟩;refine PT (λzz0 zz1=>?_) (f.same hu hu rfl fit);obtain rfl:=zz0;obtain rfl:=zz1;have hr:=js hUpos h100 (by lia);have fS:=dD (by lia) hS310;have fU:=dD (by lia) hU311;have hdm:=Nat.div_add_mod S U;have hml:S % U<U:=Nat.mod_lt _ hUpos;have fm:fits (((S / U:Nat)):Int)=true:=dD (k:=310) (by lia) (by have:=Nat.div_le_self S U;lia);have frest:fits (((S % U:Nat)):Int)=true:=dD (k:=311) (by lia) (by lia);have hsub:(S:Int) - ((S / U:Nat):Int)*(U:Int)=((S % U:Nat):Int):=by
  rw[Nat.mul_comm]at hdm;have:((S / U:Nat):Int)*(U:Int)=((S / U*U:Nat):Int):=by simp
  rw[this];lia
 have key:ny (run d) (F5 over U (0 - a+b) S)=ay (cS (run d)) (cT (run d)) cD (F7 over U (b - a) S (i5 S U:Nat) (2*(S % U:Nat))) rC:=by rw[show(0:Int) - a+b=b - a by lia];exact Bp (by lia) fS fU fm frest (cZ S U) hsub
 rw[key,w9 _ _ _ _ _ _ _ _ _ (by lia) (by have:cd ((i5 S U:Nat):Int).natAbs<=4:=bk (by simp;lia);lia) (dD (k:=4) (by lia) (by lia)),Bo]
 have hsg:(if 0<over then (aL (i5 S U:Nat) (b - a)).1 else -(aL (i5 S U:Nat) (b - a)).1,(aL (i5 S U:Nat) (b - a)).2)=aL (sg over (i5 S U)) (b - a):=by
  unfold sg
  split
  ·rfl
  ·rw[w0 _ _ _ rfl]
 rw[hsg];simp[SM]
theorem i7{d:Nat}{u:Int}(hd:1<=d):run d (nm "_law_fit") [.int 0,.int u,.int 3]=ret (pr (0,0)):=by
 refine ao (ak hd) λd z1 _=>?_;rw[z1];rw[nk];have t0:gz (run d) (.int 0) (.int u) (.int 3)=ret (.ret (pr (0,0))):=by kernel_rfl
 exact congrArg _ t0
theorem gB{d:Nat}{m e over:Int}{u pl nl:Nat}(hd:1<=d)(hu:0<u)(ho':over.natAbs<10 ^ 300)(hu':u<10 ^ 300)(he:e=(pl:Int) - nl)(h:over*10 ^ nl=m*10 ^ pl*u) :
  run d (nm "_law_fit") [.int over,.int u,.int 3]=ret (pr (bn m e)):=by
 by_cases hm:m=0
 ·subst hm;have:over=0:=by rw[Int.zero_mul,Int.zero_mul]at h;exact(Int.mul_eq_zero.mp h).resolve_right (lL nl)
  rw[this];simp only[i7 hd,cV]
 ·refine aI (w6 hm hu he h) λm0 e0 f hr=>?_;have h0:over≠0:=by
   rintro rfl
   rw[Int.zero_mul]at h;have:=Int.mul_ne_zero (Int.mul_ne_zero hm (lL pl)) (show(u:Int)≠0 by lia);exact this h.symm
  simp only[lS hd h0 hu ho' hu' f,hr]
theorem o4{m e:Int}{b:Nat}(h1:-(b:Int)<=e)(h2:e+cd m.natAbs<=b):Rl b (bn m e):=by
 by_cases h:m=0
 ·rw[h];rw[cV];exact⟨by decide,by simp⟩
 ·refine cM (h_ h (e:=e)) λb1 b2 b3 b4=>?_;exact⟨b2,by lia⟩
noncomputable def av(x:Int×Int):Int×Nat:=(x.1*10 ^ x.2.toNat,10 ^ (-x.2).toNat)
theorem bH{d b:Nat}{x:Int×Int}(hd:1<=d)(hb:b<=100)(hx:Rl b x):run d (nm "_law_fraction") [pr x]=ret (.tup [.int (av x).1,.int (av x).2]):=by
 refine ao (ak hd) λd z2 _=>?_;rw[z2];rw[lF];have hf:=hx.fits;obtain⟨a1,a2⟩:=hx;obtain⟨m,e⟩:=x;dsimp only at a1 a2 hf;delta av pr
 by_cases he:0<=e
 ·have g:e<=4000:=by lia
  have s:=aM (lO (k:=e.toNat) (by lia));have z:(-e).toNat=0:=Int.toNat_eq_zero.mpr (by lia);rw[z];walk_at "e"
 ·have z:e.toNat=0:=Int.toNat_eq_zero.mpr (by lia);have g1:0 ≤ -e:=by lia
  have g2:-e<=4000:=by lia
  rw[z,Int.pow_zero,Int.mul_one];walk_at "e"
theorem y_(z:Int):z.toNat<=z.natAbs:=Int.toNat_le.mpr Int.le_natAbs
theorem cW{b:Nat}{x:Int×Int}(hx:Rl b x):(av x).1.natAbs<=999*10 ^ b/\(av x).2<=10 ^ b/\0<(av x).2:=
 ⟨PO (PR (Int.natAbs_mul _ _)) (Nat.mul_le_mul (Nat.le_of_lt_succ hx.low) (PO (PR (cq _)) (Nat.pow_le_pow_right (by decide) (PO (y_ _) hx.exp)))),
  Nat.pow_le_pow_right (by decide) (PO (y_ _) (PO (PR (Int.natAbs_neg _)) hx.exp)),cn _⟩
theorem eJ{b:Nat}{x:Int×Int}(hb:b<=100)(hx:Rl b x):fits (av x).1=true/\fits (av x).2=true:=by
 refine jf (cW hx) λh1 h2 h3=>?_;have:(10:Nat) ^ (b+3)=10 ^ b*1000:=by rw[Nat.pow_add]
 refine⟨aM (bX (k:=b+3) (PO (Nat.add_le_add_right hb 3) (by decide)) (PQ h1 ?_)),dD (k:=b+3) (PO (Nat.add_le_add_right hb 3) (by decide)) (PQ h2 ?_)⟩
 ·simp only[this,Nat.mul_comm];exact Nat.mul_lt_mul_of_pos_left (by decide) (cn b)
 ·simp only[this];exact PQ (PR (Nat.mul_one _).symm) (Nat.mul_lt_mul_of_pos_left (by decide) (cn b))
theorem za(m n:Int)(p1 n1 p2 n2 pl nl i j:Nat)(h1:p1+n2+nl=i+pl+n1+n2)(h2:p2+n1+nl=j+pl+n1+n2) :
  (m*10 ^ p1*10 ^ n2+n*10 ^ p2*10 ^ n1)*10 ^ nl=(m*10 ^ i+n*10 ^ j)*10 ^ pl*(10 ^ n1*10 ^ n2):=by
 have e1:m*10 ^ p1*10 ^ n2*10 ^ nl=m*10 ^ (p1+n2+nl):=by simp only[Int.pow_add,Int.pow_add];ac_rfl
 have e2:n*10 ^ p2*10 ^ n1*10 ^ nl=n*10 ^ (p2+n1+nl):=by simp only[Int.pow_add,Int.pow_add];ac_rfl
 have e3:m*10 ^ i*10 ^ pl*(10 ^ n1*10 ^ n2)=m*10 ^ (i+pl+n1+n2):=by simp only[Int.pow_add,Int.pow_add,Int.pow_add];ac_rfl
 have e4:n*10 ^ j*10 ^ pl*(10 ^ n1*10 ^ n2)=n*10 ^ (j+pl+n1+n2):=by simp only[Int.pow_add,Int.pow_add,Int.pow_add];ac_rfl
 simp only[Int.add_mul,e1,e2,Int.add_mul,Int.add_mul,e3,e4,h1,h2]
theorem o5(k:Nat):(((10:Nat) ^ k:Nat):Int)=10 ^ k:=by rw[Int.natCast_pow];rfl
theorem tn(z:Int):∃ p n:Nat,z.toNat=p/\(-z).toNat=n/\(p:Int) - n=z:=⟨_,_,rfl,rfl,Int.toNat_sub_toNat_neg z⟩
theorem nn{z:Int}(h:0<=z):∃ p:Nat,z.toNat=p/\(p:Int)=z:=⟨_,rfl,Int.toNat_of_nonneg h⟩
theorem zb{x y:Int×Int}:((av x).1*(av y).2+(av y).1*(av x).2)*10 ^ (-(aK x y).2).toNat=(aK x y).1*10 ^ (aK x y).2.toNat*(((av x).2*(av y).2:Nat):Int):=by
 obtain⟨m,e⟩:=x;obtain⟨n,f⟩:=y;delta av aK;have m1:=Int.sub_nonneg_of_le (Int.min_le_left e f);have m2:=Int.sub_nonneg_of_le (Int.min_le_right e f);generalize min e f=M at *
 dsimp only[Int.natCast_mul,o5,o5];refine ar (tn e) λp1 n1 a1 b1 c1=>?_;refine ar (tn f) λp2 n2 a2 b2 c2=>?_;refine ar (tn M) λp3 n3 a3 b3 c3=>?_;refine ao (nn m1) λi d1 d2=>?_;refine ao (nn m2) λj d3 d4=>?_;simp[a1,b1,a2,b2,a3,b3,d1,d3];clear a1 b1 a2 b2 a3 b3 d1 d3 m1 m2;exact za m n _ _ _ _ _ _ _ _ (by lia) (by lia)
theorem Dh{x y:Int×Int}:((av x).1*(av y).1)*10 ^ (-(x.2+y.2)).toNat=(x.1*y.1)*10 ^ (x.2+y.2).toNat*(((av x).2*(av y).2:Nat):Int):=by
 obtain⟨m,e⟩:=x;obtain⟨n,f⟩:=y;unfold av;simp[Int.natCast_mul,o5,o5];refine ar (tn e) λp1 n1 a1 b1 c1=>?_;refine ar (tn f) λp2 n2 a2 b2 c2=>?_;refine ar (tn (e+f)) λp3 n3 a3 b3 c3=>?_;simp only[a1,b1,a2,b2,a3,b3];clear a1 b1 a2 b2 a3 b3;have e1:m*10 ^ p1*(n*10 ^ p2)*10 ^ n3=m*n*10 ^ (p1+p2+n3):=by simp only[Int.pow_add,Int.pow_add];ac_rfl
 have e2:m*n*10 ^ p3*(10 ^ n1*10 ^ n2)=m*n*10 ^ (p3+n1+n2):=by simp only[Int.pow_add,Int.pow_add];ac_rfl
 simp only[e1,e2]
 congr 2;lia
theorem fh{a b:Nat}{A B k j:Nat}(ha:a<=A*10 ^ k)(hb:b<=B*10 ^ j):a*b<=A*B*10 ^ (k+j):=by
 have:=Nat.mul_le_mul ha hb;simp only[Nat.pow_add]
 calc a*b<=A*10 ^ k*(B*10 ^ j):=this
  _=_:=by ac_rfl
theorem nz{a c k:Nat}(h:a<=c*10 ^ k)(hc:c<10 ^ 10)(hk:k<=200):a<10 ^ 300:=by have h1:10 ^ k<=10 ^ 200:=Nat.pow_le_pow_right (by lia) hk;have h2:c*10 ^ k<=10 ^ 10*10 ^ 200:=Nat.mul_le_mul (by lia) h1;lia
theorem DH{a k:Nat}(h:a<=10 ^ k):a<=1*10 ^ k:=PO h (PR (Nat.one_mul _).symm)
theorem Bq(a b c d:Int):(a*b+c*d).natAbs<=a.natAbs*b.natAbs+c.natAbs*d.natAbs:=PO (Int.natAbs_add_le _ _) (PR (by simp only[Int.natAbs_mul,Int.natAbs_mul]))
theorem o6{b:Nat}(h:b<=80):b+b<=200:=PO (Nat.add_le_add h h) (by decide)
theorem vp{d b:Nat}{x y:Int×Int}(hd:1<=d)(hb:b<=80)(hx:Rl b x)(hy:Rl b y) :
  run d (nm "_law_fit") [.int ((av x).1*(av y).2+(av y).1*(av x).2),.int ((av x).2*(av y).2:Nat),.int 3]=ret (pr (bn (aK x y).1 (aK x y).2)):=by
 refine jf (cW hx) λa1 a2 a3=>?_;refine jf (cW hy) λb1 b2 b3=>?_;refine gB hd (Nat.mul_pos a3 b3) ?_ ?_ (Int.toNat_sub_toNat_neg _).symm zb
 ·exact nz (PO (Bq _ _ _ _) (PO (Nat.add_le_add (fh a1 (DH b2)) (fh b1 (DH a2))) (PR (Nat.add_mul (999*1) (999*1) _).symm))) (by decide) (o6 hb)
 ·exact nz (fh (DH a2) (DH b2)) (by decide) (o6 hb)
theorem Br{d b:Nat}{x y:Int×Int}(hd:1<=d)(hb:b<=80)(hx:Rl b x)(hy:Rl b y) :
  run d (nm "_law_fit") [.int ((av x).1*(av y).1),.int ((av x).2*(av y).2:Nat),.int 3]=ret (pr (bn (x.1*y.1) (x.2+y.2))):=by
 refine jf (cW hx) λa1 a2 a3=>?_;refine jf (cW hy) λb1 b2 b3=>?_;refine gB hd (Nat.mul_pos a3 b3) ?_ ?_ (Int.toNat_sub_toNat_neg _).symm Dh
 ·rw[Int.natAbs_mul];exact nz (fh a1 b1) (by decide) (o6 hb)
 ·exact nz (fh (DH a2) (DH b2)) (by decide) (o6 hb)
theorem Bt{d:Nat}{n:Int}(hd:1<=d)(hn:n.natAbs<=2048):run d (nm "_law_fit") [.int n,.int 1,.int 3]=ret (pr (bn n 0)):=by have:=gB (d:=d) (m:=n) (e:=0) (over:=n) (u:=1) (pl:=0) (nl:=0) hd (by decide) (by lia) (by decide) (rfl) (by simp);exact this
noncomputable def cX(x y:Int×Int):Int:=if 0<(av y).1 then (av x).1*(av y).2 else -(av x).1*(av y).2
noncomputable def eK(x y:Int×Int):Nat:=(av x).2*(av y).1.natAbs
theorem rD(x:Int×Int):(av x).1.natAbs=x.1.natAbs*10 ^ x.2.toNat:=by show(x.1*10 ^ x.2.toNat).natAbs=_;simp only[Int.natAbs_mul,cq]
theorem c_(x:Int×Int):(0<(av x).1 ↔ 0<x.1)/\((av x).1<0 ↔ x.1<0)/\((av x).1=0 ↔ x.1=0):=by
 have p:(0:Int)<10 ^ x.2.toNat:=Int.pow_pos (by decide);have e:(av x).1=x.1*10 ^ x.2.toNat:=rfl;rw[e];refine⟨⟨λh=>Int.pos_of_mul_pos_left h p,λh=>Int.mul_pos h p⟩,⟨λh=>?_,λh=>Int.mul_neg_of_neg_of_pos h p⟩,⟨λh=>(Int.mul_eq_zero.mp h).resolve_right (lL _),λh=>by rw[h,Int.zero_mul]⟩⟩;rcases Int.lt_trichotomy x.1 0 with q | q | q
 ·exact q
 ·rw[q,Int.zero_mul]at h;omega
 ·have:=Int.mul_pos q p;omega
theorem FS(a b:Int):(a - b).toNat+(-a).toNat+b.toNat=a.toNat+(-b).toNat+(-(a - b)).toNat:=by refine ar (tn a) λp1 n1 a1 b1 c1=>?_;refine ar (tn b) λp2 n2 a2 b2 c2=>?_;refine ar (tn (a - b)) λp3 n3 a3 b3 c3=>?_;simp only[a1,b1,a2,b2,a3,b3];clear a1 b1 a2 b2 a3 b3;lia
theorem Bu{x y:Int×Int}(hx0:x.1≠0)(h0:y.1≠0):0<(dI x.1 y.1 (x.2 - y.2)).1 ↔ 0<cX x y:=by
 have hq:(0:Int)<qM x.1 y.1:=Int.natCast_pos.mpr (PP (by decide) (lM hx0 h0).1);have hd':(0:Int)<(av y).2:=Int.natCast_pos.mpr (cn _);have m:∀ {z:Int},0<z*(av y).2 ↔ 0<z:=⟨λh=>Int.pos_of_mul_pos_left h hd',λh=>Int.mul_pos h hd'⟩;unfold dI cX;dsimp only
 by_cases c2:0<(av y).1
 ·have c:¬ y.1<0:=λq=>absurd ((c_ y).1.mp c2) (Int.not_lt.mpr (Int.le_of_lt q));rw[PW c2,m,(c_ x).1,decide_eq_false c]
  by_cases c1:x.1<0
  ·rw[decide_eq_true c1,PX (by decide)];exact⟨λq=>absurd q (by lia),λq=>absurd q (by lia)⟩
  ·rw[decide_eq_false c1,PW (by decide)];exact⟨λ_=>by lia,λ_=>hq⟩
 ·have c:y.1<0:=(Int.lt_or_gt_of_ne h0).elim id λq=>absurd ((c_ y).1.mpr q) c2;rw[PX c2,m,Int.neg_pos,(c_ x).2.1,decide_eq_true c]
  by_cases c1:x.1<0
  ·rw[decide_eq_true c1,PW (by decide)];exact⟨λ_=>c1,λ_=>hq⟩
  ·rw[decide_eq_false c1,PX (by decide)];exact⟨λq=>absurd q (by lia),λq=>absurd q c1⟩
theorem o7{x y:Int×Int}:(cX x y).natAbs=(av x).1.natAbs*(av y).2:=by
 unfold cX
 split
 ·exact Int.natAbs_mul _ _
 ·exact(Int.natAbs_mul _ _).trans (congrArg (· * _) (Int.natAbs_neg _))
theorem Bv{d b:Nat}{x y:Int×Int}(hd:1<=d)(hb:b<=80)(hx:Rl b x)(hy:Rl b y)(h0:y.1≠0) :
  run d (nm "_law_fit") [.int (cX x y),.int (eK x y),.int 3]=ret (pr (bn (dI x.1 y.1 (x.2 - y.2)).1 (dI x.1 y.1 (x.2 - y.2)).2)):=by
 by_cases hx0:x.1=0
 ·have e1:cX x y=0:=Int.natAbs_eq_zero.mp (by refine PV o7 ?_;rw[(c_ x).2.2.mpr hx0];exact Nat.zero_mul _);have e2:(dI x.1 y.1 (x.2 - y.2)).1=0:=by unfold dI qM;rw[hx0];simp
  simp only[e1,e2,i7 hd,cV]
 ·refine jf (cW hx) λa1 a2 a3=>?_;refine jf (cW hy) λb1 b2 b3=>?_;refine aI (Bi (e:=x.2 - y.2) hx0 h0) λm0 e0 f hr=>?_;have hx1:0<(av x).1.natAbs:=Int.natAbs_pos.mpr λq=>hx0 ((c_ x).2.2.mp q);have hy0:0<y.1.natAbs:=Int.natAbs_pos.mpr h0;have hup:0<eK x y:=Nat.mul_pos a3 (Int.natAbs_pos.mpr λq=>h0 ((c_ y).2.2.mp q));have f'':Fit (cX x y).natAbs (eK x y) m0 (e0+(x.2 - y.2).toNat - (-(x.2 - y.2)).toNat):=by
   refine Fit.cross (Nat.mul_pos hy0 (cn _)) hup ?_ (f.shift (x.2 - y.2).toNat (-(x.2 - y.2)).toNat);have hu:eK x y=10 ^ (-x.2).toNat*(y.1.natAbs*10 ^ y.2.toNat):=congrArg (_ * ·) (rD y);simp only[o7,hu,rD];show _=_*10 ^ (-y.2).toNat*_;have e1:∀ X Y a b c:Nat,X*10 ^ a*(10 ^ b*(Y*10 ^ c))=X*Y*10 ^ (a+b+c):=λX Y a b c=>by rw[Nat.pow_add,Nat.pow_add];ac_rfl
   have e2:∀ X Y a b c:Nat,X*10 ^ a*10 ^ b*(Y*10 ^ c)=X*Y*10 ^ (a+b+c):=λX Y a b c=>by rw[Nat.pow_add,Nat.pow_add];ac_rfl
   simp only[e1,e2,FS]
  have hne:cX x y≠0:=Int.natAbs_pos.mp (by rw[o7];exact Nat.mul_pos hx1 b3);have hb1:(cX x y).natAbs<10 ^ 300:=by rw[o7];exact nz (c:=999*1) (k:=b+b) (fh a1 (PO b2 (PR (Nat.one_mul _).symm))) (by decide) (by lia)
  have hb2:eK x y<10 ^ 300:=nz (c:=1*999) (k:=b+b) (fh (PO a2 (PR (Nat.one_mul _).symm)) b1) (by decide) (by lia);simp only[lS hd hne hup hb1 hb2 f'',hr,Cd m0 (Bu hx0 h0),Int.add_sub_assoc,Int.toNat_sub_toNat_neg,Int.add_comm]
theorem rr{b:Nat}{m e:Int}(hb:b<=36)(h1:-(2*b+8:Int)<=e)(h2:e+cd m.natAbs<=2*b+8):bw m e=some (bn m e)/\Rl (2*b+8) (bn m e):=
 ⟨rj (by lia) (by lia),o4 h1 h2⟩
theorem Fy{b:Nat}{m e:Int}(hb:b<=36)(h1:-(b:Int)<=e)(h2:e+cd m.natAbs<=b+4):bw m e=some (bn m e)/\Rl (2*b+8) (bn m e):=rr hb (by lia) (by lia)
theorem xu{b:Nat}{o:Option (Int×Int)}{q:Int×Int}(e:o=some q/\Rl b q):∀ r,o=some r->Rl b r:=λr h=>by rw[e.1]at h;exact PY h ▸ e.2
theorem rE{b:Nat}{op:String}{x y:Int×Int}(hb:b<=36)(hx:Rl b x)(hy:Rl b y)(ho:op∈["add","sub","mul","div"]) :
  vm op x y=(if op = "add" then some (bn (aK x y).1 (aK x y).2) else if op = "sub" then some (bn (aK x (ic y)).1 (aK x (ic y)).2) else if op = "mul" then some (bn (x.1*y.1) (x.2+y.2)) else if y.1=0 then none else some (bn (dI x.1 y.1 (x.2 - y.2)).1 (dI x.1 y.1 (x.2 - y.2)).2))
  ∧ ∀ r,vm op x y=some r->Rl (2*b+8) r:=by
 simp only[List.mem_cons,List.not_mem_nil,or_false]at ho;rcases ho with rfl | rfl | rfl | rfl
 ·have r:=dU hx hy;have e:=Fy hb r.2.1 r.2.2;have f:vm "add" x y=bw (aK x y).1 (aK x y).2:=by kernel_rfl
  exact⟨e.1,xu e⟩
 ·have r:=dU hx hy.neg;have e:=Fy hb r.2.1 r.2.2;have f:vm "sub" x y=bw (aK x (ic y)).1 (aK x (ic y)).2:=by kernel_rfl
  exact⟨e.1,xu e⟩
 ·have hm:cd (x.1*y.1).natAbs<=6:=bk (by rw[Int.natAbs_mul];exact PQ (Nat.mul_le_mul (Nat.le_of_lt_succ (show x.1.natAbs<999+1 from hx.low)) (Nat.le_of_lt_succ (show y.1.natAbs<999+1 from hy.low))) (by decide))
  obtain⟨a1,a2⟩:=ab hx.exp;obtain⟨b1,b2⟩:=ab hy.exp;have e:=rr (m:=x.1*y.1) (e:=x.2+y.2) hb (by clear hm;omega) (by generalize cd _=c at *;omega);have f:vm "mul" x y=bw (x.1*y.1) (x.2+y.2):=by kernel_rfl
  exact⟨e.1,xu e⟩
 ·have f:vm "div" x y=if y.1=0 then none else bw (dI x.1 y.1 (x.2 - y.2)).1 (dI x.1 y.1 (x.2 - y.2)).2:=by kernel_rfl
  rw[f]
  by_cases h0:y.1=0
  ·exact(PW h0) ▸ (⟨(PW h0).symm,nofun⟩)
  ·have e:bw (dI x.1 y.1 (x.2 - y.2)).1 (dI x.1 y.1 (x.2 - y.2)).2=some (bn (dI x.1 y.1 (x.2 - y.2)).1 (dI x.1 y.1 (x.2 - y.2)).2)/\Rl (2*b+8) (bn (dI x.1 y.1 (x.2 - y.2)).1 (dI x.1 y.1 (x.2 - y.2)).2):=by
    by_cases hx0:x.1=0
    ·have e2:∀ e,(dI x.1 y.1 e).1=0:=λe=>by unfold dI qM;rw[hx0];simp
     rw[e2,cV];exact⟨by unfold bw;rw[cV];rfl,by decide,Nat.zero_le _⟩
    ·obtain⟨c0,c1,c2,c3⟩:=nx (e:=x.2 - y.2) hx0 h0 hx.low hy.low;obtain⟨a1,a2⟩:=ab hx.exp;obtain⟨b1,b2⟩:=ab hy.exp;clear c0 c3 hx0;generalize dI _ _ _=q at *
     exact rr hb (by clear c2;omega) (by generalize cd _=c at *;omega)
   rw[PX h0];exact⟨e.1.trans (PX h0).symm,xu e⟩
theorem o8{d b:Nat}{op:String}{x y:Int×Int}{w:D}(hd:2<=d)(hb:b<=36)(hx:Rl b x)(hy:Rl b y)(ho:op∈["add","sub","mul","div"]) :
  run d (nm "_law_two") [.str (nm op),.int 1,pr x,pr y,w]=ret (((vm op x y).map pr).getD .none):=by
 obtain⟨hop,_⟩:=rE hb hx hy ho;rw[hop];refine ao (ak hd) λd z1 hd'=>?_;obtain rfl:=z1;rw[nq];have q1:=bH (d:=d) hd' (by omega) hx;have q2:=bH (d:=d) hd' (by omega) hy;obtain⟨fa,fb⟩:=eJ (by omega) hx;obtain⟨fc,fd⟩:=eJ (by omega) hy;have e1:=vp (d:=d) hd' (by omega) hx hy;have e2:=vp (d:=d) hd' (by omega) hx hy.neg;have e3:=Br (d:=d) hd' (by omega) hx hy;have n1:(av (ic y)).1 = -(av y).1:=by show -y.1*10 ^ y.2.toNat = -(y.1*10 ^ y.2.toNat);rw[Int.neg_mul]
 have n2:(av (ic y)).2=(av y).2:=rfl;rw[n1,n2,Int.neg_mul,<-Int.sub_eq_add_neg]at e2;rw[Int.natCast_mul]at e1 e2 e3;simp only[List.mem_cons,List.not_mem_nil,or_false]at ho;rcases ho with rfl | rfl | rfl | rfl
 ·walk_at "e"
 ·walk_at "e"
 ·walk_at "e"
 ·have py:=c_ y
  by_cases h0:y.1=0
  ·have h0':=py.2.2.mpr h0;rw[PX (by decide),PX (by decide),PX (by decide),PW h0];walk_at "e"
  ·have h0':¬ (av y).1=0:=λz=>h0 (py.2.2.mp z);have e4:=Bv (d:=d) hd' (by omega) hx hy h0;have fna:fits (-(av x).1)=true:=dS fa (by omega);have fab:=b_ fc;unfold cX eK at e4;rw[Int.natCast_mul]at e4;rw[PX (by decide),PX (by decide),PX (by decide),PX h0]
   by_cases hc:0<(av y).1
   ·rw[PW hc]at e4;walk_at "e"
   ·rw[PX hc]at e4;walk_at "e"
theorem rF{d:Nat}{op:String}{x y w:Int}(hd:3<=d)(h1:5<=w)(h2:w<=12)(hx:x.natAbs<=2048)(hy:y.natAbs<=2048)(ho:op∈["add","sub","mul","div","powi"]) :
  run d (nm "_law_two") [.str (nm op),.int 0,.int x,.int y,.int w]=ret (((fD w op x y).map .int).getD .none):=by
 refine ao (ak hd) λd z1 hd'=>?_;obtain rfl:=z1;rw[nq];have a1:1<=d:=by lia
 have a2:1<=w:=by lia
 have fx:fits x=true:=aM (bX (k:=4) (by lia) (by lia));have fy:fits y=true:=aM (bX (k:=4) (by lia) (by lia));simp only[List.mem_cons,List.not_mem_nil,or_false]at ho;have hw:∀ n,run d (nm "_law_whole") [.int n,.int w]=ret (((bb w n).map .int).getD .none):=λn=>dq a1 a2 h2;have hdi:fw [(ret (.str (nm "add")),ag .Add (.int x) (.int y)),(ret (.str (nm "sub")),ag .Sub (.int x) (.int y)),(ret (.str (nm "mul")),ag .Mult (.int x) (.int y))]=ret (.sdict [(nm "add",.int (x+y)),(nm "sub",.int (x - y)),(nm "mul",.int (x*y))]):=
  B1 (B1 (pC rfl rfl (pC rfl rfl (pC rfl (oU fx fy) rfl))) rfl) rfl
 rcases ho with rfl | rfl | rfl | rfl | rfl
 ·have:=hw (x+y);walk_at "e"
 ·have:=hw (x - y);walk_at "e"
 ·have:=hw (x*y);walk_at "e"
 ·rcases P8 (y=0) with h0 | h0
  ·rw[show fD w "div" x y=if y=0 then none else bb w (fG x y) from rfl,PW h0];walk_at "e"
  ·rw[show fD w "div" x y=if y=0 then none else bb w (fG x y) from rfl,PX h0];have q1:=d6 a1 fx fy h0;have:=hw (fG x y);walk_at "e"
 ·have q:=oY (n:=y) hd' a2 h2 hx;rw[<-Bg h1 h2]at q;walk_at "e"
noncomputable def bC(s:Str)(n:Nat):Str:=⟨s.cps++Array.replicate (n - s.length) 32⟩
theorem nA{s:Str}{n:Nat}(h:s.length<=n):Txt.ljust s n=bC s n:=by
 unfold Txt.ljust bC
 split
 ·rename_i h';have:n - s.length=0:=by lia
  rw[this];simp
 ·simp[Builtin.Str.padded]
theorem eM(s:Str)(n:Nat):(bC s n).cps.toList=s.cps.toList++List.replicate (n - s.length) 32:=by simp[bC]
theorem str_eq{x y:Str}:x=y ↔ x.cps.toList=y.cps.toList:=by
 induction x;induction y
 simp
theorem zc{c:List Nat}:∀ {a b:List Nat},a.length=b.length->(a++c<b++c ↔ a<b)
 | [],[],_=>by simp
 | x::a,y::b,h=>by simp only[List.cons_append,List.cons_append,List.cons_lt_cons_iff,List.cons_lt_cons_iff,zc (by simpa using h)]
theorem ze:∀ {a b:List Nat},a≠b->(b<a ↔ ¬ a<b)
 | [],[],h=>absurd rfl h
 | [],y::b,_=>by simp
 | x::a,[],_=>by simp
 | x::a,y::b,h=>by
  rw[List.cons_lt_cons_iff,List.cons_lt_cons_iff]
  by_cases e:x=y
  ·subst e;have h':a≠b:=λq=>h (by rw[q]);have:=ze h';simp[this]
  ·constructor
   ·rintro (q | q) (r | r) <;> lia
   ·intro q
    left
    have:¬ x<y:=λr=>q (.inl r);lia
theorem Bw{x y:Str}{m n:Nat}(hx:x.length<=m)(hy:y.length<=m)(hm:m<=n):uh (bC x m) (bC y m)=uh (bC x n) (bC y n):=by
 have key:∀ {s:Str},s.length<=m->(bC s n).cps.toList=(bC s m).cps.toList++List.replicate (n - m) 32:=λ{s} hs=>by
  simp[eM,eM,List.append_assoc,List.replicate_append_replicate]
  congr 2;exact(Nat.sub_add_sub_cancel hm hs).symm.trans (Nat.add_comm _ _)
 have hl:(bC x m).cps.toList.length=(bC y m).cps.toList.length:=by
  have e:∀ s:Str,s.cps.toList.length=s.length:=λs=>by dsimp[Str.length]
  simp only[eM,eM,List.length_append,List.length_append,e,e,List.length_replicate,List.length_replicate];exact(Nat.add_sub_of_le hx).trans (Nat.add_sub_of_le hy).symm
 delta uh gL;have c1:(bC x m=bC y m) ↔ (bC x n=bC y n):=by rw[str_eq,str_eq,key hx,key hy,List.append_left_inj]
 simp only[c1,key hx,key hy,decide_eq_true_eq,zc hl]
noncomputable def uo(x y:Str):Int:=uh (bC x 60) (bC y 60)
theorem zf{s:Str}(h:s.length<=60):am s.length=true:=decide_eq_true (PO h (by decide))
theorem Di{s:Str}(h:s.length<=60):au (nm "len") [.str s]=ret (.int s.length):=(SB.1 _).trans (PW (zf h))
theorem Bx(n:Nat):(⟨Array.replicate n 32⟩ : Str).length=n:=Array.size_replicate
theorem padded{s:Str}{n:Nat}(h:s.length<=n)(hn:n<=60):(bnd (bnd (bnd (au (nm "len") [.str s]) λt3=>ag .Sub (.int n) t3) λt4=>ag .Mult (.str (nm " ")) t4) λt5=>ag .Add (.str s) t5)=ret (.str (bC s n)):=by have k:n - s.length<=60:=PO (Nat.sub_le _ _) hn;have m:ag .Mult (.str (nm " ")) (.int ((n - s.length:Nat):Int))=ret (.str ⟨Array.replicate (n - s.length) 32⟩):=PW ⟨rfl,Int.le_trans (by decide) (Int.natCast_nonneg _),Int.le_trans (Int.ofNat_le.mpr k) (by decide)⟩;refine B1 (B1 (B1 (Di (PO h hn)) (congrArg (λz=>ret (D.int z)) (Int.ofNat_sub h).symm)) m) (PW ?_);simp only[zf (PO h hn),zf (by rw[Bx];exact k)];rfl
theorem uq{d:Nat}{x y:Str}(hd:2<=d)(hx:x.length<=60)(hy:y.length<=60):run d (nm "collate") [.str x,.str y]=ret (.int (uo x y)):=by
 refine ao (ak hd) λd z2 hd'=>?_;obtain rfl:=z2;have l1:=Nat.le_max_left x.length y.length;have l2:=Nat.le_max_right x.length y.length;have l3:=Nat.max_le.mpr ⟨hx,hy⟩;have hm:au (nm "max") [.int x.length,.int y.length]=ret (.int (max x.length y.length:Nat)):=by
  refine(SB.2.2.2.1 _ _).trans (congrArg (λz=>ret (D.int z)) ?_)
  split
  ·exact congrArg Nat.cast (Nat.max_eq_right (Nat.le_of_lt (Int.ofNat_lt.mp ‹_›))).symm
  ·exact congrArg Nat.cast (Nat.max_eq_left (Int.ofNat_le.mp (Int.not_lt.mp ‹_›))).symm
 generalize max x.length y.length=n at *
 unfold uo;rw[<-Bw l1 l2 l3];exact(wU ..).trans (E1 (B1 (B1 (eV (Di hx) (eV (Di hy) rfl)) hm) (B1 (B1 (eV (padded l1 l3) (eV (padded l2 l3) rfl)) (oX hd')) rfl)))
theorem rG{d:Nat}{op:String}{x y:Str}{k lim:D}(hd:3<=d)(hx:x.length<=60)(hy:y.length<=60)(ho:op∈rels):run d (nm "text_binary") [.str (nm op),k,.str x,.str y,lim]=ret (.bool (iZ op (uo x y))):=by
 refine ao (ak hd) λd z3 hd'=>?_;obtain rfl:=z3;rw[mD];have a1:1<=d:=by lia
 have ho':=ho;simp only[rels,List.mem_cons,List.not_mem_nil,or_false]at ho;have q1:=uq hd' hx hy;have q2:=lJ (o:=uo x y) a1 ho';rcases ho with rfl | rfl | rfl | rfl | rfl | rfl <;> walk_at "e"
theorem mK{d:Nat}{x y:Int}(hd:1<=d):run d (nm "_law_order") [.int 0,.int x,.int y]=ret (.int (ug x y)):=by
 refine ao (ak hd) λd z4 hd'=>?_;obtain rfl:=z4;rw[gf];unfold ug
 by_cases h1:x=y
 ·rw[PW h1];walk_at "e"
 ·rw[PX h1]
  by_cases h2:x<y
  ·have:¬ y<x:=by lia
   rw[PW h2];walk_at "e"
  ·have:y<x:=by lia
   rw[PX h2];walk_at "e"
theorem mL{d:Nat}{x y:Str}(hd:1<=d)(hx:x.length<=60)(hy:y.length<=60):run d (nm "_law_order") [.int 5,.str x,.str y]=ret (.int (uo x y)):=by
 refine ao (ak hd) λd z5 hd'=>?_;obtain rfl:=z5;rw[gf];have e:∀ s:Str,aZ (.str s) (nm "ljust")=ret .ljust:=λs=>by kernel_rfl
 have pk:PadOk 60=true:=by decide +kernel
 have e2:∀ s:Str,s.length<=60->bd (run d) (.str s) .ljust [.int 60]=ret (.str (bC s 60)):=λs hs=>by show(if PadOk 60=true then ret (D.str (Txt.ljust s 60)) else stuck)=_;refine PV (PW pk) ?_;exact congrArg (λt=>ret (D.str t)) (nA (n:=60) hs)
 delta uo uh;have k1:=e x;have k2:=e y;have l1:=e2 x hx;have l2:=e2 y hy;rcases P8 (bC x 60=bC y 60) with h1 | h1
 ·rw[PW h1];walk_at "e"
 ·rw[PX h1];have h2:=ze (λq=>h1 (str_eq.mpr q))
  by_cases h3:(bC x 60).cps.toList<(bC y 60).cps.toList
  ·have h4:gL (bC y 60).cps.toList (bC x 60).cps.toList=false:=dF λq=>h2.mp q h3;rw[show gL (bC x 60).cps.toList (bC y 60).cps.toList=true from dT h3,PW rfl];walk_at "e"
  ·have h4:gL (bC y 60).cps.toList (bC x 60).cps.toList=true:=dT (h2.mpr h3);rw[show gL (bC x 60).cps.toList (bC y 60).cps.toList=false from dF h3,PX Bool.false_ne_true];walk_at "e"
theorem lT{d b:Nat}{x y:Int×Int}(hd:2<=d)(hb:b<=80)(hx:Rl b x)(hy:Rl b y):run d (nm "_law_order") [.int 1,pr x,pr y]=ret (.int (if (aK x (ic y)).1=0 then 0 else if 0<(aK x (ic y)).1 then 1 else -1)):=by
 refine ao (ak hd) λd z6 hd'=>?_;obtain rfl:=z6;rw[gf];have q1:=bH (d:=d) hd' (by omega) hx;have q2:=bH (d:=d) hd' (by omega) hy;obtain⟨fa,fb⟩:=eJ (by omega) hx;obtain⟨fc,fd⟩:=eJ (by omega) hy;have h:=zb (x:=x) (y:=ic y);have n1:(av (ic y)).1 = -(av y).1:=by show -y.1*10 ^ y.2.toNat = -(y.1*10 ^ y.2.toNat);simp only[Int.neg_mul]
 have n2:(av (ic y)).2=(av y).2:=rfl;simp only[n1,n2,Int.neg_mul,<-Int.sub_eq_add_neg]at h;generalize aK x (ic y)=z at h;have p1:(0:Int)<10 ^ (-z.2).toNat:=Int.pow_pos (by decide);have p2:(0:Int)<10 ^ z.2.toNat:=Int.pow_pos (by decide);have p3:(0:Int)<(((av x).2*(av y).2:Nat):Int):=by have:=Nat.mul_pos (cW hx).2.2 (cW hy).2.2;omega
 have p4:=Int.mul_pos p2 p3;rw[Int.mul_assoc z.1]at h;have c1:(av x).1*(av y).2=(av y).1*(av x).2 ↔ z.1=0:=by
  constructor
  ·intro q;rw[q,Int.sub_self,Int.zero_mul]at h;exact(Int.mul_eq_zero.mp h.symm).resolve_right (by omega)
  ·intro q;rw[q,Int.zero_mul]at h;have:=(Int.mul_eq_zero.mp h).resolve_right (by omega);omega
 have c2:(av y).1*(av x).2<(av x).1*(av y).2 ↔ 0<z.1:=by
  constructor
  ·intro q;have:0<((av x).1*(av y).2 - (av y).1*(av x).2)*10 ^ (-z.2).toNat:=Int.mul_pos (by omega) p1;rw[h]at this;exact Int.pos_of_mul_pos_left this p4
  ·intro q;have:0<z.1*(10 ^ z.2.toNat*(((av x).2*(av y).2:Nat):Int)):=Int.mul_pos q p4;rw[<-h]at this;have:=Int.pos_of_mul_pos_left this p1;omega
 by_cases h1:z.1=0
 ·have:=c1.mpr h1;rw[PW h1];walk_at "e"
 ·have:=mt c1.mp h1;rw[PX h1]
  by_cases h2:0<z.1
  ·have:=c2.mpr h2;rw[PW h2];walk_at "e"
  ·have:=mt c2.mp h2;rw[PX h2];walk_at "e"
section
variable(call:Str->List D->M D)
noncomputable def bD(Kg:af)(k67:K'):M Flow':=bnd (bnd (ah [ac (aa Kg (nm "pool")),ac (aa Kg (nm "kind"))]) λPr=>call (nm "_law_const") Pr) λL0=>bnd (ret (aj Kg (nm "value") L0)) λJP=>bnd (bnd (bnd (ah [ac (aa JP (nm "pool")),ret (.int 9)]) λPs=>call (nm "_law_take") Ps) λPt=>ae .NotEq Pt (.int 8)) λPu=>if Pu then bnd (bnd (bnd (ac (aa JP (nm "kind"))) λL_=>ae .Eq L_ (.int 5)) λPv=>if Pv then bnd (bnd (ac (aa JP (nm "value"))) λMJ=>bnd (ac (aa JP (nm "length"))) λMK=>bt MJ .none MK) λLJ=>bnd (aZ LJ (nm "ljust")) λk82=>bnd (ah [ac (aa JP (nm "length"))]) λPw=>bd call LJ k82 Pw else ac (aa JP (nm "value"))) λPx=>bnd (ret (aj JP (nm "value") Px)) λKk=>bnd (ac (aa Kk (nm "value"))) λMM=>bnd (bnd (bnd (ac (aa Kk (nm "held"))) λL1=>bnd (ac (aa Kk (nm "name"))) λMR=>subD L1 MR) λMS=>bnd (bnd (ac (aa Kk (nm "seats"))) λMZ=>bnd (ac (aa Kk (nm "at"))) λPz=>subD MZ Pz) λM0=>bnd (cL MS M0 MM) λ_=>ret Kk) λJQ=>bnd (bnd (ac (aa JQ (nm "memory"))) λKY=>bnd (aZ KY (nm "store")) λk95=>bnd (ah [aG [ac (aa JQ (nm "kind")),bnd (ac (aa JQ (nm "address"))) λJ5=>bnd (bnd (ac (aa JQ (nm "at"))) λJ6=>bnd (bnd (ah [ac (aa JQ (nm "length")),ret (.int 1)]) λPA=>au (nm "max") PA) λJ7=>ag .Mult J6 J7) λIX=>ag .Add J5 IX,ac (aa JQ (nm "length")),ret ((.tup []))],ac (aa JQ (nm "value"))]) λM1=>bd call KY k95 M1) λPB=>k67 JQ else k67 JP
noncomputable def rH(Kz:af)(k112:K'):M Flow':=bnd (bnd (ah [ac (aa Kz (nm "pool")),ac (aa Kz (nm "kind"))]) λM2=>call (nm "_law_const") M2) λM3=>bnd (ret (aj Kz (nm "value") M3)) λJa=>bnd (bnd (bnd (ah [ac (aa Ja (nm "pool")),ret (.int 9)]) λM4=>call (nm "_law_take") M4) λM5=>ae .NotEq M5 (.int 8)) λM6=>if M6 then bnd (bnd (bnd (ac (aa Ja (nm "kind"))) λM7=>ae .Eq M7 (.int 5)) λM8=>if M8 then bnd (bnd (ac (aa Ja (nm "value"))) λM9=>bnd (ac (aa Ja (nm "length"))) λM_=>bt M9 .none M_) λMa=>bnd (aZ Ma (nm "ljust")) λk127=>bnd (ah [ac (aa Ja (nm "length"))]) λNa=>bd call Ma k127 Na else ac (aa Ja (nm "value"))) λNb=>bnd (ret (aj Ja (nm "value") Nb)) λJw=>bnd (ac (aa Jw (nm "value"))) λNc=>bnd (bnd (bnd (ac (aa Jw (nm "held"))) λNd=>bnd (ac (aa Jw (nm "name"))) λNf=>subD Nd Nf) λNg=>bnd (bnd (ac (aa Jw (nm "seats"))) λNh=>bnd (ac (aa Jw (nm "at"))) λNi=>subD Nh Ni) λNj=>bnd (cL Ng Nj Nc) λ_=>ret Jw) λJb=>bnd (bnd (ac (aa Jb (nm "memory"))) λMb=>bnd (aZ Mb (nm "store")) λk140=>bnd (ah [aG [ac (aa Jb (nm "kind")),bnd (ac (aa Jb (nm "address"))) λNk=>bnd (bnd (ac (aa Jb (nm "at"))) λNl=>bnd (bnd (ah [ac (aa Jb (nm "length")),ret (.int 1)]) λNm=>au (nm "max") Nm) λNn=>ag .Mult Nl Nn) λNo=>ag .Add Nk No,ac (aa Jb (nm "length")),ret ((.tup []))],ac (aa Jb (nm "value"))]) λNp=>bd call Mb k140 Np) λPC=>k112 Jb else k112 Ja
noncomputable def rI(KA:af)(k186:K'):M Flow':=bnd (bnd (ah [ac (aa KA (nm "pool")),ac (aa KA (nm "kind"))]) λNq=>call (nm "_law_const") Nq) λNr=>bnd (ret (aj KA (nm "value") Nr)) λJc=>bnd (bnd (bnd (ah [ac (aa Jc (nm "pool")),ret (.int 9)]) λNt=>call (nm "_law_take") Nt) λNu=>ae .NotEq Nu (.int 8)) λNv=>if Nv then bnd (bnd (bnd (ac (aa Jc (nm "kind"))) λNw=>ae .Eq Nw (.int 5)) λNx=>if Nx then bnd (bnd (ac (aa Jc (nm "value"))) λNy=>bnd (ac (aa Jc (nm "length"))) λNz=>bt Ny .none Nz) λMc=>bnd (aZ Mc (nm "ljust")) λk201=>bnd (ah [ac (aa Jc (nm "length"))]) λNA=>bd call Mc k201 NA else ac (aa Jc (nm "value"))) λNB=>bnd (ret (aj Jc (nm "value") NB)) λJx=>bnd (ac (aa Jx (nm "value"))) λNC=>bnd (bnd (bnd (ac (aa Jx (nm "held"))) λND=>bnd (ac (aa Jx (nm "name"))) λNE=>subD ND NE) λNF=>bnd (bnd (ac (aa Jx (nm "seats"))) λNG=>bnd (ac (aa Jx (nm "at"))) λNH=>subD NG NH) λNI=>bnd (cL NF NI NC) λ_=>ret Jx) λJd=>bnd (bnd (ac (aa Jd (nm "memory"))) λMe=>bnd (aZ Me (nm "store")) λk214=>bnd (ah [aG [ac (aa Jd (nm "kind")),bnd (ac (aa Jd (nm "address"))) λNJ=>bnd (bnd (ac (aa Jd (nm "at"))) λNK=>bnd (bnd (ah [ac (aa Jd (nm "length")),ret (.int 1)]) λNL=>au (nm "max") NL) λNM=>ag .Mult NK NM) λNN=>ag .Add NJ NN,ac (aa Jd (nm "length")),ret ((.tup []))],ac (aa Jd (nm "value"))]) λNO=>bd call Me k214 NO) λPD=>k186 Jd else k186 Jc
noncomputable def rJ(KB:af)(k231:K'):M Flow':=bnd (bnd (ah [ac (aa KB (nm "pool")),ac (aa KB (nm "kind"))]) λNP=>call (nm "_law_const") NP) λNQ=>bnd (ret (aj KB (nm "value") NQ)) λJe=>bnd (bnd (bnd (ah [ac (aa Je (nm "pool")),ret (.int 9)]) λNR=>call (nm "_law_take") NR) λNS=>ae .NotEq NS (.int 8)) λNT=>if NT then bnd (bnd (bnd (ac (aa Je (nm "kind"))) λNU=>ae .Eq NU (.int 5)) λNV=>if NV then bnd (bnd (ac (aa Je (nm "value"))) λNW=>bnd (ac (aa Je (nm "length"))) λNX=>bt NW .none NX) λMf=>bnd (aZ Mf (nm "ljust")) λk246=>bnd (ah [ac (aa Je (nm "length"))]) λNY=>bd call Mf k246 NY else ac (aa Je (nm "value"))) λNZ=>bnd (ret (aj Je (nm "value") NZ)) λJy=>bnd (ac (aa Jy (nm "value"))) λN0=>bnd (bnd (bnd (ac (aa Jy (nm "held"))) λN1=>bnd (ac (aa Jy (nm "name"))) λN3=>subD N1 N3) λN4=>bnd (bnd (ac (aa Jy (nm "seats"))) λN5=>bnd (ac (aa Jy (nm "at"))) λN6=>subD N5 N6) λN7=>bnd (cL N4 N7 N0) λ_=>ret Jy) λJf=>bnd (bnd (ac (aa Jf (nm "memory"))) λMg=>bnd (aZ Mg (nm "store")) λk259=>bnd (ah [aG [ac (aa Jf (nm "kind")),bnd (ac (aa Jf (nm "address"))) λN8=>bnd (bnd (ac (aa Jf (nm "at"))) λN9=>bnd (bnd (ah [ac (aa Jf (nm "length")),ret (.int 1)]) λN_=>au (nm "max") N_) λOa=>ag .Mult N9 Oa) λOb=>ag .Add N8 Ob,ac (aa Jf (nm "length")),ret ((.tup []))],ac (aa Jf (nm "value"))]) λOc=>bd call Mg k259 Oc) λPE=>k231 Jf else k231 Je
noncomputable def bl(bS:af)(k4:K'):M Flow':=bnd (bnd (call (nm "_law_places") []) λt8=>bnd (ac (aa bS (nm "name"))) λt9=>subD t8 t9) λII=>bnd (de bS [(nm "kind"),(nm "address"),(nm "length"),(nm "dims")] II) λJm=>bnd (di [ret ((.tup []))]) λIM=>bnd (ret (aj Jm (nm "seats") IM)) λIk=>bnd (bnd (bnd (ah [ac (aa Ik (nm "dims"))]) λKv=>au (nm "len") Kv) λIO=>ae .Eq IO (.int 1)) λKu=>if Ku then bnd (bnd (bnd (bnd (ah [bnd (bnd (ac (aa Ik (nm "dims"))) λIZ=>subD IZ (.int 0)) λI0=>subD I0 (.int 0),bnd (bnd (bnd (ac (aa Ik (nm "dims"))) λI7=>subD I7 (.int 0)) λJz=>subD Jz (.int 1)) λJA=>ag .Add JA (.int 1)]) λLb=>au (nm "range") Lb) λJq=>bnd (a_ Jq) λLM=>aJ (λOd JR=>(λI8=>bnd (aG [ac (aa I8 (nm "k"))]) λJr=>if am (JR).length then ret (JR++[Jr]) else stuck) (aj (aN [(nm ".0",.local),(nm "k",.local)] Ik) (nm "k") Od)) LM []) λKG=>ret (.list KG)) λJs=>bnd (ret (aj Ik (nm "seats") Js)) λI_=>bnd (bnd (bnd (ah [ac (aa I_ (nm "dims"))]) λKN=>au (nm "len") KN) λJB=>ae .Eq JB (.int 2)) λOe=>if Oe then bnd (bnd (bnd (bnd (ah [bnd (bnd (ac (aa I_ (nm "dims"))) λJY=>subD JY (.int 1)) λKJ=>subD KJ (.int 0),bnd (bnd (bnd (ac (aa I_ (nm "dims"))) λIL=>subD IL (.int 1)) λKn=>subD Kn (.int 1)) λJ_=>ag .Add J_ (.int 1)]) λMD=>au (nm "range") MD) λJO=>bnd (a_ JO) λL9=>aJ (λPF Mh=>(λKR=>if (aa KR (nm "k")).isNone then bnd (bnd (ah [bnd (bnd (ac (aa KR (nm "dims"))) λJZ=>subD JZ (.int 0)) λKm=>subD Km (.int 0),bnd (bnd (bnd (ac (aa KR (nm "dims"))) λKo=>subD Ko (.int 0)) λL4=>subD L4 (.int 1)) λKh=>ag .Add Kh (.int 1)]) λMv=>au (nm "range") Mv) λL5=>bnd (a_ L5) λME=>aJ (λPG KZ=>(λMi=>bnd (aG [ac (aa Mi (nm "k")),ac (aa Mi (nm "n"))]) λLL=>if am (KZ).length then ret (KZ++[LL]) else stuck) (aj KR (nm "k") PG)) ME Mh else stuck) (aj (aN [(nm ".0",.local),(nm "n",.local),(nm "k",.local),(nm "range",.globalImplicit),(nm "dims",.free)] I_) (nm "n") PF)) L9 []) λL7=>ret (.list L7)) λKp=>bnd (ret (aj I_ (nm "seats") Kp)) λIW=>bnd (fz []) λKP=>bnd (bnd (ac (aa IW (nm "held"))) λK6=>bnd (ac (aa IW (nm "name"))) λK7=>bnd (cL K6 K7 KP) λ_=>ret IW) λI2=>bnd (bnd (ah [bnd (ah [ac (aa I2 (nm "seats"))]) λLc=>au (nm "len") Lc]) λLd=>au (nm "range") Ld) λLe=>dK Le λOf=>aE (bD call) (λOg PH=>ret (aj Og (nm "at") PH)) Of I2 λLg=>k4 Lg else bnd (fz []) λOh=>bnd (bnd (ac (aa I_ (nm "held"))) λOi=>bnd (ac (aa I_ (nm "name"))) λOj=>bnd (cL Oi Oj Oh) λ_=>ret I_) λK0=>bnd (bnd (ah [bnd (ah [ac (aa K0 (nm "seats"))]) λOl=>au (nm "len") Ol]) λOm=>au (nm "range") Om) λOn=>dK On λOo=>aE (rH call) (λMj Op=>ret (aj Mj (nm "at") Op)) Oo K0 λMl=>k4 Ml else bnd (bnd (bnd (ah [ac (aa Ik (nm "dims"))]) λLh=>au (nm "len") Lh) λLi=>ae .Eq Li (.int 2)) λLj=>if Lj then bnd (bnd (bnd (bnd (ah [bnd (bnd (ac (aa Ik (nm "dims"))) λLk=>subD Lk (.int 1)) λLl=>subD Ll (.int 0),bnd (bnd (bnd (ac (aa Ik (nm "dims"))) λLm=>subD Lm (.int 1)) λLn=>subD Ln (.int 1)) λLo=>ag .Add Lo (.int 1)]) λLp=>au (nm "range") Lp) λLq=>bnd (a_ Lq) λLr=>aJ (λLs J8=>(λI4=>if (aa I4 (nm "k")).isNone then bnd (bnd (ah [bnd (bnd (ac (aa I4 (nm "dims"))) λLu=>subD Lu (.int 0)) λLv=>subD Lv (.int 0),bnd (bnd (bnd (ac (aa I4 (nm "dims"))) λLw=>subD Lw (.int 0)) λLx=>subD Lx (.int 1)) λLy=>ag .Add Ly (.int 1)]) λLz=>au (nm "range") Lz) λLA=>bnd (a_ LA) λLB=>aJ (λLC Jo=>(λJS=>bnd (aG [ac (aa JS (nm "k")),ac (aa JS (nm "n"))]) λLD=>if am (Jo).length then ret (Jo++[LD]) else stuck) (aj I4 (nm "k") LC)) LB J8 else stuck) (aj (aN [(nm ".0",.local),(nm "n",.local),(nm "k",.local),(nm "range",.globalImplicit),(nm "dims",.free)] Ik) (nm "n") Ls)) Lr []) λLE=>ret (.list LE)) λLF=>bnd (ret (aj Ik (nm "seats") LF)) λJT=>bnd (fz []) λOq=>bnd (bnd (ac (aa JT (nm "held"))) λOs=>bnd (ac (aa JT (nm "name"))) λOt=>bnd (cL Os Ot Oq) λ_=>ret JT) λK1=>bnd (bnd (ah [bnd (ah [ac (aa K1 (nm "seats"))]) λOu=>au (nm "len") Ou]) λOv=>au (nm "range") Ov) λOw=>dK Ow λOx=>aE (rI call) (λMm Oy=>ret (aj Mm (nm "at") Oy)) Ox K1 λMn=>k4 Mn else bnd (fz []) λOz=>bnd (bnd (ac (aa Ik (nm "held"))) λOA=>bnd (ac (aa Ik (nm "name"))) λOB=>bnd (cL OA OB Oz) λ_=>ret Ik) λK2=>bnd (bnd (ah [bnd (ah [ac (aa K2 (nm "seats"))]) λOC=>au (nm "len") OC]) λOD=>au (nm "range") OD) λOE=>dK OE λOF=>aE (rJ call) (λMo OG=>ret (aj Mo (nm "at") OG)) OF K2 λMp=>k4 Mp
noncomputable def lU(H7 I5:D):M Flow':=bnd (fz []) λt1=>bnd (di [ret (.str (nm "I")),ret (.str (nm "J")),ret (.str (nm "A")),ret (.str (nm "X")),ret (.str (nm "B")),ret (.str (nm "L")),ret (.str (nm "C")),ret (.str (nm "D"))]) λOH=>dK OH λl5=>aE (bl call) (λKj d7=>ret (aj Kj (nm "name") d7)) l5 [(nm "pool",H7),(nm "memory",I5),(nm "held",t1)] λIN=>bnd (ac (aa IN (nm "held"))) λKC=>ret (.ret KC)
end
theorem ur(d:Nat)(H7 I5:D):run (d+1) (nm "_law_fill") [H7,I5]=aq (lU (run d) H7 I5):=by kernel_rfl
noncomputable def Cf(call:Str->List D->M D)(Jl:af)(k25:K'):M Flow':=bnd (ac (aa Jl (nm "handler"))) λJr=>bnd (bnd (ac (aa Jl (nm "expressions"))) λKI=>bnd (ac (aa Jl (nm "word"))) λJM=>bnd (cL KI JM Jr) λ_=>ret Jl) λOI=>k25 OI
section
variable(call:Str->List D->M D)
noncomputable def zh(J2:af)(k45:K'):M Flow':=bnd (bnd (call (nm "_law_places") []) λKo=>bnd (ac (aa J2 (nm "name"))) λL4=>subD Ko L4) λKh=>bnd (bnd (bnd (ac (aa J2 (nm "run"))) λL5=>aA L5 (nm "frame")) λKL=>bnd (ac (aa J2 (nm "name"))) λKd=>bnd (cL KL Kd Kh) λ_=>ret J2) λOJ=>k45 OJ
noncomputable def ig(KS:af)(k65:K'):M Flow':=bnd (bnd (ah [ac (aa KS (nm "held")),ac (aa KS (nm "tree")),ac (aa KS (nm "width"))]) λOK=>call (nm "_law_value") OK) λMI=>bnd (ret (aj KS (nm "due") MI)) λKT=>vV (bnd (ah [ac (aa KT (nm "run")),ac (aa KT (nm "tree"))]) λOL=>call (nm "evaluate") OL) (λv72=>bnd (ret (aj KT (nm "told") v72)) λKD=>bnd (bnd (bnd (ac (aa KD (nm "told"))) λOM=>bnd (ac (aa KD (nm "due"))) λL_=>ae .NotEq OM L_) λb76=>bi .Or b76 (bnd (bnd (bnd (ah [ac (aa KD (nm "told")),ret (.blt (nm "bool"))]) λON=>au (nm "isinstance") ON) λLJ=>bnd (bnd (ah [ac (aa KD (nm "due")),ret (.blt (nm "bool"))]) λOO=>au (nm "isinstance") OO) λLY=>ae .NotEq LJ LY) λb79=>bi .Or b79 (ret false))) λOP=>if OP then ret (.ret (.bool false)) else k65 KD) (bnd (ret (aj KT (nm "told") .none)) λJ3=>bnd (bnd (bnd (ac (aa J3 (nm "told"))) λPI=>bnd (ac (aa J3 (nm "due"))) λL1=>ae .NotEq PI L1) λb86=>bi .Or b86 (bnd (bnd (bnd (ah [ac (aa J3 (nm "told")),ret (.blt (nm "bool"))]) λPJ=>au (nm "isinstance") PJ) λMZ=>bnd (bnd (ah [ac (aa J3 (nm "due")),ret (.blt (nm "bool"))]) λPK=>au (nm "isinstance") PK) λM0=>ae .NotEq MZ M0) λb89=>bi .Or b89 (ret false))) λPL=>if PL then ret (.ret (.bool false)) else k65 J3)
noncomputable def Cg(Iu:D):M Flow':=bnd (bnd (bnd (bt Iu .none (.int 24)) λt2=>bnd (a_ t2) λl3=>aJ (λd4 Jn=>bnd (bnd (au (nm "abs") [d4]) λt6=>bnd (ag .Pow (.int 10) (.int 60)) λt7=>ag .Mod t6 t7) λt8=>if am (Jn).length then ret (Jn++[t8]) else stuck) l3 []) λl1=>bnd (ef (.list l1)) λi=>ret (.ref i)) λt9=>bnd (bnd (bnd (a_ (.tup [(.int 0),(.int 1)])) λKM=>aJ (λPM JU=>bnd (bnd (ah [ret t9,bnd (call (nm "_law_take") [t9,(.int 4)]) λI6=>subD (.tup [(.int 4),(.int 0),(.int 1),(.int 5)]) I6,ret (.int 3)]) λKv=>call (nm "_law_tree") Kv) λIO=>if am (JU).length then ret (JU++[IO]) else stuck) KM []) λKw=>ret (.list Kw)) λIH=>bnd (bnd (call (nm "_law_take") [t9,(.int 3)]) λIZ=>subD (.tup [(.int 8),(.int 5),(.int 12)]) IZ) λI0=>bnd (bO call (.fn (nm "Memory")) [(.int 12),(.int 10)]) λI7=>bnd (call (nm "_law_fill") [t9,I7]) λJz=>bnd (call (nm "base_expressions") []) λJA=>bnd (bnd (call (nm "char_expressions") []) λJW=>bnd (aZ JW (nm "items")) λk34=>bd call JW k34 []) λJX=>sG JX λOQ=>aE (Cf call) (λLG OR=>de LG [(nm "word"),(nm "handler")] OR) OQ [(nm "script",Iu),(nm "pool",t9),(nm "trees",IH),(nm "width",I0),(nm "memory",I7),(nm "held",Jz),(nm "expressions",JA)] λJG=>bnd (bnd (ah [ac (aa JG (nm "memory")),bnd (ah [ac (aa JG (nm "width")),ret (.int 3),ret (.int 5),ret (.int 90)]) λL3=>bO call (.fn (nm "Limits")) L3,fw [],ret (.none),ac (aa JG (nm "expressions")),fw []]) λL8=>bO call (.fn (nm "Run")) L8) λIL=>bnd (ret (aj JG (nm "run") IL)) λI1=>bnd (call (nm "all_operations") []) λJ_=>bnd (bnd (ac (aa I1 (nm "run"))) λJO=>bnd (eg JO (nm "operations") J_) λ_=>ret I1) λLH=>bnd (call (nm "_law_places") []) λJ0=>dK J0 λOS=>aE (zh call) (λLI OT=>ret (aj LI (nm "name") OT)) OS LH λIC=>bnd (aG [bnd (ah [bnd (ac (aa IC (nm "memory"))) λKi=>aA Ki (nm "numeric")]) λOU=>au (nm "list") OU,bnd (ah [bnd (ac (aa IC (nm "memory"))) λKp=>aA Kp (nm "characters")]) λLT=>au (nm "list") LT]) λKP=>bnd (ret (aj IC (nm "before") KP)) λI2=>bnd (ac (aa I2 (nm "trees"))) λKY=>dK KY λK8=>aE (ig call) (λJH KU=>ret (aj JH (nm "tree") KU)) K8 I2 λIx=>bnd (bnd (aG [bnd (ac (aa Ix (nm "memory"))) λKl=>aA Kl (nm "numeric"),bnd (ac (aa Ix (nm "memory"))) λJ5=>aA J5 (nm "characters")]) λJ6=>bnd (bnd (ac (aa Ix (nm "before"))) λJ7=>ae .Eq J6 J7) λb98=>ret (.bool b98)) λIX=>ret (.ret IX)
end
theorem Em(d:Nat)(Iu:D):run (d+1) (nm "law") [Iu]=aq (Cg (run d) Iu):=by kernel_rfl
noncomputable def cj:List (String×String):=[("const","eval_const"),("var","eval_place"),("elem","eval_place"),("add","eval_binary"),("sub","eval_binary"),("mul","eval_binary"),("div","eval_binary"),("powi","eval_binary"),("and","eval_binary"),("or","eval_binary"),("eqv","eval_binary"),("neqv","eval_binary"),
 ("eq","eval_compare"),("ne","eval_compare"),("lt","eval_compare"),("le","eval_compare"),("gt","eval_compare"),("ge","eval_compare"),("conv","eval_conv"),("neg","eval_unary"),("not","eval_unary"),("substr","eval_place"),("cat","eval_cat")]
noncomputable def il:List (Int×String):=[(0,"int_binary"),(1,"real_binary"),(4,"logic_binary"),(5,"text_binary")]
structure Wd(σ:St)(w:Int)(ro:D):Prop where
 w5:5<=w
 w12:w<=12
 exprs:∃ i l,aA ro (nm "expressions") σ=.ok (.ref i) σ/\σ[i]?=some (.sdict l)/\∀ p∈cj,aa l (nm p.1)=some (.fn (nm p.2))
 ops:∃ l,aA ro (nm "operations") σ=.ok (.idict l) σ/\∀ p∈il,gK l p.1=some (.fn (nm p.2))
 lims:∃ lim,aA ro (nm "limits") σ=.ok lim σ/\dC lim w σ
noncomputable def both(oa ob:Option D)(f:D->D->R D)(z:R D):R D:=match oa,ob with
 | some v,some u=>f v u
 | _,_=>z
noncomputable def By(oa:Option D)(f:D->R D)(z:R D):R D:=match oa with
 | some v=>f v
 | none=>z
variable{σ:St}{w:Int}{ro:D}
theorem rK{call:Str->List D->M D}{h:String}{as:List D}(hm:h∈["eval_const","eval_place","eval_binary","eval_compare","eval_conv","eval_unary","eval_cat","int_binary","real_binary","logic_binary","text_binary"]):bO call (.fn (nm h)) as=call (nm h) as:=by simp only[List.mem_cons,List.not_mem_nil,or_false]at hm;rcases hm with rfl | rfl | rfl | rfl | rfl | rfl | rfl | rfl | rfl | rfl | rfl <;> kernel_rfl
theorem Dj{p:String×String}(h:p∈cj):p.2∈["eval_const","eval_place","eval_binary","eval_compare","eval_conv","eval_unary","eval_cat","int_binary","real_binary","logic_binary","text_binary"]:=by revert p;decide
theorem Dk{p:Int×String}(h:p∈il):p.2∈["eval_const","eval_place","eval_binary","eval_compare","eval_conv","eval_unary","eval_cat","int_binary","real_binary","logic_binary","text_binary"]:=by revert p;decide
theorem o9(a:D)(r:List D):subD (.tup (a::r)) (.int 0)=ret a:=rfl
theorem ut(a b:D)(r:List D):subD (.tup (a::b::r)) (.int 1)=ret b:=rfl
theorem w_(a b c:D)(r:List D):subD (.tup (a::b::c::r)) (.int 2)=ret c:=rfl
theorem zi(a b c e:D)(r:List D):subD (.tup (a::b::c::e::r)) (.int 3)=ret e:=rfl
theorem bx(W:Wd σ w ro){d:Nat}{x h:String}{r:List D}(hx:(x,h)∈cj):run (d+1) (nm "evaluate") [ro,.tup (.str (nm x)::r)] σ=run d (nm h) [ro,.tup (.str (nm x)::r)] σ:=by
 rw[tJ];refine ar W.exprs λi l e1 e2 e3=>?_;have e4:=e3 _ hx;dsimp only at e4;have hc:ae .NotIn (.str (nm x)) (.ref i) σ=.ok false σ:=by
  have:cell i σ=.ok (.sdict l) σ:=by unfold cell;rw[e2]
  refine cv (a:=true) (cv this ?_) rfl;show R.ok (aa l (nm x)).isSome σ=_;rw[e4];rfl
 have hs:subD (.ref i) (.str (nm x)) σ=.ok (.fn (nm h)) σ:=by
  have:cell i σ=.ok (.sdict l) σ:=by unfold cell;rw[e2]
  refine cv this ?_;show ac (aa l (nm x)) σ=_;rw[e4];rfl
 refine dL (cv (rS rfl) (cv e1 hc)) (hO Bool.false_ne_true (u_ (cv (cv e1 (cv (rS rfl) hs)) ?_)));rw[rK (Dj hx)]
theorem nB(W:Wd σ w ro){d:Nat}{k:Int}{f:String}{x a b:D}(hk:(k,f)∈il):∃ lim,dC lim w σ/\run (d+1) (nm "reckon") [ro,x,.int k,a,b] σ=run d (nm f) [x,.int k,a,b,lim] σ:=by
 simp only[yP];refine ao W.ops λl e1 e2=>?_;refine ao W.lims λlim e3 L=>?_;have e4:=e2 _ hk;dsimp only at e4;refine⟨lim,L, ?_⟩;have hc:ae .NotIn (.int k) (.idict l)=ret false:=by have hi:BZ (.int k) (.idict l)=ret (gK l k).isSome:=rfl;show bnd (BZ (.int k) (.idict l)) (λr=>ret (!r))=ret false;rw[hi,e4];rfl
 have hs:subD (.idict l) (.int k)=ret (.fn (nm f)):=by show ac (gK l k)=_;exact congrArg _ e4
 refine dL (cv e1 (rS hc)) (hO Bool.false_ne_true (u_ (cv (cv e1 (rS hs)) (cv (dH (rS rfl) (dH (rS rfl) (dH (rS rfl) (dH (rS rfl) (dH e3 (rS rfl)))))) ?_))));rw[rK (Dk hk)]
theorem dW(o:Option D):aR o σ=match o with | some v=>.ok v σ | none=>.exc σ:=by induction o <;> rfl
theorem lV{d:Nat}{x:String}{k:Int}{a b:D}{oa ob:Option D}(ha:run d (nm "evaluate") [ro,a] σ=aR oa σ)(hb:run d (nm "evaluate") [ro,b] σ=aR ob σ) :
  run (d+1) (nm "eval_binary") [ro,.tup [.str (nm x),.int k,a,b]] σ=both oa ob (λv u=>run d (nm "reckon") [ro,.str (nm x),.int k,v,u] σ) (.exc σ):=by
 simp only[mH];rw[dW]at ha hb
 induction oa with
 | none=>exact aO (aO (cv (dH (rS rfl) (dH (rS rfl) (rS rfl))) ha) _) _
 | some v=>
  refine dL (cv (dH (rS rfl) (dH (rS rfl) (rS rfl))) ha) ?_
  induction ob with
  | none=>exact aO (aO (cv (dH (rS rfl) (dH (rS rfl) (rS rfl))) hb) _) _
  | some u=>exact dL (cv (dH (rS rfl) (dH (rS rfl) (rS rfl))) hb) (by walk_at "u")
theorem jY{d:Nat}{x:String}{k:Int}{a1 a2 b:D}{ra:List D}{oa ob:Option D}(ha:run d (nm "evaluate") [ro,.tup (a1::a2::ra)] σ=aR oa σ)(hb:run d (nm "evaluate") [ro,b] σ=aR ob σ) :
  run (d+1) (nm "eval_compare") [ro,.tup [.str (nm x),.int k,.tup (a1::a2::ra),b]] σ=both oa ob (λv u=>run d (nm "reckon") [ro,.str (nm x),a2,v,u] σ) (.exc σ):=by
 simp only[lA];rw[dW]at ha hb
 induction oa with
 | none=>exact aO (aO (cv (dH (rS rfl) (dH (rS rfl) (rS rfl))) ha) _) _
 | some v=>
  refine dL (cv (dH (rS rfl) (dH (rS rfl) (rS rfl))) ha) ?_
  induction ob with
  | none=>exact aO (aO (cv (dH (rS rfl) (dH (rS rfl) (rS rfl))) hb) _) _
  | some u=>exact dL (cv (dH (rS rfl) (dH (rS rfl) (rS rfl))) hb) (by walk_at "u")
theorem rL{d:Nat}{x:String}{k:Int}{a b:D}{oa ob:Option D}(ha:run d (nm "evaluate") [ro,a] σ=aR oa σ)(hb:run d (nm "evaluate") [ro,b] σ=aR ob σ) :
  run (d+1) (nm "eval_cat") [ro,.tup [.str (nm x),.int k,a,b]] σ=both oa ob (λv u=>ag .Add v u σ) (.exc σ):=by
 rw[tM];rw[dW]at ha hb;cases oa with
 | none=>exact aO (aO (cv (dH (rS rfl) (dH (rS rfl) (rS rfl))) ha) _) _
 | some v=>
  refine dL (cv (dH (rS rfl) (dH (rS rfl) (rS rfl))) ha) ?_;cases ob with
  | none=>exact aO (aO (aO (cv (dH (rS rfl) (dH (rS rfl) (rS rfl))) hb) _) _) _
  | some u=>exact u_ (cv (cv (dH (rS rfl) (dH (rS rfl) (rS rfl))) hb) rfl)
theorem d9(W:Wd σ w ro){d:Nat}{x:String}{k:Int}{a:D}{oa:Option D}(ha:run d (nm "evaluate") [ro,a] σ=aR oa σ) :
  ∃ lim,dC lim w σ/\run (d+1) (nm "eval_unary") [ro,.tup [.str (nm x),.int k,a]] σ=By oa (λv=>run d (nm "unary") [.str (nm x),.int k,v,lim] σ) (.exc σ):=by
 simp only[oN];refine ao W.lims λlim e3 L=>?_;refine⟨lim,L, ?_⟩;simp only[iW,SM,o9,ut,w_,zi];rw[dW]at ha
 induction oa with
 | none=>rw[aO ha];rfl
 | some v=>rw[aB ha,aB e3];rfl
theorem i8(W:Wd σ w ro){d:Nat}{x:String}{k:Int}{a1 a2:D}{ra:List D}{oa:Option D}(ha:run d (nm "evaluate") [ro,.tup (a1::a2::ra)] σ=aR oa σ) :
  ∃ lim,dC lim w σ/\run (d+1) (nm "eval_conv") [ro,.tup [.str (nm x),.int k,.tup (a1::a2::ra)]] σ=By oa (λv=>run d (nm "convert") [v,a2,.int k,lim] σ) (.exc σ):=by
 simp only[qS];refine ao W.lims λlim e3 L=>?_;refine⟨lim,L, ?_⟩;simp only[jK,SM,o9,ut,w_,zi];rw[dW]at ha
 induction oa with
 | none=>rw[aO ha];rfl
 | some v=>rw[aB ha,aB e3];rfl
theorem xa{d:Nat}{b:Bool}{lim:D}(hd:1<=d):run d (nm "unary") [.str (nm "not"),.int 4,.bool b,lim]=ret (.bool !b):=by
 refine ao (ak hd) λd z1 _=>?_;obtain rfl:=z1;rw[oI]
 induction b <;> kernel_rfl
theorem xb{d:Nat}{n:Int}{lim:D}(hd:2<=d)(h1:1<=w)(h2:w<=12)(L:dC lim w σ):run d (nm "unary") [.str (nm "neg"),.int 0,.int n,lim] σ=aR ((bb w (-n)).map .int) σ:=by refine ao (ak hd) λd z2 hd'=>?_;obtain rfl:=z2;rw[oI];have l:=L.width;have q:=congrFun (bR (n:=-n) hd' h1 h2) σ;walk_at "u"
theorem uu{d:Nat}{x:Int×Int}{lim:D}(hd:2<=d):run d (nm "unary") [.str (nm "neg"),.int 1,pr x,lim]=ret (pr (ic x)):=by refine ao (ak hd) λd z3 hd'=>?_;obtain rfl:=z3;rw[oI];have q:=gk (x:=x) hd';walk_at "e"
theorem o_{d:Nat}{n:Int}{lim:D}(hd:6<=d)(L:dC lim w σ)(hn:sm n):run d (nm "convert") [.int n,.int 0,.int 1,lim] σ=aR ((bw n 0).map pr) σ:=by
 refine ao (ak hd) λd z4 hd'=>?_;obtain rfl:=z4;rw[nj];refine ao (ak (show 4+1<=d by omega)) λd z5 hd''=>?_;obtain rfl:=z5;have e:run (d+1) (nm "real_as") [.int n,.int 0,.int 1,lim] σ=aR ((bw n 0).map pr) σ:=by rw[wW];have e1:=fg (d:=d) (by lia) L;have t:=L.top;have q:=congrFun (lP hd'' hn) σ;walk_at "u"
 walk_at "u"
theorem rM{d b:Nat}{x:Int×Int}{lim:D}(hd:2<=d)(h1:1<=w)(h2:w<=12)(hb:b<=300)(L:dC lim w σ)(hx:Rl b x):run d (nm "convert") [pr x,.int 1,.int 0,lim] σ=aR ((bb w (jL x)).map .int) σ:=by refine ao (ak hd) λd z6 hd'=>?_;rw[z6];rw[nj];have l:=L.width;have q:=lQ hd' hb hx;have r:=congrFun (bR (n:=jL x) hd' h1 h2) σ;walk_at "u"
noncomputable def cJ(call:Str->List D->M D)(Ij t1 H5 Ir IL H6:D):M Flow':=bnd (bnd (call (nm "_law_relations") []) λKf=>ae .In t1 Kf) λLa=>if La then bnd (bnd (ah [bnd (subD H5 (.int 2)) λJO=>subD JO (.int 1),ret Ir,ret IL]) λL9=>call (nm "_law_order") L9) λJC=>bnd (bnd (fw [(ret (.str (nm "eq")),bnd (ae .Eq JC (.int 0)) λb45=>ret (.bool b45)),(ret (.str (nm "ne")),bnd (ae .NotEq JC (.int 0)) λb46=>ret (.bool b46)),(ret (.str (nm "lt")),bnd (ae .Lt JC (.int 0)) λb47=>ret (.bool b47)),(ret (.str (nm "le")),bnd (ae .Lt JC (.int 1)) λb48=>ret (.bool b48)),(ret (.str (nm "gt")),bnd (ae .Gt JC (.int 0)) λb49=>ret (.bool b49)),(ret (.str (nm "ge")),bnd (ae .Gt JC (.int (-1))) λb50=>ret (.bool b50))]) λKh=>subD Kh t1) λKy=>ret (.ret Ky) else bnd (ae .In t1 (.tup [(.str (nm "and")),(.str (nm "or")),(.str (nm "eqv")),(.str (nm "neqv"))])) λLQ=>if LQ then bnd (bnd (fw [(ret (.str (nm "and")),au (nm "min") [Ir,IL]),(ret (.str (nm "or")),au (nm "max") [Ir,IL]),(ret (.str (nm "eqv")),bnd (ae .Eq Ir IL) λb54=>ret (.bool b54)),(ret (.str (nm "neqv")),bnd (ae .NotEq Ir IL) λb55=>ret (.bool b55))]) λJ0=>subD J0 t1) λKi=>ret (.ret Ki) else bnd (bnd (ae .Eq t1 (.str (nm "cat"))) λMX=>if MX then ag .Add Ir IL else bnd (ah [ret t1,subD H5 (.int 1),ret Ir,ret IL,ret H6]) λLR=>call (nm "_law_two") LR) λK4=>ret (.ret K4)
noncomputable def mM:List String:=["add","sub","mul","div","powi","and","or","eqv","neqv","eq","ne","lt","le","gt","ge","cat"]
theorem Dl{α:Type}{P:α->Prop}{a:α}{l:List α}(h:P a)(t:∀ x∈l,P x):∀ x∈a::l,P x:=List.forall_mem_cons.mpr ⟨h,t⟩
theorem uv{call:Str->List D->M D}{ho k a b w:D}{x:String}(hx:x∈mM):bu call ho (.tup [.str (nm x),k,a,b]) w=bnd (call (nm "_law_value") [ho,a,w]) λIr=>bnd (ae .Is Ir .none) λKe=>if Ke then ret (.ret .none) else
  bnd (call (nm "_law_value") [ho,b,w]) λIL=>bnd (ae .Is IL .none) λMW=>if MW then ret (.ret .none) else cJ call ho (.str (nm x)) (.tup [.str (nm x),k,a,b]) Ir IL w:=by
 revert hx
 generalize x=y
 revert y
 repeat refine Dl (by kernel_rfl) ?_
 exact dj
variable{σ:St}{w:Int}{ro ho:D}
noncomputable def Ev(σ:St)(w:Int)(ro ho:D)(K:Nat)(P:D->Prop)(t:D):Prop:=∃ o:Option D,(∀ v,o=some v->P v)/\∀ d,K<=d->run d (nm "evaluate") [ro,t] σ=aR o σ/\run d (nm "_law_value") [ho,t,.int w] σ=ret (o.getD .none) σ
noncomputable def ex(n:Nat):Nat:=if n=0 then 3 else if n=1 then 14 else if n=2 then 36 else 80
inductive Val:Int->Nat->D->Prop
 | int {n:Nat} {i:Int}:i.natAbs<=2048->Val 0 n (.int i)
 | real {n:Nat} {x:Int×Int}:Rl (ex n) x->Val 1 n (pr x)
 | bool {n:Nat} {b:Bool}:Val 4 n (.bool b)
 | str {n:Nat} {s:Str}:s.length<=4*2 ^ n->Val 5 n (.str s)
theorem Val.is{k:Int}{n:Nat}{v:D}(h:Val k n v):ae .Is v .none=ret false:=by induction h <;> rfl
theorem i9:ae .Is .none .none=ret true:=rfl
theorem pd{d:Nat}{x:String}{k k1 k2:Int}{n1 n2:Nat}{a b:D}{oa ob:Option D}(hx:x∈mM)(pa:∀ v,oa=some v->Val k1 n1 v)(pb:∀ v,ob=some v->Val k2 n2 v)
  (ha:run d (nm "_law_value") [ho,a,.int w] σ=ret (oa.getD .none) σ) (hb:run d (nm "_law_value") [ho,b,.int w] σ=ret (ob.getD .none) σ) :
  run (d+1) (nm "_law_value") [ho,.tup [.str (nm x),.int k,a,b],.int w] σ=both oa ob (λv u=>aq (cJ (run d) ho (.str (nm x)) (.tup [.str (nm x),.int k,a,b]) v u (.int w)) σ) (.ok .none σ):=by
 rw[bQ,uv hx];simp only[SM];rw[aB ha]
 induction oa with
 | none=>simp only[Option.getD_none,i9,SM,if_true];rfl
 | some v=>
  simp[Option.getD_some,(pa v rfl).is,SM,Bool.false_eq_true,if_false];rw[aB hb]
  induction ob with
  | none=>simp only[Option.getD_none,i9,SM,if_true];rfl
  | some u=>simp only[Option.getD_some,(pb u rfl).is,SM,Bool.false_eq_true,if_false];rfl
theorem pe{d:Nat}{x:String}(hd:1<=d)(hx:x∈mM):bnd (run d (nm "_law_relations") []) (λt=>ae .In (.str (nm x)) t) σ=.ok (decide (x∈rels)) σ:=by
 refine ao (ak hd) λd z1 _=>?_;rw[z1]
 revert hx
 generalize x=y
 revert y
 repeat refine Dl (by kernel_rfl) ?_
 exact dj
theorem uw{x:String}(hx:x∈mM):ae .In (.str (nm x)) (.tup [(.str (nm "and")),(.str (nm "or")),(.str (nm "eqv")),(.str (nm "neqv"))]) σ=.ok (decide (x∈["and","or","eqv","neqv"])) σ:=by
 revert hx
 generalize x=y
 revert y
 repeat refine Dl (by kernel_rfl) ?_
 exact dj
variable{σ:St}{w:Int}{ro ho:D}
theorem lW(W:Wd σ w ro){K:Nat}{x f:String}{k k1 k2:Int}{n1 n2:Nat}{a b:D}{P:D->Prop}(hK:12<=K)(hx:x∈mM)(he:(x,"eval_binary")∈cj)(hk:(k,f)∈il)(A:Ev σ w ro ho K (Val k1 n1) a)(B:Ev σ w ro ho K (Val k2 n2) b)
  (core:∀ v u,Val k1 n1 v->Val k2 n2 u->∃ o:Option D,(∀ z,o=some z->P z)/\(∀ d lim,8<=d->dC lim w σ->run d (nm f) [.str (nm x),.int k,v,u,lim] σ=aR o σ)/\∀ d,8<=d->aq (cJ (run d) ho (.str (nm x)) (.tup [.str (nm x),.int k,a,b]) v u (.int w)) σ=ret (o.getD .none) σ) :
  Ev σ w ro ho (K+2) P (.tup [.str (nm x),.int k,a,b]):=by
 refine ao A λoa pa ha=>?_;refine ao B λob pb hb=>?_;have ee:∀ d,K+2<=d->run d (nm "evaluate") [ro,.tup [.str (nm x),.int k,a,b]] σ=both oa ob (λv u=>run (d - 2) (nm "reckon") [ro,.str (nm x),.int k,v,u] σ) (.exc σ):=λd hd=>by obtain⟨d,rfl⟩ : ∃ e,d=e+2:=⟨d - 2,by lia⟩;exact(bx W he).trans ((lV (ha d (by lia)).1 (hb d (by lia)).1))
 have el:∀ d,K+2<=d->run d (nm "_law_value") [ho,.tup [.str (nm x),.int k,a,b],.int w] σ=both oa ob (λv u=>aq (cJ (run (d - 1)) ho (.str (nm x)) (.tup [.str (nm x),.int k,a,b]) v u (.int w)) σ) (.ok .none σ):=λd hd=>by obtain⟨d,rfl⟩ : ∃ e,d=e+1:=⟨d - 1,by lia⟩;exact(pd hx pa pb (ha d (by lia)).2 (hb d (by lia)).2)
 induction oa with
 | none=>exact⟨none,nofun,λd hd=>⟨by exact(ee d hd),by exact(el d hd)⟩⟩
 | some v=>
  induction ob with
  | none=>exact⟨none,nofun,λd hd=>⟨by exact(ee d hd),by exact(el d hd)⟩⟩
  | some u=>
   refine bj (core v u (pa v rfl) (pb u rfl)) λo po c1 c2=>?_;refine⟨o,po,λd hd=>⟨?_, ?_⟩⟩
   ·refine PV (ee d hd) ?_;obtain⟨d,rfl⟩ : ∃ e,d=e+3:=⟨d - 3,by lia⟩;refine ao (nB W (d:=d) (x:=.str (nm x)) (a:=v) (b:=u) hk) λlim L hr=>?_;show run (d+1) (nm "reckon") _ σ=_;simp only[hr,c1 d lim (by lia) L]
   ·refine PV (el d hd) ?_;exact c2 _ (by lia)
theorem lX(W:Wd σ w ro){K:Nat}{x f:String}{k1:Int}{n1 n2:Nat}{b a1:D}{ra:List D}{P:D->Prop}(hK:12<=K)(hx:x∈mM)(he:(x,"eval_compare")∈cj)(hk:(k1,f)∈il)(A:Ev σ w ro ho K (Val k1 n1) (.tup (a1::.int k1::ra)))(B:Ev σ w ro ho K (Val k1 n2) b)
  (core:∀ v u,Val k1 n1 v->Val k1 n2 u->∃ o:Option D,(∀ z,o=some z->P z)/\(∀ d lim,8<=d->dC lim w σ->run d (nm f) [.str (nm x),.int k1,v,u,lim] σ=aR o σ)/\∀ d,8<=d->aq (cJ (run d) ho (.str (nm x)) (.tup [.str (nm x),.int 4,.tup (a1::.int k1::ra),b]) v u (.int w)) σ=ret (o.getD .none) σ) :
  Ev σ w ro ho (K+2) P (.tup [.str (nm x),.int 4,.tup (a1::.int k1::ra),b]):=by
 refine ao A λoa pa ha=>?_;refine ao B λob pb hb=>?_;have ee:∀ d,K+2<=d->run d (nm "evaluate") [ro,.tup [.str (nm x),.int 4,.tup (a1::.int k1::ra),b]] σ=both oa ob (λv u=>run (d - 2) (nm "reckon") [ro,.str (nm x),.int k1,v,u] σ) (.exc σ):=λd hd=>by obtain⟨d,rfl⟩ : ∃ e,d=e+2:=⟨d - 2,by lia⟩;exact(bx W he).trans ((jY (ha d (by omega)).1 (hb d (by omega)).1))
 have el:∀ d,K+2<=d->run d (nm "_law_value") [ho,.tup [.str (nm x),.int 4,.tup (a1::.int k1::ra),b],.int w] σ=both oa ob (λv u=>aq (cJ (run (d - 1)) ho (.str (nm x)) (.tup [.str (nm x),.int 4,.tup (a1::.int k1::ra),b]) v u (.int w)) σ) (.ok .none σ):=λd hd=>by obtain⟨d,rfl⟩ : ∃ e,d=e+1:=⟨d - 1,by lia⟩;exact(pd hx pa pb (ha d (by omega)).2 (hb d (by omega)).2)
 cases oa with
 | none=>exact⟨none,nofun,λd hd=>⟨by exact(ee d hd),by exact(el d hd)⟩⟩
 | some v=>
  induction ob with
  | none=>exact⟨none,nofun,λd hd=>⟨by exact(ee d hd),by exact(el d hd)⟩⟩
  | some u=>
   refine bj (core v u (pa v rfl) (pb u rfl)) λo po c1 c2=>?_;refine⟨o,po,λd hd=>⟨?_, ?_⟩⟩
   ·refine PV (ee d hd) ?_;obtain⟨d,rfl⟩ : ∃ e,d=e+3:=⟨d - 3,by lia⟩;refine ao (nB W (d:=d) (x:=.str (nm x)) (a:=v) (b:=u) hk) λlim L hr=>?_;show run (d+1) (nm "reckon") _ σ=_;exact hr.trans ((c1 d lim (by lia) L))
   ·refine PV (el d hd) ?_;exact c2 _ (by lia)
theorem nC:∀ x∈["and","or","eqv","neqv"],x∈mM/\x∉rels:=by decide
theorem jt:∀ x∈["add","sub","mul","div","powi"],x∈mM/\x∉rels/\x∉["and","or","eqv","neqv"]:=by decide
theorem gC:∀ x∈rels,x∈mM:=by decide
theorem lY{d:Nat}{x:String}{a1 b v u:D}{k1 o:Int}{ra:List D}(hd:8<=d)(hx:x∈rels)(ho':run d (nm "_law_order") [.int k1,v,u] σ=ret (.int o) σ) :
  aq (cJ (run d) ho (.str (nm x)) (.tup [.str (nm x),.int 4,.tup (a1::.int k1::ra),b]) v u (.int w)) σ=ret (.bool (iZ x o)) σ:=by
 have hb:x∈mM:=gC x hx;have ho:run d (nm "_law_order") [.int k1,v,u] σ=.ok (.int o) σ:=ho';refine dL (pe (by lia) hb) (ua (dT hx) ?_);simp only[rels,List.mem_cons,List.not_mem_nil,or_false]at hx;rcases hx with rfl | rfl | rfl | rfl | rfl | rfl
 ·walk_at "u"
 ·walk_at "u"
 ·walk_at "u"
 ·rw[show iZ "le" o=decide (o<1) from decide_eq_decide.mpr (by lia)];walk_at "u"
 ·walk_at "u"
 ·rw[show iZ "ge" o=decide (-1<o) from decide_eq_decide.mpr (by lia)];walk_at "u"
theorem zj{d:Nat}{x:String}{t:D}{p q:Bool}(hd:8<=d)(hx:x∈["and","or","eqv","neqv"]) :
  aq (cJ (run d) ho (.str (nm x)) t (.bool p) (.bool q) (.int w)) σ=ret (.bool (yR x p q)) σ:=by
 obtain⟨hb,hn⟩:=nC x hx;refine dL (pe (by omega) hb) (hO (tF (dF hn)) (dL (uw hb) (ua (dT hx) ?_)));simp only[List.mem_cons,List.not_mem_nil,or_false]at hx;rcases hx with rfl | rfl | rfl | rfl <;> induction p <;> induction q <;> kernel_rfl
theorem zk{d:Nat}{t:D}{p q:Str}(hd:8<=d)(hp:p.length<=60)(hq:q.length<=60) :
  aq (cJ (run d) ho (.str (nm "cat")) t (.str p) (.str q) (.int w)) σ=ret (.str (p++q)) σ:=by
 have m2:ag .Add (.str p) (.str q)=ret (.str (p++q)):=by
  show(if am p.length&&am q.length then ret (D.str (p++q)) else stuck)=_;have la:am p.length=true:=by unfold am;simp;lia
  have lb:am q.length=true:=by unfold am;simp;lia
  simp[la,lb]
 refine dL (pe (x:="cat") (by lia) (by decide)) (hO (by decide) (dL (uw (x:="cat") (by decide)) (hO (by decide) ?_)));exact u_ (cv (rS rfl) (Ed (by decide) (rS m2)))
theorem rN{d:Nat}{x:String}{k v u a b:D}(hd:8<=d)(hx:x∈["add","sub","mul","div","powi"]) :
  aq (cJ (run d) ho (.str (nm x)) (.tup [.str (nm x),k,a,b]) v u (.int w)) σ=run d (nm "_law_two") [.str (nm x),k,v,u,.int w] σ:=by
 refine jf (jt x hx) λhb hn hn2=>?_;have hc:¬ nm x=nm "cat":=λe=>by simp only[q_]at e;subst e;revert hx;decide
 refine dL (pe (by omega) hb) (hO (tF (dF hn)) (dL (uw hb) (hO (tF (dF hn2)) ?_)));walk_at "u"
variable{σ:St}{w:Int}{ro ho:D}
theorem Bz:∀ x∈["and","or","eqv","neqv"],(x,"eval_binary")∈cj:=by decide
theorem vq:∀ x∈["add","sub","mul","div","powi"],(x,"eval_binary")∈cj:=by decide
theorem pf:∀ x∈rels,(x,"eval_compare")∈cj:=by decide
set_option tactic.hygienic true in
theorem zl(W:Wd σ w ro){K n m:Nat}{x:String}{a b:D}(hK:12<=K)(hx:x∈["and","or","eqv","neqv"])(A:Ev σ w ro ho K (Val 4 n) a)(B:Ev σ w ro ho K (Val 4 n) b) :
  Ev σ w ro ho (K+2) (Val 4 m) (.tup [.str (nm x),.int 4,a,b]):=by
 refine lW W (f:="logic_binary") hK (nC x hx).1 (Bz x hx) (by decide) A B λv u hv hu=>?_;cases hv with
 | bool=>
  cases hu with
  | bool=>rename_i p q;exact⟨some (.bool (yR x p q)),λz hz=>by cases hz;exact .bool,λd lim hd L=>by rw[jV (by lia) hx];rfl,λd hd=>zj hd hx⟩
set_option tactic.hygienic true in
theorem zm(W:Wd σ w ro){K n m:Nat}{x:String}{k1:Int}{a1 b:D}{ra:List D}(hn:n<=2)(hK:12<=K)(hx:x∈rels)(hk:k1=0\/k1=1\/k1=5)(A:Ev σ w ro ho K (Val k1 n) (.tup (a1::.int k1::ra)))(B:Ev σ w ro ho K (Val k1 n) b) :
  Ev σ w ro ho (K+2) (Val 4 m) (.tup [.str (nm x),.int 4,.tup (a1::.int k1::ra),b]):=by
 have hex:ex n<=80:=by unfold ex;split <;> (try split) <;> (try split) <;> lia
 have hp:4*2 ^ n<=60:=by have:2 ^ n<=2 ^ 2:=Nat.pow_le_pow_right (by decide) hn;lia
 rcases hk with rfl | rfl | rfl
 ·refine lX W (f:="int_binary") hK (gC x hx) (pf x hx) (by decide) A B λv u hv hu=>?_;cases hv with
  | int h1=>
   cases hu with
   | int h2=>rename_i p q;exact⟨some (.bool (iZ x (ug p q))),λz hz=>by cases hz;exact .bool,λd lim hd L=>by rw[ui (by lia) hx];rfl,λd hd=>lY hd hx (by rw[mK (by lia)])⟩
 ·refine lX W (f:="real_binary") hK (gC x hx) (pf x hx) (by decide) A B λv u hv hu=>?_;cases hv with
  | real h1=>
   cases hu with
   | real h2=>rename_i p q;exact⟨some (.bool _),λz hz=>by cases hz;exact .bool,λd lim hd L=>rB (by lia) hex h1 h2 L hx,λd hd=>lY hd hx (by rw[lT (by lia) hex h1 h2])⟩
 ·refine lX W (f:="text_binary") hK (gC x hx) (pf x hx) (by decide) A B λv u hv hu=>?_;cases hv with
  | str h1=>
   cases hu with
   | str h2=>rename_i p q;exact⟨some (.bool (iZ x (uo p q))),λz hz=>by cases hz;exact .bool,λd lim hd L=>by rw[rG (by lia) (by lia) (by lia) hx];rfl,λd hd=>lY hd hx (by rw[mL (by lia) (by lia) (by lia)])⟩
set_option tactic.hygienic true in
theorem zo(W:Wd σ w ro){K n:Nat}{a b:D}(hn:n<=2)(hK:12<=K)(A:Ev σ w ro ho K (Val 5 n) a)(B:Ev σ w ro ho K (Val 5 n) b):Ev σ w ro ho (K+2) (Val 5 (n+1)) (.tup [.str (nm "cat"),.int 5,a,b]):=by
 have hp:4*2 ^ n<=60:=by have:2 ^ n<=2 ^ 2:=Nat.pow_le_pow_right (by lia) hn;lia
 refine ao A λoa pa ha=>?_;refine ao B λob pb hb=>?_;have ee:∀ d,K+2<=d->run d (nm "evaluate") [ro,.tup [.str (nm "cat"),.int 5,a,b]] σ=both oa ob (λv u=>ag .Add v u σ) (.exc σ):=λd hd=>by obtain⟨d,rfl⟩ : ∃ e,d=e+2:=⟨d - 2,by lia⟩;rw[bx W (h:="eval_cat") (by decide),rL (ha d (by lia)).1 (hb d (by lia)).1]
 have el:∀ d,K+2<=d->run d (nm "_law_value") [ho,.tup [.str (nm "cat"),.int 5,a,b],.int w] σ=both oa ob (λv u=>aq (cJ (run (d - 1)) ho (.str (nm "cat")) (.tup [.str (nm "cat"),.int 5,a,b]) v u (.int w)) σ) (.ok .none σ):=λd hd=>by obtain⟨d,rfl⟩ : ∃ e,d=e+1:=⟨d - 1,by lia⟩;rw[pd (by decide) pa pb (ha d (by lia)).2 (hb d (by lia)).2];rfl
 induction oa with
 | none=>exact⟨none,nofun,λd hd=>⟨by rw[ee d hd];rfl,by rw[el d hd];rfl⟩⟩
 | some v=>
  induction ob with
  | none=>exact⟨none,nofun,λd hd=>⟨by rw[ee d hd];rfl,by rw[el d hd];rfl⟩⟩
  | some u=>
   have pv:=pa v rfl;have pu:=pb u rfl;cases pv with
   | str h1=>
    cases pu with
    | str h2=>
     rename_i p q;have m2:ag .Add (.str p) (.str q)=ret (.str (p++q)):=by
      show(if am p.length&&am q.length then ret (D.str (p++q)) else stuck)=_;have la:am p.length=true:=by unfold am;simp;lia
      have lb:am q.length=true:=by unfold am;simp;lia
      simp[la,lb]
     refine⟨some (.str (p++q)),λz hz=>?_,λd hd=>⟨?_, ?_⟩⟩
     ·cases hz;refine .str ?_;have:(p++q).length=p.length+q.length:=by show(p.cps++q.cps).size=_;simp[Str.length]
      simp only[this,Nat.pow_succ];lia
     ·refine PV (ee d hd) ?_;show ag .Add (.str p) (.str q) σ=_;rw[m2];rfl
     ·refine PV (el d hd) ?_;exact zk (by lia) (by lia) (by lia)
theorem nD{w x:Int}(h2:w<=12):∀ (k:Nat) (f z:Int),f.natAbs<=2048->bV w x k f=some z->z.natAbs<=2048
 | 0,f,z,hf,h=>by simp only[bV,Option.some.injEq]at h;lia
 | k+1,f,z,hf,h=>by
  dsimp only[bV]at h
  induction q:bb w (f*x) with
  | none=>exact dt (q ▸ h)
  | some g=>rw[q]at h;refine cM (ub h2 q) λ_ z1 a b=>?_;obtain rfl:=z1;exact nD h2 k _ z (by lia) h
theorem gl{w n z:Int}(h2:w<=12)(h:bb w n=some z):z.natAbs<=2048:=by refine cM (ub h2 h) λ_ z2 a b=>?_;rw[z2];lia
theorem rO{w x y z:Int}{op:String}(h2:w<=12)(h:fD w op x y=some z):z.natAbs<=2048:=by
 unfold fD at h
 split at h
 ·exact gl h2 h
 split at h
 ·exact gl h2 h
 split at h
 ·exact gl h2 h
 split at h
 ·split at h
  ·exact nomatch h
  ·exact gl h2 h
 ·unfold hV at h
  split at h
  ·split at h
   ·exact gl h2 h
   ·exact nomatch h
  ·split at h
   ·exact gl h2 h
   ·exact nD h2 _ _ _ (by decide) h
theorem pg{o:Option Int}{n:Nat}(h:∀ z,o=some z->z.natAbs<=2048):∀ z,o.map D.int=some z->Val 0 n z:=λz hz=>by
 induction o with
 | none=>injection hz
 | some i=>cases hz;exact .int (h i rfl)
set_option tactic.hygienic true in
theorem zp(W:Wd σ w ro){K n m:Nat}{x:String}{a b:D}(hK:12<=K)(hx:x∈["add","sub","mul","div","powi"])(A:Ev σ w ro ho K (Val 0 n) a)(B:Ev σ w ro ho K (Val 0 n) b) :
  Ev σ w ro ho (K+2) (Val 0 m) (.tup [.str (nm x),.int 0,a,b]):=by
 refine lW W (f:="int_binary") hK (jt x hx).1 (vq x hx) (by decide) A B λv u hv hu=>?_;have h5:=W.w5;have h12:=W.w12;cases hv with
 | int h1=>
  cases hu with
  | int h2=>
   rename_i p q;have fp:fits p=true:=aM (bX (k:=4) (by lia) (by lia));have fq:fits q=true:=aM (bX (k:=4) (by lia) (by lia));exact⟨(fD w x p q).map .int,pg λz hz=>rO h12 hz,λd lim hd L=>mI (by lia) (by lia) h12 fp fq (by omega) L hx,
    λd hd=>by rw[rN hd hx,rF (by lia) h5 h12 h1 h2 hx]⟩
theorem ph{n:Nat}(hn:n<=2):ex n<=36/\2*ex n+8<=ex (n+1):=by rcases (show n=0\/n=1\/n=2 by lia) with rfl | rfl | rfl <;> decide
theorem Rl.mono{b c:Nat}{x:Int×Int}(h:Rl b x)(e:b<=c):Rl c x:=⟨h.low,PO h.exp e⟩
set_option tactic.hygienic true in
theorem xc(W:Wd σ w ro){K n:Nat}{x:String}{a b:D}(hn:n<=2)(hK:12<=K)(hx:x∈["add","sub","mul","div"])(A:Ev σ w ro ho K (Val 1 n) a)(B:Ev σ w ro ho K (Val 1 n) b) :
  Ev σ w ro ho (K+2) (Val 1 (n+1)) (.tup [.str (nm x),.int 1,a,b]):=by
 have hx':x∈["add","sub","mul","div","powi"]:=by
  have:∀ x∈["add","sub","mul","div"],x∈["add","sub","mul","div","powi"]:=by decide
  exact this x hx
 obtain⟨hb,hs⟩:=ph hn;refine lW W (f:="real_binary") hK (jt x hx').1 (vq x hx') (by decide) A B λv u hv hu=>?_;cases hv with
 | real h1=>
  cases hu with
  | real h2=>
   rename_i p q;refine⟨(vm x p q).map pr,λz hz=>?_,λd lim hd L=>lR (by lia) (by lia) h1 h2 L hx,λd hd=>by rw[rN hd hx',o8 (by lia) hb h1 h2 hx]⟩
   induction q':vm x p q with
   | none=>rw[q']at hz;injection hz
   | some r=>replace hz:=(q') ▸ hz;cases hz;exact .real (((rE hb h1 h2 hx).2 r q').mono hs)
theorem i_(W:Wd σ w ro){K n1:Nat}{x h:String}{k k1:Int}{a:D}{P:D->Prop}(hK:12<=K)(he:(x,h)∈cj)(A:Ev σ w ro ho K (Val k1 n1) a)
  (ev:∀ d oa,run d (nm "evaluate") [ro,a] σ=aR oa σ->∃ lim,dC lim w σ/\run (d+1) (nm h) [ro,.tup [.str (nm x),.int k,a]] σ=By oa (λv=>run d (nm (if h = "eval_conv" then "convert" else "unary")) (if h = "eval_conv" then [v,.int k1,.int k,lim] else [.str (nm x),.int k,v,lim]) σ) (.exc σ))
  (KK:(Str->List D->M D)->D->M Flow') (hl:∀ call,bu call ho (.tup [.str (nm x),.int k,a]) (.int w)=bnd (call (nm "_law_value") [ho,a,.int w]) λIr=>bnd (ae .Is Ir .none) λKe=>if Ke then ret (.ret .none) else KK call Ir)
  (core:∀ v,Val k1 n1 v->∃ o:Option D,(∀ z,o=some z->P z)/\(∀ d lim,8<=d->dC lim w σ->run d (nm (if h = "eval_conv" then "convert" else "unary")) (if h = "eval_conv" then [v,.int k1,.int k,lim] else [.str (nm x),.int k,v,lim]) σ=aR o σ)/\∀ d,8<=d->aq (KK (run d) v) σ=ret (o.getD .none) σ) :
  Ev σ w ro ho (K+2) P (.tup [.str (nm x),.int k,a]):=by
 refine ao A λoa pa ha=>?_;have el:∀ d,K+2<=d->run d (nm "_law_value") [ho,.tup [.str (nm x),.int k,a],.int w] σ=By oa (λv=>aq (KK (run (d - 1)) v) σ) (.ok .none σ):=λd hd=>by
  obtain⟨d,rfl⟩ : ∃ e,d=e+1:=⟨d - 1,by lia⟩;rw[bQ,hl];simp only[SM];rw[aB (ha d (by lia)).2]
  induction oa with
  | none=>simp only[Option.getD_none,i9,SM,if_true];rfl
  | some v=>simp only[Option.getD_some,(pa v rfl).is,SM,Bool.false_eq_true,if_false];rfl
 induction oa with
 | none=>refine⟨none,nofun,λd hd=>⟨?_,by exact(el d hd)⟩⟩;obtain⟨d,rfl⟩ : ∃ e,d=e+2:=⟨d - 2,by lia⟩;refine ao (ev d none (ha d (by lia)).1) λlim L e=>?_;exact(bx W he).trans e
 | some v=>refine bj (core v (pa v rfl)) λo po c1 c2=>?_;refine⟨o,po,λd hd=>⟨?_,by refine PV (el d hd) ?_;exact c2 _ (by lia)⟩⟩;obtain⟨d,rfl⟩ : ∃ e,d=e+2:=⟨d - 2,by lia⟩;refine ao (ev d (some v) (ha d (by lia)).1) λlim L e=>?_;exact(bx W he).trans (e.trans (c1 d lim (by lia) L))
set_option tactic.hygienic true in
theorem zq(W:Wd σ w ro){K n m:Nat}{a:D}(hK:12<=K)(A:Ev σ w ro ho K (Val 4 n) a):Ev σ w ro ho (K+2) (Val 4 m) (.tup [.str (nm "not"),.int 4,a]):=by
 refine i_ W (h:="eval_unary") hK (by decide) A (λd oa ha=>d9 W ha) (λcall Ir=>bnd (bnd (cA Ir) λb18=>ret (.bool !b18)) λI0=>ret (.ret I0)) (λcall=>by kernel_rfl) λv hv=>?_;cases hv with
 | bool=>rename_i b;refine⟨some (.bool !b),λz hz=>by cases hz;exact .bool,λd lim hd L=>?_,λd hd=>by simp[SM,SI]⟩;rw[PX (show ¬ "eval_unary" = "eval_conv" from by decide),PX (show ¬ "eval_unary" = "eval_conv" from by decide)];rw[xa (by lia)];rfl
set_option tactic.hygienic true in
theorem xd(W:Wd σ w ro){K n m:Nat}{a:D}(hK:12<=K)(A:Ev σ w ro ho K (Val 0 n) a):Ev σ w ro ho (K+2) (Val 0 m) (.tup [.str (nm "neg"),.int 0,a]):=by
 have h5:=W.w5;have h12:=W.w12;refine i_ W (h:="eval_unary") hK (by decide) A (λd oa ha=>d9 W ha) (λcall Ir=>bnd (bnd (ah [dk Ir,ret (.int w)]) λLb=>call (nm "_law_whole") Lb) λJu=>ret (.ret Ju)) (λcall=>by kernel_rfl) λv hv=>?_;cases hv with
 | int h1=>rename_i p;refine⟨(bb w (-p)).map .int,pg λz hz=>gl h12 hz,λd lim hd L=>?_,λd hd=>by simp[SM,SI,dq (show 1<=d by lia) (show 1<=w by lia) h12]⟩;rw[PX (show ¬ "eval_unary" = "eval_conv" from by decide),PX (show ¬ "eval_unary" = "eval_conv" from by decide)];exact(xb (by lia) (by lia) h12 L)
set_option tactic.hygienic true in
theorem xe(W:Wd σ w ro){K n:Nat}{a:D}(hn:n<=2)(hK:12<=K)(A:Ev σ w ro ho K (Val 1 n) a):Ev σ w ro ho (K+2) (Val 1 (n+1)) (.tup [.str (nm "neg"),.int 1,a]):=by
 refine i_ W (h:="eval_unary") hK (by decide) A (λd oa ha=>d9 W ha) (λcall Ir=>bnd (aG [bnd (subD Ir (.int 0)) λJq=>dk Jq,subD Ir (.int 1)]) λJu=>ret (.ret Ju)) (λcall=>by kernel_rfl) λv hv=>?_;cases hv with
 | real h1=>rename_i p;refine⟨some (pr (ic p)),λz hz=>by cases hz;exact .real (h1.neg.mono (by have:=ph hn;lia)),λd lim hd L=>?_,λd hd=>by simp[SM,SI,pr,ic,FO,El,aG,am]⟩;rw[PX (show ¬ "eval_unary" = "eval_conv" from by decide),PX (show ¬ "eval_unary" = "eval_conv" from by decide)];rw[uu (by lia)];rfl
set_option tactic.hygienic true in
theorem ux(W:Wd σ w ro){K n:Nat}{a1:D}{ra:List D}(hn:n<=2)(hK:12<=K)(A:Ev σ w ro ho K (Val 0 n) (.tup (a1::.int 0::ra))):Ev σ w ro ho (K+2) (Val 1 (n+1)) (.tup [.str (nm "conv"),.int 1,.tup (a1::.int 0::ra)]):=by
 refine i_ W (h:="eval_conv") (k1:=0) hK (by decide) A (λd oa ha=>i8 W ha) (λcall Ir=>bnd (call (nm "_law_fit") [Ir,.int 1,.int 3]) λJs=>ret (.ret Js)) (λcall=>by kernel_rfl) λv hv=>?_;cases hv with
 | int h1=>rename_i p;have hc:cd p.natAbs<=4:=bk (by lia);have hr:=rj (m:=p) (e:=0) (by decide) (by lia);refine⟨some (pr (bn p 0)),λz hz=>by cases hz;exact .real (o4 (by lia) (by have:=ph hn;lia)),λd lim hd L=>?_,λd hd=>by simp[SM,SI,Bt (show 1<=d by lia) h1]⟩;rw[PW rfl,PW rfl];rw[o_ (by lia) L (bX (k:=4) (by lia) (by lia)),hr];rfl
theorem xf{x:Int×Int}:jL x=fG (av x).1 (av x).2:=by
 obtain⟨m,e⟩:=x;delta jL fG av;have hp:∀ k:Nat,¬ (((10 ^ k:Nat):Int)<0):=λk=>Int.not_lt.mpr (Int.natCast_nonneg _)
 by_cases he:0<=e
 ·have z:(-e).toNat=0:=by lia
  refine PV (PW he) ?_;rw[z];generalize (10:Int) ^ e.toNat=P at *
  rcases P8 (m*P<0) with hm | hm
  ·simp[hm];omega
  ·simp[hm];lia
 ·have z:e.toNat=0:=by lia
  simp only[PX he,z];have hp':=hp (-e).toNat;dsimp only[Int.natAbs_natCast];rw[Int.pow_zero,Int.mul_one];have hdc:decide ((((10 ^ (-e).toNat:Nat)):Int)<0)=false:=decide_eq_false hp';rw[hdc];have hq0:m=0->m.natAbs / 10 ^ (-e).toNat=0:=by rintro rfl;simp
  generalize m.natAbs / 10 ^ (-e).toNat=q at *
  by_cases hm:m<0
  ·have h1:¬ 0<m:=by lia
   have h2:decide (m<0)=true:=decide_eq_true hm;refine PV (PX h1) ?_;rw[h2,PX (by decide)]
  ·have h2:decide (m<0)=false:=decide_eq_false hm;rw[h2];show(if 0<m then (q:Int) else -(q:Int))=q
   by_cases hm':0<m
   ·exact(PW hm')
   ·refine PV (PX hm') ?_;rw[hq0 (by lia)];rfl
set_option tactic.hygienic true in
theorem uy(W:Wd σ w ro){K n m:Nat}{a1:D}{ra:List D}(hn:n<=2)(hK:12<=K)(A:Ev σ w ro ho K (Val 1 n) (.tup (a1::.int 1::ra))):Ev σ w ro ho (K+2) (Val 0 m) (.tup [.str (nm "conv"),.int 0,.tup (a1::.int 1::ra)]):=by
 have h5:=W.w5;have h12:=W.w12;refine i_ W (h:="eval_conv") (k1:=1) hK (by decide) A (λd oa ha=>i8 W ha) (λcall Ir=>bnd (call (nm "_law_fraction") [Ir]) λJM=>bnd (de [(nm "held",ho),(nm "tree",(.tup [.str (nm "conv"),.int 0,.tup (a1::.int 1::ra)])),(nm "width",.int w),(nm "word",.str (nm "conv")),(nm "x",Ir)] [(nm "over"),(nm "under")] JM) λJ4=>bnd (bnd (ah [bnd (ah [ac (aa J4 (nm "over")),ac (aa J4 (nm "under"))]) λLO=>call (nm "_law_toward") LO,ac (aa J4 (nm "width"))]) λL7=>call (nm "_law_whole") L7) λJY=>ret (.ret JY)) (λcall=>by kernel_rfl) λv hv=>?_;cases hv with
 | real h1=>
  rename_i p;have hex:ex n<=36:=(ph hn).1;refine⟨(bb w (jL p)).map .int,pg λz hz=>gl h12 hz,λd lim hd L=>?_,λd hd=>?_⟩
  ·rw[PW rfl,PW rfl];exact(rM (by lia) (by lia) h12 (by lia) L h1)
  ·refine PT (λf1 f2=>?_) (eJ (by lia) h1);have hu:=(cW h1).2.2;have d1:1<=d:=by lia
   have ht:=d6 (d:=d) d1 f1 f2 (by lia);rw[<-xf]at ht;have q1:=bH d1 (show ex n<=100 by lia) h1;have q2:=dq (n:=jL p) d1 (show 1<=w by lia) h12;clear h1 hex f1 f2 hu h12 hd hn hK A W h5;refine congrFun (?_:aq _=ret _) σ;walk_at "e"
variable{σ:St}{w:Int}{ro ho:D}
theorem aU{i:Nat}{c:Cell}(h:σ[i]?=some c):cell i σ=.ok c σ:=by unfold cell;rw[h]
theorem vr{i:Nat}{N:List D}(h:σ[i]?=some (.list N))(hl:N.length<=1000):au (nm "len") [.ref i] σ=.ok (.int N.length) σ:=by exact cv (aU h) (Ed (by unfold am;simp;lia) rfl)
theorem vt{i:Nat}{N:List D}{a:Nat}{v:D}(h:σ[i]?=some (.list N))(ha:N[a]?=some v)(hl:N.length<=1000):subD (.ref i) (.int a) σ=.ok v σ:=by
 show bnd (cell i) _ σ=_;rw[aB (aU h)];have h1:a<N.length:=(List.getElem?_eq_some_iff.mp ha).1;have:sp N (a:Int)=some v:=by
  refine PV (PW (by lia)) ?_
  simpa using ha
 show ac (sp N (a:Int)) σ=_;rw[this];rfl
theorem cY{d i:Nat}{N:List D}{a n:Nat}(hd:1<=d)(h:σ[i]?=some (.list N))(hl:N.length<=1000)(ha:a+n<=N.length):run d (nm "need_units") [.ref i,.int a,.int n] σ=.ok .none σ:=by
 refine ao (ak hd) λd z1 _=>?_;obtain rfl:=z1;rw[oC];have h0:¬ (a:Int)<0:=by lia
 have h1:¬ (N.length:Int)<a+n:=by lia
 have l:=vr h hl;walk_at "u"
theorem ju{d:Nat}{k:Int}(hd:1<=d)(hk:k=0\/k=1\/k=4):run d (nm "units_of") [.int k]=ret (.int 1):=by refine ao (ak hd) λd z2 _=>?_;obtain rfl:=z2;rw[tt];rcases hk with rfl | rfl | rfl <;> exact E1 rfl
noncomputable def jv(k:Int):Option D->D
 | some v=>.tup [.int k,v]
 | none=>.none
theorem lZ{d i:Nat}{N:List D}{a:Nat}{k:Int}{o:Option D}(hd:2<=d)(hk:k=0\/k=1\/k=4)(h:σ[i]?=some (.list N))(hl:N.length<=1000)(ha:N[a]?=some (jv k o)) :
  run d (nm "load_number") [.ref i,.int k,.int a] σ=aR o σ:=by
 refine ao (ak hd) λd z3 hd'=>?_;obtain rfl:=z3;rw[mu];have h1:a<N.length:=(List.getElem?_eq_some_iff.mp ha).1;have h3:¬ k=3:=by lia
 have h2:¬ k=2:=by lia
 have hu:=ju hd' hk;have hn1:run d (nm "need_units") [.ref i,.int a,.int 1] σ=.ok .none σ:=cY (d:=d) (a:=a) (n:=1) hd' h hl (by assumption);refine dL (cv (dH (rS rfl) (dH (rS rfl) (dH (rS hu) (rS rfl)))) hn1) (dL (rS rfl) (hO (tF (dF h3)) ?_));refine ao (ak hd') λd z4 _=>?_;rw[z4];have er:run (d+1) (nm "read_cell") [.ref i,.int a,.int k] σ=aR o σ:=by
  rw[qF];refine dL (vt h ha hl) ?_
  induction o with
  | none=>rfl
  | some v=>exact dL (rS (B1 (a:=false) rfl (oF rfl (B1 (a:=!decide (k=k)) (B1 rfl rfl) (oF (nF (dT rfl)) rfl))))) (hO Bool.false_ne_true rfl)
 induction o with
 | none=>exact aO (aO er _) _
 | some v=>exact dL er (dL (rS rfl) (hO (tF (dF h2)) rfl))
theorem im{d i:Nat}{N:List D}{a:Nat}{k:Int}{o:Option D}{m:D}{r:List D}(hd:3<=d)(hk:k=0\/k=1\/k=4)(hm:aA m (nm "numeric") σ=.ok (.ref i) σ)(h:σ[i]?=some (.list N))(hl:N.length<=1000)(ha:N[a]?=some (jv k o)) :
  run d (nm "Memory.load") [m,.tup (.int k::.int a::r)] σ=aR o σ:=by
 refine ao (ak hd) λd z5 hd'=>?_;obtain rfl:=z5;rw[gU];have h5:¬ k=5:=by lia
 have q:=lZ hd' hk h hl ha;walk_at "u"
noncomputable def ja:Option Str->Nat->List D
 | some s,_=>s.cps.toList.map λc=>.str ⟨#[c]⟩
 | none,n=>List.replicate n .none
theorem l_:∀ n,bN σ (List.replicate n .none)=some (List.replicate n .none)
 | 0=>rfl
 | n+1=>by simp only[List.replicate_succ,List.replicate_succ];show(match fF σ .none,bN σ (List.replicate n .none) with | some a,some b=>some (a::b) | _,_=>none)=_;exact(l_ n) ▸ rfl
theorem nE:∀ l:List Nat,bN σ (l.map λc=>.str ⟨#[c]⟩)=some (l.map λc=>.str ⟨#[c]⟩)
 | []=>rfl
 | c::l=>by show(match fF σ (.str ⟨#[c]⟩),bN σ (l.map λc=>.str ⟨#[c]⟩) with | some a,some b=>some (a::b) | _,_=>none)=_;exact(nE l) ▸ rfl
theorem rP:∀ n,PyData.canLayAll0 (List.replicate n .none)=true
 | 0=>rfl
 | n+1=>by simp only[List.replicate_succ];simp only[PyData.canLayAll0,PyData.canLay0,rP n,Bool.and_self]
theorem zr{c:Nat}(h:c<128):PyData.strOk ⟨#[c]⟩=true:=by simp[PyData.strOk];lia
theorem vu:∀ l:List Nat,(∀ c∈l,c<128)->PyData.canLayAll0 (l.map λc=>.str ⟨#[c]⟩)=true
 | [],_=>rfl
 | c::l,h=>by simp only[List.map_cons,PyData.canLayAll0,PyData.canLay0,zr (h c List.mem_cons_self),vu l (λc hc=>h c (by simp[hc])),Bool.and_self]
theorem BA{o:Option Str}{n:Nat}(hn:1<=n)(ho:∀ s,o=some s->∀ c∈s.cps.toList,c<128):ae .In .none (.list (ja o n)) σ=.ok o.isNone σ:=by
 show dY .none (ja o n) σ=_;unfold dY
 induction o with
 | none=>
  rw[show ja none n=List.replicate n .none from rfl,l_];show(if PyData.canLay0 .none&&PyData.canLayAll0 (List.replicate n .none)&&decide (PyData.depth .none<=64) then R.ok ((List.replicate n PyData.none).any λy=>PyData.eqv y .none) σ else .stuck)=_;rw[rP];have e:(List.replicate n PyData.none).any (λy=>PyData.eqv y .none)=true:=by rw[List.any_eq_true];exact⟨.none,by simp;lia,rfl⟩
  rw[e];rfl
 | some s=>
  rw[show ja (some s) n=s.cps.toList.map λc=>.str ⟨#[c]⟩ from rfl,nE];show(if PyData.canLay0 .none&&PyData.canLayAll0 (s.cps.toList.map λc=>.str ⟨#[c]⟩)&&decide (PyData.depth .none<=64) then R.ok ((s.cps.toList.map λc=>PyData.str ⟨#[c]⟩).any λy=>PyData.eqv y .none) σ else .stuck)=_;rw[vu _ (ho s rfl)];have e:(s.cps.toList.map λc=>PyData.str ⟨#[c]⟩).any (λy=>PyData.eqv y .none)=false:=by rw[List.any_eq_false];intro x hx;refine ao (List.mem_map.mp hx) λc _ z6=>?_;obtain rfl:=z6;simp[PyData.eqv]
  exact e ▸ rfl
theorem vw:∀ l:List Nat,iA (l.map λc=>.str ⟨#[c]⟩)=some (l.map λc=>⟨#[c]⟩)
 | []=>rfl
 | c::l=>by show(iA (l.map λc=>.str ⟨#[c]⟩)).map _=_;exact congrArg _ (vw l)
theorem E5(l:List Nat):Txt.join (nm "") (l.map λc=>(⟨#[c]⟩ : Str))=⟨l.toArray⟩:=by
 have e:nm "" = ⟨#[]⟩:=by decide +kernel
 rw[e];delta Txt.join Builtin.Str.glued;have key:∀ (l:List Nat) (acc:Array Nat),(l.map λc=>(⟨#[c]⟩ : Str)).foldl (λacc p=>acc++(#[]:Array Nat)++p.cps) acc=acc++l.toArray:=by
  intro l
  induction l with
  | nil=>intro acc;simp
  | cons c l ih=>intro acc;simp only[List.map_cons,List.foldl_cons,ih];simp
 induction l with
 | nil=>rfl
 | cons c l=>simp only[List.map_cons,List.drop_one,List.tail_cons,List.headD_cons,key];simp
theorem ma{call:Str->List D->M D}{s:Str}(hs:s.length<=1000):bd call (.str (nm "")) .join [.list (s.cps.toList.map λc=>.str ⟨#[c]⟩)]=ret (.str s):=by
 show bnd (ac (iA (s.cps.toList.map λc=>.str ⟨#[c]⟩))) _=_;rw[vw];have e:nm "" = ⟨#[]⟩:=by decide +kernel
 have hsum:((s.cps.toList.map λc=>(⟨#[c]⟩ : Str)).map (·.length)).sum+(s.cps.toList.map λc=>(⟨#[c]⟩ : Str)).length*(nm "").length<=16777216:=by
  have e0:(nm "").length=0:=by exact congrArg _ e
  have e1:∀ l:List Nat,((l.map λc=>(⟨#[c]⟩ : Str)).map (·.length)).sum=l.length:=by
   intro l
   induction l with
   | nil=>rfl
   | cons c l ih=>simp only[List.map_cons,List.sum_cons,ih,List.length_cons];simp[Str.length];lia
  simp only[e0,e1];simp only[Str.length]at hs;simp;lia
 exact(PW hsum).trans (by rw[E5])
theorem pj{d i:Nat}{N:List D}{a n:Nat}{o:Option Str}(hd:2<=d)(h:σ[i]?=some (.list N))(hl:N.length<=1000)(hn:1<=n)(ha:a+n<=N.length)(hc:cut N a (a+n)=ja o n)(ho:∀ s,o=some s->∀ c∈s.cps.toList,c<128) :
  run d (nm "load_text") [.ref i,.int a,.int n] σ=aR (o.map .str) σ:=by
 refine ao (ak hd) λd z7 hd'=>?_;rw[z7];rw[qH];refine dL (cY hd' h hl ha) ?_;have es:bt (.ref i) (.int a) (.int (a+n)) σ=.ok (.list (ja o n)) σ:=by
  refine cv (aU h) ?_;have l1:am N.length=true:=decide_eq_true (PO hl (by decide));have l2:iz (.int (a:Int)) (.int ((a:Int)+n)) N.length=some (a,a+n):=by show(if 0<=(a:Int)/\0<=(a:Int)+n then some (min (a:Int).toNat N.length,min ((a:Int)+n).toNat N.length) else none)=_;exact(PW ⟨Int.natCast_nonneg _,Int.natCast_nonneg (a+n)⟩).trans (congrArg some (Prod.ext (Nat.min_eq_left (PO (Nat.le_add_right a n) ha)) (Nat.min_eq_left ha)))
  show(if am N.length=true then bnd (ac (iz (.int (a:Int)) (.int ((a:Int)+n)) N.length)) λ(a,b)=>ret (D.list (cut N a b)) else stuck) σ=_;rw[l1,l2,PW rfl];show R.ok (D.list (cut N a (a+n))) σ=_;rw[hc]
 refine dL (cv (rS rfl) es) (dL (BA hn ho) ?_)
 induction o with
 | none=>rfl
 | some s=>
  have hp:aZ (.str (nm "")) (nm "join")=ret .join:=by kernel_rfl
  have hs:s.length<=1000:=by have:=congrArg List.length hc;simp only[cut,ja,List.length_take,List.length_drop,List.length_map]at this;simp only[Str.length,<-Array.length_toList];exact PO (PR this.symm) (PO (Nat.min_le_right _ _) (PO (Nat.sub_le _ _) hl))
  exact hO Bool.false_ne_true (u_ (cv (rS hp) (rS (ma hs))))
theorem io{d i:Nat}{N:List D}{a n:Nat}{o:Option Str}{m:D}{r:List D}(hd:3<=d)(hm:aA m (nm "characters") σ=.ok (.ref i) σ)(h:σ[i]?=some (.list N))(hl:N.length<=1000)(hn:1<=n)(ha:a+n<=N.length)(hc:cut N a (a+n)=ja o n)
  (ho:∀ s,o=some s->∀ c∈s.cps.toList,c<128):run d (nm "Memory.load") [m,.tup (.int 5::.int a::.int n::r)] σ=aR (o.map .str) σ:=by
 refine ao (ak hd) λd z8 hd'=>?_;obtain rfl:=z8;rw[gU];have q:=pj hd' h hl hn ha hc ho;walk_at "u"
variable{σ:St}{w:Int}{ro ho:D}
noncomputable def rg(a b:Int):D:=.tup [.int a,.int b]
noncomputable def cz(k a l:Int)(dims:List D):D:=.tup [.int k,.int a,.int l,.tup dims]
noncomputable def aC:List (Str×D):=[(nm "I",cz 0 0 0 []),(nm "J",cz 0 1 0 []),(nm "A",cz 0 2 0 [rg 0 2,rg (-1) 0]),(nm "X",cz 1 8 0 []),(nm "B",cz 1 9 0 [rg 1 2]),(nm "L",cz 4 11 0 []),(nm "C",cz 5 0 4 []),(nm "D",cz 5 4 3 [rg 2 3])]
theorem eN{d:Nat}(hd:1<=d):run d (nm "_law_places") []=ret (.sdict aC):=by
 refine ao (ak hd) λd z1 _=>?_;obtain rfl:=z1;rw[oO];have e:iX (run d)=ret (.ret (.sdict aC)):=by kernel_rfl
 exact congrArg _ e
theorem Ch{d:Nat}{k l:Int}(hd:2<=d)(hk:k=0\/k=1\/k=4):run d (nm "unit_size") [.int k,.int l]=ret (.int 1):=by
 refine ao (ak hd) λd z2 hd'=>?_;obtain rfl:=z2;rw[jI];have h5:¬ k=5:=by lia
 simp[gb,SM,SI,h5,ju hd' hk]
theorem Ci{d:Nat}{l:Int}(hd:2<=d):run d (nm "unit_size") [.int 5,.int l]=ret (.int l):=by refine ao (ak hd) λd z3 hd'=>?_;obtain rfl:=z3;rw[jI];simp[gb,SM,SI]
theorem jw{call:Str->List D->M D}{fr:af}{K:K'}{ds ss kk:D}{lo hi i o s:Int}(h1:aa fr (nm "dims")=some ds)(h2:aa fr (nm "subscripts")=some ss)(h3:aa fr (nm "k")=some kk)(h4:aa fr (nm "offset")=some (.int o))(h5:aa fr (nm "stride")=some (.int s))
  (hd:subD ds kk=ret (.tup [.int lo,.int hi])) (hs:subD ss kk=ret (.int i)) (g1:fits (i - lo)=true) (g2:fits s=true) (g3:fits (hi - lo+1)=true) :
  bF call fr K=if lo<=i/\i<=hi then K (aj (aj (aj (aj fr (nm "low") (.int lo)) (nm "high") (.int hi)) (nm "offset") (.int (o+(i - lo)*s))) (nm "stride") (.int (s*(hi - lo+1)))) else aQ:=by
 by_cases c1:i<lo
 ·rw[PX (by lia)];walk_at "e"
 ·by_cases c2:hi<i
  ·rw[PX (by lia)];walk_at "e"
  ·rw[PW (by lia)];walk_at "e"
noncomputable def Dm(call:Str->List D->M D):K':=λIS=>bnd (aG [ac (aa IS (nm "kind")),bnd (ac (aa IS (nm "address"))) λKd=>bnd (bnd (ac (aa IS (nm "offset"))) λJ0=>bnd (bnd (ah [ac (aa IS (nm "kind")),ac (aa IS (nm "length"))]) λMx=>call (nm "unit_size") Mx) λLL=>ag .Mult J0 LL) λKp=>ag .Add Kd Kp,ac (aa IS (nm "length")),ret ((.tup []))]) λK4=>ret (.ret K4)
theorem vx{call:Str->List D->M D}{fr:af}{k a l o u:Int}(h1:aa fr (nm "kind")=some (.int k))(h2:aa fr (nm "address")=some (.int a))(h3:aa fr (nm "length")=some (.int l))(h4:aa fr (nm "offset")=some (.int o))(hu:call (nm "unit_size") [.int k,.int l]=ret (.int u))(g1:fits o=true)(g2:fits u=true) :
  Dm call fr=ret (.ret (cz k (a+o*u) l [])):=by
 walk_at "e"
theorem zs{d:Nat}{k a l u lo hi i:Int}(hd:3<=d)(hi':fits (i - lo)=true)(hu:∀ e,2<=e->run e (nm "unit_size") [.int k,.int l]=ret (.int u))(fu:∀ q:Int,lo<=i->i<=hi->q=i - lo->fits q=true/\fits u=true)(fr:fits (hi - lo+1)=true) :
  run d (nm "element_place") [cz k a l [rg lo hi],.list [.int i]]=if lo<=i/\i<=hi then ret (cz k (a+(i - lo)*u) l []) else aQ:=by
 refine ao (ak hd) λd z4 hd'=>?_;obtain rfl:=z4;rw[fB];have e:df (run d) (cz k a l [rg lo hi]) (.list [.int i])=bF (run d) [(nm "place",cz k a l [rg lo hi]),(nm "subscripts",.list [.int i]),(nm "kind",.int k),(nm "address",.int a),(nm "length",.int l),(nm "dims",.tup [rg lo hi]),(nm "offset",.int 0),(nm "stride",.int 1),(nm "k",.int 0)] (Dm (run d)):=by kernel_rfl
 rw[e,jw (ds:=.tup [rg lo hi]) (ss:=.list [.int i]) (kk:=.int 0) (lo:=lo) (hi:=hi) (i:=i) (o:=0) (s:=1) (by kernel_rfl) (by kernel_rfl) (by kernel_rfl) (by kernel_rfl) (by kernel_rfl) rfl rfl hi' f1 fr]
 by_cases h:lo<=i/\i<=hi
 ·refine PT (λq1 q2=>?_) (fu _ h.1 h.2 rfl);rw[PW h,PW h,vx (k:=k) (a:=a) (l:=l) (o:=0+(i - lo)*1) (u:=u) (by kernel_rfl) (by kernel_rfl) (by kernel_rfl) (by kernel_rfl) (hu d hd') (by rw[Int.zero_add,Int.mul_one];exact q1) q2,Int.zero_add,Int.mul_one];rfl
 ·rw[PX h,PX h];rfl
theorem BB{i lo u:Int}(a:Int)(hi:i.natAbs<=2048):(a+(i - lo)*u).natAbs<=a.natAbs+(2048+lo.natAbs)*u.natAbs:=
 PO (Int.natAbs_add_le _ _) (Nat.add_le_add_left (PO (PR (Int.natAbs_mul _ _)) (Nat.mul_le_mul_right _ (PO (Int.natAbs_sub_le _ _) (Nat.add_le_add_right hi _)))) _)
theorem rQ{z:Int}{n:Nat}(h:z.natAbs<=n)(hn:n<10 ^ 5):fits z=true:=aM (bX (k:=5) (by decide) (PQ h hn))
theorem db{i lo:Int}(hi:i.natAbs<=2048)(hn:2048+lo.natAbs<10 ^ 5):fits (i - lo)=true:=rQ (PO (Int.natAbs_sub_le _ _) (Nat.add_le_add_right hi _)) hn
theorem mc{a i lo u:Int}(ha:0<=a)(hu:0<=u)(h:lo<=i):a+(i - lo)*u=((a+(i - lo)*u).toNat:Int):=(Int.toNat_of_nonneg (Int.add_nonneg ha (Int.mul_nonneg (Int.sub_nonneg_of_le h) hu))).symm
theorem zt{a i lo hi u:Int}{n:Nat}(hu:0<=u)(h:i<=hi)(k:a+(hi - lo)*u<n)(hn:0<n):(a+(i - lo)*u).toNat<n:=(Int.toNat_lt' hn).mpr (Int.lt_of_le_of_lt (Int.add_le_add_left (Int.mul_le_mul_of_nonneg_right (Int.sub_le_sub_right h lo) hu) a) k)
theorem Dn(i j:Int):0+(i - 0)*1+(j - -1)*(1*(2 - 0+1))=i+(j+1)*3:=by rw[Int.zero_add,Int.mul_one,Int.sub_zero];rfl
theorem En{d:Nat}{i j:Int}(hd:3<=d)(hi:i.natAbs<=2048)(hj:j.natAbs<=2048) :
  run d (nm "element_place") [cz 0 2 0 [rg 0 2,rg (-1) 0],.list [.int i,.int j]]=if (0<=i/\i<=2)/\(-1<=j/\j<=0) then ret (cz 0 (2+(i+(j+1)*3)) 0 []) else aQ:=by
 refine ao (ak hd) λd z5 hd'=>?_;obtain rfl:=z5;rw[fB];have e:df (run d) (cz 0 2 0 [rg 0 2,rg (-1) 0]) (.list [.int i,.int j])=bF (run d) [(nm "place",cz 0 2 0 [rg 0 2,rg (-1) 0]),(nm "subscripts",.list [.int i,.int j]),(nm "kind",.int 0),(nm "address",.int 2),(nm "length",.int 0),(nm "dims",.tup [rg 0 2,rg (-1) 0]),(nm "offset",.int 0),(nm "stride",.int 1),(nm "k",.int 0)]
   (λfr=>bF (run d) (aj fr (nm "k") (.int 1)) (Dm (run d))):=by kernel_rfl
 rw[e,jw (ds:=.tup [rg 0 2,rg (-1) 0]) (ss:=.list [.int i,.int j]) (kk:=.int 0) (lo:=0) (hi:=2) (i:=i) (o:=0) (s:=1) (by kernel_rfl) (by kernel_rfl) (by kernel_rfl) (by kernel_rfl) (by kernel_rfl) rfl rfl (db hi (by decide)) f1 (by decide +kernel)]
 by_cases h:0<=i/\i<=2
 ·rw[PW h,jw (ds:=.tup [rg 0 2,rg (-1) 0]) (ss:=.list [.int i,.int j]) (kk:=.int 1) (lo:=-1) (hi:=0) (i:=j) (o:=0+(i - 0)*1) (s:=1*(2 - 0+1)) (by kernel_rfl) (by kernel_rfl) (by kernel_rfl) (by kernel_rfl) (by kernel_rfl) rfl rfl (db hj (by decide)) (by decide +kernel) (by decide +kernel)]
  by_cases h2:-1<=j/\j<=0
  ·rw[PW h2,PW ⟨h,h2⟩,vx (k:=0) (a:=2) (l:=0) (o:=0+(i - 0)*1+(j - -1)*(1*(2 - 0+1))) (u:=1) (by kernel_rfl) (by kernel_rfl) (by kernel_rfl) (by kernel_rfl) (Ch hd' (.inl rfl)) (by rw[Int.zero_add,Int.mul_one];exact rQ (PO (BB _ hj) (Nat.add_le_add_right (PO (Int.natAbs_sub_le _ _) (Nat.add_le_add_right hi _)) _)) (by decide)) f1,Dn,Int.mul_one];rfl
  ·rw[PX h2,PX (λq=>h2 q.2)];rfl
 ·rw[PX h,PX (λq=>h q.1)];rfl
abbrev cy:=String->List Int->Option D
noncomputable def vA(N:List D)(V:cy):Prop:=N.length=12/\N[0]?=some (jv 0 (V "I" []))/\N[1]?=some (jv 0 (V "J" []))/\(∀ i j:Int,0<=i->i<=2->-1<=j->j<=0->N[(2+(i+(j+1)*3)).toNat]?=some (jv 0 (V "A" [i,j])))
 ∧ N[8]?=some (jv 1 (V "X" []))/\(∀ i:Int,1<=i->i<=2->N[(9+(i - 1)*1).toNat]?=some (jv 1 (V "B" [i])))/\N[11]?=some (jv 4 (V "L" []))
noncomputable def Tx(C:List D)(a L:Nat)(o:Option D):Prop:=∃ t:Option Str,o=t.map .str/\(∀ s,t=some s->s.length=L/\∀ c∈s.cps.toList,c<128)/\cut C a (a+L)=ja t L
noncomputable def vB(C:List D)(V:cy):Prop:=C.length=10/\Tx C 0 4 (V "C" [])/\∀ i:Int,2<=i->i<=3->Tx C (4+(i - 2)*3).toNat 3 (V "D" [i])
noncomputable def bh:List (String×Int):=[("I",0),("J",0),("A",0),("X",1),("B",1),("L",4),("C",5),("D",5)]
structure Md(σ:St)(ro ho:D)(V:cy):Prop where
 mem:∃ cN iM iN N iC C,aA ro (nm "memory") σ=.ok (.inst cN iM) σ/\aZ (.inst cN iM) (nm "load") σ=.ok (.user (nm "Memory.load")) σ/\aA (.inst cN iM) (nm "numeric") σ=.ok (.ref iN) σ/\σ[iN]?=some (.list N)
  ∧ aA (.inst cN iM) (nm "characters") σ=.ok (.ref iC) σ/\σ[iC]?=some (.list C)/\vA N V/\vB C V
 frame:∃ i l,aA ro (nm "frame") σ=.ok (.ref i) σ/\σ[i]?=some (.sdict l)/\∀ p∈aC,aa l p.1=some p.2
 held:∃ i l,ho=.ref i/\σ[i]?=some (.sdict l)/\∀ x∈bh,∃ j,aa l (nm x.1)=some (.ref j)/\aZ (.ref j) (nm "get") σ=.ok .get σ/\∀ (call:Str->List D->M D) (t:List D) (q:List Int),dJ t=some q->bd call (.ref j) .get [.tup t] σ=.ok ((V x.1 q).getD .none) σ
 val:∀ x∈bh,∀ q v,V x.1 q=some v->Val x.2 0 v
variable{σ:St}{w:Int}{ro ho:D}{V:cy}
theorem BC{n:Nat}:ex 0<=ex n:=by unfold ex;simp only[if_true];split <;> (try split) <;> (try split) <;> lia
theorem Val.up{k:Int}{n:Nat}{v:D}(h:Val k 0 v):Val k n v:=by
 cases h with
 | int h=>exact .int h
 | real h=>exact .real (h.mono BC)
 | bool=>exact .bool
 | str h=>exact .str (by have:1<=2 ^ n:=Nat.one_le_two_pow;lia)
theorem rR(W:Wd σ w ro){K n:Nat}{k:Int}{v:D}(hK:12<=K)(hv:Val k 0 v):Ev σ w ro ho K (Val k n) (.tup [.str (nm "const"),.int k,v]):=by
 refine⟨some v,λz hz=>by cases hz;exact hv.up,λd hd=>⟨?_, ?_⟩⟩
 ·obtain⟨d,rfl⟩ : ∃ e,d=e+2:=⟨d - 2,by lia⟩;refine PV (bx W (h:="eval_const") (by decide)) ?_;rw[iV];exact u_ rfl
 ·obtain⟨d,rfl⟩ : ∃ e,d=e+1:=⟨d - 1,by lia⟩;rw[bQ];have e:bu (run d) ho (.tup [.str (nm "const"),.int k,v]) (.int w)=ret (.ret v):=by kernel_rfl
  exact e ▸ rfl
theorem md(H:Md σ ro ho V){d:Nat}{x:String}{p:List D}(hd:1<=d)(hp:(nm x,D.tup p)∈aC):run d (nm "named_place") [ro,.str (nm x)] σ=.ok (.tup p) σ:=by
 refine ao (ak hd) λd zz1 _=>?_;obtain rfl:=zz1;rw[mF];refine ar H.frame λi l e1 e2 e3=>?_;have e4:=e3 _ hp;dsimp only at e4;have p1:aZ (.ref i) (nm "get") σ=.ok .get σ:=by exact cv (aU e2) rfl
 have p2:bd (run d) (.ref i) .get [.str (nm x)] σ=.ok (.tup p) σ:=by refine cv (aU e2) ?_;show ret ((aa l (nm x)).getD .none) σ=_;rw[e4];rfl
 exact dL (cv e1 (cv p1 p2)) (by kernel_rfl)
theorem jx(H:Md σ ro ho V){d:Nat}{x:String}{k:Int}{p:List D}(hd:2<=d)(hp:(nm x,D.tup p)∈aC):run d (nm "place_of") [ro,.tup [.str (nm "var"),.int k,.str (nm x)]] σ=.ok (.tup p) σ:=by refine ao (ak hd) λd zz1 hd'=>?_;rw[zz1];rw[e_];have q:=md H hd' hp;walk_at "u"
theorem kg(H:Md σ ro ho V){d:Nat}{x:String×Int}{t:List D}{q:List Int}(hd:1<=d)(hx:x∈bh)(hq:dJ t=some q):run d (nm "_law_held") [ho,.str (nm x.1),.tup t] σ=.ok ((V x.1 q).getD .none) σ:=by
 refine ao (ak hd) λd zz1 _=>?_;obtain rfl:=zz1;rw[tZ];refine ar H.held λi l zz2 e2 e3=>?_;obtain rfl:=zz2;refine bj (e3 x hx) λj e4 e5 e6=>?_;have s1:subD (.ref i) (.str (nm x.1)) σ=.ok (.ref j) σ:=by refine cv (aU e2) ?_;show ac (aa l (nm x.1)) σ=_;rw[e4];rfl
 exact u_ (cv s1 (cv e5 (e6 _ t q hq)))
theorem cb(W:Wd σ w ro){d:Nat}{x:String}{r:List D}{cN:Str}{iM:Nat}(hx:(x,"eval_place")∈cj)(m1:aA ro (nm "memory") σ=.ok (.inst cN iM) σ)(m2:aZ (.inst cN iM) (nm "load") σ=.ok (.user (nm "Memory.load")) σ) :
  run (d+2) (nm "evaluate") [ro,.tup (.str (nm x)::r)] σ=bnd (run d (nm "place_of") [ro,.tup (.str (nm x)::r)]) (λp=>run d (nm "Memory.load") [.inst cN iM,p]) σ:=by
 refine PV (bx W hx) ?_;rw[oM];refine u_ (cv m1 (cv m2 ?_));show bnd (bnd (run d (nm "place_of") [ro,.tup (.str (nm x)::r)]) λa=>ret [a]) (λl=>run d (nm "Memory.load") (.inst cN iM::l)) σ=_;rw[lH];rfl
theorem pn(W:Wd σ w ro)(H:Md σ ro ho V){K n:Nat}{x:String}{k:Int}{a:Nat}(hK:12<=K)(hx:(x,k)∈bh)(hp:(nm x,cz k a 0 [])∈aC)(hk:k=0\/k=1\/k=4)
  (hN:∀ N,vA N V->N[a]?=some (jv k (V x []))):Ev σ w ro ho K (Val k n) (.tup [.str (nm "var"),.int k,.str (nm x)]):=by
 obtain⟨cN,iM,iN,N,iC,C,m1,m2,m3,m4,m5,m6,m7,m8⟩:=H.mem;refine⟨V x [],λv hv=>(H.val _ hx _ _ hv).up,λd hd=>⟨?_, ?_⟩⟩
 ·obtain⟨d,rfl⟩ : ∃ e,d=e+2:=⟨d - 2,by lia⟩;refine PV (cb W (by decide) m1 m2) ?_;rw[aB (jx H (by lia) hp)];exact im (by lia) hk m3 m4 (by rw[m7.1];lia) (hN N m7)
 ·obtain⟨d,rfl⟩ : ∃ e,d=e+1:=⟨d - 1,by lia⟩;rw[bQ];have e:bu (run d) ho (.tup [.str (nm "var"),.int k,.str (nm x)]) (.int w)=bnd (run d (nm "_law_held") [ho,.str (nm x),.tup []]) λt=>ret (.ret t):=by kernel_rfl
  exact u_ (kg H (x:=(x,k)) (by lia) hx rfl)
theorem Eo(W:Wd σ w ro)(H:Md σ ro ho V){K n:Nat}(hK:12<=K):Ev σ w ro ho K (Val 0 n) (.tup [.str (nm "var"),.int 0,.str (nm "I")]):=pn W H (a:=0) hK (by decide) (by simp[aC]) (.inl rfl) λN h=>h.2.1
theorem E6(W:Wd σ w ro)(H:Md σ ro ho V){K n:Nat}(hK:12<=K):Ev σ w ro ho K (Val 0 n) (.tup [.str (nm "var"),.int 0,.str (nm "J")]):=pn W H (a:=1) hK (by decide) (by simp[aC,cz]) (.inl rfl) λN h=>h.2.2.1
theorem E7(W:Wd σ w ro)(H:Md σ ro ho V){K n:Nat}(hK:12<=K):Ev σ w ro ho K (Val 1 n) (.tup [.str (nm "var"),.int 1,.str (nm "X")]):=pn W H (a:=8) hK (by decide) (by simp[aC,cz]) (.inr (.inl rfl)) λN h=>h.2.2.2.2.1
theorem E8(W:Wd σ w ro)(H:Md σ ro ho V){K n:Nat}(hK:12<=K):Ev σ w ro ho K (Val 4 n) (.tup [.str (nm "var"),.int 4,.str (nm "L")]):=pn W H (a:=11) hK (by decide) (by simp[aC,cz]) (.inr (.inr rfl)) λN h=>h.2.2.2.2.2.2
theorem E9(W:Wd σ w ro)(H:Md σ ro ho V){K n:Nat}(hK:12<=K):Ev σ w ro ho K (Val 5 n) (.tup [.str (nm "var"),.int 5,.str (nm "C")]):=by
 obtain⟨cN,iM,iN,N,iC,C,m1,m2,m3,m4,m5,m6,m7,m8⟩:=H.mem;refine⟨V "C" [],λv hv=>(H.val ("C",5) (by decide) _ _ hv).up,λd hd=>⟨?_, ?_⟩⟩
 ·obtain⟨d,rfl⟩ : ∃ e,d=e+2:=⟨d - 2,by lia⟩;refine PV (cb W (by decide) m1 m2) ?_;rw[aB (jx H (p:=[.int 5,.int 0,.int 4,.tup []]) (by lia) (by simp[aC,cz]))];obtain⟨l1,⟨t,t1,t2,t3⟩,_⟩:=m8;simp only[t1];exact io (a:=0) (n:=4) (by lia) m5 m6 (by lia) (by decide) (by lia) t3 λs hs=>(t2 s hs).2
 ·obtain⟨d,rfl⟩ : ∃ e,d=e+1:=⟨d - 1,by lia⟩;rw[bQ];have e:bu (run d) ho (.tup [.str (nm "var"),.int 5,.str (nm "C")]) (.int w)=bnd (run d (nm "_law_held") [ho,.str (nm "C"),.tup []]) λt=>ret (.ret t):=by kernel_rfl
  exact u_ (kg H (x:=("C",5)) (by lia) (by decide) rfl)
variable{σ:St}{w:Int}{ro ho:D}{V:cy}
noncomputable def xg(σ:St)(w:Int)(ro ho:D)(K:Nat)(ix:D)(oi:Option Int):Prop:=(∀ i,oi=some i->i.natAbs<=2048)/\∀ d,K<=d->run d (nm "evaluate") [ro,ix] σ=aR (oi.map .int) σ/\run d (nm "_law_value") [ho,ix,.int w] σ=.ok ((oi.map .int).getD .none) σ
set_option tactic.hygienic true in
theorem Ev.int{K n:Nat}{ix:D}(A:Ev σ w ro ho K (Val 0 n) ix):∃ oi,xg σ w ro ho K ix oi:=by
 refine ao A λo p h=>?_
 induction o with
 | none=>exact⟨none,nofun,h⟩
 | some v=>
  have:=p v rfl;cases this with
  | int hi=>rename_i i;exact⟨some i,λj hj=>by cases hj;exact hi,h⟩
noncomputable def cr{α:Type}(oi:Option Int)(f:Int->α)(z:α):α:=match oi with
 | some i=>f i
 | none=>z
theorem FT:am ([]:List D).length=true:=by decide +kernel
theorem FU(a:D):am ([a]:List D).length=true:=by show am 1=true;decide +kernel
theorem jM(H:Md σ ro ho V){K d:Nat}{x:String}{k:Int}{p:List D}{ix:D}{oi:Option Int}(hK:12<=K)(hd:K+2<=d)(hp:(nm x,D.tup p)∈aC)(I:xg σ w ro ho K ix oi) :
  run d (nm "place_of") [ro,.tup [.str (nm "elem"),.int k,.str (nm x),.list [ix]]] σ=cr oi (λi=>run (d - 1) (nm "element_place") [.tup p,.list [.int i]] σ) (.exc σ):=by
 refine ao (ak (show K+1+1<=d by omega)) λd z1 hd'=>?_;obtain rfl:=z1;rw[e_];have hi:=(I.2 d (by lia)).1;simp only[dW]at hi;simp[hJ,SM,SI,SF,o9,w_,zi,String.reduceEq,decide_false,Bool.false_eq_true,if_false,decide_true,if_true];rw[aB (md H (by lia) hp)];simp only[SM,SL,aJ]
 induction oi with
 | none=>rw[aO hi];rfl
 | some i=>rw[aB hi];simp[SM,am,cr]
theorem rT(H:Md σ ro ho V){K d:Nat}{x:String}{k:Int}{p:List D}{ix iy:D}{oi oj:Option Int}(hK:12<=K)(hd:K+2<=d)(hp:(nm x,D.tup p)∈aC)(I:xg σ w ro ho K ix oi)(J:xg σ w ro ho K iy oj) :
  run d (nm "place_of") [ro,.tup [.str (nm "elem"),.int k,.str (nm x),.list [ix,iy]]] σ=cr oi (λi=>cr oj (λj=>run (d - 1) (nm "element_place") [.tup p,.list [.int i,.int j]] σ) (.exc σ)) (.exc σ):=by
 refine ao (ak (show K+1+1<=d by omega)) λd z2 hd'=>?_;obtain rfl:=z2;simp[e_];have hi:=(I.2 d (by lia)).1;have hj:=(J.2 d (by lia)).1;rw[dW]at hi hj;simp[hJ,SM,SI,SF,o9,w_,zi,String.reduceEq,decide_false,Bool.false_eq_true,if_false,decide_true,if_true];rw[aB (md H (by lia) hp)];simp only[SM,SL,aJ]
 induction oi with
 | none=>rw[aO hi];rfl
 | some i=>
  rw[aB hi];simp only[SM,FT,FU,if_true,List.nil_append]
  induction oj with
  | none=>rw[aO hj];rfl
  | some j=>rw[aB hj];simp[SM,am,cr]
theorem zu(i:Int):ae .In .none (.list [.int i]) σ=.ok false σ:=by kernel_rfl
theorem zv(i j:Int):ae .In .none (.list [.int i,.int j]) σ=.ok false σ:=by kernel_rfl
theorem zw(l:List D)(a b:Option Int)(h:a=none\/b=none):ae .In .none (.list [(a.map D.int).getD .none,(b.map D.int).getD .none]) σ=.ok true σ:=by
 induction a <;> induction b
 ·kernel_rfl
 ·kernel_rfl
 ·kernel_rfl
 ·rcases h with h | h <;> exact DK h
theorem xh:ae .In .none (.list [.none]) σ=.ok true σ:=by kernel_rfl
theorem me{d:Nat}{x:String}{k kk a l lo hi i at_:Int}{ds L fo:List D}{t fr:af}{K:K'}(hd:1<=d)(hs:subD (.sdict aC) (.str (nm x))=ret (cz kk a l ds))(hfr:fr=(nm "held",ho)::(nm "tree",.tup [.str (nm "elem"),.int k,.str (nm x),.list L])::(nm "width",.int w)::(nm "found",.list fo)::(nm "at",.int at_)::t)(he:subD (.tup ds) (.int at_)=ret (rg lo hi))(hf:subD (.list fo) (.int at_)=ret (.int i))(ht:t=[]\/∃ u v,t=[(nm "low",u),(nm "high",v)]) :
  eE (run d) fr K
   = if lo<=i/\i<=hi then K [(nm "held",ho),(nm "tree",.tup [.str (nm "elem"),.int k,.str (nm x),.list L]),(nm "width",.int w),(nm "found",.list fo),(nm "at",.int at_),(nm "low",.int lo),(nm "high",.int hi)] else ret (.ret .none):=by
 have q:=eN hd;subst hfr
 by_cases h1:lo<=i
 ·by_cases h2:i<=hi
  ·rw[PW ⟨h1,h2⟩];rcases ht with rfl | ⟨u,v,rfl⟩ <;> walk_at "e"
  ·rw[PX λq=>h2 q.2];rcases ht with rfl | ⟨u,v,rfl⟩ <;> walk_at "e"
 ·rw[PX λq=>h1 q.1];rcases ht with rfl | ⟨u,v,rfl⟩ <;> walk_at "e"
theorem Do{f:List D->M Flow'}:dK (.range 0 1) f=f [.int 0]:=by kernel_rfl
theorem Dp{f:List D->M Flow'}:dK (.range 0 2) f=f [.int 0,.int 1]:=by kernel_rfl
theorem pp{B:af->K'->M Flow'}{g:af->D->af}{v:D}{vs:List D}{fr:af}{K:K'}:aE B (λfr v=>ret (g fr v)) (v::vs) fr K=B (g fr v) λfr'=>aE B (λfr v=>ret (g fr v)) vs fr' K:=rfl
theorem zx{c:Prop}[Decidable c]{m:M Flow'}{a:D}{r:R D}(h:aq m σ=.ok a σ)(k:r=.ok (if c then a else .none) σ):aq (if c then m else ret (.ret .none)) σ=r:=by
 simp only[k]
 split
 ·exact h
 ·rfl
theorem Cj{K d:Nat}{x:String}{k kk a l lo hi:Int}{ix:D}{oi:Option Int}(hK:12<=K)(hd:K+1<=d)(hp:aa aC (nm x)=some (cz kk a l [rg lo hi]))(I:xg σ w ro ho K ix oi) :
  run d (nm "_law_subscripts") [ho,.tup [.str (nm "elem"),.int k,.str (nm x),.list [ix]],.int w] σ=.ok (cr oi (λi=>if lo<=i/\i<=hi then .tup [.int i] else .none) .none) σ:=by
 refine ao (ak hd) λd z3 hd'=>?_;obtain rfl:=z3;rw[eF];have hv:=(I.2 d (by omega)).2;have hs:subD (.sdict aC) (.str (nm x))=ret (cz kk a l [rg lo hi]):=by show ac (aa aC (nm x))=_;exact congrArg _ hp
 induction oi with
 | none=>have hv:run d (nm "_law_value") [ho,ix,.int w] σ=.ok .none σ:=hv;have:=xh (σ:=σ);walk_at "u"
 | some i=>
  have hv:run d (nm "_law_value") [ho,ix,.int w] σ=.ok (.int i) σ:=hv;refine dL (a:=.list [.int i]) (σ':=σ) (by walk_at "s") (dL (zu i) (hO (by decide) (dL (a:=.range 0 1) (rS (by kernel_rfl)) ?_)));rw[Do,pp,me (hd:=show 1<=d by omega) (hs:=hs)]
  case hfr=>exact rfl
  case he=>exact rfl
  case hf=>exact rfl
  case ht=>exact .inl rfl
  exact zx (a:=.tup [.int i]) (by kernel_rfl) rfl
theorem Ep{K d:Nat}{k:Int}{ix iy:D}{oi oj:Option Int}(hK:12<=K)(hd:K+1<=d)(I:xg σ w ro ho K ix oi)(J:xg σ w ro ho K iy oj) :
  run d (nm "_law_subscripts") [ho,.tup [.str (nm "elem"),.int k,.str (nm "A"),.list [ix,iy]],.int w] σ=.ok (cr oi (λi=>cr oj (λj=>if (0<=i/\i<=2)/\(-1<=j/\j<=0) then .tup [.int i,.int j] else .none) .none) .none) σ:=by
 refine ao (ak hd) λd z4 hd'=>?_;obtain rfl:=z4;rw[eF];have hv:=(I.2 d (by omega)).2;have hu:=(J.2 d (by omega)).2;refine PU (P8 (oi=none\/oj=none)) (λhn=>?_) λhn=>?_
 ·refine dL (a:=.list [(oi.map D.int).getD .none,(oj.map D.int).getD .none]) (σ':=σ) (by walk_at "s") (dL (zw [] oi oj hn) (ua rfl ?_));rcases hn with rfl | rfl
  ·rfl
  ·induction oi <;> rfl
 ·induction oi with
  | none=>exact absurd (.inl rfl) hn
  | some i=>
   induction oj with
   | none=>exact absurd (.inr rfl) hn
   | some j=>
    have hs:subD (.sdict aC) (.str (nm "A"))=ret (cz 0 2 0 [rg 0 2,rg (-1) 0]):=by kernel_rfl
    refine dL (a:=.list [.int i,.int j]) (σ':=σ) (by walk_at "s") (dL (zv i j) (hO (by decide) (dL (a:=.range 0 2) (rS (by kernel_rfl)) ?_)));rw[Dp,pp,me (hd:=show 1<=d by omega) (hs:=hs)]
    case hfr=>exact rfl
    case he=>exact rfl
    case hf=>exact rfl
    case ht=>exact .inl rfl
    refine zx (a:=if -1<=j/\j<=0 then .tup [.int i,.int j] else .none) ?_ (by unfold cr;by_cases q:0<=i/\i<=2 <;> simp only[q,true_and,false_and,if_true,if_false]);rw[pp,me (hd:=show 1<=d by omega) (hs:=hs)]
    case hfr=>exact rfl
    case he=>exact rfl
    case hf=>exact rfl
    case ht=>exact .inr ⟨_,_,rfl⟩
    exact zx (a:=.tup [.int i,.int j]) (by kernel_rfl) rfl
variable{σ:St}{w:Int}{ro ho:D}{V:cy}
theorem rU(H:Md σ ro ho V){d:Nat}{x:String×Int}{k:Int}{L:D}{T:Option (List Int)}(hd:1<=d)(hx:x∈bh)(hs:run d (nm "_law_subscripts") [ho,.tup [.str (nm "elem"),.int k,.str (nm x.1),L],.int w] σ=.ok (T.elim .none λq=>.tup (q.map .int)) σ) :
  run (d+1) (nm "_law_value") [ho,.tup [.str (nm "elem"),.int k,.str (nm x.1),L],.int w] σ=.ok (T.elim .none λq=>(V x.1 q).getD .none) σ:=by
 rw[bQ];have e:bu (run d) ho (.tup [.str (nm "elem"),.int k,.str (nm x.1),L]) (.int w)=bnd (run d (nm "_law_subscripts") [ho,.tup [.str (nm "elem"),.int k,.str (nm x.1),L],.int w]) λt8=>bnd (bnd (ae .Is t8 .none) λc9=>if c9 then ret (.none) else run d (nm "_law_held") [ho,.str (nm x.1),t8]) λIP=>ret (.ret IP):=by kernel_rfl
 rw[e];simp only[SM];rw[aB hs]
 induction T with
 | none=>simp only[Option.elim_none,i9,SM,if_true];rfl
 | some q=>
  have hi:ae .Is (.tup (q.map .int)) .none=ret false:=rfl;simp only[Option.elim_some,hi,SM,Bool.false_eq_true,if_false];have hq:dJ (q.map .int)=some q:=by
   have:∀ q:List Int,dJ (q.map .int)=some q:=by
    intro q
    induction q with
    | nil=>rfl
    | cons a q ih=>show(dJ (q.map .int)).map _=_;exact congrArg _ ih
   exact this q
  exact kg H hd hx hq
theorem BD{K d:Nat}(a b:Nat)(hd:K+(a+b)<=d):∃ e,d=e+a/\K+b<=e:=
 ⟨d - a,(Nat.sub_add_cancel (PO (PO (Nat.le_add_right a b) (Nat.le_add_left _ K)) hd)).symm,Nat.le_sub_of_add_le (by rw[Nat.add_assoc,Nat.add_comm b a];exact hd)⟩
theorem rV(W:Wd σ w ro)(H:Md σ ro ho V){K n:Nat}{x:String}{k a l lo hi u:Int}{ix:D}{oi:Option Int}(hK:12<=K)(hx:(x,k)∈bh)(hp:(nm x,cz k a l [rg lo hi])∈aC)(hp':aa aC (nm x)=some (cz k a l [rg lo hi]))(I:xg σ w ro ho K ix oi)
  (hel:∀ d i,3<=d->i.natAbs<=2048->run d (nm "element_place") [cz k a l [rg lo hi],.list [.int i]]=if lo<=i/\i<=hi then ret (cz k (a+(i - lo)*u) l []) else aQ)
  (hl:∀ cN iM iN N iC C d i,3<=d->aA (.inst cN iM) (nm "numeric") σ=.ok (.ref iN) σ->σ[iN]?=some (.list N)->aA (.inst cN iM) (nm "characters") σ=.ok (.ref iC) σ->σ[iC]?=some (.list C)->vA N V->vB C V->lo<=i->i<=hi →
   run d (nm "Memory.load") [.inst cN iM,cz k (a+(i - lo)*u) l []] σ=aR (V x [i]) σ) :
  Ev σ w ro ho (K+4) (Val k n) (.tup [.str (nm "elem"),.int k,.str (nm x),.list [ix]]):=by
 refine bp H.mem λcN iM iN N z1=>?_;refine gE z1 λiC C z2=>?_;refine bo z2 λm1 m2 m3 m4 z3=>?_;refine cM z3 λm5 m6 m7 m8=>?_;refine⟨cr oi (λi=>if lo<=i/\i<=hi then V x [i] else none) none,λv hv=>?_,λd hd=>⟨?_, ?_⟩⟩
 ·induction oi with
  | none=>injection hv
  | some i=>
   simp only[cr]at hv
   split at hv
   ·exact(H.val _ hx _ _ hv).up
   ·exact nomatch hv
 ·refine ao (BD 2 2 hd) λd zd hd'=>?_;obtain rfl:=zd;have xr:=PO (Nat.add_le_add_right hK 2) hd';refine PV (cb W (by decide) m1 m2) ?_;have hpl:=jM (k:=k) H hK hd' hp I
  induction oi with
  | none=>rw[aO hpl];rfl
  | some i=>
   have he:=hel (d - 1) i (Nat.le_sub_of_add_le (PO (by decide) xr)) (I.1 i rfl);simp only[cr]at hpl;rw[cz]at he;rw[he]at hpl;rcases P8 (lo<=i/\i<=hi) with hr | hr
   ·rw[PW hr]at hpl;rw[aB hpl,hl _ _ _ _ _ _ d i (PO (by decide) xr) m3 m4 m5 m6 m7 m8 hr.1 hr.2];simp only[cr,PW hr]
   ·rw[PX hr]at hpl;rw[aO hpl];simp only[cr,PX hr];rfl
 ·refine ao (BD 1 3 hd) λd zd hd'=>?_;obtain rfl:=zd;replace hd':=PO (Nat.add_le_add_left (by decide) K:K+1<=K+3) hd';have hs:=Cj (k:=k) hK hd' hp' I;have:=rU (w:=w) H (x:=(x,k)) (k:=k) (L:=.list [ix]) (T:=cr oi (λi=>if lo<=i/\i<=hi then some [i] else none) none) (PO (Nat.le_add_left 1 K) hd') hx (by
   refine PV hs ?_
   induction oi with
   | none=>rfl
   | some i=>
    simp only[cr];rcases P8 (lo<=i/\i<=hi) with hr | hr
    ·rw[PW hr,PW hr];rfl
    ·rw[PX hr,PX hr];rfl)
  refine PV this ?_
  induction oi with
  | none=>rfl
  | some i=>
   simp only[cr];rcases P8 (lo<=i/\i<=hi) with hr | hr
   ·rw[PW hr,PW hr];rfl
   ·rw[PX hr,PX hr];rfl
theorem E_(W:Wd σ w ro)(H:Md σ ro ho V){K n:Nat}{ix:D}{oi:Option Int}(hK:12<=K)(I:xg σ w ro ho K ix oi):Ev σ w ro ho (K+4) (Val 1 n) (.tup [.str (nm "elem"),.int 1,.str (nm "B"),.list [ix]]):=by
 refine rV W H (a:=9) (l:=0) (lo:=1) (hi:=2) (u:=1) hK (by decide) (by simp[aC,cz]) (by kernel_rfl) I (λd i hd hi=>zs hd ?_ (λe he=>Ch he (.inr (.inl rfl))) (λq h1 h2 h3=>?_) (by decide +kernel)) ?_
 ·exact db hi (by decide)
 ·exact⟨h3 ▸ db hi (by decide),f1⟩
 ·intro cN iM iN N iC C d i hd m3 m4 m5 m6 m7 m8 h1 h2;have e:(9:Int)+(i - 1)*1=((9+(i - 1)*1).toNat:Int):=mc (by decide) (by decide) h1;unfold cz;exact e ▸ (im hd (.inr (.inl rfl)) m3 m4 (by rw[m7.1];decide) (m7.2.2.2.2.2.1 i h1 h2))
theorem Fa(W:Wd σ w ro)(H:Md σ ro ho V){K n:Nat}{ix:D}{oi:Option Int}(hK:12<=K)(I:xg σ w ro ho K ix oi):Ev σ w ro ho (K+4) (Val 5 n) (.tup [.str (nm "elem"),.int 5,.str (nm "D"),.list [ix]]):=by
 refine rV W H (a:=4) (l:=3) (lo:=2) (hi:=3) (u:=3) hK (by decide) (by simp[aC,cz]) (by kernel_rfl) I (λd i hd hi=>zs hd ?_ (λe he=>Ci he) (λq h1 h2 h3=>?_) (by decide +kernel)) ?_
 ·exact db hi (by decide)
 ·exact⟨h3 ▸ db hi (by decide),by decide +kernel⟩
 ·intro cN iM iN N iC C d i hd m3 m4 m5 m6 m7 m8 h1 h2;refine jf m8 λl1 _ h=>?_;refine bj (h i h1 h2) λt t1 t2 t3=>?_;have e:(4:Int)+(i - 2)*3=((4+(i - 2)*3).toNat:Int):=mc (by decide) (by decide) h1;unfold cz;rw[e,t1];exact io (n:=3) hd m5 m6 (by rw[l1];decide) (by decide) (by simp only[l1];exact Nat.add_le_add_right (Nat.le_of_lt_succ (zt (n:=8) (by decide) h2 (by decide) (by decide))) 3) t3 λs hs=>(t2 s hs).2
theorem Fb(W:Wd σ w ro)(H:Md σ ro ho V){K n:Nat}{ix iy:D}{oi oj:Option Int}(hK:12<=K)(I:xg σ w ro ho K ix oi)(J:xg σ w ro ho K iy oj):Ev σ w ro ho (K+4) (Val 0 n) (.tup [.str (nm "elem"),.int 0,.str (nm "A"),.list [ix,iy]]):=by
 refine bp H.mem λcN iM iN N z4=>?_;refine gE z4 λiC C z5=>?_;refine bo z5 λm1 m2 m3 m4 z6=>?_;refine cM z6 λm5 m6 m7 m8=>?_;refine⟨cr oi (λi=>cr oj (λj=>if (0<=i/\i<=2)/\(-1<=j/\j<=0) then V "A" [i,j] else none) none) none,λv hv=>?_,λd hd=>⟨?_, ?_⟩⟩
 ·cases oi with
  | none=>exact dt hv
  | some i=>
   induction oj with
   | none=>exact dt hv
   | some j=>
    simp only[cr]at hv
    split at hv
    ·exact(H.val ("A",0) (by decide) _ _ hv).up
    ·exact dt hv
 ·refine ao (BD 2 2 hd) λd zd hd'=>?_;obtain rfl:=zd;have xr:=PO (Nat.add_le_add_right hK 2) hd';refine PV (cb W (by decide) m1 m2) ?_;have hpl:=rT (k:=0) H hK hd' (show(nm "A",cz 0 2 0 [rg 0 2,rg (-1) 0])∈aC by simp[aC,cz]) I J
  induction oi with
  | none=>rw[aO hpl];rfl
  | some i=>
   induction oj with
   | none=>rw[aO hpl];rfl
   | some j=>
    have he:=En (d:=d - 1) (Nat.le_sub_of_add_le (PO (by decide) xr)) (I.1 i rfl) (J.1 j rfl);simp only[cr]at hpl;rw[cz]at he;rw[he]at hpl
    by_cases hr:(0<=i/\i<=2)/\(-1<=j/\j<=0)
    ·rw[PW hr]at hpl;rw[aB hpl];simp only[cr,PW hr];have e:(2:Int)+(i+(j+1)*3)=((2+(i+(j+1)*3)).toNat:Int):=(Int.toNat_of_nonneg (Int.add_nonneg (by decide) (Int.add_nonneg hr.1.1 (Int.mul_nonneg (Int.add_le_add_right hr.2.1 1:(0:Int)<=j+1) (by decide))))).symm;unfold cz;exact e ▸ (im (PO (by decide) xr) (.inl rfl) m3 m4 (by rw[m7.1];decide) (m7.2.2.2.1 i j hr.1.1 hr.1.2 hr.2.1 hr.2.2))
    ·rw[PX hr]at hpl;rw[aO hpl];simp only[cr,PX hr];rfl
 ·refine ao (BD 1 3 hd) λd zd hd'=>?_;obtain rfl:=zd;replace hd':=PO (Nat.add_le_add_left (by decide) K:K+1<=K+3) hd';have hs:=Ep (k:=0) hK hd' I J;have:=rU (w:=w) H (x:=("A",0)) (k:=0) (L:=.list [ix,iy]) (T:=cr oi (λi=>cr oj (λj=>if (0<=i/\i<=2)/\(-1<=j/\j<=0) then some [i,j] else none) none) none) (PO (Nat.le_add_left 1 K) hd') (by decide) (by
   refine PV hs ?_
   induction oi with
   | none=>rfl
   | some i=>
    induction oj with
    | none=>rfl
    | some j=>
     simp only[cr]
     by_cases hr:(0<=i/\i<=2)/\(-1<=j/\j<=0)
     ·rw[PW hr,PW hr];rfl
     ·rw[PX hr,PX hr];rfl)
  refine PV this ?_
  induction oi with
  | none=>rfl
  | some i=>
   induction oj with
   | none=>rfl
   | some j=>
    simp only[cr]
    by_cases hr:(0<=i/\i<=2)/\(-1<=j/\j<=0)
    ·rw[PW hr,PW hr];rfl
    ·rw[PX hr,PX hr];rfl
variable{σ:St}{w:Int}{ro ho:D}{V:cy}
noncomputable def uz(f n:Nat)(s:Str):Str:=⟨(cut s.cps.toList f (f+n)).toArray⟩
theorem zy{C:List D}{a L f n:Nat}{t:Option Str}(h:cut C a (a+L)=ja t L)(hf:f+n<=L):cut C (a+f) (a+f+n)=ja (t.map (uz f n)) n:=by
 have e:cut C (a+f) (a+f+n)=cut (cut C a (a+L)) f (f+n):=by unfold cut;rw[List.drop_take,List.drop_drop,List.take_take];simp only[Nat.add_sub_cancel_left];rw[Nat.min_eq_left (Nat.le_sub_of_add_le (Nat.add_comm n f ▸ hf))]
 rw[e,h]
 induction t with
 | none=>simp only[ja,Option.map_none,cut];rw[List.drop_replicate,List.take_replicate,Nat.add_sub_cancel_left,Nat.min_eq_left (Nat.le_sub_of_add_le' hf)]
 | some s=>simp only[ja,Option.map_some,cut,uz];rw[<-List.map_drop,<-List.map_take]
noncomputable def fE:Option Int->D
 | none=>.none
 | some c=>.tup [.str (nm "const"),.int 0,.int c]
theorem rW(W:Wd σ w ro){d:Nat}{b:Option Int}(hd:4<=d):run d (nm "bound_of") [ro,fE b] σ=.ok ((b.map .int).getD .none) σ:=by
 refine ao (ak hd) λd z1 hd'=>?_;obtain rfl:=z1;rw[tK]
 induction b with
 | none=>simp only[hG,fE,i9,SM,if_true];rfl
 | some c=>have e:ae .Is (fE (some c)) .none=ret false:=rfl;simp only[hG,e,SM,Bool.false_eq_true,if_false];obtain⟨d,rfl⟩ : ∃ e,d=e+2:=⟨d - 2,by lia⟩;rw[show fE (some c)=.tup [.str (nm "const"),.int 0,.int c] from rfl,bx W (h:="eval_const") (by decide),iV];simp only[iU,SM,w_];rfl
theorem rb{α β:Type}(a:α)(f:α->M β):bnd (ret a) f=f a:=rfl
theorem pq{d:Nat}{a L:Int}{lo hi:Option Int}(hd:1<=d):run d (nm "sub_place") [cz 5 a L [],(lo.map .int).getD .none,(hi.map .int).getD .none]=if 1<=lo.getD 1/\lo.getD 1<=hi.getD L/\hi.getD L<=L then ret (cz 5 (a+lo.getD 1 - 1) (hi.getD L - lo.getD 1+1) []) else aQ:=by
 refine ao (ak hd) λd z2 _=>?_;obtain rfl:=z2;rw[qI];have eL:(bnd (ae .Is ((lo.map D.int).getD .none) .none) λc1=>if c1 then ret (D.int 1) else ret ((lo.map D.int).getD .none))=ret (.int (lo.getD 1)):=by induction lo <;> rfl
 have eH:(bnd (ae .Is ((hi.map D.int).getD .none) .none) λc3=>if c3 then subD (cz 5 a L []) (.int 2) else ret ((hi.map D.int).getD .none))=ret (.int (hi.getD L)):=by induction hi <;> rfl
 unfold jJ;simp only[eL,rb,eH,rb];generalize lo.getD 1=f;generalize hi.getD L=g
 by_cases h1:f<1
 ·refine PV ?_ (Eq.symm (PX (by lia)));walk_at "t"
 ·by_cases h2:g<f
  ·refine PV ?_ (Eq.symm (PX (by lia)));walk_at "t"
  ·by_cases h3:L<g
   ·rw[PX (by lia)];walk_at "t"
   ·rw[PW (by lia)];walk_at "t"
noncomputable def zz(call:Str->List D->M D)(Ij t1 H5 t4:D):M Flow':=bnd (ae .Is t4 .none) λc5=>if c5 then ret (.ret .none) else bnd (bnd (bnd (call (nm "_law_places") []) λt6=>bnd (subD t1 (.int 2)) λt7=>subD t6 t7) λt8=>subD t8 (.int 2)) λt9=>bnd (bnd (bnd (subD H5 (.int 3)) λIP=>ae .Is IP .none) λIR=>if IR then ret (.int 1) else bnd (subD H5 (.int 3)) λIM=>subD IM (.int 2)) λIQ=>bnd (bnd (bnd (subD H5 (.int 4)) λIr=>ae .Is Ir .none) λKu=>if Ku then ret t9 else bnd (subD H5 (.int 4)) λIO=>subD IO (.int 2)) λIH=>bnd (bnd (bnd (ae .LtE (.int 1) IQ) λL6=>if L6 then bnd (ae .LtE IQ IH) λKO=>if KO then ae .LtE IH t9 else ret false else ret false) λb19=>ret (!b19)) λMY=>if MY then ret (.ret .none) else bnd (bnd (ah [ret Ij,subD t1 (.int 2),ret t4]) λL2=>call (nm "_law_held") L2) λJp=>bnd (bnd (ae .Is Jp .none) λKt=>if Kt then ret (.none) else bnd (ag .Sub IQ (.int 1)) λJu=>bt Jp Ju IH) λJJ=>ret (.ret JJ)
theorem rX{call:Str->List D->M D}{ho a b t1 c e w:D}:lG call ho (.tup [a,b,t1,c,e]) w=bnd (bnd (bnd (subD t1 (.int 0)) λt3=>ae .Eq t3 (.str (nm "var"))) λc2=>if c2 then ret ((.tup [])) else call (nm "_law_subscripts") [ho,t1,w]) λt4=>zz call ho t1 (.tup [a,b,t1,c,e]) t4:=by kernel_rfl
theorem zA(W:Wd σ w ro){K L iM:Nat}{cN:Str}{b:D}{loc:Option (Nat×List Int)}{lo hi:Option Int}(hK:12<=K)(m1:aA ro (nm "memory") σ=.ok (.inst cN iM) σ)(m2:aZ (.inst cN iM) (nm "load") σ=.ok (.user (nm "Memory.load")) σ)
  (pb:∀ d,K<=d->run d (nm "place_of") [ro,b] σ=loc.elim (.exc σ) λp=>.ok (cz 5 p.1 L []) σ) {d:Nat} (hd:K+5<=d) :
  run d (nm "evaluate") [ro,.tup [.str (nm "substr"),.int 5,b,fE lo,fE hi]] σ=loc.elim (.exc σ) λp=>if 1<=lo.getD 1/\lo.getD 1<=hi.getD L/\hi.getD L<=L then run (d - 2) (nm "Memory.load") [.inst cN iM,cz 5 (p.1+lo.getD 1 - 1) (hi.getD L - lo.getD 1+1) []] σ else .exc σ:=by
 obtain⟨d,rfl⟩ : ∃ e,d=e+4:=⟨d - 4,by lia⟩;refine PV (cb W (by decide) m1 m2) ?_;have d1:1<=d:=by lia
 have d4:4<=d:=by lia
 have hb:=pb d (by lia);have hl:=rW W (b:=lo) d4;have hh:=rW W (b:=hi) d4;have hpo:run (d+2) (nm "place_of") [ro,.tup [.str (nm "substr"),.int 5,b,fE lo,fE hi]] σ=loc.elim (.exc σ) λp=>(if 1<=lo.getD 1/\lo.getD 1<=hi.getD L/\hi.getD L<=L then ret (cz 5 (p.1+lo.getD 1 - 1) (hi.getD L - lo.getD 1+1) []) else aQ) σ:=by
  rw[e_];refine dL (rS rfl) (ua (by decide) (u_ ?_));rw[oK]
  induction loc with
  | none=>exact aO (aO (cv (dH (rS rfl) (dH (rS rfl) (rS rfl))) hb) _) _
  | some p=>have hs:=congrFun (pq (a:=(p.1:Int)) (L:=(L:Int)) (lo:=lo) (hi:=hi) d1) σ;exact dL (cv (dH (rS rfl) (dH (rS rfl) (rS rfl))) hb) (dL (cv (dH (rS rfl) (dH (rS rfl) (rS rfl))) hl) (u_ (cv (dH (rS rfl) (dH (rS rfl) (dH (cv (dH (rS rfl) (dH (rS rfl) (rS rfl))) hh) (rS rfl)))) hs)))
 induction loc with
 | none=>rw[aO hpo];rfl
 | some p=>
  simp only[Option.elim_some]at hpo ⊢
  by_cases hc:1<=lo.getD 1/\lo.getD 1<=hi.getD L/\hi.getD L<=L
  ·rw[PW hc]at hpo ⊢;rw[aB hpo];rfl
  ·rw[PX hc]at hpo ⊢;rw[aO hpo]
theorem gD:∀ q:List Int,dJ (q.map .int)=some q
 | []=>rfl
 | a::q=>by show(dJ (q.map .int)).map _=_;exact congrArg _ (gD q)
theorem BE(H:Md σ ro ho V){K L:Nat}{x:String}{b:D}{pa:Int}{pdims:List D}{loc:Option (Nat×List Int)}{lo hi:Option Int}(hK:12<=K)(hx:(x,5)∈bh)(hs:subD (.sdict aC) (.str (nm x))=ret (cz 5 pa L pdims))(hb2:subD b (.int 2)=ret (.str (nm x)))
  (lb:∀ d,K<=d->(bnd (bnd (subD b (.int 0)) λt3=>ae .Eq t3 (.str (nm "var"))) λc2=>if c2 then ret ((.tup [])) else run d (nm "_law_subscripts") [ho,b,.int w]) σ=.ok (loc.elim .none λp=>.tup (p.2.map .int)) σ) {d:Nat} (hd:K+5<=d) :
  run d (nm "_law_value") [ho,.tup [.str (nm "substr"),.int 5,b,fE lo,fE hi],.int w] σ=loc.elim (.ok .none σ) λp=>if 1<=lo.getD 1/\lo.getD 1<=hi.getD L/\hi.getD L<=L then bnd (ret ((V x p.2).getD .none)) (λJp=>bnd (ae .Is Jp .none) λKt=>if Kt then ret (.none) else bt Jp (.int (lo.getD 1 - 1)) (.int (hi.getD L))) σ else .ok .none σ:=by
 obtain⟨d,rfl⟩ : ∃ e,d=e+2:=⟨d - 2,by lia⟩;rw[bQ];have e:bu (run (d+1)) ho (.tup [.str (nm "substr"),.int 5,b,fE lo,fE hi]) (.int w)=bnd (run (d+1) (nm "_law_part") [ho,.tup [.str (nm "substr"),.int 5,b,fE lo,fE hi],.int w]) λt=>ret (.ret t):=by kernel_rfl
 rw[e];refine u_ ?_;rw[t_,rX];refine dL (lb d (by lia)) ?_
 induction loc with
 | none=>rfl
 | some p=>
  have q:=eN (d:=d) (by lia);have eL:(bnd (ae .Is (fE lo) .none) λIR=>if IR then ret (D.int 1) else bnd (subD (.tup [.str (nm "substr"),.int 5,b,fE lo,fE hi]) (.int 3)) λIM=>subD IM (.int 2))=ret (.int (lo.getD 1)):=by induction lo <;> rfl
  have eH:(bnd (ae .Is (fE hi) .none) λKu=>if Ku then ret (D.int L) else bnd (subD (.tup [.str (nm "substr"),.int 5,b,fE lo,fE hi]) (.int 4)) λIO=>subD IO (.int 2))=ret (.int (hi.getD L)):=by induction hi <;> rfl
  have hh:=kg (x:=(x,5)) (t:=p.2.map .int) (q:=p.2) H (show 1<=d by lia) hx (gD p.2);refine dL (rS rfl) (hO Bool.false_ne_true (dL (rS (B1 (B1 q (B1 hb2 hs)) rfl)) (dL (rS eL) (dL (rS eH) ?_))));show _=if 1<=lo.getD 1/\lo.getD 1<=hi.getD L/\hi.getD L<=L then _ else _
  clear lb hs e q eL eH;generalize lo.getD 1=f;generalize hi.getD (L:Int)=g
  by_cases h1:1<=f
  ·by_cases h2:f<=g
   ·by_cases h3:g<=L
    ·rw[PW ⟨h1,h2,h3⟩];refine dL (a:=!decide (g<=(L:Int))) (rS (by walk_at "e")) (hO (tF (nF (dT h3))) (dL (cv (dH (rS rfl) (dH (rS hb2) (dH (rS rfl) (rS rfl)))) hh) ?_));rw[ET rfl];rfl
    ·rw[PX λq=>h3 q.2.2];exact dL (a:=!decide (g<=(L:Int))) (rS (by walk_at "e")) (ua (nT (dF h3)) rfl)
   ·rw[PX λq=>h2 q.2.1];exact dL (a:=true) (rS (by walk_at "e")) (ua rfl rfl)
  ·rw[PX λq=>h1 q.1];exact dL (a:=true) (rS (by walk_at "e")) (ua rfl rfl)
theorem Dq{lo hi:Int}{L:Nat}(h1:1<=lo)(h2:lo<=hi)(h3:hi<=L):∃ f m:Nat,lo - 1=f/\hi - lo+1=m/\hi=((f+m:Nat):Int)/\f+m<=L/\1<=m:=by
 obtain⟨f,hf⟩:=Int.eq_ofNat_of_zero_le (Int.sub_nonneg_of_le h1);obtain⟨m,hm⟩:=Int.eq_ofNat_of_zero_le (Int.sub_nonneg_of_le h2);have e:hi=((f+(m+1):Nat):Int):=by lia
 exact⟨f,m+1,hf,congrArg (· + 1) hm,e,Int.ofNat_le.mp (e ▸ h3),Nat.le_add_left 1 m⟩
theorem zB{f m:Nat}{s:Str}(h:f+m<=s.length):(uz f m s).length=m:=by simp only[uz,Str.length,cut,List.size_toArray,List.length_take,List.length_drop,Array.length_toList,Nat.add_sub_cancel_left];exact Nat.min_eq_left (Nat.le_sub_of_add_le (Nat.add_comm f m ▸ h))
theorem zC(W:Wd σ w ro)(H:Md σ ro ho V){K n L:Nat}{x b0:String}{br:List D}{k:Int}{loc:Option (Nat×List Int)}{lo hi:Option Int}(hK:12<=K)(hx:(x,5)∈bh)(hL:L<=4)(hpl:∃ a dims,aa aC (nm x)=some (cz 5 a L dims))
  (pb:∀ d,K<=d->run d (nm "place_of") [ro,.tup (.str (nm b0)::.int k::.str (nm x)::br)] σ=loc.elim (.exc σ) λp=>.ok (cz 5 p.1 L []) σ)
  (lb:∀ d,K<=d->(bnd (bnd (subD (.tup (.str (nm b0)::.int k::.str (nm x)::br)) (.int 0)) λt3=>ae .Eq t3 (.str (nm "var"))) λc2=>if c2 then ret ((.tup [])) else run d (nm "_law_subscripts") [ho,.tup (.str (nm b0)::.int k::.str (nm x)::br),.int w]) σ=.ok (loc.elim .none λp=>.tup (p.2.map .int)) σ)
  (tx:∀ a q,loc=some (a,q)->∀ C,vB C V->Tx C a L (V x q)/\a+L<=10) :
  Ev σ w ro ho (K+5) (Val 5 n) (.tup [.str (nm "substr"),.int 5,.tup (.str (nm b0)::.int k::.str (nm x)::br),fE lo,fE hi]):=by
 obtain⟨cN,iM,iN,N,iC,C,m1,m2,m3,m4,m5,m6,m7,m8⟩:=H.mem;obtain⟨pa,pdims,hpl⟩:=hpl;have hs:subD (.sdict aC) (.str (nm x))=ret (cz 5 pa L pdims):=by show ac (aa aC (nm x))=_;exact congrArg _ hpl
 have ee:=λd (hd:K+5<=d)=>zA (lo:=lo) (hi:=hi) W hK m1 m2 pb hd;have el:=λd (hd:K+5<=d)=>BE (w:=w) (lo:=lo) (hi:=hi) H hK hx hs rfl lb hd;generalize D.tup [.str (nm "substr"),.int 5,.tup (.str (nm b0)::.int k::.str (nm x)::br),fE lo,fE hi]=T at ee el ⊢;clear pb lb hs hpl
 induction loc with
 | none=>exact⟨none,nofun,λd hd=>⟨by exact(ee d hd),by exact(el d hd)⟩⟩
 | some p=>
  obtain⟨a,q⟩:=p;obtain⟨⟨t,t1,t2,t3⟩,haL⟩:=tx a q rfl C m8
  by_cases hc:1<=lo.getD 1/\lo.getD 1<=hi.getD L/\hi.getD L<=L
  ·obtain⟨h1,h2,h3⟩:=hc;obtain⟨f,m,hf,hm,hg,hfm,hm1⟩:=Dq h1 h2 h3;have hsub:=zy t3 hfm;have hlen:∀ s,t=some s->(uz f m s).length=m:=λs hs=>by exact zB ((t2 s hs).1.symm ▸ hfm)
   refine⟨(t.map (uz f m)).map .str,λv hv=>?_,λd hd=>⟨?_, ?_⟩⟩
   ·cases t with
    | none=>exact dt hv
    | some s=>cases hv;refine .str ?_;have:1<=2 ^ n:=Nat.one_le_two_pow;rw[hlen s rfl];lia
   ·refine PV (ee d hd) ?_;simp only[Option.elim_some];refine PV (PW ⟨h1,h2,h3⟩) ?_;have e1:(a:Int)+lo.getD 1 - 1=((a+f:Nat):Int):=(Int.add_sub_assoc ..).trans (congrArg ((a:Int) + ·) hf);unfold cz;rw[e1,hm];refine io (Nat.le_sub_of_add_le (PO (by decide:3+2<=12+5) (PO (Nat.add_le_add_right hK 5) hd))) m5 m6 (by rw[m8.1];decide) hm1 (by simp only[m8.1,Nat.add_assoc];exact PO (Nat.add_le_add_left hfm a) haL) hsub λs hs c hcm=>?_
    induction t with
    | none=>exact dt hs
    | some s'=>cases hs;refine(t2 s' rfl).2 c ?_;simp only[uz,cut]at hcm;exact List.mem_of_mem_drop (List.mem_of_mem_take hcm)
   ·refine PV (el d hd) ?_;simp only[Option.elim_some];refine PV (PW ⟨h1,h2,h3⟩) ?_;rw[t1,hf]
    induction t with
    | none=>rfl
    | some s=>
     have hi0:ae .Is (.str s) .none=ret false:=rfl;have hl:=(t2 s rfl).1;simp only[Option.map_some,Option.getD_some,SM,hi0,Bool.false_eq_true,if_false];rw[hg];have l1:am s.length=true:=decide_eq_true (by rw[hl];exact PO hL (by decide));have l2:iz (.int (f:Int)) (.int ((f+m:Nat):Int)) s.length=some (f,f+m):=by show(if 0<=(f:Int)/\0<=((f+m:Nat):Int) then some (min f s.length,min (f+m) s.length) else none)=_;refine(PW ⟨Int.natCast_nonneg f,Int.natCast_nonneg _⟩).trans ?_;rw[hl];exact congrArg some (Prod.ext (Nat.min_eq_left (PO (Nat.le_add_right f m) hfm)) (Nat.min_eq_left hfm))
     show(if am s.length=true then bnd (ac (iz (.int (f:Int)) (.int ((f+m:Nat):Int)) s.length)) λ(a,b)=>ret (D.str ⟨(cut s.cps.toList a b).toArray⟩) else stuck) σ=_;rw[l1,l2,PW rfl];rfl
  ·exact⟨none,nofun,λd hd=>⟨by refine PV (ee d hd) ?_;simp only[Option.elim_some];exact(PX hc),by refine PV (el d hd) ?_;simp only[Option.elim_some];exact(PX hc)⟩⟩
variable{σ:St}{w:Int}{ro ho:D}{V:cy}
inductive vD:D->Prop
 | var:vD (.tup [.str (nm "var"),.int 0,.str (nm "I")])
 | const {c:Int}:c.natAbs<=2048->vD (.tup [.str (nm "const"),.int 0,.int c])
inductive jZ:Int->D->Prop
 | const {k:Int} {v:D}:Val k 0 v->jZ k (.tup [.str (nm "const"),.int k,v])
 | vI:jZ 0 (.tup [.str (nm "var"),.int 0,.str (nm "I")])
 | vJ:jZ 0 (.tup [.str (nm "var"),.int 0,.str (nm "J")])
 | vX:jZ 1 (.tup [.str (nm "var"),.int 1,.str (nm "X")])
 | vL:jZ 4 (.tup [.str (nm "var"),.int 4,.str (nm "L")])
 | vC:jZ 5 (.tup [.str (nm "var"),.int 5,.str (nm "C")])
 | eA {ix iy:D}:vD ix->vD iy->jZ 0 (.tup [.str (nm "elem"),.int 0,.str (nm "A"),.list [ix,iy]])
 | eB {ix:D}:vD ix->jZ 1 (.tup [.str (nm "elem"),.int 1,.str (nm "B"),.list [ix]])
 | eD {ix:D}:vD ix->jZ 5 (.tup [.str (nm "elem"),.int 5,.str (nm "D"),.list [ix]])
inductive Tree:Int->Nat->D->Prop
 | leaf {k:Int} {n:Nat} {t:D}:jZ k t->Tree k n t
 | not {n:Nat} {a:D}:Tree 4 n a->Tree 4 (n+1) (.tup [.str (nm "not"),.int 4,a])
 | log {n:Nat} {x:String} {a b:D}:x∈["and","or","eqv","neqv"]->Tree 4 n a->Tree 4 n b->Tree 4 (n+1) (.tup [.str (nm x),.int 4,a,b])
 | rel {n:Nat} {x:String} {k:Int} {a b:D}:x∈rels->(k=0\/k=1\/k=5)->Tree k n a->Tree k n b->Tree 4 (n+1) (.tup [.str (nm x),.int 4,a,b])
 | cat {n:Nat} {a b:D}:Tree 5 n a->Tree 5 n b->Tree 5 (n+1) (.tup [.str (nm "cat"),.int 5,a,b])
 | subC {n:Nat} {lo hi:Option Int}:Tree 5 n (.tup [.str (nm "substr"),.int 5,.tup [.str (nm "var"),.int 5,.str (nm "C")],fE lo,fE hi])
 | subD {n:Nat} {ix:D} {lo hi:Option Int}:vD ix->Tree 5 n (.tup [.str (nm "substr"),.int 5,.tup [.str (nm "elem"),.int 5,.str (nm "D"),.list [ix]],fE lo,fE hi])
 | neg {n:Nat} {k:Int} {a:D}:(k=0\/k=1)->Tree k n a->Tree k (n+1) (.tup [.str (nm "neg"),.int k,a])
 | conv1 {n:Nat} {a:D}:Tree 0 n a->Tree 1 (n+1) (.tup [.str (nm "conv"),.int 1,a])
 | conv0 {n:Nat} {a:D}:Tree 1 n a->Tree 0 (n+1) (.tup [.str (nm "conv"),.int 0,a])
 | int {n:Nat} {x:String} {a b:D}:x∈["add","sub","mul","div","powi"]->Tree 0 n a->Tree 0 n b->Tree 0 (n+1) (.tup [.str (nm x),.int 0,a,b])
 | real {n:Nat} {x:String} {a b:D}:x∈["add","sub","mul","div"]->Tree 1 n a->Tree 1 n b->Tree 1 (n+1) (.tup [.str (nm x),.int 1,a,b])
theorem Tree.shape{k:Int}{n:Nat}{t:D}(h:Tree k n t):∃ a r,t=.tup (a::.int k::r):=by
 induction h with
 | leaf h=>induction h <;> exact⟨_,_,rfl⟩
 | _=>exact⟨_,_,rfl⟩
theorem Ev.mono{K K':Nat}{P:D->Prop}{t:D}(h:Ev σ w ro ho K P t)(e:K<=K'):Ev σ w ro ho K' P t:=by refine ao h λo p q=>?_;exact⟨o,p,λd hd=>q d (by lia)⟩
theorem rY(W:Wd σ w ro)(H:Md σ ro ho V){ix:D}(h:vD ix):∃ oi,xg σ w ro ho 12 ix oi:=by
 induction h with
 | var=>exact(Eo W H (n:=0) (Nat.le_refl _)).int
 | const hc=>exact(rR W (n:=0) (Nat.le_refl _) (.int hc)).int
theorem BG(W:Wd σ w ro)(H:Md σ ro ho V){n:Nat}{lo hi:Option Int}:Ev σ w ro ho 17 (Val 5 n) (.tup [.str (nm "substr"),.int 5,.tup [.str (nm "var"),.int 5,.str (nm "C")],fE lo,fE hi]):=by
 refine zC W H (x:="C") (L:=4) (loc:=some (0,[])) (K:=12) (Nat.le_refl _) (by decide) (by decide) ⟨0,[],by kernel_rfl⟩ (λd hd=>?_) (λd hd=>?_) (λa q h C hC=>?_)
 ·exact jx H (p:=[.int 5,.int 0,.int 4,.tup []]) (by lia) (by simp[aC,cz])
 ·dsimp only[SM,SI,SF,o9];rfl
 ·cases h;exact⟨hC.2.1,by decide⟩
theorem BH(W:Wd σ w ro)(H:Md σ ro ho V){n:Nat}{ix:D}{lo hi:Option Int}(h:vD ix):Ev σ w ro ho 19 (Val 5 n) (.tup [.str (nm "substr"),.int 5,.tup [.str (nm "elem"),.int 5,.str (nm "D"),.list [ix]],fE lo,fE hi]):=by
 refine PS (rY W H h) λoi I=>?_;refine zC W H (x:="D") (L:=3) (loc:=cr oi (λi=>if 2<=i/\i<=3 then some ((4+(i - 2)*3).toNat,[i]) else none) none) (K:=14) (by decide) (by decide) (by decide) ⟨4,[rg 2 3],by kernel_rfl⟩ (λd hd=>?_) (λd hd=>?_) (λa q h C hC=>?_)
 ·have hd12:12+2<=d:=PO (by decide) hd;have hpl:=jM (k:=5) H (Nat.le_refl 12) hd12 (show(nm "D",cz 5 4 3 [rg 2 3])∈aC by simp[aC,cz]) I;refine PV hpl ?_
  induction oi with
  | none=>rfl
  | some i=>
   simp only[cr];have hb:=I.1 i rfl;have he:=zs (d:=d - 1) (k:=5) (a:=4) (l:=3) (lo:=2) (hi:=3) (i:=i) (u:=3) (Nat.le_sub_of_add_le (PO (by decide) hd12)) (db hb (by decide)) (λe he=>Ci he) (λq h1 h2 h3=>⟨h3 ▸ db hb (by decide),by decide +kernel⟩) (by decide +kernel);simp only[cz]at he;rw[he]
   by_cases hr:2<=i/\i<=3
   ·rw[PW hr,PW hr];simp only[Option.elim_some];have e:(4:Int)+(i - 2)*3=((4+(i - 2)*3).toNat:Int):=mc (by decide) (by decide) hr.1;exact(Eq.symm e) ▸ rfl
   ·rw[PX hr,PX hr];rfl
 ·dsimp only[SM,SI,SF,o9,String.reduceEq,decide_false,Bool.false_eq_true,if_false];have hs:=Cj (k:=5) (Nat.le_refl 12) (PO (by decide) hd:12+1<=d) (show aa aC (nm "D")=some (cz 5 4 3 [rg 2 3]) by kernel_rfl) I;refine PV hs ?_
  induction oi with
  | none=>rfl
  | some i=>
   simp only[cr];rcases P8 (2<=i/\i<=3) with hr | hr
   ·rw[PW hr,PW hr];rfl
   ·rw[PX hr,PX hr];rfl
 ·induction oi with
  | none=>injection h
  | some i=>
   simp only[cr]at h;refine PU (P8 (2<=i/\i<=3)) (λhr=>?_) λhr=>?_
   ·replace h:=(PW hr) ▸ h;cases h;exact⟨hC.2.2 i hr.1 hr.2,Nat.add_le_add_right (Nat.le_of_lt_succ (zt (n:=8) (by decide) hr.2 (by decide) (by decide))) 3⟩
   ·exact dt ((PX hr) ▸ h)
theorem BI(W:Wd σ w ro)(H:Md σ ro ho V){k:Int}{n:Nat}{t:D}(h:jZ k t):Ev σ w ro ho 20 (Val k n) t:=by
 induction h with
 | const h=>exact(rR W (Nat.le_refl 12) h).mono (by lia)
 | vI=>exact Eo W H (by lia)
 | vJ=>exact E6 W H (by lia)
 | vX=>exact E7 W H (by lia)
 | vL=>exact E8 W H (by lia)
 | vC=>exact E9 W H (by lia)
 | eA h1 h2=>obtain⟨oi,I⟩:=rY W H h1;refine PS (rY W H h2) λoj J=>?_;exact(Fb W H (Nat.le_refl 12) I J).mono (by lia)
 | eB h1=>obtain⟨oi,I⟩:=rY W H h1;exact(E_ W H (Nat.le_refl 12) I).mono (by lia)
 | eD h1=>obtain⟨oi,I⟩:=rY W H h1;exact(Fa W H (Nat.le_refl 12) I).mono (by lia)
theorem BJ(W:Wd σ w ro)(H:Md σ ro ho V){k:Int}{n:Nat}{t:D}(h:Tree k n t):n<=3->Ev σ w ro ho (20+2*n) (Val k n) t:=by
 induction h with
 | leaf h=>exact λ_=>(BI W H h).mono (by lia)
 | not _ ih=>exact λhn=>(zq W (by lia) (ih (by lia))).mono (by lia)
 | log hx _ _ ia ib=>exact λhn=>(zl W (by lia) hx (ia (by lia)) (ib (by lia))).mono (by lia)
 | rel hx hk ha _ ia ib=>intro hn;refine gE ha.shape λa1 ra z1=>?_;obtain rfl:=z1;exact(zm W (by lia) (by lia) hx hk (ia (by lia)) (ib (by lia))).mono (by lia)
 | cat _ _ ia ib=>exact λhn=>(zo W (by lia) (by lia) (ia (by lia)) (ib (by lia))).mono (by lia)
 | subC=>exact λ_=>(BG W H).mono (by lia)
 | subD h=>exact λ_=>(BH W H h).mono (by lia)
 | neg hk _ ih=>
  intro hn;rcases hk with rfl | rfl
  ·exact(xd W (by lia) (ih (by lia))).mono (by lia)
  ·exact(xe W (by lia) (by lia) (ih (by lia))).mono (by lia)
 | conv1 ha ih=>intro hn;refine gE ha.shape λa1 ra z2=>?_;obtain rfl:=z2;exact(ux W (by lia) (by lia) (ih (by lia))).mono (by lia)
 | conv0 ha ih=>intro hn;refine gE ha.shape λa1 ra z3=>?_;obtain rfl:=z3;exact(uy W (by lia) (by lia) (ih (by lia))).mono (by lia)
 | int hx _ _ ia ib=>exact λhn=>(zp W (by lia) hx (ia (by lia)) (ib (by lia))).mono (by lia)
 | real hx _ _ ia ib=>exact λhn=>(xc W (by lia) (by lia) hx (ia (by lia)) (ib (by lia))).mono (by lia)
noncomputable def Pool(p:Nat)(σ:St):Prop:=∃ ns:List Int,σ[p]?=some (.list (ns.map .int))/\ns.length<=24/\∀ n∈ns,0<=n/\n<10 ^ 60
noncomputable def Same(p:Nat)(σ σ':St):Prop:=σ'.length=σ.length/\∀ i,i≠p->σ'[i]?=σ[i]?
noncomputable def Gen{α:Type}(p:Nat)(m:M α)(P:α->Prop):Prop:=∀ σ,Pool p σ->∃ a σ',m σ=.ok a σ'/\P a/\Pool p σ'/\Same p σ σ'
theorem Same.refl(p:Nat)(σ:St):Same p σ σ:=⟨rfl,λ_ _=>rfl⟩
theorem Same.trans{p:Nat}{σ σ' σ'':St}(h:Same p σ σ')(h':Same p σ' σ''):Same p σ σ'':=⟨h'.1.trans h.1,λi hi=>(h'.2 i hi).trans (h.2 i hi)⟩
theorem Gen.ret{α:Type}{p:Nat}{a:α}{P:α->Prop}(h:P a):Gen p (Mine.ret a) P:=λσ hσ=>⟨a,σ,rfl,h,hσ,.refl _ _⟩
theorem Gen.bnd{α β:Type}{p:Nat}{m:M α}{f:α->M β}{P:α->Prop}{Q:β->Prop}(h:Gen p m P)(hf:∀ a,P a->Gen p (f a) Q):Gen p (Mine.bnd m f) Q:=λσ hσ=>by refine aH (h σ hσ) λa σ' e pa g s=>?_;refine aH (hf a pa σ' g) λb σ'' e' pb g' s'=>?_;exact⟨b,σ'',by rw[aB e];exact e',pb,g',s.trans s'⟩
theorem Gen.mono{α:Type}{p:Nat}{m:M α}{P Q:α->Prop}(h:Gen p m P)(hp:∀ a,P a->Q a):Gen p m Q:=λσ hσ=>by refine aH (h σ hσ) λa σ' e pa g s=>?_;exact⟨a,σ',e,hp a pa,g,s⟩
theorem Gen.ite{α:Type}{p:Nat}{c:Prop}[Decidable c]{a b:M α}{P:α->Prop}(ha:c->Gen p a P)(hb:¬ c->Gen p b P):Gen p (if c then a else b) P:=by
 split
 ·exact ha ‹_›
 ·exact hb ‹_›
theorem uA{σ:St}{p:Nat}{c c':Cell}(h:σ[p]?=some c):(σ.set p c')[p]?=some c':=by have:=(List.getElem?_eq_some_iff.mp h).1;exact(List.getElem?_set_self this)
theorem rZ(p:Nat)(σ:St)(c:Cell):Same p σ (σ.set p c):=⟨List.length_set ..,λi hi=>List.getElem?_set_ne (Ne.symm hi)⟩
noncomputable def FV(many:Int)(v:D):Prop:=∃ i:Int,v=.int i/\0<=i/\i<many
theorem dX{p d:Nat}{many:Int}(hd:1<=d)(hm:0<many)(hm':many<=1000):Gen p (run d (nm "_law_take") [.ref p,.int many]) (FV many):=by
 refine ao (ak hd) λd z1 _=>?_;obtain rfl:=z1;intro σ hσ;refine bj hσ λns h1 h2 h3=>?_;rw[tO];have hl:=vr h1 (by simp;lia)
 induction ns using List.casesOn with
 | nil=>refine⟨.int 0,σ, ?_,⟨0,rfl,by decide,hm⟩,⟨[],h1,h2,h3⟩,.refl _ _⟩;walk_at "u"
 | cons n ns=>
  obtain⟨n0,n60⟩:=h3 n List.mem_cons_self;have fm:fits many=true:=aM (bX (k:=4) (by decide) (PQ (yT (n:=1000) (Int.le_trans (by decide) (Int.le_of_lt hm)) hm') (by decide)));have hm0:many≠0:=Int.ne_of_gt hm;have fn:fits n=true:=aM (bX (k:=60) (by decide) (by lia));have hns:ns.length<=100:=by simp at h2;lia
  have s0:∀ {σ':St} {v:D},σ'[p]?=some (.list (v::ns.map .int))->subD (.ref p) (.int 0) σ'=.ok v σ':=λ{σ' v} h=>vt (a:=0) h rfl (by simp;lia);have e0:subD (.ref p) (.int 0) σ=.ok (.int n) σ:=s0 h1;have q0:0<=n.fdiv many:=by rw[Int.fdiv_eq_ediv_of_nonneg _ (Int.le_of_lt hm)];exact Int.ediv_nonneg n0 (Int.le_of_lt hm)
  have q1:n.fdiv many<=n:=by rw[Int.fdiv_eq_ediv_of_nonneg _ (Int.le_of_lt hm)];exact Int.ediv_le_self _ n0
  have r0:=Int.fmod_nonneg_of_pos n hm;have r1:=Int.fmod_lt_of_pos n hm;have hset:cL (.ref p) (.int 0) (.int (n.fdiv many)) σ=.ok () (σ.set p (.list (.int (n.fdiv many)::ns.map .int))):=by refine cv (aU h1) (Ed ⟨by decide,Nat.succ_pos _, ?_⟩ rfl);unfold am;simp;lia
  have h1':=uA (c':=.list (.int (n.fdiv many)::ns.map .int)) h1;have sm1:=rZ p σ (.list (.int (n.fdiv many)::ns.map .int));generalize σ.set p (.list (.int (n.fdiv many)::ns.map .int))=σ2 at *
  have e0':=s0 h1';rcases P8 (n.fdiv many=0) with hz | hz
  ·have hp:aZ (.ref p) (nm "pop") σ2=.ok .pop σ2:=cv (aU h1') rfl;have hmm:bd (run d) (.ref p) .pop [.int 0] σ2=.ok (.int (n.fdiv many)) (σ2.set p (.list (ns.map .int))):=cv (aU h1') (Ed (by unfold am;simp;lia) rfl);refine⟨.int (n.fmod many),σ2.set p (.list (ns.map .int)), ?_,⟨_,rfl,r0,r1⟩,⟨ns,uA h1',Nat.le_of_succ_le h2,λm hm=>h3 m (.tail _ hm)⟩,sm1.trans (rZ ..)⟩;clear h1 h2 h3 n0 n60 hns s0 q0 q1 r0 r1 sm1 h1';walk_at "u"
  ·refine⟨.int (n.fmod many),σ2, ?_,⟨_,rfl,r0,r1⟩,⟨n.fdiv many::ns,h1',h2,λm hm=>?_⟩,sm1⟩
   ·clear h1 h2 h3 n0 n60 hns s0 q0 q1 r0 r1 sm1 h1';walk_at "u"
   ·rcases P7 hm with rfl | hm
    ·exact⟨q0,by lia⟩
    ·exact h3 m (.tail _ hm)
theorem Gen.is{α:Type}{p:Nat}{m m':M α}{P:α->Prop}(e:m=m')(h:Gen p m' P):Gen p m P:=e ▸ h
theorem GA{α β γ:Type}{p:Nat}{m:M α}{f:α->M β}{g:β->M γ}{Q:γ->Prop}(h:Gen p (Mine.bnd m λa=>Mine.bnd (f a) g) Q):Gen p (Mine.bnd (Mine.bnd m f) g) Q:=.is (lH m f g) h
theorem Gf{p:Nat}{m:M Flow'}{P:D->Prop}(h:Gen p (aq m) P):Gen p (aq m) P:=h
theorem GE{α:Type}{p:Nat}{m:M α}{f:α->M Flow'}{Q:D->Prop}(h:Gen p (Mine.bnd m λa=>aq (f a)) Q):Gen p (aq (Mine.bnd m f)) Q:=.is (fe m f) h
theorem GT{p:Nat}{m:M D}{Q:D->Prop}(h:Gen p m Q):Gen p (aq (Mine.bnd m λt=>Mine.ret (.ret t))) Q:=.is (ET rfl) h
theorem G1{α β:Type}{p:Nat}{m:M α}{f:α->M β}{a:α}{Q:β->Prop}(e:m=Mine.ret a)(h:Gen p (f a) Q):Gen p (Mine.bnd m f) Q:=.is (B1 e rfl) h
theorem gT{α:Type}{p:Nat}{c:Prop}[Decidable c]{A B:M α}{Q:α->Prop}(e:c)(h:Gen p A Q):Gen p (if c then A else B) Q:=.is (PW e) h
theorem gF{α:Type}{p:Nat}{c:Prop}[Decidable c]{A B:M α}{Q:α->Prop}(e:¬ c)(h:Gen p B Q):Gen p (if c then A else B) Q:=.is (PX e) h
theorem Gg{p:Nat}{c:Prop}[Decidable c]{A B:M Flow'}{Q:D->Prop}(e:c)(h:Gen p (aq A) Q):Gen p (aq (if c then A else B)) Q:=.is (congrArg aq (PW e)) h
theorem Gi{p:Nat}{c:Prop}[Decidable c]{A B:M Flow'}{Q:D->Prop}(e:¬ c)(h:Gen p (aq B) Q):Gen p (aq (if c then A else B)) Q:=.is (congrArg aq (PX e)) h
theorem gO{α:Type}{p:Nat}{b:Bool}{x:M Bool}{g:Bool->M α}{Q:α->Prop}(e:b=false)(h:Gen p (Mine.bnd x g) Q):Gen p (Mine.bnd (bi .Or b x) g) Q:=.is (by subst e;rfl) h
theorem gN{α:Type}{p:Nat}{b:Bool}{x:M Bool}{g:Bool->M α}{Q:α->Prop}(e:b=true)(h:Gen p (Mine.bnd x g) Q):Gen p (Mine.bnd (bi .And b x) g) Q:=.is (by rw[e];rfl) h
theorem gt{β:Type}{p d:Nat}{many:Int}{f:D->M β}{Q:β->Prop}(hd:1<=d)(hm:0<many)(hm':many<=1000)(h:∀ j:Int,0<=j->j<many->Gen p (f (.int j)) Q):Gen p (Mine.bnd (run d (nm "_law_take") [.ref p,.int many]) f) Q:=
 .bnd (dX hd hm hm') λ_ ⟨j,e,h0,h1⟩=>e ▸ h j h0 h1
theorem FW{α β:Type}{p:Nat}{c:Prop}[Decidable c]{A B:M α}{f:α->M β}{Q:β->Prop}(e:c)(h:Gen p (Mine.bnd A f) Q):Gen p (Mine.bnd (if c then A else B) f) Q:=.is (by rw[PW e]) h
theorem Gj{α β:Type}{p:Nat}{c:Prop}[Decidable c]{A B:M α}{f:α->M β}{Q:β->Prop}(e:¬ c)(h:Gen p (Mine.bnd B f) Q):Gen p (Mine.bnd (if c then A else B) f) Q:=.is (by rw[PX e]) h
theorem FX{j:Int}(h0:0<=j)(h1:j<2):j=0\/j=1:=by refine PS (Int.eq_ofNat_of_zero_le h0) λn e=>?_;subst e;exact(by decide:∀ n:Nat,n<2->((n:Int)=0\/(n:Int)=1)) n (Int.ofNat_lt.mp h1)
theorem Fz{j:Int}(h0:0<=j)(h1:j<3):j=0\/j=1\/j=2:=by refine PS (Int.eq_ofNat_of_zero_le h0) λn e=>?_;subst e;exact(by decide:∀ n:Nat,n<3->((n:Int)=0\/(n:Int)=1\/(n:Int)=2)) n (Int.ofNat_lt.mp h1)
theorem Er{j:Int}(h0:0<=j)(h1:j<4):j=0\/j=1\/j=2\/j=3:=by refine PS (Int.eq_ofNat_of_zero_le h0) λn e=>?_;subst e;exact(by decide:∀ n:Nat,n<4->((n:Int)=0\/(n:Int)=1\/(n:Int)=2\/(n:Int)=3)) n (Int.ofNat_lt.mp h1)
theorem FY{j:Int}(h0:0<=j)(h1:j<6):j=0\/j=1\/j=2\/j=3\/j=4\/j=5:=by refine PS (Int.eq_ofNat_of_zero_le h0) λn e=>?_;subst e;exact(by decide:∀ n:Nat,n<6->((n:Int)=0\/(n:Int)=1\/(n:Int)=2\/(n:Int)=3\/(n:Int)=4\/(n:Int)=5)) n (Int.ofNat_lt.mp h1)
theorem pt{p:Nat}{x y:D}{m:M D}{P Q:D->Prop}(h:Gen p m P)(k:∀ a,P a->Q (.tup [x,y,a])):Gen p (aG [ret x,ret y,m]) Q:=
 .is (m':=bnd m λa=>ret (.tup [x,y,a])) (by simp only[aG,ah,SM];rfl) (.bnd h λa ha=>.ret (k a ha))
theorem xi{p:Nat}{x y:D}{m m':M D}{P P' Q:D->Prop}(h:Gen p m P)(h':Gen p m' P')(k:∀ a b,P a->P' b->Q (.tup [x,y,a,b])):Gen p (aG [ret x,ret y,m,m']) Q:=
 .is (m':=bnd m λa=>bnd m' λb=>ret (.tup [x,y,a,b])) (by simp only[aG,ah,SM];rfl) (.bnd h λa ha=>.bnd h' λb hb=>.ret (k a b ha hb))
theorem Dr{p:Nat}{x y z:D}{m m':M D}{P Q:D->Prop}(e:m=ret z)(h:Gen p m' P)(k:∀ a,P a->Q (.tup [x,y,z,a])):Gen p (aG [ret x,ret y,m,m']) Q:=
 .is (m':=bnd m' λa=>ret (.tup [x,y,z,a])) (by subst e;simp only[aG,ah,SM];rfl) (.bnd h λa ha=>.ret (k a ha))
theorem nG{p d:Nat}(hd:2<=d):Gen p (run d (nm "_law_number") [.ref p]) (λv=>∃ i:Int,v=.int i/\i.natAbs<=110):=by
 refine ao (ak hd) λd z1 hd'=>?_;obtain rfl:=z1;rw[oQ];walk_at "g";refine gt hd' (by decide) (by decide) λi h0 h1=>?_;walk_at "g";refine gt hd' (by decide) (by decide) λj g0 g1=>?_;have hi:(i - 11).natAbs<=11:=yT (n:=11) (Int.sub_le_sub_right h0 11) (Int.sub_le_sub_right (show i<=22 from Int.le_of_lt_add_one h1) 11);have fi:fits (i - 11)=true:=aM (bX (k:=4) (by decide) (PQ hi (by decide)));obtain⟨t,e,ht⟩ : ∃ t:Int,subD (.tup [.int 1,.int 1,.int 1,.int 10]) (.int j)=ret (.int t)/\(t=1\/t=10):=by
  obtain rfl | rfl | rfl | rfl:=Er g0 g1
  all_goals exact⟨_,rfl,by decide⟩
 have ft:fits t=true:=by
  rcases ht with rfl | rfl
  ·exact f1
  ·exact mJ
 exact G1 e (G1 (oU fi ft) (Gen.ret (a:=D.int ((i - 11)*t)) ⟨_,rfl,PO (PR (Int.natAbs_mul _ _)) (Nat.mul_le_mul hi (ht.elim (λq=>q ▸ by decide) λq=>q ▸ (by decide:(10:Int).natAbs<=10)))⟩))
theorem jb{d:Nat}{n:Int}{u:Nat}{c:Int}(hd:1<=d)(hn:n.natAbs<=110)(hu:0<u)(hu':u<=100)(hc:c*u=100)(hc':c.natAbs<=100):∃ r,Rl 3 r/\run d (nm "_law_fit") [.int n,.int u,.int 3]=ret (pr r):=by
 have hb:(n*c).natAbs<=11000:=by
  rw[Int.natAbs_mul]
  calc n.natAbs*c.natAbs<=110*100:=Nat.mul_le_mul hn hc'
   _=11000:=rfl
 have h5:cd (n*c).natAbs<=5:=bk (by lia);refine⟨bn (n*c) (-2),o4 (by decide) (by lia),gB hd hu (by lia) (by lia) (pl:=0) (nl:=2) (rfl) ?_⟩;simp only[Int.pow_zero,Int.mul_one,Int.mul_assoc,hc];rfl
theorem BK{p d:Nat}(hd:3<=d):Gen p (run d (nm "_law_real") [.ref p]) (λv=>∃ r,v=pr r/\Rl 3 r):=by
 refine ao (ak hd) λd z2 hd'=>?_;obtain rfl:=z2;rw[tP];simp only[lB,SM];refine Gen.bnd (nG hd') λv hv=>?_;refine ao hv λn z3 hn=>?_;obtain rfl:=z3;refine Gen.bnd (dX (by lia) (by decide) (by decide)) λv hv=>?_;refine bj hv λj z4 g0 g1=>?_;obtain rfl:=z4;obtain rfl | rfl | rfl | rfl:=Er (j:=j) (by assumption) (by assumption)
 ·refine ao (jb (d:=d) (n:=n) (u:=1) (c:=100) (by lia) hn (by decide) (by decide) (rfl) (by decide)) λr hr e=>?_;simp only[o9,SM];rw[show(1:Int)=((1:Nat):Int) from rfl,e];exact Gen.ret ⟨r,rfl,hr⟩
 ·refine ao (jb (d:=d) (n:=n) (u:=4) (c:=25) (by lia) hn (by decide) (by decide) (rfl) (by decide)) λr hr e=>?_;simp only[ut,SM];rw[show(4:Int)=((4:Nat):Int) from rfl,e];exact Gen.ret ⟨r,rfl,hr⟩
 ·refine ao (jb (d:=d) (n:=n) (u:=10) (c:=10) (by lia) hn (by decide) (by decide) (rfl) (by decide)) λr hr e=>?_;simp only[w_,SM];rw[show(10:Int)=((10:Nat):Int) from rfl,e];exact Gen.ret ⟨r,rfl,hr⟩
 ·refine ao (jb (d:=d) (n:=n) (u:=100) (c:=1) (by lia) hn (by decide) (by decide) (rfl) (by decide)) λr hr e=>?_;simp only[zi,SM];rw[show(100:Int)=((100:Nat):Int) from rfl,e];exact Gen.ret ⟨r,rfl,hr⟩
noncomputable def FB(m:Nat)(v:D):Prop:=∃ s:Str,v=.str s/\s.length<=m/\∀ c∈s.cps.toList,c<128
theorem BL{j:Int}(h0:0<=j)(h1:j<4):∃ c,c<128/\subD (.str (nm " AB0")) (.int j)=ret (.str ⟨#[c]⟩):=by
 obtain rfl | rfl | rfl | rfl:=Er (j:=j) (by assumption) (by assumption)
 ·exact⟨32,by decide,by kernel_rfl⟩
 ·exact⟨65,by decide,by kernel_rfl⟩
 ·exact⟨66,by decide,by kernel_rfl⟩
 ·exact⟨48,by decide,by kernel_rfl⟩
theorem nH{p d:Nat}(hd:1<=d):∀ (items:List D) (l:List Nat),l.length+items.length<=10->(∀ c∈l,c<128) →
  Gen p (aJ (λd7 Kx=>bnd (run d (nm "_law_take") [.ref p,.int 4]) λt9=>bnd (subD (.str (nm " AB0")) t9) λII=>if am (Kx).length then ret (Kx++[II]) else stuck) items (l.map λc=>.str ⟨#[c]⟩)) (λv=>∃ l':List Nat,v=l'.map (λc=>D.str ⟨#[c]⟩)/\l'.length=l.length+items.length/\∀ c∈l',c<128)
 | [],l,_,hl=>Gen.ret ⟨l,rfl,by dsimp,hl⟩
 | it::items,l,hn,hl=>by
  simp only[aJ];simp only[SM];refine Gen.bnd (dX hd (by lia) (by lia)) λv hv=>?_;refine bj hv λj z5 h0 h1=>?_;obtain rfl:=z5;refine ao (BL h0 h1) λc hc e=>?_;have lo:am (l.map λc=>D.str ⟨#[c]⟩).length=true:=by unfold am;simp at hn ⊢;lia
  simp only[e,SM,lo,if_true];have:=nH hd items (l++[c]) (by simp at hn ⊢;lia) (λx hx=>by
   refine PU (List.mem_append.mp hx) (λh=>?_) λh=>?_
   ·exact hl x h
   ·simp at h;lia) (p:=p)
  simp only[List.map_append]at this;refine this.mono λv hv=>?_;refine bj hv λl' e1 e2 e3=>?_;exact⟨l',e1,by simp at e2 ⊢;lia,e3⟩
theorem BM{p d:Nat}(hd:2<=d):Gen p (run d (nm "_law_text") [.ref p]) (FB 3):=by
 refine ao (ak hd) λd zz1 hd'=>?_;obtain rfl:=zz1;rw[tQ];have hp:aZ (.str (nm "")) (nm "join")=ret .join:=by kernel_rfl
 simp only[lC,SM,hp];refine Gen.bnd (dX hd' (by decide) (by decide)) λv hv=>?_;refine bj hv λi zz1 h0 h1=>?_;obtain rfl:=zz1;have c1:1+i<=100000:=by lia
 have c2:-100000<=1+i:=by lia
 simp[SI,SB,SL,SM,c1,c2,if_true,and_self,show(-100000:Int)<=0 from by decide,show(0:Int)<=100000 from by decide];have hl:(range 0 (1+i)).length=(1+i).toNat:=by rw[nt];congr 1;lia
 refine Gen.bnd (nH hd' (range 0 (1+i)) [] (by simp[hl];lia) (by decide)) λv hv=>?_;obtain⟨l',rfl,e2,e3⟩:=hv;have:=ma (call:=run d) (s:=⟨l'.toArray⟩) (by simp[Str.length]at e2 ⊢;lia);simp only at this;exact this ▸ (Gen.ret ⟨⟨l'.toArray⟩,rfl,by simp[Str.length]at e2 ⊢;lia,e3⟩)
noncomputable def FZ(k:Int)(v:D):Prop:=Val k 0 v/\(k=5->FB 3 v)
theorem jy{p d:Nat}{k:Int}(hd:4<=d)(hk:k=0\/k=1\/k=4\/k=5):Gen p (run d (nm "_law_const") [.ref p,.int k]) (FZ k):=by
 refine ao (ak hd) λd z9 hd'=>?_;obtain rfl:=z9;rw[qU];rcases hk with rfl | rfl | rfl | rfl
 ·walk_at "g";exact(nG (by lia)).mono λv ⟨i,e,h⟩=>⟨e ▸ .int (by lia),by lia⟩
 ·walk_at "g";exact(BK (by omega)).mono λv ⟨r,e,h⟩=>⟨e ▸ .real h,by lia⟩
 ·walk_at "g";exact gt (by lia) (by decide) (by decide) λj _ _=>Gen.ret (a:=D.bool (decide (j=1))) ⟨.bool,by lia⟩
 ·walk_at "g";exact(BM (by lia)).mono λv hv=>by refine bj hv λs z10 h1 h2=>?_;obtain rfl:=z10;exact⟨.str (by lia),λ_=>⟨s,rfl,h1,h2⟩⟩
theorem Ck(l:List D)(h:l.length<=30):am l.length=true:=by unfold am;simp;lia
theorem jc{p d:Nat}{k:Int}(hd:2<=d)(hk:k.natAbs<=5):Gen p (run d (nm "_law_index") [.ref p,.int k]) vD:=by
 refine ao (ak hd) λd z11 hd'=>?_;obtain rfl:=z11;rw[qW];walk_at "g";refine gt hd' (by decide) (by decide) λj g0 g1=>?_;rcases P8 (j=0) with h | h
 ·walk_at "g";exact Gen.ret .var
 ·walk_at "g";refine .is (m':=bnd (run d (nm "_law_take") [.ref p,.int 3]) λt=>bnd (ag .Sub t (.int k)) λa=>ret (.tup [.str (nm "const"),.int 0,a])) (by simp only[aG,ah,SM];rfl) ?_;exact gt hd' (by decide +kernel) (by decide +kernel) λi h0 h1=>.ret (.const (PO (Int.natAbs_sub_le i k) (PO (Nat.add_le_add (Nat.le_of_lt (Int.natAbs_lt_natAbs_of_nonneg_of_lt h0 h1)) hk) (by decide))))
theorem uB{p d:Nat}{k:Int}{P:D->Prop}(hd:1<=d)(h:∀ x,(x=.str (nm "I")\/x=.str (nm "J"))->∃ v,subD (.list [x,.str (nm "X"),.str (nm ""),.str (nm ""),.str (nm ""),.str (nm "C")]) (.int k)=ret v/\P v) :
  Gen p (bnd (di [bnd (run d (nm "_law_take") [.ref p,.int 2]) λt6=>subD (.str (nm "IJ")) t6,ret (.str (nm "X")),ret (.str (nm "")),ret (.str (nm "")),ret (.str (nm "")),ret (.str (nm "C"))]) λt7=>subD t7 (.int k)) P:=by
 refine .is (m':=bnd (run d (nm "_law_take") [.ref p,.int 2]) λt=>bnd (subD (.str (nm "IJ")) t) λx=>subD (.list [x,.str (nm "X"),.str (nm ""),.str (nm ""),.str (nm ""),.str (nm "C")]) (.int k)) (by simp only[di,ah,SM];rfl) ?_;refine gt hd (by decide) (by decide) λj _ _=>?_;obtain⟨x,e,hx⟩ : ∃ x,subD (.str (nm "IJ")) (.int j)=ret x/\(x=.str (nm "I")\/x=.str (nm "J")):=by
  obtain rfl | rfl:=FX (j:=j) (by assumption) (by assumption)
  ·exact⟨_,by kernel_rfl,.inl rfl⟩
  ·exact⟨_,by kernel_rfl,.inr rfl⟩
 refine ao (h x hx) λv e2 pv=>?_;exact G1 e (.is e2 (.ret pv))
theorem Cm{p d:Nat}{m:M D}(hd:2<=d)(e:m=bnd (bnd (bnd (run d (nm "_law_index") [.ref p,.int 0]) λt=>ret [t]) λacc=>ret acc) λl=>ret (.list l)):Gen p m (λv=>∃ ix,vD ix/\v=.list [ix]):=
 .is e (GA (GA (.bnd (jc hd (by decide)) λix hx=>.ret ⟨ix,hx,rfl⟩)))
theorem BN{p d:Nat}{k:Int}(hd:5<=d)(hk:k=0\/k=1\/k=4\/k=5):Gen p (run d (nm "_law_leaf") [.ref p,.int k]) (jZ k):=by
 refine ao (ak hd) λd z12 hd'=>?_;obtain rfl:=z12;have d1:1<=d:=by omega
 have d2:2<=d:=by omega
 simp only[tT];walk_at "g";refine gt d1 (by decide) (by decide) λj g0 g1=>?_
 by_cases h0:j=0
 ·walk_at "g";exact pt (jy hd' hk) λa ha=>.const ha.1
 rcases hk with rfl | rfl | rfl | rfl
 ·by_cases h1:j=1
  ·walk_at "g";exact pt (P:=λv=>v=.str (nm "I")\/v=.str (nm "J")) (uB d1 λx hx=>⟨x,rfl,hx⟩) λa ha=>by
    rcases ha with rfl | rfl
    ·exact .vI
    ·exact .vJ
  ·walk_at "g";refine Dr (z:=.str (nm "A")) (by kernel_rfl) (P:=λv=>∃ ix iy,vD ix/\vD iy/\v=.list [ix,iy]) ?_ λb ⟨ix,iy,hx,hy,e⟩=>e ▸ .eA hx hy;refine .is (m':=bnd (bnd (bnd (run d (nm "_law_index") [.ref p,.int 0]) λt=>ret [t]) λacc=>bnd (bnd (run d (nm "_law_index") [.ref p,.int 1]) λt=>if am acc.length then ret (acc++[t]) else stuck) λacc=>ret acc) λl=>ret (.list l)) (by kernel_rfl) ?_;exact GA (GA (.bnd (jc d2 (by decide)) λix hx=>GA (GA (.bnd (jc d2 (by decide)) λiy hy=>FW (Ck _ (Nat.le_of_ble_eq_true rfl)) (.ret ⟨ix,iy,hx,hy,rfl⟩)))))
 ·by_cases h1:j=1
  ·walk_at "g";exact pt (P:=λv=>v=.str (nm "X")) (uB d1 λx hx=>⟨_,rfl,rfl⟩) λa ha=>ha ▸ .vX
  ·walk_at "g";exact Dr (z:=.str (nm "B")) (by kernel_rfl) (Cm d2 (by kernel_rfl)) λb ⟨ix,hx,e⟩=>e ▸ .eB hx
 ·walk_at "g";exact Gen.ret .vL
 ·by_cases h1:j=1
  ·walk_at "g";exact pt (P:=λv=>v=.str (nm "C")) (uB d1 λx hx=>⟨_,rfl,rfl⟩) λa ha=>ha ▸ .vC
  ·walk_at "g";exact Dr (z:=.str (nm "D")) (by kernel_rfl) (Cm d2 (by kernel_rfl)) λb ⟨ix,hx,e⟩=>e ▸ .eD hx
theorem zD{l:List String}{j:Int}{a b c e:String}(h0:0<=j)(h1:j<4):∃ x,x∈[a,b,c,e]/\subD (.list [.str (nm a),.str (nm b),.str (nm c),.str (nm e)]) (.int j)=ret (.str (nm x)):=by
 obtain rfl | rfl | rfl | rfl:=Er (j:=j) (by assumption) (by assumption)
 ·exact⟨a,by simp,rfl⟩
 ·exact⟨b,by simp,rfl⟩
 ·exact⟨c,by simp,rfl⟩
 ·exact⟨e,by simp,rfl⟩
noncomputable def zE:D:=.list (rels.map λx=>.str (nm x))
theorem pA{d:Nat}(hd:1<=d):run d (nm "_law_relations") []=ret zE:=by
 refine ao (ak hd) λd z1 _=>?_;obtain rfl:=z1;rw[jT];have e:fC (run d)=ret (.ret zE):=by kernel_rfl
 exact congrArg _ e
theorem Ds{j:Int}(h0:0<=j)(h1:j<6):∃ x,x∈rels/\subD zE (.int j)=ret (.str (nm x)):=by
 obtain rfl | rfl | rfl | rfl | rfl | rfl:=FY (j:=j) (by assumption) (by assumption)
 ·exact⟨"eq",by decide,rfl⟩
 ·exact⟨"ne",by decide,rfl⟩
 ·exact⟨"lt",by decide,rfl⟩
 ·exact⟨"le",by decide,rfl⟩
 ·exact⟨"gt",by decide,rfl⟩
 ·exact⟨"ge",by decide,rfl⟩
theorem Es{j:Int}(h0:0<=j)(h1:j<3):∃ k:Int,(k=0\/k=1\/k=5)/\subD (.tup [(.int 0),(.int 1),(.int 5)]) (.int j)=ret (.int k):=by
 obtain rfl | rfl | rfl:=Fz (j:=j) (by assumption) (by assumption)
 ·exact⟨0,by decide,rfl⟩
 ·exact⟨1,by decide,rfl⟩
 ·exact⟨5,by decide,rfl⟩
theorem Cn{p d:Nat}(hd:1<=d)(acc:List D)(hl:am acc.length=true):Gen p (bnd (bnd (bnd (run d (nm "_law_take") [.ref p,.int 4]) λKb=>ae .Eq Kb (.int 0)) λLP=>if LP then ret (.none) else aG [ret (.str (nm "const")),ret (.int 0),bnd (run d (nm "_law_take") [.ref p,.int 4]) λKc=>ag .Add (.int 1) Kc]) λJZ=>if am (acc).length then ret (acc++[JZ]) else stuck) (λl=>∃ b:Option Int,l=acc++[fE b]):=by
 walk_at "g";refine gt hd (by decide) (by decide) λj j0 j1=>?_;rcases P8 (j=0) with hj | hj
 ·walk_at "g";exact Gen.ret ⟨none,rfl⟩
 ·walk_at "g";refine .bnd (P:=λv=>∃ i,v=D.tup [.str (nm "const"),.int 0,.int (1+i)]) ?_ λv ⟨i,e⟩=>e ▸ ?_
  ·refine .is (m':=bnd (run d (nm "_law_take") [.ref p,.int 4]) λt=>bnd (ag .Add (.int 1) t) λa=>ret (.tup [.str (nm "const"),.int 0,a])) (by simp only[aG,ah,SM];rfl) ?_;exact gt hd (by decide) (by decide) λi i0 i1=>.ret ⟨i,rfl⟩
  ·walk_at "g";exact Gen.ret ⟨some (1+i),rfl⟩
theorem Dt{p d:Nat}(hd:1<=d)(x y:D):Gen p (aJ (λ_ JN=>bnd (bnd (bnd (run d (nm "_law_take") [.ref p,.int 4]) λKb=>ae .Eq Kb (.int 0)) λLP=>if LP then ret (.none) else aG [ret (.str (nm "const")),ret (.int 0),bnd (run d (nm "_law_take") [.ref p,.int 4]) λKc=>ag .Add (.int 1) Kc]) λJZ=>if am (JN).length then ret (JN++[JZ]) else stuck) [x,y] []) (λl=>∃ lo hi:Option Int,l=[fE lo,fE hi]):=
 Gen.bnd (Cn hd [] rfl) λ_ ⟨lo,e⟩=>e ▸ Gen.bnd (Cn hd [fE lo] rfl) λ_ ⟨hi,e⟩=>e ▸ Gen.ret ⟨lo,hi,rfl⟩
theorem kh{p d:Nat}{l:List D}{n:Int}{f:D->M D}{P:String->Prop}{Q:D->Prop}(hd:1<=d)(h0:0<n)(h1:n<=1000)(hs:∀ j:Int,0<=j->j<n->∃ x,P x/\subD (.list l) (.int j)=ret (.str (nm x)))(h:∀ x,P x->Gen p (f (.str (nm x))) Q) :
  Gen p (bnd (run d (nm "_law_take") [.ref p,.int n]) λt=>bnd (subD (.list l) t) f) Q:=
 (gt hd h0 h1 λj j0 j1=>let ⟨x,px,e⟩:=hs j j0 j1;G1 e (h x px))
theorem r_{p d n:Nat}{k:Int}(hd:5<=d)(hk:k=0\/k=1\/k=4\/k=5):Gen p (run d (nm "_law_leaf") [.ref p,.int k]) (Tree k n):=(BN hd hk).mono λ_ hv=>.leaf hv
theorem zF{p d:Nat}(hd:2<=d):Gen p (di [ret ((.tup [(.str (nm "var")),(.int 5),(.str (nm "C"))])),aG [ret (.str (nm "elem")),ret (.int 5),ret (.str (nm "D")),di [run d (nm "_law_index") [.ref p,.int 0]]]]) (λv=>∃ ix,vD ix/\v=.list [.tup [.str (nm "var"),.int 5,.str (nm "C")],.tup [.str (nm "elem"),.int 5,.str (nm "D"),.list [ix]]]):=
 .is (m':=bnd (run d (nm "_law_index") [.ref p,.int 0]) λix=>ret (.list [.tup [.str (nm "var"),.int 5,.str (nm "C")],.tup [.str (nm "elem"),.int 5,.str (nm "D"),.list [ix]]])) (by simp only[di,aG,ah,SM];rfl) (Gen.bnd (jc hd (by decide)) λix hx=>Gen.ret ⟨ix,hx,rfl⟩)
theorem vE{p:Nat}:∀ (n d:Nat) (k:Int),n+6<=d->(k=0\/k=1\/k=4\/k=5)->Gen p (run d (nm "_law_tree") [.ref p,.int k,.int n]) (Tree k n)
 | 0,d,k,hd,hk=>by refine ao (ak (show 5+1<=d from hd)) λd z2 hd'=>?_;obtain rfl:=z2;rw[lD];walk_at "g";exact r_ hd' hk
 | n+1,d,k,hd,hk=>by
  refine ao (ak (show n+6+1<=d by lia)) λd z3 hd'=>?_;obtain rfl:=z3;have e0:¬ ((n+1:Nat):Int)=0:=by lia
  have d1:1<=d:=by lia
  have d5:5<=d:=by lia
  have ih:∀ k,(k=0\/k=1\/k=4\/k=5)->Gen p (bnd (ah [ret (.ref p),ret (.int k),ag .Sub (.int (n+1:Nat)) (.int 1)]) λl=>run d (nm "_law_tree") l) (Tree k n):=λk hk=>by
   have e1:((n+1:Nat):Int) - 1=n:=by lia
   have:=vE (p:=p) n d k hd' hk;rw[<-e1]at this;exact this
  rw[lD];walk_at "g";refine gt d1 (by decide) (by decide) λj _ _=>?_
  by_cases hj:j=0
  ·walk_at "g";exact r_ d5 hk
  walk_at "g";clear hj e0;refine gt d1 (by decide) (by decide) λi _ _=>?_;rcases hk with rfl | rfl | rfl | rfl
  ·walk_at "g"
   by_cases h0:i=0
   ·walk_at "g";exact pt (ih 0 (by decide)) λa ha=>.neg (by decide) ha
   by_cases h1:i=1
   ·walk_at "g";exact pt (ih 1 (by decide)) λa ha=>.conv0 ha
   by_cases h2:i=2
   ·walk_at "g";exact xi (ih 0 (by decide)) (ih 0 (by decide)) λa b ha hb=>.int (by decide) ha hb
   walk_at "g";refine kh (P:=λx=>x∈["add","sub","mul","div"]) d1 (by decide) (by decide) (λj h0 h1=>zD (l:=[]) h0 h1) λx hx=>?_;exact GT (xi (ih 0 (by decide)) (ih 0 (by decide)) λa b ha hb=>.int ((show ∀ x∈["add","sub","mul","div"],x∈["add","sub","mul","div","powi"] by decide) x hx) ha hb)
  ·walk_at "g"
   by_cases h0:i=0
   ·walk_at "g";exact pt (ih 1 (by decide)) λa ha=>.neg (by decide) ha
   by_cases h1:i=1
   ·walk_at "g";exact pt (ih 0 (by decide)) λa ha=>.conv1 ha
   walk_at "g";refine kh (P:=λx=>x∈["add","sub","mul","div"]) d1 (by decide) (by decide) (λj h0 h1=>zD (l:=[]) h0 h1) λx hx=>?_;exact GT (xi (ih 1 (by decide)) (ih 1 (by decide)) λa b ha hb=>.real hx ha hb)
  ·walk_at "g"
   by_cases h0:i=0
   ·walk_at "g";exact pt (ih 4 (by decide)) λa ha=>.not ha
   by_cases h3:i<3
   ·walk_at "g";refine kh (P:=λx=>x∈["and","or","eqv","neqv"]) d1 (by decide) (by decide) (λj h0 h1=>zD (l:=[]) h0 h1) λx hx=>?_;exact GT (xi (ih 4 (by decide)) (ih 4 (by decide)) λa b ha hb=>.log hx ha hb)
   have hr:=pA d1;walk_at "g";refine kh (P:=λx=>x∈rels) d1 (by decide) (by decide) (λj h0 h1=>Ds h0 h1) λx hx=>?_;walk_at "g";refine gt d1 (by decide) (by decide) λo o0 o1=>?_;refine ao (Es o0 o1) λkk hkk e=>?_;have hk:kk=0\/kk=1\/kk=4\/kk=5:=hkk.elim .inl λq=>.inr (q.elim .inl λq=>.inr (.inr q));refine G1 e (GT (xi (ih kk hk) (ih kk hk) λa b ha hb=>.rel hx hkk ha hb))
  ·walk_at "g"
   by_cases h3:i<3
   ·walk_at "g";exact xi (ih 5 (by decide)) (ih 5 (by decide)) λa b ha hb=>.cat ha hb
   walk_at "g";refine Gen.bnd (zF (by lia)) λ_ ⟨ix,hx,e⟩=>e ▸ ?_;walk_at "g";refine gt d1 (by decide) (by decide) λm m0 m1=>?_;have hb:∃ b,subD (D.list [D.tup [D.str (nm "var"),D.int 5,D.str (nm "C")],D.tup [D.str (nm "elem"),D.int 5,D.str (nm "D"),D.list [ix]]]) (.int m)=ret b/\∀ lo hi,Tree 5 (n+1) (.tup [.str (nm "substr"),.int 5,b,fE lo,fE hi]):=by
    obtain rfl | rfl:m=0\/m=1:=by lia
    ·exact⟨_,rfl,λlo hi=>.subC⟩
    ·exact⟨_,rfl,λlo hi=>.subD hx⟩
   refine ao hb λb e ht=>?_;refine G1 e ?_;walk_at "g";refine Gen.bnd (Dt d1 _ _) λ_ ⟨lo,hi,e⟩=>e ▸ ?_;walk_at "g";exact Gen.ret (ht lo hi)
variable{σ:St}
theorem Et(s:Str):xB (.str s)=if am s.length then ret (.int s.length) else stuck:=rfl
theorem Fc(l:List D):xB (.list l)=if am l.length then ret (.int l.length) else stuck:=rfl
theorem vF{i:Nat}{N:List D}{a:Nat}{v:D}(h:σ[i]?=some (.list N))(ha:a<N.length)(hl:N.length<=1000):cL (.ref i) (.int a) v σ=.ok () (σ.set i (.list (N.set a v))):=by
 show bnd (cell i) _ σ=_;rw[aB (aU h)];have lo:am N.length=true:=by unfold am;simp;lia
 show(if 0<=(a:Int)/\(a:Int).toNat<N.length/\am N.length=true then xq i (.list (N.set (a:Int).toNat v)) else stuck) σ=_;rw[PW ⟨by lia,by lia,lo⟩];rfl
theorem xj{d iN a:Nat}{k:Int}{N:List D}{m v:D}{r:List D}(hd:3<=d)(hk:k=0\/k=1\/k=4)(hm:aA m (nm "numeric") σ=.ok (.ref iN) σ)(h:σ[iN]?=some (.list N))(ha:a<N.length)(hl:N.length<=1000) :
  run d (nm "Memory.store") [m,.tup (.int k::.int a::r),v] σ=.ok .none (σ.set iN (.list (N.set a (.tup [.int k,v])))):=by
 refine ao (ak hd) λd z1 hd'=>?_;obtain rfl:=z1;rw[ga];have h5:¬ k=5:=by lia
 have h3:¬ k=3:=by lia
 have h2:¬ k=2:=by lia
 refine ao (ak hd') λd z2 hd''=>?_;obtain rfl:=z2;have e:run (d+1) (nm "store_number") [.ref iN,.int k,.int a,v] σ=.ok .none (σ.set iN (.list (N.set a (.tup [.int k,v])))):=by rw[lj];have hu:=ju hd'' hk;have hn1:=cY (d:=d) (a:=a) (n:=1) (by lia) h hl (by lia);rw[show((1:Nat):Int)=1 from rfl]at hn1;have hst:=vF (v:=.tup [.int k,v]) h ha hl;clear hm hd hd' hd'' h ha hl hk;walk_at "u"
 clear hd hd' hd'' h ha hl hk;walk_at "u"
noncomputable def wr(C:List D)(a:Nat):List D->List D
 | []=>C
 | v::vs=>wr (C.set a v) (a+1) vs
theorem zG:∀ (l C:List D) (a:Nat),(wr C a l).length=C.length
 | [],_,_=>rfl
 | v::vs,C,a=>by simp only[wr,zG vs];simp
theorem Co(l:List D):∀ (C:List D) (a j:Nat),a+l.length<=C.length->(wr C a l)[j]?=if a<=j/\j<a+l.length then l[j - a]? else C[j]?:=by
 induction l with
 | nil=>intro C a j _;refine PV ?_ (Eq.symm (PX (λq=>absurd q.2 (Nat.not_lt.mpr q.1))));rfl
 | cons v vs ih=>
  intro C a j h;have e:a+1+vs.length=a+(vs.length+1):=Nat.add_right_comm a 1 vs.length;refine PV (ih (C.set a v) (a+1) j (by simp only[List.length_set,e];exact h)) ?_;rw[e];refine PU (Nat.lt_or_ge a j) (λq=>?_) λq=>?_
  ·refine PU (P8 (j<a+(vs.length+1))) (λz=>?_) λz=>?_
   ·rw[PW ⟨q,z⟩,PW ⟨Nat.le_of_lt q,z⟩,<-Nat.succ_pred_eq_of_pos (Nat.sub_pos_of_lt q)];rfl
   ·rw[PX λy=>z y.2,PX λy=>z y.2];exact List.getElem?_set_ne (Nat.ne_of_lt q)
  ·refine PV (PX λy=>Nat.not_lt.mpr q y.1) ?_;refine PU (Nat.eq_or_lt_of_le q) (λz=>?_) λz=>?_
   ·rw[z,PW ⟨Nat.le_refl _,Nat.lt_add_of_pos_right (Nat.succ_pos _)⟩,Nat.sub_self];exact List.getElem?_set_self (PP (Nat.lt_add_of_pos_right (Nat.succ_pos _)) h)
   ·rw[PX λy=>Nat.not_lt.mpr y.1 z];exact List.getElem?_set_ne (Nat.ne_of_gt z)
theorem pB(l:List D)(a b j:Nat):(cut l a b)[j]?=if j<b - a then l[a+j]? else none:=by
 unfold cut;refine PV List.getElem?_take ?_
 split
 ·exact List.getElem?_drop
 ·rfl
theorem Du{l C:List D}{a:Nat}(h:a+l.length<=C.length):cut (wr C a l) a (a+l.length)=l:=by
 apply List.ext_getElem?
 intro j;rw[pB]
 by_cases hj:j<l.length
 ·refine PV (PW (by lia)) (PV (Co _ _ _ _ h) ?_);refine PV (PW (by lia)) ?_;rw[Nat.add_sub_cancel_left]
 ·refine PV (PX (by lia)) ?_;rw[List.getElem?_eq_none (by lia)]
theorem xk{l C:List D}{a b c:Nat}(h:a+l.length<=C.length)(hd:c<=a\/a+l.length<=b):cut (wr C a l) b c=cut C b c:=by
 apply List.ext_getElem?
 intro j;simp only[pB,pB]
 by_cases hj:j<c - b
 ·rw[PW hj,PW hj,Co _ _ _ _ h];exact(PX (by lia))
 ·rw[PX hj,PX hj]
noncomputable def xl(s:Str):List D:=s.cps.toList.map λc=>.str ⟨#[c]⟩
theorem fj(s:Str):(xl s).length=s.length:=by simp[xl,Str.length]
theorem BO{s:Str}{j:Nat}{c:D}(h:(xl s)[j]?=some c)(hs:s.length<=1000):subD (.str s) (.int j)=ret c:=by
 have h1:=(List.getElem?_eq_some_iff.mp h).1;rw[fj]at h1;unfold xl at h;replace h:=PV (Eq.symm List.getElem?_map) h;show bnd (ac (sp s.cps.toList (j:Int))) _=_;have:sp s.cps.toList (j:Int)=s.cps.toList[j]?:=by unfold sp;refine PV (PW (by lia)) ?_;simp
 rw[this]
 induction q:s.cps.toList[j]? with
 | none=>exact dt (q ▸ h)
 | some x=>replace h:=q ▸ h;cases h;rfl
theorem mf{call:Str->List D->M D}{iC a:Nat}{s:Str}{K:K'}(hs:s.length<=100)(st:af->D->M af)(hst:st=λfr v=>ret (aj fr (nm "k") v))(hK:∀ fr,K fr=ret (.next fr)) :
  ∀ (m j:Nat) (C:List D) (t:af) (σ:St),j+m=s.length->C.length<=1000->a+s.length<=C.length->σ[iC]?=some (.list C)->(t=[]\/∃ v,t=[(nm "k",v)]) →
  ∃ fr,aE (dp call) st ((List.range' j m).map λi=>D.int (i:Nat)) ((nm "cells",.ref iC)::(nm "address",.int a)::(nm "text",.str s)::t) K σ=.ok (.next fr) (if m=0 then σ else σ.set iC (.list (wr C (a+j) ((xl s).drop j))))
 | 0,j,C,t,σ,hj,hl,ha,hσ,ht=>⟨_,by simp[aE,hK,ret];rfl⟩
 | m+1,j,C,t,σ,hj,hl,ha,hσ,ht=>by
  obtain⟨c,hc⟩ : ∃ c,(xl s)[j]?=some c:=⟨_,List.getElem?_eq_getElem (by rw[fj];lia)⟩;have hsub:=BO hc (by lia);have hset:=vF (v:=c) hσ (show a+j<C.length by lia) hl;have e1:(a:Int)+j=((a+j:Nat):Int):=by lia
  obtain⟨fr,e⟩:=mf (call:=call) (a:=a) (K:=K) hs st hst hK m (j+1) (C.set (a+j) c) [(nm "k",.int j)] (σ.set iC (.list (C.set (a+j) c))) (by lia) (by simpa using hl) (by simpa using ha) (uA hσ) (.inr ⟨_,rfl⟩);refine⟨fr, ?_⟩;have key:aE (dp call) st ((List.range' j (m+1)).map λi=>D.int (i:Nat)) ((nm "cells",.ref iC)::(nm "address",.int a)::(nm "text",.str s)::t) K σ
    = aE (dp call) st ((List.range' (j+1) m).map λi=>D.int (i:Nat)) ((nm "cells",.ref iC)::(nm "address",.int a)::(nm "text",.str s)::[(nm "k",.int j)]) K (σ.set iC (.list (C.set (a+j) c))):=by
   simp only[List.range'_succ,List.map_cons,aE];rw[hst];rw[<-e1]at hset;rcases ht with rfl | ⟨v0,rfl⟩ <;> exact cv rfl (cv (by walk_at "s") (by walk_at "s"))
  refine PV key (PV e ?_);have hdrop:(xl s).drop j=c::(xl s).drop (j+1):=by have h1:=(List.getElem?_eq_some_iff.mp hc);obtain⟨h1,h2⟩:=h1;refine PV (List.drop_eq_getElem_cons h1) ?_;rw[h2]
  rw[PX (show ¬ m+1=0 by lia),hdrop,wr]
  congr 1
  by_cases hm:m=0
  ·rw[PW hm];have:(xl s).drop (j+1)=[]:=List.drop_eq_nil_of_le (by rw[fj];lia);simp only[this,wr]
  ·rw[PX hm,List.set_set,Nat.add_assoc]
theorem xm{d iC a:Nat}{C:List D}{m:D}{r:List D}{s:Str}{L:Nat}(hd:3<=d)(hm:aA m (nm "characters") σ=.ok (.ref iC) σ)(h:σ[iC]?=some (.list C))(hsL:s.length=L)(hL:1<=L)(hL':L<=100)(ha:a+L<=C.length)(hl:C.length<=1000) :
  run d (nm "Memory.store") [m,.tup (.int 5::.int a::.int L::r),.str s] σ=.ok .none (σ.set iC (.list (wr C a (xl s)))):=by
 refine ao (ak hd) λd z3 hd'=>?_;obtain rfl:=z3;rw[ga];refine ao (ak hd') λd z4 hd''=>?_;obtain rfl:=z4;have ls:am s.length=true:=by unfold am;simp;lia
 have ep:run (d+1) (nm "pad") [.str s,.int L]=ret (.str s):=by
  rw[Ec];have el:au (nm "len") [.str s]=ret (.int s.length):=(SB.1 _).trans ((Et s).trans (PW ls));have e1:bt (.str s) .none (.int L)=ret (.str s):=by
   refine PV (PW ls) ?_;have:iz .none (.int (L:Int)) s.length=some (0,L):=by
    show(if 0<=(L:Int) then some (0,min (L:Int).toNat s.length) else none)=_;refine PV (PW (by lia)) ?_
    congr 2;lia
   rw[this];show ret (D.str ⟨(cut s.cps.toList 0 L).toArray⟩)=_;have:cut s.cps.toList 0 L=s.cps.toList:=by unfold cut;rw[List.drop_zero,Nat.sub_zero,List.take_of_length_le];simp[Str.length]at hsL;simp;lia
   rw[this]
  have e2:ag .Mult (.str (nm " ")) (.int (L - s.length:Int))=ret (.str ⟨#[]⟩):=by
   show(if nm " " = nm " " ∧ -1000000<=(L - s.length:Int)/\(L - s.length:Int)<=1000000 then ret (D.str ⟨Array.replicate (L - s.length:Int).toNat 32⟩) else stuck)=_;refine PV (PW ⟨rfl,by lia,by lia⟩) ?_;have:(L - s.length:Int).toNat=0:=by lia
   exact this ▸ rfl
  have e3:ag .Add (.str s) (.str ⟨#[]⟩)=ret (.str s):=by
   show(if am s.length&&am (⟨#[]⟩ : Str).length then ret (D.str (s++⟨#[]⟩)) else stuck)=_;have l0:am (⟨#[]⟩ : Str).length=true:=by decide +kernel
   simp only[ls,l0];have:s++(⟨#[]⟩ : Str)=s:=by show Str.append s ⟨#[]⟩=s;unfold Str.append;simp
   rw[this];rfl
  walk_at "e"
 have et:run (d+1) (nm "store_text") [.ref iC,.int a,.str s] σ=.ok .none (σ.set iC (.list (wr C a (xl s)))):=by
  rw[oE];have hr:range 0 (s.length:Int)=(List.range' 0 s.length).map λi=>D.int (i:Nat):=by unfold range;rw[List.range_eq_range'];simp
  have c1:(s.length:Int)<=100000:=by lia
  have c2:-100000<=(s.length:Int):=by lia
  simp[iQ,SM,SB,Et,ls,if_true];rw[aB (cY (by omega) h hl (by lia))];simp[c1,c2,if_true,SM,SL,and_self,show(-100000:Int)<=0 from by decide,show(0:Int)<=100000 from by decide];refine PS (mf (call:=run d) (a:=a) (K:=λJV=>ret (.next JV)) (iC:=iC) (show s.length<=100 by lia) _ rfl (λ_=>rfl) s.length 0 C [] σ (by lia) hl (by lia) h (.inl rfl)) λfr e=>?_;rw[hr];show bnd _ _ σ=_;rw[aB e,PX (by lia)];simp[ret]
 clear h hl ha hd hd' hd'' hL hL' hsL;walk_at "u"
noncomputable def eO:D:=.inst (nm "Memory") 1
noncomputable def dE:List (Str×D):=[(nm "numeric",.ref 2),(nm "characters",.ref 3)]
noncomputable def names:List String:=["I","J","A","X","B","L","C","D"]
noncomputable def dG:List (String×List Int×Nat×Int):=[("I",[],0,0),("J",[],1,0),("A",[0,-1],2,0),("A",[1,-1],3,0),("A",[2,-1],4,0),("A",[0,0],5,0),("A",[1,0],6,0),("A",[2,0],7,0),("X",[],8,1),("B",[1],9,1),("B",[2],10,1),("L",[],11,4)]
noncomputable def d_:List (String×List Int×Nat×Nat):=[("C",[],0,4),("D",[2],4,3),("D",[3],7,3)]
noncomputable def jN(σ:St)(j:Nat)(f:List Int->Option D)(c:Nat):Prop:=(σ[j]?=some (.sdict [])/\∀ q,f q=none)\/∃ T,σ[j]?=some (.tdict T)/\T.length<=c/\∀ q,dy T q=f q
structure FI(σ:St)(V:cy)(n c:Nat):Prop where
 pool:Pool 0 σ
 len:σ.length=5+n
 mem:σ[1]?=some (.sdict dE)
 num:∃ N,σ[2]?=some (.list N)/\N.length=12/\∀ e∈dG,N[e.2.2.1]?=some (jv e.2.2.2 (V e.1 e.2.1))
 txt:∃ C,σ[3]?=some (.list C)/\C.length=10/\∀ e∈d_,Tx C e.2.2.1 e.2.2.2 (V e.1 e.2.1)
 held:∃ H,σ[4]?=some (.sdict H)/\H.length<=n/\∀ i x,i<n->names[i]?=some x->aa H (nm x)=some (.ref (5+i))/\jN σ (5+i) (V x) (if i+1=n then c else 10)
 rest:∀ i x,n<=i->names[i]?=some x->∀ q,V x q=none
 val:∀ x∈bh,∀ q v,V x.1 q=some v->Val x.2 0 v
noncomputable def uD(V:cy)(x:String)(q:List Int)(v:D):cy:=λy r=>if y=x/\r=q then some v else V y r
theorem ip:∀ (l:List (List Int×D)) (q:List Int) (v:D) (r:List Int),dy (gJ l q v) r=if r=q then some v else dy l r
 | [],q,v,r=>by
  simp only[gJ,dy]
  by_cases h:r=q
  ·simp[h]
  ·have:¬ q=r:=λe=>h e.symm;simp[h,this]
 | (y,e)::l,q,v,r=>by
  simp only[gJ]
  by_cases h:y=q
  ·rw[PW h];subst h;simp only[dy]
   by_cases h':r=y
   ·simp[h']
   ·have:¬ y=r:=λe=>h' e.symm;simp[h',this]
  ·rw[PX h];simp only[dy]
   by_cases h':y=r
   ·subst h';simp[h]
   ·refine PV (PX h') ?_;rw[PX h'];exact(ip l q v r)
theorem sa:∀ (l:List (List Int×D)) (q:List Int) (v:D),(gJ l q v).length<=l.length+1
 | [],q,v=>by simp[gJ]
 | (y,e)::l,q,v=>by
  simp only[gJ]
  split
  ·simp
  ·have:=sa l q v;simp;omega
theorem vG{σ:St}{j c:Nat}{f:List Int->Option D}{q:List Int}{v:D}(h:jN σ j f c)(hc:c<=100):∃ T,cL (.ref j) (.tup (q.map .int)) v σ=.ok () (σ.set j (.tdict T))/\T.length<=c+1/\(∀ r,dy T r=if r=q then some v else f r)/\j<σ.length:=by
 rcases h with⟨h1,h2⟩ | ⟨T,h1,h2,h3⟩
 ·refine⟨[(q,v)], ?_,by simp,λr=>?_,(List.getElem?_eq_some_iff.mp h1).1⟩
  ·show bnd (cell j) _ σ=_;rw[aB (aU h1)];show bnd (ac (dJ (q.map .int))) (λq=>xq j (.tdict [(q,v)])) σ=_;rw[gD];rfl
  ·have:=ip [] q v r;simp only[gJ]at this;refine PV this ?_;rw[h2 r];rfl
 ·refine⟨gJ T q v, ?_,by have:=sa T q v;lia,λr=>by rw[ip,h3],(List.getElem?_eq_some_iff.mp h1).1⟩;show bnd (cell j) _ σ=_;rw[aB (aU h1)];have lo:am T.length=true:=by unfold am;simp;lia
  have e:∀ T':List (List Int×D),(match (Cell.tdict T',D.tup (q.map .int)) with | (.tdict l,.tup t)=>bnd (ac (dJ t)) (λq=>if am l.length then xq j (.tdict (gJ l q v)) else stuck) | _=>stuck) σ=bnd (ac (dJ (q.map .int))) (λq=>if am T'.length then xq j (.tdict (gJ T' q v)) else stuck) σ:=λ_=>rfl;show bnd (ac (dJ (q.map .int))) (λq=>if am T.length then xq j (.tdict (gJ T q v)) else stuck) σ=_;rw[gD,lo];rfl
theorem jz:∀ {i j:Nat} {x:String},names[i]?=some x->names[j]?=some x->i=j:=by
 have key:∀ i<8,∀ j<8,names[i]?=names[j]?->i=j:=by decide
 intro i j x h1 h2;have a1:=(List.getElem?_eq_some_iff.mp h1).1;have a2:=(List.getElem?_eq_some_iff.mp h2).1;exact key i a1 j a2 (by simp only[h1,h2])
theorem uE{σ:St}(h:σ[1]?=some (.sdict dE)):aA eO (nm "numeric") σ=.ok (.ref 2) σ:=by
 show bnd (cell 1) _ σ=_;rw[aB (aU h)];have e:(eQ (nm "Memory")).contains (nm "numeric")=true:=by decide +kernel
 show(if (eQ (nm "Memory")).contains (nm "numeric") then bnd (ac (aa dE (nm "numeric"))) λd=>if mO d then ret d else stuck else stuck) σ=_;rw[e];kernel_rfl
theorem uF{σ:St}(h:σ[1]?=some (.sdict dE)):aA eO (nm "characters") σ=.ok (.ref 3) σ:=by
 show bnd (cell 1) _ σ=_;rw[aB (aU h)];have e:(eQ (nm "Memory")).contains (nm "characters")=true:=by decide +kernel
 show(if (eQ (nm "Memory")).contains (nm "characters") then bnd (ac (aa dE (nm "characters"))) λd=>if mO d then ret d else stuck else stuck) σ=_;rw[e];kernel_rfl
theorem pD{σ:St}(h:σ[1]?=some (.sdict dE)):aZ eO (nm "store") σ=.ok (.user (nm "Memory.store")) σ/\aZ eO (nm "load") σ=.ok (.user (nm "Memory.load")) σ:=by
 constructor
 ·show bnd (cell 1) _ σ=_;rw[aB (aU h)];kernel_rfl
 ·show bnd (cell 1) _ σ=_;rw[aB (aU h)];kernel_rfl
theorem Pool.eq{p:Nat}{σ σ':St}(h:Pool p σ)(e:σ'[p]?=σ[p]?):Pool p σ':=by refine bj h λns a b c=>?_;exact⟨ns,by exact e.trans a,b,c⟩
theorem FI.draw{σ σ':St}{V:cy}{n c:Nat}(h:FI σ V n c)(hp:Pool 0 σ')(s:Same 0 σ σ'):FI σ' V n c:=by have e:∀ i,i≠0->σ'[i]?=σ[i]?:=s.2;refine bj h.held λH h1 h2 h3=>?_;refine⟨hp,by exact s.1.trans h.len,by exact(e 1 (by lia)).trans h.mem,by exact(e 2 (by lia)) ▸ h.num,by exact(e 3 (by lia)) ▸ h.txt,⟨H,by exact(e 4 (by lia)).trans h1,h2,λi x hi hx=>?_⟩,h.rest,h.val⟩;obtain⟨a,b⟩:=h3 i x hi hx;refine⟨a, ?_⟩;unfold jN at b ⊢;rw[e _ (by lia)];exact b
theorem zH:∀ e∈dG,∀ f∈dG,(e.2.2.1=f.2.2.1 ↔ (e.1=f.1/\e.2.1=f.2.1))/\(e.2.2.1=f.2.2.1->e.2.2.2=f.2.2.2):=by decide
theorem vH:∀ e∈dG,∀ f∈d_,¬ (f.1=e.1/\f.2.1=e.2.1):=by decide
theorem zI:∀ e∈d_,∀ f∈d_,(e.1=f.1/\e.2.1=f.2.1/\e.2.2=f.2.2)\/(¬ (f.1=e.1/\f.2.1=e.2.1)/\(f.2.2.1+f.2.2.2<=e.2.2.1\/e.2.2.1+e.2.2.2<=f.2.2.1)):=by decide
theorem uG:∀ e∈dG,e.2.2.1<12:=by decide
theorem uH:∀ e∈d_,e.2.2.1+e.2.2.2<=10/\1<=e.2.2.2/\e.2.2.2<=4:=by decide
theorem nI{σ σ2:St}{V:cy}{n c:Nat}{x:String}{q:List Int}{v:D}{T:List (List Int×D)}{H:List (Str×D)}(hx:names[n]?=some x)(hH:∀ i y,i<n+1->names[i]?=some y->aa H (nm y)=some (.ref (5+i))/\jN σ (5+i) (V y) (if i+1=n+1 then c else 10))
  (hT:T.length<=c+1) (hl:∀ r,dy T r=if r=q then some v else V x r) (h2:σ2[5+n]?=some (.tdict T)) (hs:∀ i,i<n->σ2[5+i]?=σ[5+i]?) :
  ∀ i y,i<n+1->names[i]?=some y->aa H (nm y)=some (.ref (5+i))/\jN σ2 (5+i) (uD V x q v y) (if i+1=n+1 then c+1 else 10):=by
 intro i y hi hy;obtain⟨a,b⟩:=hH i y hi hy;refine⟨a, ?_⟩
 by_cases hin:i=n
 ·subst hin;replace hy:=PV (Eq.symm hx) hy;cases hy;refine .inr ⟨T,h2,by rw[PW rfl];exact hT,λr=>?_⟩;rw[hl];unfold uD;simp
 ·have hyx:y≠x:=λe=>hin (jz hy (e ▸ hx));have hf:uD V x q v y=V y:=by funext r;unfold uD;simp[hyx]
  rw[hf,PX (by lia)];rw[PX (by lia)]at b;unfold jN at b ⊢;exact(hs i (by lia)) ▸ b
theorem nJ{V:cy}{n:Nat}{x:String}{q:List Int}{v:D}(hx:names[n]?=some x)(h:∀ i y,n+1<=i->names[i]?=some y->∀ q,V y q=none):∀ i y,n+1<=i->names[i]?=some y->∀ r,uD V x q v y r=none:=by
 intro i y hi hy r;have hyx:y≠x:=λe=>by have:=jz hy (e ▸ hx);lia
 unfold uD;refine PV (PX (by simp[hyx])) ?_;exact h i y hi hy r
theorem sd{V:cy}{x:String}{k:Int}{q:List Int}{v:D}(hk:(x,k)∈bh)(hv:Val k 0 v)(h:∀ x∈bh,∀ q v,V x.1 q=some v->Val x.2 0 v):∀ y∈bh,∀ r u,uD V x q v y.1 r=some u->Val y.2 0 u:=by
 intro y hy r u hu;unfold uD at hu
 split at hu
 ·rename_i hc;cases hu;have:∀ a∈bh,∀ b∈bh,a.1=b.1->a.2=b.2:=by decide
  have:=this y hy (x,k) hk hc.1;exact this ▸ hv
 ·exact h y hy r u hu
theorem FI.put_num{σ:St}{V:cy}{n c d:Nat}{x:String}{q:List Int}{a:Nat}{k:Int}{v:D}{r:List D}(hd:3<=d)(h:FI σ V (n+1) c)(hx:names[n]?=some x)(he:(x,q,a,k)∈dG)(hk:(x,k)∈bh)(hk':k=0\/k=1\/k=4)(hv:Val k 0 v)(hc:c<=9) :
  ∃ σ1 σ2,cL (.ref (5+n)) (.tup (q.map .int)) v σ=.ok () σ1/\run d (nm "Memory.store") [eO,.tup (.int k::.int a::r),v] σ1=.ok .none σ2/\FI σ2 (uD V x q v) (n+1) (c+1)/\σ1[1]?=some (.sdict dE):=by
 refine bj h.num λN n1 n2 n3=>?_;refine bj h.txt λC c1 c2 c3=>?_;refine bj h.held λH h1 h2 h3=>?_;obtain⟨e1,e2⟩:=h3 n x (by lia) hx;rw[PW rfl]at e2;refine dg (vG (q:=q) (v:=v) e2 (by lia)) λT t1 t2 t3 t4=>?_;have g:∀ i,i≠5+n->(σ.set (5+n) (.tdict T))[i]?=σ[i]?:=λi hi=>List.getElem?_set_ne (Ne.symm hi);have ha:=uG _ he;dsimp only at ha;have m1:(σ.set (5+n) (.tdict T))[1]?=some (.sdict dE):=by exact(g 1 (by lia)).trans h.mem
 have hs:=xj (σ:=σ.set (5+n) (.tdict T)) (d:=d) (a:=a) (v:=v) (r:=r) hd hk' (uE m1) (show _=some (Cell.list N) by exact(g 2 (by lia)).trans n1) (by lia) (by lia);refine⟨_,_,t1,hs, ?_,m1⟩;have g2:∀ i,i≠5+n->i≠2->((σ.set (5+n) (.tdict T)).set 2 (.list (N.set a (.tup [.int k,v]))))[i]?=σ[i]?:=λi hi hi2=>by exact(List.getElem?_set_ne (Ne.symm hi2)).trans ((g i hi))
 refine⟨h.pool.eq (g2 0 (by lia) (by lia)),by simp[h.len],by exact(g2 1 (by lia) (by lia)).trans h.mem,⟨_,List.getElem?_set_self (by simp;lia),by simpa using n2,λf hf=>?_⟩,⟨C,by exact(g2 3 (by lia) (by lia)).trans c1,c2,λf hf=>?_⟩,⟨H,by exact(g2 4 (by lia) (by lia)).trans h1,h2,nI hx h3 t2 t3 ?_ λi hi=>g2 _ (by lia) (by lia)⟩,nJ hx h.rest,sd hk hv h.val⟩
 ·obtain⟨b1,b2⟩:=zH _ he f hf;dsimp only at b1 b2;unfold uD
  by_cases hb:a=f.2.2.1
  ·obtain⟨u1,u2⟩:=b1.mp hb;rw[PW ⟨u1.symm,u2.symm⟩,<-hb,<-b2 hb,List.getElem?_set_self (by lia)];rfl
  ·refine PV (List.getElem?_set_ne hb) ?_;rw[PX (λz=>hb (b1.mpr ⟨z.1.symm,z.2.symm⟩))];exact n3 f hf
 ·unfold uD;rw[PX (vH _ he f hf)];exact c3 f hf
 ·exact(List.getElem?_set_ne (by lia)).trans ((List.getElem?_set_self (by lia)))
theorem FI.put_txt{σ:St}{V:cy}{n c d:Nat}{x:String}{q:List Int}{a L:Nat}{s:Str}{r:List D}(hd:3<=d)(h:FI σ V (n+1) c)(hx:names[n]?=some x)(he:(x,q,a,L)∈d_)(hk:(x,5)∈bh)(hs:s.length=L)(ha:∀ u∈s.cps.toList,u<128)(hc:c<=9) :
  ∃ σ1 σ2,cL (.ref (5+n)) (.tup (q.map .int)) (.str s) σ=.ok () σ1/\run d (nm "Memory.store") [eO,.tup (.int 5::.int a::.int L::r),.str s] σ1=.ok .none σ2/\FI σ2 (uD V x q (.str s)) (n+1) (c+1)/\σ1[1]?=some (.sdict dE):=by
 refine bj h.num λN n1 n2 n3=>?_;refine bj h.txt λC c1 c2 c3=>?_;refine bj h.held λH h1 h2 h3=>?_;obtain⟨e1,e2⟩:=h3 n x (by lia) hx;rw[PW rfl]at e2;refine dg (vG (q:=q) (v:=.str s) e2 (by lia)) λT t1 t2 t3 t4=>?_;have g:∀ i,i≠5+n->(σ.set (5+n) (.tdict T))[i]?=σ[i]?:=λi hi=>List.getElem?_set_ne (Ne.symm hi);refine jf (uH _ he) λl1 l2 l3=>?_;dsimp only at l1 l2 l3;have m1:(σ.set (5+n) (.tdict T))[1]?=some (.sdict dE):=by exact(g 1 (by lia)).trans h.mem
 have hst:=xm (σ:=σ.set (5+n) (.tdict T)) (d:=d) (a:=a) (r:=r) (s:=s) hd (uF m1) (show _=some (Cell.list C) by refine PV (g 3 (by lia)) ?_;rw[c1]) hs l2 (by lia) (by lia) (by lia);refine⟨_,_,t1,hst, ?_,m1⟩;have g2:∀ i,i≠5+n->i≠3->((σ.set (5+n) (.tdict T)).set 3 (.list (wr C a (xl s))))[i]?=σ[i]?:=λi hi hi2=>by exact(List.getElem?_set_ne (Ne.symm hi2)).trans ((g i hi))
 refine⟨h.pool.eq (g2 0 (by lia) (by decide)),by simp[h.len],by exact(g2 1 (by lia) (by decide)).trans h.mem,⟨N,by exact(g2 2 (by lia) (by lia)).trans n1,n2,λf hf=>?_⟩,⟨_,List.getElem?_set_self (by simp;lia),by rw[zG];exact c2,λf hf=>?_⟩,⟨H,by exact(g2 4 (by lia) (by lia)).trans h1,h2,nI hx h3 t2 t3 ?_ λi hi=>g2 _ (by lia) (by lia)⟩,nJ hx h.rest,sd hk (.str (by lia)) h.val⟩
 ·unfold uD;rw[PX (λz=>vH f hf _ he ⟨z.1.symm,z.2.symm⟩)];exact n3 f hf
 ·rcases zI _ he f hf with⟨u1,u2,u3⟩ | ⟨u1,u2⟩
  ·dsimp only at u1 u2 u3;unfold uD;rw[PW ⟨u1.symm,u2.symm⟩,<-u3];refine⟨some s,rfl,λs' hs'=>by cases hs';exact⟨hs,ha⟩, ?_⟩;have:=Du (l:=xl s) (C:=C) (a:=a) (by rw[fj];lia);rw[fj,hs]at this;exact this
  ·dsimp only at u1 u2;unfold uD;rw[PX u1];refine bj (c3 f hf) λt w1 w2 w3=>?_;refine⟨t,w1,w2, ?_⟩;refine PV (xk (by rw[fj];lia) (by rw[fj];lia)) ?_;exact w3
 ·exact(List.getElem?_set_ne (by lia)).trans ((List.getElem?_set_self (by lia)))
theorem cx{a b:String}(h:¬ a=b):¬ nm a=nm b:=λe=>h ((q_ a b).mp e)
theorem iq(cs:Sc):∀ (fr:af) (y:Str),aa (aN cs fr) y=if (cs.lookup y==some .free)=true then aa fr y else none
 | [],y=>by simp[aN,aa]
 | (z,e)::fr,y=>by
  have ih:=iq cs fr y;unfold aN at ih ⊢;rw[List.filter_cons]
  by_cases h:(cs.lookup z==some .free)=true
  ·rw[PW h];simp only[aa]
   by_cases h':z=y
   ·subst h';refine PV (PW rfl) ?_;rw[PW h,PW rfl]
   ·rw[PX h',PX h',ih]
  ·rw[PX h];simp only[aa]
   by_cases h':z=y
   ·subst h';refine PV ih (PV (PX h) ?_);rw[PX h]
   ·rw[PX h',ih]
structure FP(fr:af)(x:String)(k a L:Int)(seats:List D):Prop where
 pool:aa fr (nm "pool")=some (.ref 0)
 memory:aa fr (nm "memory")=some eO
 held:aa fr (nm "held")=some (.ref 4)
 name:aa fr (nm "name")=some (.str (nm x))
 kind:aa fr (nm "kind")=some (.int k)
 address:aa fr (nm "address")=some (.int a)
 length:aa fr (nm "length")=some (.int L)
 seats:aa fr (nm "seats")=some (.list seats)
theorem FP.set{fr:af}{x:String}{k a L:Int}{seats:List D}(P:FP fr x k a L seats)(y:String)(v:D)(hy:y∉["pool","memory","held","name","kind","address","length","seats"]):FP (aj fr (nm y) v) x k a L seats:=by
 simp only[List.mem_cons,List.not_mem_nil,or_false,not_or]at hy;refine bo hy λh1 h2 h3 h4 z1=>?_;refine cM z1 λh5 h6 h7 h8=>?_;refine⟨?_, ?_, ?_, ?_, ?_, ?_, ?_, ?_⟩ <;> rw[cw]
 ·refine PV (PX (cx h1)) ?_;exact P.pool
 ·refine PV (PX (cx h2)) ?_;exact P.memory
 ·refine PV (PX (cx h3)) ?_;exact P.held
 ·refine PV (PX (cx h4)) ?_;exact P.name
 ·refine PV (PX (cx h5)) ?_;exact P.kind
 ·refine PV (PX (cx h6)) ?_;exact P.address
 ·refine PV (PX (cx h7)) ?_;exact P.length
 ·refine PV (PX (cx h8)) ?_;exact P.seats
theorem FI.more{σ:St}{V:cy}{n c c':Nat}(h:FI σ V n c)(e:c<=c'):FI σ V n c':=by
 refine bj h.held λH h1 h2 h3=>?_;refine⟨h.pool,h.len,h.mem,h.num,h.txt,⟨H,h1,h2,λi x hi hx=>?_⟩,h.rest,h.val⟩;obtain⟨a,b⟩:=h3 i x hi hx;refine⟨a, ?_⟩
 split at b
 ·rename_i hin;rw[PW hin];rcases b with b | ⟨T,b1,b2,b3⟩
  ·exact .inl b
  ·exact .inr ⟨T,b1,by lia,b3⟩
 ·rename_i hin;rw[PX hin];exact b
theorem vK{σ:St}{V:cy}{n c:Nat}{x:String}(h:FI σ V (n+1) c)(hx:names[n]?=some x):subD (.ref 4) (.str (nm x)) σ=.ok (.ref (5+n)) σ:=by refine bj h.held λH h1 h2 h3=>?_;obtain⟨a,_⟩:=h3 n x (by lia) hx;show bnd (cell 4) _ σ=_;rw[aB (aU h1)];show ac (aa H (nm x)) σ=_;rw[a];rfl
theorem vM{l:List D}{i:Nat}{v:D}(h:l[i]?=some v)(hl:l.length<=100):subD (.list l) (.int i)=ret v:=by
 have h1:=(List.getElem?_eq_some_iff.mp h).1;show ac (sp l (i:Int))=_;have:sp l (i:Int)=some v:=by
  unfold sp;refine PV (PW (by lia)) ?_
  simpa using h
 exact congrArg _ this
theorem nK{call:Str->List D->M D}{f:Str}{as:List D}:bd call eO (.user f) as=call f (eO::as):=rfl
theorem bW{d n:Nat}{x:String}{k:Int}{a i c:Nat}{q:List Int}{seats:List D}{fr:af}{σ:St}{V:cy}(K:K')(hd:6<=d)(P:FP fr x k a 0 seats)(hat:aa fr (nm "at")=some (.int i))(hse:seats[i]?=some (.tup (q.map .int)))(hsl:seats.length<=100)
  (hx:names[n]?=some x) (he:(x,q,a+i,k)∈dG) (hk:(x,k)∈bh) (hk':k=0\/k=1\/k=4) (h:FI σ V (n+1) c) (hc:c<=9) :
  ∃ fr' σ' V',bD (run d) fr K σ=K fr' σ'/\FP fr' x k a 0 seats/\FI σ' V' (n+1) (c+1):=by
 refine aH (jy (p:=0) (d:=d) (k:=k) (by lia) (by lia) σ h.pool) λv σ1 e1 pv p1 s1=>?_;refine aH (dX (p:=0) (d:=d) (many:=9) (by lia) (by lia) (by lia) σ1 p1) λw σ2 e2 pw p2 s2=>?_;refine bj pw λj z2 j0 j1=>?_;obtain rfl:=z2;have h2:=(h.draw p1 s1).draw p2 s2;have P1:=P.set "value" v (by decide);have P2:=P1.set "value" v (by decide);have El:aa (aj fr (nm "value") v) (nm "at")=some (.int i):=by rw[cw,PX (cx (by decide))];exact hat
 have at2:aa (aj (aj fr (nm "value") v) (nm "value") v) (nm "at")=some (.int i):=by rw[cw,PX (cx (by decide))];exact El
 have v1:aa (aj fr (nm "value") v) (nm "value")=some v:=by rw[cw];exact(PW rfl)
 have v2:aa (aj (aj fr (nm "value") v) (nm "value") v) (nm "value")=some v:=by rw[cw];exact(PW rfl)
 have k5:¬ k=5:=by lia
 by_cases hj:j=8
 ·refine⟨_,σ2,V, ?_,P1,h2.more (by lia)⟩;obtain⟨a1,a2,a3,a4,a5,a6,a7,a8⟩:=P;have b1:=P1.pool;exact cv (by walk_at "s") (by walk_at "s")
 ·have ai:a+i<12:=uG _ he;have fi:fits (i:Int)=true:=dD (k:=3) (by lia) (by lia);have mx:au (nm "max") [.int 0,.int 1]=ret (.int 1):=by kernel_rfl
  refine aH (FI.put_num (d:=d) (r:=[.int 0,.tup []]) (by lia) h2 hx he hk hk' pv.1 hc) λσ3 σ4 t1 t2 t3 t4=>?_;have ea:(a:Int)+i=((a+i:Nat):Int):=by lia
  rw[<-ea]at t2;refine⟨_,σ4,_, ?_,P2,t3⟩;rw[<-nK (call:=run d),<-Int.mul_one (i:Int)]at t2;have t5:=(pD t4).1;have t6:=vK h2 hx;have t7:=vM hse hsl;have f1:=f1;clear h h2 hx he hk hk' hc hse hsl pv p1 s1 p2 s2 t3 t4 ea ai j0 j1;obtain⟨a1,a2,a3,a4,a5,a6,a7,a8⟩:=P;obtain⟨b1,b2,b3,b4,b5,b6,b7,b8⟩:=P1;obtain⟨c1,c2,c3,c4,c5,c6,c7,c8⟩:=P2;exact cv (by walk_at "s") (by walk_at "s")
theorem jA{d n:Nat}{x:String}{a i c L:Nat}{q:List Int}{seats:List D}{fr:af}{σ:St}{V:cy}(K:K')(hd:6<=d)(P:FP fr x 5 a L seats)(hat:aa fr (nm "at")=some (.int i))(hse:seats[i]?=some (.tup (q.map .int)))(hsl:seats.length<=100)
  (hx:names[n]?=some x) (he:(x,q,a+i*L,L)∈d_) (hL3:3<=L) (hk:(x,5)∈bh) (h:FI σ V (n+1) c) (hc:c<=9) :
  ∃ fr' σ' V',bD (run d) fr K σ=K fr' σ'/\FP fr' x 5 a L seats/\FI σ' V' (n+1) (c+1):=by
 refine aH (jy (p:=0) (d:=d) (k:=5) (by lia) (by decide) σ h.pool) λv σ1 e1 pv p1 s1=>?_;refine aH (dX (p:=0) (d:=d) (many:=9) (by lia) (by lia) (by lia) σ1 p1) λw σ2 e2 pw p2 s2=>?_;refine bj pw λj z3 j0 j1=>?_;obtain rfl:=z3;refine bj (pv.2 rfl) λs z4 sl sc=>?_;obtain rfl:=z4;have h2:=(h.draw p1 s1).draw p2 s2;refine jf (uH _ he) λl1 l2 l3=>?_;dsimp only at l1 l2 l3;have P1:=P.set "value" (.str s) (by decide);have P2:=P1.set "value" (.str (bC s L)) (by decide);have v2:aa (aj (aj fr (nm "value") (.str s)) (nm "value") (.str (bC s L))) (nm "value")=some (.str (bC s L)):=by rw[cw];exact(PW rfl)
 by_cases hj:j=8
 ·refine⟨_,σ2,V, ?_,P1,h2.more (by lia)⟩;obtain⟨a1,a2,a3,a4,a5,a6,a7,a8⟩:=P;have b1:=P1.pool;exact cv (by walk_at "s") (by walk_at "s")
 ·have hiL:i*L<=10:=by lia
  have hi:i<=10:=by have:=Nat.le_mul_of_pos_right i (show 0<L by lia);lia
  have fi:fits (i:Int)=true:=dD (k:=3) (by lia) (by lia);have fL:fits (L:Int)=true:=dD (k:=3) (by lia) (by lia);have mx:au (nm "max") [.int L,.int 1]=ret (.int L):=by rw[SB.2.2.2.1,PX (by lia)]
  have es:bt (.str s) .none (.int L)=ret (.str s):=by
   have ls:am s.length=true:=by unfold am;simp;lia
   show(if am s.length=true then bnd (ac (iz .none (.int (L:Int)) s.length)) λ(a,b)=>ret (D.str ⟨(cut s.cps.toList a b).toArray⟩) else stuck)=_;refine PV (PW ls) ?_;have:iz .none (.int (L:Int)) s.length=some (0,s.length):=by
    show(if 0<=(L:Int) then some (0,min (L:Int).toNat s.length) else none)=_;refine PV (PW (by lia)) ?_
    congr 2;lia
   rw[this];show ret (D.str ⟨(cut s.cps.toList 0 s.length).toArray⟩)=_;have:cut s.cps.toList 0 s.length=s.cps.toList:=by unfold cut;rw[List.drop_zero,Nat.sub_zero,List.take_of_length_le];simp[Str.length]
   rw[this]
  have ep:aZ (.str s) (nm "ljust")=ret .ljust:=by kernel_rfl
  have em:bd (run d) (.str s) .ljust [.int L]=ret (.str (bC s L)):=by
   have pk:PadOk (L:Int)=true:=by
    obtain rfl | rfl:L=3\/L=4:=by lia
    ·decide +kernel
    ·decide +kernel
   show(if PadOk (L:Int)=true then ret (D.str (Txt.ljust s L)) else stuck)=_;refine PV (PW pk) ?_;rw[nA (by lia)]
  have hpl:(bC s L).length=L:=by simp[bC,Str.length];simp[Str.length]at sl;lia
  have hpc:∀ u∈(bC s L).cps.toList,u<128:=λu hu=>by
   rw[eM]at hu;rcases List.mem_append.mp hu with hu | hu
   ·exact sc u hu
   ·have:=(List.mem_replicate.mp hu).2;lia
  refine aH (FI.put_txt (d:=d) (r:=[.tup []]) (by lia) h2 hx he hk hpl hpc hc) λσ3 σ4 t1 t2 t3 t4=>?_;have ea:(a:Int)+i*L=((a+i*L:Nat):Int):=by simp
  rw[<-ea]at t2;refine⟨_,σ4,_, ?_,P2,t3⟩;rw[<-nK (call:=run d)]at t2;have t5:=(pD t4).1;have t6:=vK h2 hx;have t7:=vM hse hsl;clear h h2 hx he hk hc hse hsl pv p1 s1 p2 s2 t3 t4 ea j0 j1 l1 l2 l3 sl sc hpl hpc hiL hi hL3;obtain⟨a1,a2,a3,a4,a5,a6,a7,a8⟩:=P;obtain⟨b1,b2,b3,b4,b5,b6,b7,b8⟩:=P1;obtain⟨c1,c2,c3,c4,c5,c6,c7,c8⟩:=P2;exact cv (by walk_at "s") (by walk_at "s")
noncomputable def uI(Ik:af):M D:=bnd (bnd (bnd (ah [bnd (bnd (ac (aa Ik (nm "dims"))) λIZ=>subD IZ (.int 0)) λI0=>subD I0 (.int 0),bnd (bnd (bnd (ac (aa Ik (nm "dims"))) λI7=>subD I7 (.int 0)) λJz=>subD Jz (.int 1)) λJA=>ag .Add JA (.int 1)]) λLb=>au (nm "range") Lb) λJq=>bnd (a_ Jq) λLM=>aJ (λOd JR=>(λI8=>bnd (aG [ac (aa I8 (nm "k"))]) λJr=>if am (JR).length then ret (JR++[Jr]) else stuck) (aj (aN [(nm ".0",.local),(nm "k",.local)] Ik) (nm "k") Od)) LM []) λKG=>ret (.list KG)
noncomputable def pE(Ik:af):M D:=bnd (bnd (bnd (ah [bnd (bnd (ac (aa Ik (nm "dims"))) λLk=>subD Lk (.int 1)) λLl=>subD Ll (.int 0),bnd (bnd (bnd (ac (aa Ik (nm "dims"))) λLm=>subD Lm (.int 1)) λLn=>subD Ln (.int 1)) λLo=>ag .Add Lo (.int 1)]) λLp=>au (nm "range") Lp) λLq=>bnd (a_ Lq) λLr=>aJ (λLs J8=>(λI4=>if (aa I4 (nm "k")).isNone then bnd (bnd (ah [bnd (bnd (ac (aa I4 (nm "dims"))) λLu=>subD Lu (.int 0)) λLv=>subD Lv (.int 0),bnd (bnd (bnd (ac (aa I4 (nm "dims"))) λLw=>subD Lw (.int 0)) λLx=>subD Lx (.int 1)) λLy=>ag .Add Ly (.int 1)]) λLz=>au (nm "range") Lz) λLA=>bnd (a_ LA) λLB=>aJ (λLC Jo=>(λJS=>bnd (aG [ac (aa JS (nm "k")),ac (aa JS (nm "n"))]) λLD=>if am (Jo).length then ret (Jo++[LD]) else stuck) (aj I4 (nm "k") LC)) LB J8 else stuck) (aj (aN [(nm ".0",.local),(nm "n",.local),(nm "k",.local),(nm "range",.globalImplicit),(nm "dims",.free)] Ik) (nm "n") Ls)) Lr []) λLE=>ret (.list LE)
noncomputable def pF:af->D->M af:=λfr d=>ret (aj fr (nm "at") d)
noncomputable def cf(call:Str->List D->M D)(fr:af)(K:K'):M Flow':=bnd (fz []) λKP=>bnd (bnd (ac (aa fr (nm "held"))) λK6=>bnd (ac (aa fr (nm "name"))) λK7=>bnd (cL K6 K7 KP) λ_=>ret fr) λI2=>bnd (bnd (ah [bnd (ah [ac (aa I2 (nm "seats"))]) λLc=>au (nm "len") Lc]) λLd=>au (nm "range") Ld) λLe=>dK Le λOf=>aE (bD call) pF Of I2 λLg=>K Lg
theorem mh{call:Str->List D->M D}{bS:af}{K:K'}:bl call bS K=bnd (bnd (call (nm "_law_places") []) λt8=>bnd (ac (aa bS (nm "name"))) λt9=>subD t8 t9) λII=>bnd (de bS [(nm "kind"),(nm "address"),(nm "length"),(nm "dims")] II) λJm=>bnd (di [ret ((.tup []))]) λIM=>bnd (ret (aj Jm (nm "seats") IM)) λIk=>
  bnd (bnd (bnd (ah [ac (aa Ik (nm "dims"))]) λKv=>au (nm "len") Kv) λIO=>ae .Eq IO (.int 1)) λKu=>if Ku then bnd (uI Ik) λJs=>bnd (ret (aj Ik (nm "seats") Js)) λI_=>bnd (bnd (bnd (ah [ac (aa I_ (nm "dims"))]) λKN=>au (nm "len") KN) λJB=>ae .Eq JB (.int 2)) λOe=>if Oe then bnd (pE I_) λKp=>bnd (ret (aj I_ (nm "seats") Kp)) λIW=>cf call IW K else cf call I_ K
  else bnd (bnd (bnd (ah [ac (aa Ik (nm "dims"))]) λLh=>au (nm "len") Lh) λLi=>ae .Eq Li (.int 2)) λLj=>if Lj then bnd (pE Ik) λLF=>bnd (ret (aj Ik (nm "seats") LF)) λJT=>cf call JT K else cf call Ik K:=by kernel_rfl
theorem mi{d n:Nat}{x:String}{k a L:Int}{seats:List D}(K:K')(hbody:∀ i,i<seats.length->∀ (K:K') fr σ V c,c<=9->FP fr x k a L seats->aa fr (nm "at")=some (.int (i:Nat))->FI σ V (n+1) c->∃ fr' σ' V',bD (run d) fr K σ=K fr' σ'/\FP fr' x k a L seats/\FI σ' V' (n+1) (c+1)) :
  ∀ (m j c:Nat) (fr:af) (σ:St) (V:cy),j+m=seats.length->c+m<=10->FP fr x k a L seats->FI σ V (n+1) c →
   ∃ fr' σ' V',aE (bD (run d)) pF ((List.range' j m).map λi=>D.int (i:Nat)) fr K σ=K fr' σ'/\FP fr' x k a L seats/\FI σ' V' (n+1) 10
 | 0,j,c,fr,σ,V,hj,hc,P,h=>⟨fr,σ,V,rfl,P,h.more (by lia)⟩
 | m+1,j,c,fr,σ,V,hj,hc,P,h=>by
  have P1:=P.set "at" (.int (j:Nat)) (by decide);have El:aa (aj fr (nm "at") (.int (j:Nat))) (nm "at")=some (.int (j:Nat)):=by rw[cw];exact(PW rfl)
  refine bz (hbody j (by lia) (λfr''=>aE (bD (run d)) pF ((List.range' (j+1) m).map λi=>D.int (i:Nat)) fr'' K) _ σ V c (by lia) P1 El h) λfr' σ' V' e P' h'=>?_;refine bz (mi K hbody m (j+1) (c+1) fr' σ' V' (by lia) (by lia) P' h') λbS σ2 V2 e2 P2 h2=>?_;refine⟨bS,σ2,V2, ?_,P2,h2⟩;simp only[<-e2,<-e,List.range'_succ,List.map_cons,aE];rfl
theorem ir:∀ (l:List (Str×D)) (x:Str) (d:D) (y:Str),aa (fN l x d) y=if x=y then some d else aa l y
 | [],x,d,y=>rfl
 | (z,e)::l,x,d,y=>by
  dsimp only[fN]
  by_cases h:z=x
  ·rw[PW h];subst h;simp only[aa]
   by_cases h':z=y
   ·simp[h']
   ·simp[h']
  ·rw[PX h];simp only[aa]
   by_cases h':z=y
   ·subst h';simp[h];intro q;exact absurd q.symm h
   ·refine PV (PX h') ?_;rw[PX h'];exact(ir l x d y)
theorem se:∀ (l:List (Str×D)) (x:Str) (d:D),(fN l x d).length<=l.length+1
 | [],x,d=>by simp[fN]
 | (y,e)::l,x,d=>by
  simp only[fN]
  split
  ·simp
  ·have:=se l x d;simp;omega
theorem FI.begin{σ:St}{V:cy}{n c:Nat}{x:String}(h:FI σ V n c)(hc:c<=10)(hx:names[n]?=some x)(hn:n<8):∃ σ',(bnd (fz []) λt=>cL (.ref 4) (.str (nm x)) t) σ=.ok () σ'/\FI σ' V (n+1) 0:=by
 refine bj h.held λH h1 h2 h3=>?_;have hd:fz []=bnd (ef (.sdict [])) λi=>ret (.ref i):=by kernel_rfl
 have ha:(ef (.sdict []):M Nat) σ=.ok (5+n) (σ++[Cell.sdict []]):=by show R.ok σ.length (σ++[Cell.sdict []])=_;rw[h.len]
 have lt4:4<σ.length:=by rw[h.len];lia
 have h1':(σ++[Cell.sdict []])[4]?=some (.sdict H):=by exact(List.getElem?_append_left lt4).trans h1
 have lo:am H.length=true:=by unfold am;simp;lia
 refine⟨(σ++[Cell.sdict []]).set 4 (.sdict (fN H (nm x) (.ref (5+n)))), ?_, ?_⟩
 ·rw[hd];simp only[SM];rw[aB ha];show bnd (cell 4) _ _=_;rw[aB (aU h1')];show(if am H.length then xq 4 (.sdict (fN H (nm x) (.ref (5+n)))) else stuck) _=_;rw[PW lo];rfl
 ·have g:∀ i,i<σ.length->i≠4->((σ++[Cell.sdict []]).set 4 (.sdict (fN H (nm x) (.ref (5+n)))))[i]?=σ[i]?:=λi hi hi4=>by exact(List.getElem?_set_ne (Ne.symm hi4)).trans ((List.getElem?_append_left hi))
  have hl:=h.len;refine⟨h.pool.eq (g 0 (by lia) (by decide)),by simp[hl];lia,by exact(g 1 (by lia) (by decide)).trans h.mem,by exact(g 2 (by lia) (by decide)) ▸ h.num,by exact(g 3 (by lia) (by decide)) ▸ h.txt,
   ⟨_,List.getElem?_set_self (by simp;lia),by have:=se H (nm x) (.ref (5+n));lia,λi y hi hy=>?_⟩,λi y hi hy=>h.rest i y (by lia) hy,h.val⟩
  by_cases hin:i=n
  ·subst hin;replace hy:=(hx) ▸ hy;cases hy;refine⟨by rw[ir];exact(PW rfl),.inl ⟨?_,h.rest i x (Nat.le_refl _) hx⟩⟩;refine PV (List.getElem?_set_ne (by lia)) (PV (List.getElem?_append_right (by lia)) ?_);rw[hl,Nat.sub_self];rfl
  ·obtain⟨a,b⟩:=h3 i y (by lia) hy;have hyx:¬ x=y:=λe=>hin (jz hy (e ▸ hx));refine⟨by rw[ir,PX (cx hyx)];exact a, ?_⟩;rw[PX (by lia)];have b':jN σ (5+i) (V y) 10:=by
    rcases b with b | ⟨T,b1,b2,b3⟩
    ·exact .inl b
    ·exact .inr ⟨T,b1,by split at b2 <;> lia,b3⟩
   unfold jN at b' ⊢;exact(g (5+i) (by lia) (by lia)) ▸ b'
theorem jd{d n c:Nat}{x:String}{k a L:Int}{seats:List D}{fr:af}{σ:St}{V:cy}(K:K')(P:FP fr x k a L seats)(hx:names[n]?=some x)(hn:n<8)(hsl:seats.length<=10)(h:FI σ V n c)(hc:c<=10)
  (hbody:∀ i,i<seats.length->∀ (K:K') fr σ V c,c<=9->FP fr x k a L seats->aa fr (nm "at")=some (.int (i:Nat))->FI σ V (n+1) c->∃ fr' σ' V',bD (run d) fr K σ=K fr' σ'/\FP fr' x k a L seats/\FI σ' V' (n+1) (c+1)) :
  ∃ fr' σ' V',cf (run d) fr K σ=K fr' σ'/\FP fr' x k a L seats/\FI σ' V' (n+1) 10:=by
 refine ao (h.begin hc hx hn) λσ1 e1 h1=>?_;refine bz (mi K hbody seats.length 0 0 fr σ1 V (by lia) (by lia) P h1) λbS σ2 V2 e2 P2 h2=>?_;refine⟨bS,σ2,V2, ?_,P2,h2⟩;have lo:am seats.length=true:=by unfold am;simp;lia
 have hr:range 0 (seats.length:Int)=(List.range' 0 seats.length).map λi=>D.int (i:Nat):=by unfold range;rw[List.range_eq_range'];simp
 have c1:(seats.length:Int)<=100000:=by lia
 have c2:-100000<=(seats.length:Int):=by lia
 have e:cf (run d) fr K=bnd (bnd (fz []) λt=>cL (.ref 4) (.str (nm x)) t) λ_=>aE (bD (run d)) pF ((List.range' 0 seats.length).map λi=>D.int (i:Nat)) fr K:=by simp only[cf,SM,P.held,P.name,P.seats,SB,Fc,lo,if_true,c1,c2,SL,and_self,show(-100000:Int)<=0 from by decide,show(0:Int)<=100000 from by decide,hr]
 rw[e,aB e1];exact e2
structure FQ(fr:af):Prop where
 pool:aa fr (nm "pool")=some (.ref 0)
 memory:aa fr (nm "memory")=some eO
 held:aa fr (nm "held")=some (.ref 4)
theorem FP.q{fr:af}{x:String}{k a L:Int}{seats:List D}(P:FP fr x k a L seats):FQ fr:=⟨P.pool,P.memory,P.held⟩
theorem uJ:di [ret (D.tup [])]=ret (.list [.tup []]):=by kernel_rfl
theorem Eu{d:Nat}{x:String}{k a L:Int}{fr:af}(K:K')(hd:1<=d)(Q:FQ fr)(hp:subD (.sdict aC) (.str (nm x))=ret (cz k a L [])) :
  ∃ fr',FP fr' x k a L [.tup []]/\bl (run d) (aj fr (nm "name") (.str (nm x))) K=cf (run d) fr' K:=by
 obtain⟨q1,q2,q3⟩:=Q;have hpl:=eN hd;have m1:=uJ;refine⟨aj (aj (aj (aj (aj (aj fr (nm "name") (.str (nm x))) (nm "kind") (.int k)) (nm "address") (.int a)) (nm "length") (.int L)) (nm "dims") (.tup [])) (nm "seats") (.list [.tup []]),⟨by walk_at "l",by walk_at "l",by walk_at "l",by walk_at "l",by walk_at "l",by walk_at "l",by walk_at "l",by walk_at "l"⟩, ?_⟩;refine PV mh ?_;walk_at "e"
theorem Ew{d:Nat}{x:String}{k a L lo:Int}{fr:af}(K:K')(hd:1<=d)(Q:FQ fr)(hlo:lo=1\/lo=2)(hp:subD (.sdict aC) (.str (nm x))=ret (cz k a L [rg lo (lo+1)])) :
  ∃ fr',FP fr' x k a L [.tup [.int lo],.tup [.int (lo+1)]]/\bl (run d) (aj fr (nm "name") (.str (nm x))) K=cf (run d) fr' K:=by
 obtain⟨q1,q2,q3⟩:=Q;have hpl:=eN hd;have m1:=uJ;refine⟨aj (aj (aj (aj (aj (aj (aj fr (nm "name") (.str (nm x))) (nm "kind") (.int k)) (nm "address") (.int a)) (nm "length") (.int L)) (nm "dims") (.tup [rg lo (lo+1)])) (nm "seats") (.list [.tup []])) (nm "seats") (.list [.tup [.int lo],.tup [.int (lo+1)]]),⟨by walk_at "l",by walk_at "l",by walk_at "l",by walk_at "l",by walk_at "l",by walk_at "l",by walk_at "l",by walk_at "l"⟩, ?_⟩
 ·have hr:range lo (lo+1+1)=[.int lo,.int (lo+1)]:=by rcases hlo with rfl | rfl <;> kernel_rfl
  have c1:-100000<=lo/\lo+1+1<=100000:=by lia
  have c2:-100000<=lo/\lo<=100000 ∧ -100000<=lo+1+1/\lo+1+1<=100000:=by lia
  have s1:∀ Ik,aa Ik (nm "dims")=some (.tup [rg lo (lo+1)])->uI Ik=ret (.list [.tup [.int lo],.tup [.int (lo+1)]]):=λIk h13=>by dsimp only[uI];simp only[h13,SM,rg,o9,ut,SI,SB,c1,and_self,if_true,SL,c2,hr,aJ,cw,aG];refine PV (PW (Ck _ (by simp))) (PV (PW (Ck _ (by simp))) ?_);exact(PW (Ck _ (by simp))).trans ((PW (Ck _ (by simp))))
  have s:=s1 (aj (aj (aj (aj (aj (aj fr (nm "name") (.str (nm x))) (nm "kind") (.int k)) (nm "address") (.int a)) (nm "length") (.int L)) (nm "dims") (.tup [rg lo (lo+1)])) (nm "seats") (.list [.tup []])) (by walk_at "l");clear s1 hr c1 c2 hlo;refine PV mh ?_;walk_at "e"
noncomputable def pG:List D:=[.tup [.int 0,.int (-1)],.tup [.int 1,.int (-1)],.tup [.int 2,.int (-1)],.tup [.int 0,.int 0],.tup [.int 1,.int 0],.tup [.int 2,.int 0]]
theorem Fd{d:Nat}{x:String}{k a L:Int}{fr:af}(K:K')(hd:1<=d)(Q:FQ fr)(hp:subD (.sdict aC) (.str (nm x))=ret (cz k a L [rg 0 2,rg (-1) 0])) :
  ∃ fr',FP fr' x k a L pG/\bl (run d) (aj fr (nm "name") (.str (nm x))) K=cf (run d) fr' K:=by
 obtain⟨q1,q2,q3⟩:=Q;have e:aa (aj fr (nm "name") (.str (nm x))) (nm "name")=some (.str (nm x)):=FM;have hpl:=eN hd;have m1:=uJ;refine⟨aj (aj (aj (aj (aj (aj (aj fr (nm "name") (.str (nm x))) (nm "kind") (.int k)) (nm "address") (.int a)) (nm "length") (.int L)) (nm "dims") (.tup [rg 0 2,rg (-1) 0])) (nm "seats") (.list [.tup []])) (nm "seats") (.list pG),⟨by walk_at "l",by walk_at "l",by walk_at "l",by walk_at "l",by walk_at "l",by walk_at "l",by walk_at "l",by walk_at "l"⟩, ?_⟩
 ·have hr1:range (-1) 1=[.int (-1),.int 0]:=by kernel_rfl
  have hr2:range 0 3=[.int 0,.int 1,.int 2]:=by kernel_rfl
  have s2:∀ Ik,aa Ik (nm "dims")=some (.tup [rg 0 2,rg (-1) 0])->pE Ik=ret (.list pG):=λIk h13=>by
   have l1:aa (aN [(nm ".0",.local),(nm "n",.local),(nm "k",.local),(nm "range",.globalImplicit),(nm "dims",.free)] Ik) (nm "k")=none:=by
    rw[iq];have:(List.lookup (nm "k") [(nm ".0",NameKind.local),(nm "n",.local),(nm "k",.local),(nm "range",.globalImplicit),(nm "dims",.free)]==some .free)=false:=by decide +kernel
    rw[this];rfl
   have l2:aa (aN [(nm ".0",.local),(nm "n",.local),(nm "k",.local),(nm "range",.globalImplicit),(nm "dims",.free)] Ik) (nm "dims")=some (.tup [rg 0 2,rg (-1) 0]):=by
    rw[iq];have:(List.lookup (nm "dims") [(nm ".0",NameKind.local),(nm "n",.local),(nm "k",.local),(nm "range",.globalImplicit),(nm "dims",.free)]==some .free)=true:=by decide +kernel
    rw[this,PW rfl];exact h13
   dsimp only[pE];generalize aN [(nm ".0",.local),(nm "n",.local),(nm "k",.local),(nm "range",.globalImplicit),(nm "dims",.free)] Ik=frc at *
   simp[h13,SM,rg,o9,ut,SI,SB,SL,hr1,hr2,aJ,cw,q_,l1,l2,aG,am,pG]
  have s:=s2 (aj (aj (aj (aj (aj (aj fr (nm "name") (.str (nm x))) (nm "kind") (.int k)) (nm "address") (.int a)) (nm "length") (.int L)) (nm "dims") (.tup [rg 0 2,rg (-1) 0])) (nm "seats") (.list [.tup []])) (by walk_at "l");clear s2 hr1 hr2;refine PV mh ?_;walk_at "e"
noncomputable def sf(d n:Nat)(x:String):Prop:=∀ (fr:af) (σ:St) (V:cy) (K:K'),FQ fr->FI σ V n 10->∃ fr' σ' V',bl (run d) (aj fr (nm "name") (.str (nm x))) K σ=K fr' σ'/\FQ fr'/\FI σ' V' (n+1) 10
theorem vN{d n:Nat}{x:String}{k:Int}{a:Nat}(hd:6<=d)(hx:names[n]?=some x)(hn:n<8)(hp:subD (.sdict aC) (.str (nm x))=ret (cz k a 0 []))(he:(x,[],a,k)∈dG)(hk:(x,k)∈bh)(hk':k=0\/k=1\/k=4):sf d n x:=by
 intro fr σ V K Q h;refine ao (Eu K (PO (by decide) hd) Q hp) λJI P e1=>?_;refine bz (jd (d:=d) K P hx hn (by simp) h (Nat.le_refl _) λi hi K fr σ V c hc P hat h=>by
  obtain rfl:i=0:=by simp at hi;omega
  exact bW (q:=[]) K hd P hat rfl (by simp) hx he hk hk' h hc) λbS σ2 V2 e2 P2 h2=>?_
 exact⟨bS,σ2,V2,by rw[e1];exact e2,P2.q,h2⟩
theorem Dv{d:Nat}(hd:6<=d):sf d 6 "C":=by
 intro fr σ V K Q h;refine ao (Eu (x:="C") (k:=5) (a:=0) (L:=4) K (PO (by decide) hd) Q (by kernel_rfl)) λJI P e1=>?_;refine bz (jd (d:=d) K P (n:=6) rfl (by decide) (by decide) h (Nat.le_refl _) λi hi K fr σ V c hc P hat h=>by
  obtain rfl:i=0:=by simp at hi;lia
  exact jA (q:=[]) (a:=0) (L:=4) K hd P hat rfl (by decide) rfl (by decide) (by decide) (by decide) h hc) λbS σ2 V2 e2 P2 h2=>?_
 exact⟨bS,σ2,V2,by rw[e1];exact e2,P2.q,h2⟩
theorem Dw{d:Nat}(hd:6<=d):sf d 4 "B":=by
 intro fr σ V K Q h;refine ao (Ew (x:="B") (k:=1) (a:=9) (L:=0) (lo:=1) K (PO (by decide) hd) Q (.inl rfl) (by kernel_rfl)) λJI P e1=>?_;refine bz (jd (d:=d) K P (n:=4) rfl (by decide) (by decide) h (Nat.le_refl _) λi hi K fr σ V c hc P hat h=>by
  obtain rfl | rfl:=(by decide:∀ n:Nat,n<2->n=0\/n=1) i hi
  ·exact bW (q:=[1]) (a:=9) K hd P hat rfl (by decide) rfl (by decide) (by decide) (.inr (.inl rfl)) h hc
  ·exact bW (q:=[2]) (a:=9) K hd P hat rfl (by decide) rfl (by decide) (by decide) (.inr (.inl rfl)) h hc) λbS σ2 V2 e2 P2 h2=>?_
 exact⟨bS,σ2,V2,by rw[e1,e2],P2.q,h2⟩
theorem Dx{d:Nat}(hd:6<=d):sf d 7 "D":=by
 intro fr σ V K Q h;refine ao (Ew (x:="D") (k:=5) (a:=4) (L:=3) (lo:=2) K (PO (by decide) hd) Q (.inr rfl) (by kernel_rfl)) λJI P e1=>?_;refine bz (jd (d:=d) K P (n:=7) rfl (by decide) (by decide) h (Nat.le_refl _) λi hi K fr σ V c hc P hat h=>by
  obtain rfl | rfl:=(by decide:∀ n:Nat,n<2->n=0\/n=1) i hi
  ·exact jA (q:=[2]) (a:=4) (L:=3) K hd P hat rfl (by decide) rfl (by decide) (by decide) (by decide) h hc
  ·exact jA (q:=[3]) (a:=4) (L:=3) K hd P hat rfl (by decide) rfl (by decide) (by decide) (by decide) h hc) λbS σ2 V2 e2 P2 h2=>?_
 exact⟨bS,σ2,V2,by rw[e1,e2],P2.q,h2⟩
theorem Dy{d:Nat}(hd:6<=d):sf d 2 "A":=by
 intro fr σ V K Q h;refine ao (Fd (x:="A") (k:=0) (a:=2) (L:=0) K (PO (by decide) hd) Q (by kernel_rfl)) λJI P e1=>?_;refine bz (jd (d:=d) K P (n:=2) rfl (by decide) (by decide) h (Nat.le_refl _) λi hi K fr σ V c hc P hat h=>by
  obtain rfl | rfl | rfl | rfl | rfl | rfl:=(by decide:∀ n:Nat,n<6->n=0\/n=1\/n=2\/n=3\/n=4\/n=5) i hi
  ·exact bW (q:=[0,-1]) (a:=2) K hd P hat rfl (by decide) rfl (by decide) (by decide) (.inl rfl) h hc
  ·exact bW (q:=[1,-1]) (a:=2) K hd P hat rfl (by decide) rfl (by decide) (by decide) (.inl rfl) h hc
  ·exact bW (q:=[2,-1]) (a:=2) K hd P hat rfl (by decide) rfl (by decide) (by decide) (.inl rfl) h hc
  ·exact bW (q:=[0,0]) (a:=2) K hd P hat rfl (by decide) rfl (by decide) (by decide) (.inl rfl) h hc
  ·exact bW (q:=[1,0]) (a:=2) K hd P hat rfl (by decide) rfl (by decide) (by decide) (.inl rfl) h hc
  ·exact bW (q:=[2,0]) (a:=2) K hd P hat rfl (by decide) rfl (by decide) (by decide) (.inl rfl) h hc) λbS σ2 V2 e2 P2 h2=>?_
 exact⟨bS,σ2,V2,by rw[e1,e2],P2.q,h2⟩
theorem xn{d:Nat}(hd:6<=d):∀ n x,names[n]?=some x->sf d n x:=by
 have k:∀ {n:Nat} {y:String},names[n]?=some y->sf d n y->∀ x,names[n]?=some x->sf d n x:=λh t x hx=>PY (h.symm.trans hx) ▸ t;intro n
 induction n using Nat.casesOn with
 | zero=>refine k (y:="I") rfl ?_;exact vN (a:=0) (k:=0) hd rfl (by decide) (by kernel_rfl) (by decide) (by decide) (.inl rfl)
 | succ n=>
 induction n using Nat.casesOn with
 | zero=>refine k (n:=1) (y:="J") rfl ?_;exact vN (a:=1) (k:=0) hd rfl (by decide) (by kernel_rfl) (by decide) (by decide) (.inl rfl)
 | succ n=>
 induction n using Nat.casesOn with
 | zero=>refine k (n:=2) (y:="A") rfl ?_;exact Dy hd
 | succ n=>
 induction n using Nat.casesOn with
 | zero=>refine k (n:=3) (y:="X") rfl ?_;exact vN (a:=8) (k:=1) hd rfl (by decide) (by kernel_rfl) (by decide) (by decide) (.inr (.inl rfl))
 | succ n=>
 induction n using Nat.casesOn with
 | zero=>refine k (n:=4) (y:="B") rfl ?_;exact Dw hd
 | succ n=>
 induction n using Nat.casesOn with
 | zero=>refine k (n:=5) (y:="L") rfl ?_;exact vN (a:=11) (k:=4) hd rfl (by decide) (by kernel_rfl) (by decide) (by decide) (by decide)
 | succ n=>
 induction n using Nat.casesOn with
 | zero=>refine k (n:=6) (y:="C") rfl ?_;exact Dv hd
 | succ n=>
 induction n using Nat.casesOn with
 | zero=>refine k (n:=7) (y:="D") rfl ?_;exact Dx hd
 | succ n=>exact λx hx=>dt hx
theorem nL{d:Nat}(hd:6<=d)(K:K'):∀ (m j:Nat) (fr:af) (σ:St) (V:cy),j+m=8->FQ fr->FI σ V j 10 →
  ∃ fr' σ' V',aE (bl (run d)) (λKj d7=>ret (aj Kj (nm "name") d7)) ((names.drop j).map λx=>D.str (nm x)) fr K σ=K fr' σ'/\FQ fr'/\FI σ' V' 8 10
 | 0,j,fr,σ,V,hj,Q,h=>by
  obtain rfl:j=8:=by omega
  exact⟨fr,σ,V,rfl,Q,h⟩
 | m+1,j,fr,σ,V,hj,Q,h=>by
  obtain⟨x,hx⟩ : ∃ x,names[j]?=some x:=⟨_,List.getElem?_eq_getElem (show j<names.length by show j<8;lia)⟩;refine bz (xn hd j x hx fr σ V (λfr''=>aE (bl (run d)) (λKj d7=>ret (aj Kj (nm "name") d7)) ((names.drop (j+1)).map λx=>D.str (nm x)) fr'' K) Q h) λJI σ1 V1 e1 Q1 h1=>?_;refine bz (nL hd K m (j+1) JI σ1 V1 (by lia) Q1 h1) λbS σ2 V2 e2 Q2 h2=>?_;refine⟨bS,σ2,V2, ?_,Q2,h2⟩;have hdrop:names.drop j=x::names.drop (j+1):=by refine PS (List.getElem?_eq_some_iff.mp hx) λh1 h2=>?_;simp only[List.drop_eq_getElem_cons h1,h2]
  simp only[<-e2,<-e1,hdrop,List.map_cons,aE];rfl
noncomputable def vO(call:Str->List D->M D)(I2:af):M Flow':=bnd (ac (aa I2 (nm "trees"))) λKY=>dK KY λK8=>aE (ig call) (λJH KU=>ret (aj JH (nm "tree") KU)) K8 I2 λIx=>bnd (bnd (aG [bnd (ac (aa Ix (nm "memory"))) λKl=>aA Kl (nm "numeric"),bnd (ac (aa Ix (nm "memory"))) λJ5=>aA J5 (nm "characters")]) λJ6=>bnd (bnd (ac (aa Ix (nm "before"))) λJ7=>ae .Eq J6 J7) λb98=>ret (.bool b98)) λIX=>ret (.ret IX)
noncomputable def BP(call:Str->List D->M D)(Iu t9 IH I0 I7 Jz:D):M Flow':=bnd (call (nm "base_expressions") []) λJA=>bnd (bnd (call (nm "char_expressions") []) λJW=>bnd (aZ JW (nm "items")) λk34=>bd call JW k34 []) λJX=>sG JX λOQ=>aE (Cf call) (λLG OR=>de LG [(nm "word"),(nm "handler")] OR) OQ [(nm "script",Iu),(nm "pool",t9),(nm "trees",IH),(nm "width",I0),(nm "memory",I7),(nm "held",Jz),(nm "expressions",JA)] λJG=>bnd (bnd (ah [ac (aa JG (nm "memory")),bnd (ah [ac (aa JG (nm "width")),ret (.int 3),ret (.int 5),ret (.int 90)]) λL3=>bO call (.fn (nm "Limits")) L3,fw [],ret (.none),ac (aa JG (nm "expressions")),fw []]) λL8=>bO call (.fn (nm "Run")) L8) λIL=>bnd (ret (aj JG (nm "run") IL)) λI1=>bnd (call (nm "all_operations") []) λJ_=>bnd (bnd (ac (aa I1 (nm "run"))) λJO=>bnd (eg JO (nm "operations") J_) λ_=>ret I1) λLH=>bnd (call (nm "_law_places") []) λJ0=>dK J0 λOS=>aE (zh call) (λLI OT=>ret (aj LI (nm "name") OT)) OS LH λIC=>bnd (aG [bnd (ah [bnd (ac (aa IC (nm "memory"))) λKi=>aA Ki (nm "numeric")]) λOU=>au (nm "list") OU,bnd (ah [bnd (ac (aa IC (nm "memory"))) λKp=>aA Kp (nm "characters")]) λLT=>au (nm "list") LT]) λKP=>bnd (ret (aj IC (nm "before") KP)) λI2=>bnd (ac (aa I2 (nm "trees"))) λKY=>dK KY λK8=>aE (ig call) (λJH KU=>ret (aj JH (nm "tree") KU)) K8 I2 λIx=>bnd (bnd (aG [bnd (ac (aa Ix (nm "memory"))) λKl=>aA Kl (nm "numeric"),bnd (ac (aa Ix (nm "memory"))) λJ5=>aA J5 (nm "characters")]) λJ6=>bnd (bnd (ac (aa Ix (nm "before"))) λJ7=>ae .Eq J6 J7) λb98=>ret (.bool b98)) λIX=>ret (.ret IX)
noncomputable def zJ:List (Str×D):=([("const","eval_const"),("var","eval_place"),("elem","eval_place"),("add","eval_binary"),("sub","eval_binary"),("mul","eval_binary"),("div","eval_binary"),("pow","eval_binary"),("powi","eval_binary"),("and","eval_binary"),("or","eval_binary"),("eqv","eval_binary"),("neqv","eval_binary"),
 ("eq","eval_compare"),("ne","eval_compare"),("lt","eval_compare"),("le","eval_compare"),("gt","eval_compare"),("ge","eval_compare"),("conv","eval_conv"),("neg","eval_unary"),("not","eval_unary"),("substr","eval_place"),("cat","eval_cat")]:List (String×String)).map λx=>(nm x.1,.fn (nm x.2))
noncomputable def Dz:List (Int×D):=[(0,.fn (nm "int_binary")),(1,.fn (nm "real_binary")),(2,.fn (nm "real_binary")),(3,.fn (nm "complex_binary")),(4,.fn (nm "logic_binary")),(5,.fn (nm "text_binary"))]
noncomputable def Fe(w:Int):List (Str×D):=[(nm "width",.int w),(nm "real_digits",.int 3),(nm "double_digits",.int 5),(nm "top_exponent",.int 90),(nm "steps",.int 1000000),(nm "continuations",.int 19),(nm "columns",.int 72),(nm "depth",.int 40)]
noncomputable def Ff:List (Str×D):=[(nm "memory",eO),(nm "limits",.inst (nm "Limits") 14),(nm "units",.sdict []),(nm "world",.none),(nm "expressions",.ref 13),(nm "statements",.sdict []),(nm "frame",.ref 16),(nm "depth",.int 0),(nm "steps",.int 0),(nm "places",.ref 17),(nm "flows",.ref 18),(nm "clears",.ref 19),(nm "active",.list []),(nm "loops",.ref 20),(nm "operations",.idict Dz)]
noncomputable def pH:D:=.inst (nm "Run") 15
noncomputable def Fg(script trees:D)(w:Int)(N C:List D):af:=[(nm "script",script),(nm "pool",.ref 0),(nm "trees",trees),(nm "width",.int w),(nm "memory",eO),(nm "held",.ref 4),(nm "expressions",.ref 13),(nm "word",.str (nm "cat")),(nm "handler",.fn (nm "eval_cat")),(nm "run",pH),(nm "name",.str (nm "D")),(nm "before",.tup [.list N,.list C])]
noncomputable def more(w:Int):St:=[.sdict zJ,.sdict (Fe w),.sdict Ff,.sdict aC,.sdict [],.sdict [],.sdict [],.sdict [],.sdict []]
theorem BQ(d:Nat)(script trees:D)(w:Int)(c0 c4 c5 c6 c7 c8 c9 IR Jg Jv:Cell)(n0 n1 n2 n3 n4 n5 n6 n7 n8 n9 n10 n11:D)(k0 k1 k2 k3 k4 k5 k6 k7 k8 k9:D) :
  BP (run (d+4)) script (.ref 0) trees (.int w) eO (.ref 4) [c0,.sdict dE,.list [n0,n1,n2,n3,n4,n5,n6,n7,n8,n9,n10,n11],.list [k0,k1,k2,k3,k4,k5,k6,k7,k8,k9],c4,c5,c6,c7,c8,c9,IR,Jg,Jv]
  = vO (run (d+4)) (Fg script trees w [n0,n1,n2,n3,n4,n5,n6,n7,n8,n9,n10,n11] [k0,k1,k2,k3,k4,k5,k6,k7,k8,k9]) ([c0,.sdict dE,.list [n0,n1,n2,n3,n4,n5,n6,n7,n8,n9,n10,n11],.list [k0,k1,k2,k3,k4,k5,k6,k7,k8,k9],c4,c5,c6,c7,c8,c9,IR,Jg,Jv]++more w):=by kernel_rfl
theorem BR{d:Nat}{c0:Cell}(hd:7<=d)(hp:Pool 0 [c0]):∃ σ' V,run d (nm "_law_fill") [.ref 0,eO] [c0,.sdict dE,.list (List.replicate 12 .none),.list (List.replicate 10 .none)]=.ok (.ref 4) σ'/\FI σ' V 8 10:=by
 refine ao (ak hd) λd z1 hd'=>?_;obtain rfl:=z1;have h0:FI [c0,.sdict dE,.list (List.replicate 12 .none),.list (List.replicate 10 .none),.sdict []] (λ_ _=>none) 0 10:=by
  refine⟨hp.eq rfl,rfl,rfl,⟨_,rfl,rfl,λe he=>?_⟩,⟨_,rfl,rfl,λe he=>?_⟩,⟨[],rfl,Nat.le_refl _,λi x hi=>absurd hi (Nat.not_lt_zero _)⟩,λi x _ _ q=>rfl,λx _ q v h=>dt h⟩
  ·exact List.getElem?_replicate_of_lt (uG e he)
  ·refine jf (uH e he) λa1 a2 a3=>?_;refine⟨none,rfl,nofun, ?_⟩;delta cut ja;simp only[List.drop_replicate,List.take_replicate];exact congrArg (λk=>List.replicate k D.none) ((congrArg (min · _) (Nat.add_sub_cancel_left ..)).trans (Nat.min_eq_left (Nat.le_sub_of_add_le' a1)))
 refine bz (nL hd' (λIN=>bnd (ac (aa IN (nm "held"))) λKC=>ret (.ret KC)) 8 0 [(nm "pool",.ref 0),(nm "memory",eO),(nm "held",.ref 4)] _ _ rfl ⟨by kernel_rfl,by kernel_rfl,by kernel_rfl⟩ h0) λfr' σ' V' e Q h=>?_;refine⟨σ',V', ?_,h⟩;rw[ur];have e2:lU (run d) (.ref 0) eO=bnd (fz []) λt1=>aE (bl (run d)) (λKj d7=>ret (aj Kj (nm "name") d7)) ((names.drop 0).map λx=>D.str (nm x)) [(nm "pool",.ref 0),(nm "memory",eO),(nm "held",t1)] λIN=>bnd (ac (aa IN (nm "held"))) λKC=>ret (.ret KC):=by kernel_rfl
 rw[e2];have e3:fz [] [c0,.sdict dE,.list (List.replicate 12 .none),.list (List.replicate 10 .none)]=.ok (.ref 4) [c0,.sdict dE,.list (List.replicate 12 .none),.list (List.replicate 10 .none),.sdict []]:=by kernel_rfl
 show bnd (bnd (fz []) _) _ _=_;rw[lH,aB e3];rw[Q.held]at e;exact aB (a:=Flow'.ret (.ref 4)) (σ':=σ') e _
noncomputable def FD{α:Type}:Nat->(List α->Prop)->Prop
 | 0,P=>P []
 | n+1,P=>∃ a,FD n λt=>P (a::t)
theorem EG{α:Type}:∀ {n:Nat} {P:List α->Prop} {l:List α},l.length=n->P l->FD n P
 | 0,_,[],_,p=>p
 | n+1,_,a::_,h,p=>⟨a,EG (Nat.succ.inj h) p⟩
theorem Ex{σ:St}(h:σ.length=13):∃ c0 c1 c2 c3 c4 c5 c6 c7 c8 c9 IR Jg Jv,σ=[c0,c1,c2,c3,c4,c5,c6,c7,c8,c9,IR,Jg,Jv]:=EG (P:=λx=>σ=x) h rfl
theorem Ey{N:List D}(h:N.length=12):∃ n0 n1 n2 n3 n4 n5 n6 n7 n8 n9 n10 n11,N=[n0,n1,n2,n3,n4,n5,n6,n7,n8,n9,n10,n11]:=EG (P:=λx=>N=x) h rfl
theorem Ez{C:List D}(h:C.length=10):∃ k0 k1 k2 k3 k4 k5 k6 k7 k8 k9,C=[k0,k1,k2,k3,k4,k5,k6,k7,k8,k9]:=EG (P:=λx=>C=x) h rfl
theorem si:∀ p∈aC,aa aC p.1=some p.2:=by intro p hp;simp only[aC,List.mem_cons,List.not_mem_nil,or_false]at hp;rcases hp with rfl | rfl | rfl | rfl | rfl | rfl | rfl | rfl <;> kernel_rfl
theorem xo:∀ p∈cj,aa zJ (nm p.1)=some (.fn (nm p.2)):=by intro p hp;simp only[cj,List.mem_cons,List.not_mem_nil,or_false]at hp;rcases hp with rfl | rfl | rfl | rfl | rfl | rfl | rfl | rfl | rfl | rfl | rfl | rfl | rfl | rfl | rfl | rfl | rfl | rfl | rfl | rfl | rfl | rfl | rfl <;> kernel_rfl
theorem zK:∀ p∈il,gK Dz p.1=some (.fn (nm p.2)):=by intro p hp;simp only[il,List.mem_cons,List.not_mem_nil,or_false]at hp;rcases hp with rfl | rfl | rfl | rfl <;> kernel_rfl
theorem EA{w:Int}(h5:5<=w)(h12:w<=12)(c0 c1 c2 c3 c4 c5 c6 c7 c8 c9 IR Jg Jv:Cell):Wd ([c0,c1,c2,c3,c4,c5,c6,c7,c8,c9,IR,Jg,Jv]++more w) w pH:=by refine⟨h5,h12,⟨13,zJ,by kernel_rfl,by kernel_rfl,xo⟩,⟨Dz,by kernel_rfl,zK⟩,⟨.inst (nm "Limits") 14,by kernel_rfl,by kernel_rfl,by kernel_rfl,by kernel_rfl⟩⟩
theorem zL:∀ x∈bh,∃ i,i<8/\names[i]?=some x.1:=by decide
theorem DA{N:List D}{V:cy}(hl:N.length=12)(h:∀ e∈dG,N[e.2.2.1]?=some (jv e.2.2.2 (V e.1 e.2.1))):vA N V:=by
 refine⟨hl,h ("I",[],0,0) (by decide),h ("J",[],1,0) (by decide),λi j i0 i1 j0 j1=>?_,h ("X",[],8,1) (by decide),λi i0 i1=>?_,h ("L",[],11,4) (by decide)⟩
 ·obtain rfl | rfl:j = -1\/j=0:=by lia
  ·obtain rfl | rfl | rfl:i=0\/i=1\/i=2:=by lia
   ·exact h ("A",[0,-1],2,0) (by decide)
   ·exact h ("A",[1,-1],3,0) (by decide)
   ·exact h ("A",[2,-1],4,0) (by decide)
  ·obtain rfl | rfl | rfl:i=0\/i=1\/i=2:=by lia
   ·exact h ("A",[0,0],5,0) (by decide)
   ·exact h ("A",[1,0],6,0) (by decide)
   ·exact h ("A",[2,0],7,0) (by decide)
 ·obtain rfl | rfl:i=1\/i=2:=by lia
  ·exact h ("B",[1],9,1) (by decide)
  ·exact h ("B",[2],10,1) (by decide)
theorem DB{C:List D}{V:cy}(hl:C.length=10)(h:∀ e∈d_,Tx C e.2.2.1 e.2.2.2 (V e.1 e.2.1)):vB C V:=by
 refine⟨hl,h ("C",[],0,4) (by decide),λi i0 i1=>?_⟩;obtain rfl | rfl:i=2\/i=3:=by lia
 ·exact h ("D",[2],4,3) (by decide)
 ·exact h ("D",[3],7,3) (by decide)
theorem EB{w:Int}{V:cy}{c0 c1 c2 c3 c4 c5 c6 c7 c8 c9 IR Jg Jv:Cell}(h:FI [c0,c1,c2,c3,c4,c5,c6,c7,c8,c9,IR,Jg,Jv] V 8 10):Md ([c0,c1,c2,c3,c4,c5,c6,c7,c8,c9,IR,Jg,Jv]++more w) pH (.ref 4) V:=by
 have g:∀ i,i<13->([c0,c1,c2,c3,c4,c5,c6,c7,c8,c9,IR,Jg,Jv]++more w)[i]?=[c0,c1,c2,c3,c4,c5,c6,c7,c8,c9,IR,Jg,Jv][i]?:=λi hi=>List.getElem?_append_left hi;refine bj h.num λN n1 n2 n3=>?_;refine bj h.txt λC k1 k2 k3=>?_;refine bj h.held λH h1 h2 h3=>?_;have m1:([c0,c1,c2,c3,c4,c5,c6,c7,c8,c9,IR,Jg,Jv]++more w)[1]?=some (.sdict dE):=by exact(g 1 (by decide)).trans h.mem
 refine⟨⟨nm "Memory",1,2,N,3,C,by kernel_rfl,(pD m1).2,uE m1,by exact(g 2 (by decide)).trans n1,uF m1,by exact(g 3 (by decide)).trans k1,DA n2 n3,DB k2 k3⟩,⟨16,aC,by kernel_rfl,by kernel_rfl,si⟩,⟨4,H,rfl,by exact(g 4 (by decide)).trans h1,λx hx=>?_⟩,h.val⟩;refine ao (zL x hx) λi hi hn=>?_;obtain⟨a,b⟩:=h3 i x.1 hi hn;refine⟨5+i,a, ?_,λcall t q hq=>?_⟩
 ·show bnd (cell (5+i)) _ _=_;rcases b with⟨b1,b2⟩ | ⟨T,b1,b2,b3⟩
  ·rw[aB (aU (by exact(g (5+i) (by lia)).trans b1))];kernel_rfl
  ·rw[aB (aU (by exact(g (5+i) (by lia)).trans b1))];kernel_rfl
 ·show bnd (cell (5+i)) _ _=_;rcases b with⟨b1,b2⟩ | ⟨T,b1,b2,b3⟩
  ·rw[aB (aU (by exact(g (5+i) (by lia)).trans b1))];show bnd (ac (dJ t)) (λ_=>ret D.none) _=_;rw[hq,b2 q];rfl
  ·rw[aB (aU (by exact(g (5+i) (by lia)).trans b1))];show bnd (ac (dJ t)) (λq=>ret ((dy T q).getD D.none)) _=_;rw[hq,<-b3 q];rfl
variable{σ:St}{w:Int}{V:cy}
noncomputable def Py(σ:St)(d:D)(k:Nat):Prop:=∃ x,fF σ d=some x/\PyData.canLay0 x=true/\PyData.depth x<=k/\PyData.eqv x x=true
noncomputable def Pys(σ:St)(l:List D)(k:Nat):Prop:=∃ xs,bN σ l=some xs/\PyData.canLayAll0 xs=true/\PyData.depthAll xs<=k/\PyData.eqvAll xs xs=true
theorem Pys.nil{k:Nat}:Pys σ [] k:=⟨[],rfl,rfl,Nat.zero_le _,rfl⟩
theorem Pys.cons{k:Nat}{a:D}{l:List D}(h:Py σ a k)(h':Pys σ l k):Pys σ (a::l) k:=by
 refine dg h λx a1 a2 a3 a4=>?_;refine dg h' λxs b1 b2 b3 b4=>?_;refine⟨x::xs, ?_, ?_, ?_, ?_⟩
 ·show(match fF σ a,bN σ l with | some a,some b=>some (a::b) | _,_=>none)=_;simp only[a1,b1]
 ·simp only[PyData.canLayAll0,a2,b2,Bool.and_self]
 ·simp only[PyData.depthAll];lia
 ·simp only[PyData.eqvAll,a4,b4,Bool.and_self]
theorem Pys.all{k:Nat}:∀ {l:List D},(∀ d∈l,Py σ d k)->Pys σ l k
 | [],_=>.nil
 | a::l,h=>.cons (h a List.mem_cons_self) (Pys.all λd hd=>h d (by simp[hd]))
theorem Py.tup{k:Nat}{l:List D}(h:Pys σ l k):Py σ (.tup l) (k+1):=by
 refine dg h λxs b1 b2 b3 b4=>?_;refine⟨.tuple xs, ?_, ?_, ?_, ?_⟩
 ·show(bN σ l).map PyData.tuple=_;exact congrArg _ b1
 ·simp only[PyData.canLay0,b2]
 ·simp[PyData.depth];omega
 ·simp only[PyData.eqv,b4]
theorem Py.list{k:Nat}{l:List D}(h:Pys σ l k):Py σ (.list l) (k+1):=by
 refine dg h λxs b1 b2 b3 b4=>?_;refine⟨.list xs, ?_, ?_, ?_, ?_⟩
 ·show(bN σ l).map PyData.list=_;exact congrArg _ b1
 ·simp only[PyData.canLay0,b2]
 ·simp[PyData.depth];omega
 ·simp only[PyData.eqv,b4]
theorem Py.none{k:Nat}:Py σ .none k:=⟨.none,rfl,rfl,Nat.zero_le _,rfl⟩
theorem Py.int{k:Nat}{i:Int}:Py σ (.int i) k:=⟨.int i,rfl,rfl,Nat.zero_le _,by simp[PyData.eqv]⟩
theorem Py.bool{k:Nat}{b:Bool}:Py σ (.bool b) k:=⟨.bool b,rfl,rfl,Nat.zero_le _,by simp[PyData.eqv]⟩
theorem Py.sign{k:Nat}{c:Nat}(h:c<128):Py σ (.str ⟨#[c]⟩) k:=⟨.str ⟨#[c]⟩,rfl,by simp only[PyData.canLay0,zr h],Nat.zero_le _,by simp[PyData.eqv]⟩
theorem Py.eq{a b d:D}{k:Nat}(h:Py σ d k)(hk:k<=64)(ha:fM σ a=d)(hb:fM σ b=d):so a b σ=.ok true σ:=by
 refine dg h λx h1 h2 h3 h4=>?_;unfold so;rw[ha,hb,h1];have hs:SeqAt.shaped x=true:=by unfold SeqAt.shaped;rw[h2,decide_eq_true (by lia)];rfl
 simp[hs,h4,Bool.and_self,if_true]
set_option tactic.hygienic true in
theorem zM{k:Int}{n:Nat}{v:D}(h:v=.none\/Val k n v):ae .NotEq v v σ=.ok false σ/\∃ b,au (nm "isinstance") [v,.blt (nm "bool")]=ret (.bool b):=by
 rcases h with rfl | h
 ·refine⟨?_,false,by kernel_rfl⟩;show bnd (so .none .none) (λr=>ret (!r)) σ=_;rw[aB (Py.eq (Py.none (k:=0)) (by decide) rfl rfl)];rfl
 ·induction h with
  | int _=>rename_i i _;exact⟨by rw[SI.2.1];simp[ret],false,by kernel_rfl⟩
  | bool=>rename_i b;exact⟨by rw[SI.2.2.2.2.2.2.2.1];simp[ret],true,by kernel_rfl⟩
  | str _=>rename_i s _;exact⟨by rw[SI.2.2.2.2.2.2.2.2.2.1];simp[ret],false,by kernel_rfl⟩
  | real _=>rename_i x _;refine⟨?_,false,by kernel_rfl⟩;show bnd (so (pr x) (pr x)) (λr=>ret (!r)) σ=_;rw[aB (Py.eq (Py.tup (.cons (Py.int (i:=x.1)) (.cons (Py.int (i:=x.2)) .nil)) (k:=0)) (by decide) rfl rfl)];rfl
structure FR(fr:af)(w:Int):Prop where
 held:aa fr (nm "held")=some (.ref 4)
 width:aa fr (nm "width")=some (.int w)
 run:aa fr (nm "run")=some pH
 memory:aa fr (nm "memory")=some eO
theorem FR.set{fr:af}(P:FR fr w)(y:String)(v:D)(hy:y∉["held","width","run","memory"]):FR (aj fr (nm y) v) w:=by
 simp only[List.mem_cons,List.not_mem_nil,or_false,not_or]at hy;refine cM hy λh1 h2 h3 h4=>?_;refine⟨?_, ?_, ?_, ?_⟩ <;> rw[cw]
 ·refine PV (PX (cx h1)) ?_;exact P.held
 ·refine PV (PX (cx h2)) ?_;exact P.width
 ·refine PV (PX (cx h3)) ?_;exact P.run
 ·refine PV (PX (cx h4)) ?_;exact P.memory
theorem Fh{fr:af}{v:D}{b:Bool}(K:K')(u1:aa fr (nm "told")=some v)(u2:aa fr (nm "due")=some v)(s1:ae .NotEq v v σ=.ok false σ)(s2:au (nm "isinstance") [v,.blt (nm "bool")]=ret (.bool b)) :
  (bnd (bnd (bnd (ac (aa fr (nm "told"))) λOM=>bnd (ac (aa fr (nm "due"))) λL_=>ae .NotEq OM L_) λb76=>bi .Or b76 (bnd (bnd (bnd (ah [ac (aa fr (nm "told")),ret (.blt (nm "bool"))]) λON=>au (nm "isinstance") ON) λLJ=>bnd (bnd (ah [ac (aa fr (nm "due")),ret (.blt (nm "bool"))]) λOO=>au (nm "isinstance") OO) λLY=>ae .NotEq LJ LY) λb79=>bi .Or b79 (ret false))) λOP=>if OP then ret (.ret (.bool false)) else K fr) σ=K fr σ:=by
 simp[u1,u2,SM];rw[aB s1];simp[Bool.false_eq_true,if_false,SM,s2,SI,beq_self_eq_true,Bool.not_true]
theorem nM(W:Wd σ w pH)(H:Md σ pH (.ref 4) V){d:Nat}{k:Int}{t:D}{fr:af}(K:K')(hd:26<=d)(ht:Tree k 3 t)(P:FR fr w){bf:D}(hb:aa fr (nm "before")=some bf) :
  ∃ fr',ig (run d) (aj fr (nm "tree") t) K σ=K fr' σ/\FR fr' w/\aa fr' (nm "before")=some bf:=by
 refine ao (BJ W H ht (Nat.le_refl _)) λo po h=>?_;refine PT (λhe hl=>?_) (h d (by omega));rw[dW]at he;have hv:o.getD .none=.none\/Val k 3 (o.getD .none):=by
  induction o with
  | none=>exact .inl rfl
  | some v=>exact .inr (po v rfl)
 refine FE (zM (σ:=σ) hv) λs1 b s2=>?_;have P1:=P.set "tree" t (by decide);have P2:=P1.set "due" (o.getD .none) (by decide);have P3:=P2.set "told" (o.getD .none) (by decide);have t1:aa (aj fr (nm "tree") t) (nm "tree")=some t:=by rw[cw];exact(PW rfl)
 have t2:aa (aj (aj fr (nm "tree") t) (nm "due") (o.getD .none)) (nm "tree")=some t:=by rw[cw,PX (cx (by decide))];exact t1
 have u1:aa (aj (aj (aj fr (nm "tree") t) (nm "due") (o.getD .none)) (nm "told") (o.getD .none)) (nm "told")=some (o.getD .none):=by rw[cw];exact(PW rfl)
 have u2:aa (aj (aj (aj fr (nm "tree") t) (nm "due") (o.getD .none)) (nm "told") (o.getD .none)) (nm "due")=some (o.getD .none):=by rw[cw,PX (cx (by decide)),cw];exact(PW rfl)
 refine⟨aj (aj (aj fr (nm "tree") t) (nm "due") (o.getD .none)) (nm "told") (o.getD .none), ?_,P3, ?_⟩
 ·have e1:(bnd (ah [ac (aa (aj fr (nm "tree") t) (nm "held")),ac (aa (aj fr (nm "tree") t) (nm "tree")),ac (aa (aj fr (nm "tree") t) (nm "width"))]) λOK=>run d (nm "_law_value") OK)=run d (nm "_law_value") [.ref 4,t,.int w]:=by simp only[P1.held,t1,P1.width,SM]
  have e2:(bnd (ah [ac (aa (aj (aj fr (nm "tree") t) (nm "due") (o.getD .none)) (nm "run")),ac (aa (aj (aj fr (nm "tree") t) (nm "due") (o.getD .none)) (nm "tree"))]) λOL=>run d (nm "evaluate") OL)=run d (nm "evaluate") [pH,t]:=by simp only[P2.run,t2,SM]
  unfold ig;rw[e1,aB hl,rb,e2];dsimp only[vV];rw[he]
  induction o with
  | none=>exact Fh K u1 u2 s1 s2
  | some v=>exact Fh K u1 u2 s1 s2
 ·rw[cw,PX (cx (by decide)),cw,PX (cx (by decide)),cw,PX (cx (by decide))];exact hb
theorem DC{N:List D}(hl:N.length=12)(h:∀ e∈dG,N[e.2.2.1]?=some (jv e.2.2.2 (V e.1 e.2.1)))(hv:∀ x∈bh,∀ q v,V x.1 q=some v->Val x.2 0 v):Pys σ N 2:=by
 refine Pys.all λd hd=>?_;obtain⟨i,hi,rfl⟩:=List.getElem_of_mem hd;have hc:∀ i<12,∃ e∈dG,e.2.2.1=i/\(e.1,e.2.2.2)∈bh/\(e.2.2.2=0\/e.2.2.2=1\/e.2.2.2=4):=by decide
 refine dg (hc i (Nat.lt_of_lt_of_eq hi hl)) λe he z1 hm hk=>?_;obtain rfl:=z1;have h1:=h e he;rw[List.getElem?_eq_getElem hi]at h1;have h2:N[e.2.2.1]=jv e.2.2.2 (V e.1 e.2.1):=by injection h1
 rw[h2]
 induction q:V e.1 e.2.1 with
 | none=>exact Py.none
 | some v=>
  have hval:=hv _ hm _ _ q;refine Py.tup (.cons Py.int (.cons ?_ .nil));dsimp only at hval;rcases hk with hk | hk | hk <;> replace hval:=hk ▸ hval <;> cases hval
  ·exact Py.int
  ·exact Py.tup (.cons Py.int (.cons Py.int .nil))
  ·exact Py.bool
theorem DD{C:List D}(hl:C.length=10)(h:∀ e∈d_,Tx C e.2.2.1 e.2.2.2 (V e.1 e.2.1)):Pys σ C 2:=by
 refine Pys.all λd hd=>?_;obtain⟨i,hi,rfl⟩:=List.getElem_of_mem hd;have hc:∀ i<10,∃ e∈d_,e.2.2.1<=i/\i<e.2.2.1+e.2.2.2:=by decide
 refine bj (hc i (Nat.lt_of_lt_of_eq hi hl)) λe he h1 h2=>?_;refine bj (h e he) λt t1 t2 t3=>?_;have h3:(cut C e.2.2.1 (e.2.2.1+e.2.2.2))[i - e.2.2.1]?=some C[i]:=by rw[pB,PW (Nat.sub_lt_sub_right h1 h2),Nat.add_sub_of_le h1];exact(List.getElem?_eq_getElem hi)
 replace h3:=(t3) ▸ h3
 induction t with
 | none=>have:=List.mem_of_getElem? h3;rw[(List.mem_replicate.mp this).2];exact Py.none
 | some s=>have:=List.mem_of_getElem? h3;refine ao (List.mem_map.mp this) λc hc e2=>?_;rw[<-e2];exact Py.sign ((t2 s rfl).2 c hc)
theorem BS(W:Wd σ w pH)(H:Md σ pH (.ref 4) V){d:Nat}{k1 k2:Int}{t1 t2:D}{fr:af}{N C:List D}(hd:26<=d)(h1:Tree k1 3 t1)(h2:Tree k2 3 t2)(P:FR fr w)(hb:aa fr (nm "before")=some (.tup [.list N,.list C]))(ht:aa fr (nm "trees")=some (.list [t1,t2]))
  (hm:σ[1]?=some (.sdict dE)) (hN:σ[2]?=some (.list N)) (hC:σ[3]?=some (.list C)) (pN:Pys σ N 2) (pC:Pys σ C 2):vO (run d) fr σ=.ok (.ret (.bool true)) σ:=by
 unfold vO;rw[ht];have e0:∀ K:D->M Flow',bnd (ac (some (D.list [t1,t2]))) K=K (.list [t1,t2]):=λ_=>rfl;rw[e0,SL.2.1];refine bj (nM W H (λfr'=>aE (ig (run d)) (λJH KU=>ret (aj JH (nm "tree") KU)) [t2] fr' λIx=>bnd (bnd (aG [bnd (ac (aa Ix (nm "memory"))) λKl=>aA Kl (nm "numeric"),bnd (ac (aa Ix (nm "memory"))) λJ5=>aA J5 (nm "characters")]) λJ6=>bnd (bnd (ac (aa Ix (nm "before"))) λJ7=>ae .Eq J6 J7) λb98=>ret (.bool b98)) λIX=>ret (.ret IX)) hd h1 P hb) λJI a1 P1 b1=>?_;refine bj (nM W H (λIx=>bnd (bnd (aG [bnd (ac (aa Ix (nm "memory"))) λKl=>aA Kl (nm "numeric"),bnd (ac (aa Ix (nm "memory"))) λJ5=>aA J5 (nm "characters")]) λJ6=>bnd (bnd (ac (aa Ix (nm "before"))) λJ7=>ae .Eq J6 J7) λb98=>ret (.bool b98)) λIX=>ret (.ret IX)) hd h2 P1 b1) λbS a2 P2 b2=>?_;have g1:aE (ig (run d)) (λJH KU=>ret (aj JH (nm "tree") KU)) [t1,t2] fr (λIx=>bnd (bnd (aG [bnd (ac (aa Ix (nm "memory"))) λKl=>aA Kl (nm "numeric"),bnd (ac (aa Ix (nm "memory"))) λJ5=>aA J5 (nm "characters")]) λJ6=>bnd (bnd (ac (aa Ix (nm "before"))) λJ7=>ae .Eq J6 J7) λb98=>ret (.bool b98)) λIX=>ret (.ret IX)) σ
   = (λIx=>bnd (bnd (aG [bnd (ac (aa Ix (nm "memory"))) λKl=>aA Kl (nm "numeric"),bnd (ac (aa Ix (nm "memory"))) λJ5=>aA J5 (nm "characters")]) λJ6=>bnd (bnd (ac (aa Ix (nm "before"))) λJ7=>ae .Eq J6 J7) λb98=>ret (.bool b98)) λIX=>ret (.ret IX)) bS σ:=by
  exact a1.trans a2
 refine g1.trans ?_;have n1:=uE hm;have n2:=uF hm;simp only[P2.memory,b2,SM,aG];rw[aB n1,aB n2,PW (Ck _ (by decide))];have q:ae .Eq (.tup [.ref 2,.ref 3]) (.tup [.list N,.list C]) σ=.ok true σ:=by
  refine Py.eq (Py.tup (.cons (Py.list pN) (.cons (Py.list pC) .nil))) (by decide) ?_ rfl;show D.tup [fJ σ (.ref 2),fJ σ (.ref 3)]=_;have d1:∀ (i:Nat) (l:List D),σ[i]?=some (.list l)->fJ σ (.ref i)=.list l:=λi l h=>by show(match σ[i]? with | some (.list l)=>D.list l | _=>.ref i)=_;rw[h]
  simp only[d1 2 N hN,d1 3 C hC]
 rw[aB q];rfl
noncomputable def zN(Iu:D):M D:=bnd (bnd (bt Iu .none (.int 24)) λt2=>bnd (a_ t2) λl3=>aJ (λd4 Jn=>bnd (bnd (au (nm "abs") [d4]) λt6=>bnd (ag .Pow (.int 10) (.int 60)) λt7=>ag .Mod t6 t7) λt8=>if am (Jn).length then ret (Jn++[t8]) else stuck) l3 []) λl1=>bnd (ef (.list l1)) λi=>ret (.ref i)
noncomputable def uK(call:Str->List D->M D)(t9:D):M D:=bnd (bnd (a_ (.tup [(.int 0),(.int 1)])) λKM=>aJ (λPM JU=>bnd (bnd (ah [ret t9,bnd (call (nm "_law_take") [t9,(.int 4)]) λI6=>subD (.tup [(.int 4),(.int 0),(.int 1),(.int 5)]) I6,ret (.int 3)]) λKv=>call (nm "_law_tree") Kv) λIO=>if am (JU).length then ret (JU++[IO]) else stuck) KM []) λKw=>ret (.list Kw)
noncomputable def zO(call:Str->List D->M D)(t9:D):M D:=bnd (call (nm "_law_take") [t9,(.int 3)]) λIZ=>subD (.tup [(.int 8),(.int 5),(.int 12)]) IZ
theorem DE{call:Str->List D->M D}{s:D}:Cg call s=bnd (zN s) λt9=>bnd (uK call t9) λIH=>bnd (zO call t9) λI0=>bnd (bO call (.fn (nm "Memory")) [(.int 12),(.int 10)]) λI7=>bnd (call (nm "_law_fill") [t9,I7]) λJz=>BP call s t9 IH I0 I7 Jz:=by kernel_rfl
theorem nN:∀ (l:List Int) (acc:List D),acc.length+l.length<=30 →
  aJ (λd4 Jn=>bnd (bnd (au (nm "abs") [d4]) λt6=>bnd (ag .Pow (.int 10) (.int 60)) λt7=>ag .Mod t6 t7) λt8=>if am (Jn).length then ret (Jn++[t8]) else stuck) (l.map D.int) acc=ret (acc++l.map λn=>D.int ((n.natAbs:Int).fmod (10 ^ 60)))
 | [],acc,_=>by simp[aJ]
 | n::l,acc,h=>by
  have hz:¬ (10:Int) ^ (60:Int).toNat=0:=lL _;simp[List.map_cons,aJ];have e:∀ K:List D->M (List D),bnd (bnd (bnd (au (nm "abs") [D.int n]) λt6=>bnd (ag .Pow (.int 10) (.int 60)) λt7=>ag .Mod t6 t7) λt8=>if am (acc).length then ret (acc++[t8]) else stuck) K=K (acc++[D.int ((n.natAbs:Int).fmod (10 ^ 60))]):=λK=>by simp only[SM,SB,SI,mJ,hz,Ck acc (by simp at h;lia),show(0:Int)<=60 from by decide,show(60:Int)<=4000 from by decide,and_self,if_true,ne_eq,not_false_eq_true];rfl
  simp only[e,nN l (acc++[D.int ((n.natAbs:Int).fmod (10 ^ 60))]) (by simp at h ⊢;lia)];simp
theorem BU{ns:List Int}(h:ns.length<=63):∃ ms:List Int,zN (.list (ns.map .int)) []=.ok (.ref 0) [.list (ms.map .int)]/\Pool 0 [.list (ms.map .int)]:=by
 refine⟨(ns.take 24).map λn=>(n.natAbs:Int).fmod (10 ^ 60), ?_,_,rfl,by simp;lia,λm hm=>?_⟩
 ·have e1:bt (.list (ns.map .int)) .none (.int 24)=ret (.list ((ns.take 24).map .int)):=by
   have lo:am (ns.map D.int).length=true:=by unfold am;simp;lia
   refine PV (PW lo) ?_;show ret (D.list (cut (ns.map D.int) 0 (min (24:Int).toNat (ns.map D.int).length)))=_;have:cut (ns.map D.int) 0 (min (24:Int).toNat (ns.map D.int).length)=(ns.take 24).map .int:=by
    unfold cut;simp only[List.drop_zero,Nat.sub_zero,List.map_take,List.length_map];rw[show(24:Int).toNat=24 from rfl];refine PU (Nat.le_total 24 ns.length) (λq=>?_) λq=>?_
    ·rw[Nat.min_eq_left q]
    ·rw[Nat.min_eq_right q,List.take_of_length_le (by simp),List.take_of_length_le (by simpa using q)]
   rw[this]
  unfold zN;simp only[e1,rb,SL];rw[nN (ns.take 24) [] (by simp;lia)];simp only[rb,List.nil_append];exact List.map_map ▸ rfl
 ·refine ao (List.mem_map.mp hm) λn _ z1=>?_;obtain rfl:=z1;have p:(0:Int)<10 ^ 60:=Int.pow_pos (by decide);exact⟨Int.fmod_nonneg_of_pos _ p,Int.fmod_lt_of_pos _ p⟩
theorem BV{j:Int}(h0:0<=j)(h1:j<4):∃ k:Int,(k=0\/k=1\/k=4\/k=5)/\subD (.tup [(.int 4),(.int 0),(.int 1),(.int 5)]) (.int j)=ret (.int k):=by
 obtain rfl | rfl | rfl | rfl:=Er (j:=j) (by assumption) (by assumption)
 ·exact⟨4,by decide,rfl⟩
 ·exact⟨0,by decide,rfl⟩
 ·exact⟨1,by decide,rfl⟩
 ·exact⟨5,by decide,rfl⟩
theorem sj{d:Nat}(hd:9<=d)(acc:List D)(hl:acc.length<=5):Gen 0 (bnd (bnd (ah [ret (.ref 0),bnd (run d (nm "_law_take") [.ref 0,(.int 4)]) λI6=>subD (.tup [(.int 4),(.int 0),(.int 1),(.int 5)]) I6,ret (.int 3)]) λKv=>run d (nm "_law_tree") Kv) λIO=>if am (acc).length then ret (acc++[IO]) else stuck) (λl=>∃ k t,l=acc++[t]/\Tree k 3 t):=by simp[SM,Ck acc (by lia),if_true];refine Gen.bnd (dX (by lia) (by decide) (by decide)) λv hv=>?_;refine bj hv λj z2 j0 j1=>?_;obtain rfl:=z2;refine ao (BV j0 j1) λk hk e=>?_;simp only[e,SM];refine Gen.bnd (vE 3 d k (by omega) hk) λt ht=>?_;exact Gen.ret ⟨k,t,rfl,ht⟩
theorem zP{d:Nat}(hd:9<=d):Gen 0 (uK (run d) (.ref 0)) (λv=>∃ k1 t1 k2 t2,v=.list [t1,t2]/\Tree k1 3 t1/\Tree k2 3 t2):=by
 unfold uK;simp only[SL,rb,aJ];refine Gen.bnd (P:=λl=>∃ k1 t1 k2 t2,l=[t1,t2]/\Tree k1 3 t1/\Tree k2 3 t2) (Gen.bnd (sj hd [] (by simp)) λl1 hl1=>?_) λl hl=>?_
 ·refine aI hl1 λk1 t1 z3 h1=>?_;obtain rfl:=z3;refine Gen.bnd (sj hd ([]++[t1]) (by simp)) λl2 hl2=>?_;refine aI hl2 λk2 t2 z4 h2=>?_;exact z4 ▸ (Gen.ret ⟨k1,t1,k2,t2,rfl,h1,h2⟩)
 ·refine zW hl λk1 t1 k2 t2 z5 h1 h2=>?_;exact z5 ▸ (Gen.ret ⟨k1,t1,k2,t2,rfl,h1,h2⟩)
theorem zQ{d:Nat}(hd:1<=d):Gen 0 (zO (run d) (.ref 0)) (λv=>∃ w:Int,v=.int w/\5<=w/\w<=12):=by
 refine Gen.bnd (dX (by omega) (by decide) (by decide)) λv hv=>?_;refine bj hv λj z6 j0 j1=>?_;obtain rfl:=z6;obtain rfl | rfl | rfl:=Fz (j:=j) (by assumption) (by assumption)
 ·exact Gen.ret (P:=λv=>∃ w:Int,v=D.int w/\5<=w/\w<=12) ⟨8,rfl,by decide,by decide⟩
 ·exact Gen.ret (P:=λv=>∃ w:Int,v=D.int w/\5<=w/\w<=12) ⟨5,rfl,by decide,by lia⟩
 ·exact Gen.ret (P:=λv=>∃ w:Int,v=D.int w/\5<=w/\w<=12) ⟨12,rfl,by lia,by assumption⟩
theorem xp(d:Nat)(c0:Cell):bO (run (d+2)) (.fn (nm "Memory")) [.int 12,.int 10] [c0]=.ok eO [c0,.sdict dE,.list (List.replicate 12 .none),.list (List.replicate 10 .none)]:=by kernel_rfl
theorem zR{c:Cell}{σ:St}(h:Same 0 [c] σ):∃ c',σ=[c']:=by
 have:=h.1
 match σ,this with
 | [c'],_=>exact⟨c',rfl⟩
theorem zS(d:Nat)(script trees:D)(w:Int)(c0 c4 c5 c6 c7 c8 c9 IR Jg Jv:Cell){N C:List D}(hN:N.length=12)(hC:C.length=10) :
  BP (run (d+4)) script (.ref 0) trees (.int w) eO (.ref 4) [c0,.sdict dE,.list N,.list C,c4,c5,c6,c7,c8,c9,IR,Jg,Jv]
  = vO (run (d+4)) (Fg script trees w N C) ([c0,.sdict dE,.list N,.list C,c4,c5,c6,c7,c8,c9,IR,Jg,Jv]++more w):=by
 refine bp (Ey hN) λm0 m1 m2 m3 z8=>?_;refine bp z8 λm4 m5 m6 m7 z9=>?_;refine bp z9 λm8 m9 m10 m11 z7=>?_;rw[z7];refine bp (Ez hC) λb0 b1 b2 b3 z11=>?_;refine uN z11 λb4 b5 b6 b7 b8 b9 z10=>?_;obtain rfl:=z10;exact BQ ..
theorem BW{σ:St}{x y z:Cell}(hl:σ.length=13)(h1:σ[1]?=some x)(h2:σ[2]?=some y)(h3:σ[3]?=some z):∃ a0 a4 a5 a6 a7 a8 a9 a10 a11 a12,σ=[a0,x,y,z,a4,a5,a6,a7,a8,a9,a10,a11,a12]:=by refine bp (Ex hl) λa0 a1 a2 a3 z13=>?_;refine bp z13 λa4 a5 a6 a7 z14=>?_;refine xv z14 λa8 a9 a10 a11 a12 z12=>?_;obtain rfl:=z12;simp only[<-PY h1,<-PY h2,<-PY h3];exact⟨_,_,_,_,_,_,_,_,_,_,rfl⟩
theorem BX{d:Nat}{ns:List Int}(h:ns.length<=63):∃ σ,ti (d+31) ns=.ok (.bool true) σ:=by unfold ti;simp only[show d+31=(d+26+4)+1 from rfl,Em,DE];refine ao (BU h) λms e1 p1=>?_;refine aH (zP (d:=d+26+4) (by lia) _ p1) λv σ1 e2 z15 p2 s2=>?_;obtain⟨k1,t1,k2,t2,rfl,ht1,ht2⟩:=z15;refine aH (zQ (d:=d+26+4) (by lia) _ p2) λv σ2 e3 z16 p3 s3=>?_;obtain⟨w,rfl,w5,w12⟩:=z16;obtain⟨c0,rfl⟩:=zR (s2.trans s3);refine aI (BR (d:=d+26+4) (c0:=c0) (by lia) p3) λσ3 V e5 hF=>?_;refine bj hF.num λN n1 n2 n3=>?_;refine bj hF.txt λC q1 q2 q3=>?_;have hm:=hF.mem;refine bp (BW hF.len hm n1 q1) λa0 a4 a5 a6 z18=>?_;refine uN z18 λa7 a8 a9 a10 a11 a12 z17=>?_;obtain rfl:=z17;have W:=EA w5 w12 a0 (.sdict dE) (.list N) (.list C) a4 a5 a6 a7 a8 a9 a10 a11 a12;have H:=EB (w:=w) hF;have hl:=BS W H (d:=d+26+4) (fr:=Fg (.list (ns.map .int)) (.list [t1,t2]) w N C) (by lia) ht1 ht2 ⟨by kernel_rfl,by kernel_rfl,by kernel_rfl,by kernel_rfl⟩ (by kernel_rfl) (by kernel_rfl) (by kernel_rfl) (by kernel_rfl) (by kernel_rfl) (DC n2 n3 hF.val) (DD q2 q3);rw[<-zS _ _ _ _ _ _ _ _ _ _ _ _ _ _ n2 q2]at hl;refine⟨[a0,.sdict dE,.list N,.list C,a4,a5,a6,a7,a8,a9,a10,a11,a12]++more w, ?_⟩;rw[fe,aB e1,fe,aB e2,fe,aB e3,fe,aB (xp (d+26+2) c0),fe,aB e5];show bnd (BP _ _ _ _ _ _ _) _ _=_;rw[aB hl];rfl
theorem holds:rw'.Holds:=wH 40 (by lia) λns h=>BX (d:=10) h
end
end Mine
end
theorem PySem.Challenge.cw_no0284_01_holds : PySem.Challenge.rw_no0284_01.Holds :=
  Mine.holds
