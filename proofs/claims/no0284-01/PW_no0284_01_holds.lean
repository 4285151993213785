import PyProof.Rows.All
import Wide.All
import OpenK.AllK
import Wide.FinOn
import PySem.Challenge.RW_no0284_01
set_option Elab.async false
set_option maxRecDepth 100000
set_option linter.unusedVariables false
set_option linter.unusedSimpArgs false
set_option compiler.extract_closed false
set_option tactic.hygienic false
noncomputable section
namespace Mine
theorem PQ {a b c : Nat} (h : a ≤ b) (k : b ≤ c) : a ≤ c := Nat.le_trans h k
theorem PR {a b c : Nat} (h : a < b) (k : b ≤ c) : a < c := Nat.lt_of_lt_of_le h k
theorem PS {a b c : Nat} (h : a ≤ b) (k : b < c) : a < c := Nat.lt_of_le_of_lt h k
theorem PT {a b : Nat} (h : a = b) : a ≤ b := Nat.le_of_eq h
theorem PU {α : Sort _} {p : α → Prop} {b : Prop} (h : ∃ x, p x) (k : ∀ a, p a → b) : b := Exists.elim h k
theorem PV {a b c : Prop} (f : a → b → c) (h : a ∧ b) : c := f h.1 h.2
theorem PW {a b c : Prop} (h : a ∨ b) (k : a → c) (l : b → c) : c := Or.elim h k l
theorem PX {α : Sort _} {a b c : α} (h : a = b) (k : b = c) : a = c := Eq.trans h k
theorem PY {c : Prop} {h : Decidable c} (hc : c) {α : Sort _} {t e : α} : ite c t e = t := if_pos hc
theorem PZ {c : Prop} {h : Decidable c} (hc : ¬c) {α : Sort _} {t e : α} : ite c t e = e := if_neg hc
theorem P7 {α : Type _} {a b : α} (h : some a = some b) : a = b := Option.some.inj h
theorem P8 {x y : Bool} (h : (x && y) = true) : x = true ∧ y = true := Bool.and_eq_true_iff.mp h
theorem P9 {α : Type _} {a b : α} {l : List α} (h : a ∈ b :: l) : a = b ∨ a ∈ l := List.mem_cons.mp h
theorem P_ (p : Prop) : p ∨ ¬p := Classical.em p
theorem jb{P0:Prop}{P1:Prop}{P2:Prop}{g:Prop}(h:P0/\P1/\P2)(k:P0->P1->P2->g):g:=by obtain⟨h0,h1,h2⟩:=h;exact k h0 h1 h2
theorem FN{A0:Sort _}{P0:Prop}{P1:A0->Prop}{g:Prop}(h:P0/\(∃ a0,P1 a0))(k:P0->∀ a0,P1 a0->g):g:=by obtain⟨h0,a0,h2⟩:=h;exact k h0 a0 h2
theorem am{A0:Sort _}{P0:A0->Prop}{P1:A0->Prop}{g:Prop}(h:∃ a0,P0 a0/\P1 a0)(k:∀ a0,P0 a0->P1 a0->g):g:=by obtain⟨a0,h1,h2⟩:=h;exact k a0 h1 h2
theorem gD{A0:Sort _}{A1:Sort _}{P0:A0->A1->Prop}{g:Prop}(h:∃ a0,∃ a1,P0 a0 a1)(k:∀ a0,∀ a1,P0 a0 a1->g):g:=by obtain⟨a0,a1,h2⟩:=h;exact k a0 a1 h2
theorem cO{P0:Prop}{P1:Prop}{P2:Prop}{P3:Prop}{g:Prop}(h:P0/\P1/\P2/\P3)(k:P0->P1->P2->P3->g):g:=by obtain⟨h0,h1,h2,h3⟩:=h;exact k h0 h1 h2 h3
theorem bk{A0:Sort _}{P0:A0->Prop}{P1:A0->Prop}{P2:A0->Prop}{g:Prop}(h:∃ a0,P0 a0/\P1 a0/\P2 a0)(k:∀ a0,P0 a0->P1 a0->P2 a0->g):g:=by obtain⟨a0,h1,h2,h3⟩:=h;exact k a0 h1 h2 h3
theorem zY{A0:Sort _}{A1:Sort _}{P0:A0->Prop}{P1:A0->A1->Prop}{g:Prop}(h:∃ a0,P0 a0/\(∃ a1,P1 a0 a1))(k:∀ a0,P0 a0->∀ a1,P1 a0 a1->g):g:=by obtain⟨a0,h1,a1,h3⟩:=h;exact k a0 h1 a1 h3
theorem aJ{A0:Sort _}{A1:Sort _}{P0:A0->A1->Prop}{P1:A0->A1->Prop}{g:Prop}(h:∃ a0,∃ a1,P0 a0 a1/\P1 a0 a1)(k:∀ a0,∀ a1,P0 a0 a1->P1 a0 a1->g):g:=by obtain⟨a0,a1,h2,h3⟩:=h;exact k a0 a1 h2 h3
theorem eO{A0:Sort _}{A1:Sort _}{A2:Sort _}{P0:A0->A1->A2->Prop}{g:Prop}(h:∃ a0,∃ a1,∃ a2,P0 a0 a1 a2)(k:∀ a0,∀ a1,∀ a2,P0 a0 a1 a2->g):g:=by obtain⟨a0,a1,a2,h3⟩:=h;exact k a0 a1 a2 h3
theorem bp{P0:Prop}{P1:Prop}{P2:Prop}{P3:Prop}{P4:Prop}{g:Prop}(h:P0/\P1/\P2/\P3/\P4)(k:P0->P1->P2->P3->P4->g):g:=by obtain⟨h0,h1,h2,h3,h4⟩:=h;exact k h0 h1 h2 h3 h4
theorem pF{A0:Sort _}{A1:Sort _}{P0:Prop}{P1:A0->A1->Prop}{P2:A0->A1->Prop}{g:Prop}(h:P0/\(∃ a0,∃ a1,P1 a0 a1/\P2 a0 a1))(k:P0->∀ a0,∀ a1,P1 a0 a1->P2 a0 a1->g):g:=by obtain⟨h0,a0,a1,h3,h4⟩:=h;exact k h0 a0 a1 h3 h4
theorem DL{A0:Sort _}{A1:Sort _}{A2:Sort _}{P0:Prop}{P1:A0->A1->A2->Prop}{g:Prop}(h:P0/\(∃ a0,∃ a1,∃ a2,P1 a0 a1 a2))(k:P0->∀ a0,∀ a1,∀ a2,P1 a0 a1 a2->g):g:=by obtain⟨h0,a0,a1,a2,h4⟩:=h;exact k h0 a0 a1 a2 h4
theorem dj{A0:Sort _}{P0:A0->Prop}{P1:A0->Prop}{P2:A0->Prop}{P3:A0->Prop}{g:Prop}(h:∃ a0,P0 a0/\P1 a0/\P2 a0/\P3 a0)(k:∀ a0,P0 a0->P1 a0->P2 a0->P3 a0->g):g:=by obtain⟨a0,h1,h2,h3,h4⟩:=h;exact k a0 h1 h2 h3 h4
theorem DM{A0:Sort _}{A1:Sort _}{P0:A0->Prop}{P1:A0->Prop}{P2:A0->A1->Prop}{g:Prop}(h:∃ a0,P0 a0/\P1 a0/\(∃ a1,P2 a0 a1))(k:∀ a0,P0 a0->P1 a0->∀ a1,P2 a0 a1->g):g:=by obtain⟨a0,h1,h2,a1,h4⟩:=h;exact k a0 h1 h2 a1 h4
theorem ar{A0:Sort _}{A1:Sort _}{P0:A0->A1->Prop}{P1:A0->A1->Prop}{P2:A0->A1->Prop}{g:Prop}(h:∃ a0,∃ a1,P0 a0 a1/\P1 a0 a1/\P2 a0 a1)(k:∀ a0,∀ a1,P0 a0 a1->P1 a0 a1->P2 a0 a1->g):g:=by obtain⟨a0,a1,h2,h3,h4⟩:=h;exact k a0 a1 h2 h3 h4
theorem uK{A0:Sort _}{A1:Sort _}{A2:Sort _}{P0:A0->A1->A2->Prop}{P1:A0->A1->A2->Prop}{g:Prop}(h:∃ a0,∃ a1,∃ a2,P0 a0 a1 a2/\P1 a0 a1 a2)(k:∀ a0,∀ a1,∀ a2,P0 a0 a1 a2->P1 a0 a1 a2->g):g:=by obtain⟨a0,a1,a2,h3,h4⟩:=h;exact k a0 a1 a2 h3 h4
theorem bq{A0:Sort _}{A1:Sort _}{A2:Sort _}{A3:Sort _}{P0:A0->A1->A2->A3->Prop}{g:Prop}(h:∃ a0,∃ a1,∃ a2,∃ a3,P0 a0 a1 a2 a3)(k:∀ a0,∀ a1,∀ a2,∀ a3,P0 a0 a1 a2 a3->g):g:=by obtain⟨a0,a1,a2,a3,h4⟩:=h;exact k a0 a1 a2 a3 h4
theorem gX{P0:Prop}{P1:Prop}{P2:Prop}{P3:Prop}{P4:Prop}{P5:Prop}{g:Prop}(h:P0/\P1/\P2/\P3/\P4/\P5)(k:P0->P1->P2->P3->P4->P5->g):g:=by obtain⟨h0,h1,h2,h3,h4,h5⟩:=h;exact k h0 h1 h2 h3 h4 h5
theorem Cr{A0:Sort _}{A1:Sort _}{P0:Prop}{P1:Prop}{P2:A0->A1->Prop}{P3:A0->A1->Prop}{g:Prop}(h:P0/\P1/\(∃ a0,∃ a1,P2 a0 a1/\P3 a0 a1))(k:P0->P1->∀ a0,∀ a1,P2 a0 a1->P3 a0 a1->g):g:=by obtain⟨h0,h1,a0,a1,h4,h5⟩:=h;exact k h0 h1 a0 a1 h4 h5
theorem sq{A0:Sort _}{A1:Sort _}{P0:Prop}{P1:A0->A1->Prop}{P2:A0->A1->Prop}{P3:A0->A1->Prop}{g:Prop}(h:P0/\(∃ a0,∃ a1,P1 a0 a1/\P2 a0 a1/\P3 a0 a1))(k:P0->∀ a0,∀ a1,P1 a0 a1->P2 a0 a1->P3 a0 a1->g):g:=by obtain⟨h0,a0,a1,h3,h4,h5⟩:=h;exact k h0 a0 a1 h3 h4 h5
theorem aH{A0:Sort _}{A1:Sort _}{P0:A0->A1->Prop}{P1:A0->A1->Prop}{P2:A0->A1->Prop}{P3:A0->A1->Prop}{g:Prop}(h:∃ a0,∃ a1,P0 a0 a1/\P1 a0 a1/\P2 a0 a1/\P3 a0 a1)(k:∀ a0,∀ a1,P0 a0 a1->P1 a0 a1->P2 a0 a1->P3 a0 a1->g):g:=by obtain⟨a0,a1,h2,h3,h4,h5⟩:=h;exact k a0 a1 h2 h3 h4 h5
theorem bA{A0:Sort _}{A1:Sort _}{A2:Sort _}{P0:A0->A1->A2->Prop}{P1:A0->A1->A2->Prop}{P2:A0->A1->A2->Prop}{g:Prop}(h:∃ a0,∃ a1,∃ a2,P0 a0 a1 a2/\P1 a0 a1 a2/\P2 a0 a1 a2)(k:∀ a0,∀ a1,∀ a2,P0 a0 a1 a2->P1 a0 a1 a2->P2 a0 a1 a2->g):g:=by obtain⟨a0,a1,a2,h3,h4,h5⟩:=h;exact k a0 a1 a2 h3 h4 h5
theorem sr{A0:Sort _}{A1:Sort _}{A2:Sort _}{A3:Sort _}{P0:A0->A1->A2->A3->Prop}{P1:A0->A1->A2->A3->Prop}{g:Prop}(h:∃ a0,∃ a1,∃ a2,∃ a3,P0 a0 a1 a2 a3/\P1 a0 a1 a2 a3)(k:∀ a0,∀ a1,∀ a2,∀ a3,P0 a0 a1 a2 a3->P1 a0 a1 a2 a3->g):g:=by obtain⟨a0,a1,a2,a3,h4,h5⟩:=h;exact k a0 a1 a2 a3 h4 h5
theorem xu{A0:Sort _}{A1:Sort _}{A2:Sort _}{A3:Sort _}{A4:Sort _}{P0:A0->A1->A2->A3->A4->Prop}{g:Prop}(h:∃ a0,∃ a1,∃ a2,∃ a3,∃ a4,P0 a0 a1 a2 a3 a4)(k:∀ a0,∀ a1,∀ a2,∀ a3,∀ a4,P0 a0 a1 a2 a3 a4->g):g:=by obtain⟨a0,a1,a2,a3,a4,h5⟩:=h;exact k a0 a1 a2 a3 a4 h5
theorem uL{P0:Prop}{P1:Prop}{P2:Prop}{P3:Prop}{P4:Prop}{P5:Prop}{P6:Prop}{g:Prop}(h:P0/\P1/\P2/\P3/\P4/\P5/\P6)(k:P0->P1->P2->P3->P4->P5->P6->g):g:=by obtain⟨h0,h1,h2,h3,h4,h5,h6⟩:=h;exact k h0 h1 h2 h3 h4 h5 h6
theorem dM{A0:Sort _}{A1:Sort _}{P0:A0->A1->Prop}{P1:A0->A1->Prop}{P2:A0->A1->Prop}{P3:A0->A1->Prop}{P4:A0->A1->Prop}{g:Prop}(h:∃ a0,∃ a1,P0 a0 a1/\P1 a0 a1/\P2 a0 a1/\P3 a0 a1/\P4 a0 a1)(k:∀ a0,∀ a1,P0 a0 a1->P1 a0 a1->P2 a0 a1->P3 a0 a1->P4 a0 a1->g):g:=by obtain⟨a0,a1,h2,h3,h4,h5,h6⟩:=h;exact k a0 a1 h2 h3 h4 h5 h6
theorem iq{A0:Sort _}{A1:Sort _}{A2:Sort _}{P0:A0->A1->A2->Prop}{P1:A0->A1->A2->Prop}{P2:A0->A1->A2->Prop}{P3:A0->A1->A2->Prop}{g:Prop}(h:∃ a0,∃ a1,∃ a2,P0 a0 a1 a2/\P1 a0 a1 a2/\P2 a0 a1 a2/\P3 a0 a1 a2)(k:∀ a0,∀ a1,∀ a2,P0 a0 a1 a2->P1 a0 a1 a2->P2 a0 a1 a2->P3 a0 a1 a2->g):g:=by obtain⟨a0,a1,a2,h3,h4,h5,h6⟩:=h;exact k a0 a1 a2 h3 h4 h5 h6
theorem zZ{A0:Sort _}{A1:Sort _}{A2:Sort _}{A3:Sort _}{P0:A0->A1->A2->A3->Prop}{P1:A0->A1->A2->A3->Prop}{P2:A0->A1->A2->A3->Prop}{g:Prop}(h:∃ a0,∃ a1,∃ a2,∃ a3,P0 a0 a1 a2 a3/\P1 a0 a1 a2 a3/\P2 a0 a1 a2 a3)(k:∀ a0,∀ a1,∀ a2,∀ a3,P0 a0 a1 a2 a3->P1 a0 a1 a2 a3->P2 a0 a1 a2 a3->g):g:=by obtain⟨a0,a1,a2,a3,h4,h5,h6⟩:=h;exact k a0 a1 a2 a3 h4 h5 h6
theorem uM{A0:Sort _}{A1:Sort _}{A2:Sort _}{A3:Sort _}{A4:Sort _}{A5:Sort _}{P0:A0->A1->A2->A3->A4->A5->Prop}{g:Prop}(h:∃ a0,∃ a1,∃ a2,∃ a3,∃ a4,∃ a5,P0 a0 a1 a2 a3 a4 a5)(k:∀ a0,∀ a1,∀ a2,∀ a3,∀ a4,∀ a5,P0 a0 a1 a2 a3 a4 a5->g):g:=by obtain⟨a0,a1,a2,a3,a4,a5,h6⟩:=h;exact k a0 a1 a2 a3 a4 a5 h6
theorem du{α:Type _}{a:α}{g:Prop}(h:none=some a):g:=by cases h
theorem DN{α:Type _}{a:α}{g:Prop}(h:some a=none):g:=by cases h
theorem fD{g:Prop}(h:false=true):g:=absurd h Bool.false_ne_true
theorem xv{α:Type _}{a:α}:a∉([]:List α):=List.not_mem_nil
theorem cP{α:Type _}{P:α->Prop}:∀ b∈([]:List α),P b:=λ_ q=>absurd q List.not_mem_nil
theorem z_{α:Type _}{a b:α}(h:a≠b):a∉[b]:=λq=>h (List.mem_singleton.mp q)
theorem vO{α:Type _}{a b c:α}{g:Prop}(h:a∈[b,c])(k:a=b->g)(k':a=c->g):g:=(P9 h).elim k λq=>k' (List.mem_singleton.mp q)
end Mine
end
noncomputable section
namespace Mine
open PySem PySem.W PySem.Calls PyProof.Rows
section
abbrev pw:Program:=PySem.Challenge.pw_no0284_01
noncomputable def S(x:String)(t:Nat):Value:=.str (Str.ofString x) t
noncomputable def I(i:Int):Value:=.int i 0
noncomputable def gE(c:Value)(l:List Value):Obj:=⟨c,none,.seq l.toArray 0,#[]⟩
noncomputable def aA(c:Value)(l:List Value):Obj:=⟨c,none,.fields l.toArray,#[]⟩
noncomputable def Cs(P:Params):Value->Int
 | .str x _=>PyData.keyHash P x
 | _=>0
noncomputable def dz(c:Value)(P:Params)(l:List (Value×Value))(n:Nat):Obj:=⟨c,none,.dict (l.map λe=>⟨Cs P e.1,e.1,e.2⟩).toArray n,#[]⟩
noncomputable def jL(c:Value)(d:Option Addr)(sl:List (Option Value)):Obj:=⟨c,d,.plain,sl.toArray⟩
noncomputable def kf(c:Value)(sl:List (Option Value))(nm:String)(bases mro:List Value)(ns:Addr)(qn:String)(hd:Bool)(sn:List String)(sub:List Value)(ab:Bool)(co:Option Bool)(dl:Bool):Obj:=
 ⟨c,none,.cls { name:=Str.ofString nm,bases,mro,ns,qualname:=Str.ofString qn,hasDict:=hd,slotNames:=sn.map Str.ofString,subclasses:=sub,abstract:=ab,collection:=co,hasDel:=dl },sl.toArray⟩
noncomputable def xw:Option Stmt->Option (Arguments×List Stmt×Scope)
 | some (.FunctionDef _ a b _ _ _ sc _ _ _)=>some (a,b,sc)
 | _=>none
noncomputable def fG(i:Nat):Nat->Option (Arguments×List Stmt×Scope)
 | 0=>xw pw.main.body[i]?
 | j+1=>match pw.main.body[i]? with
  | some (.ClassDef (body:=b) ..)=>xw b[j]?
  | _=>none
noncomputable def ir:Arguments×List Stmt×Scope:=(⟨[],[],none,[],[],none,[]⟩,[],⟨.function,[],false,false,[]⟩)
noncomputable def cL(c:Value)(nm qn:String)(i j:Nat)(g:Addr)(dv kv doc pm:Value)(an:Option Addr)(cd ct:Value)(b:Addr):Obj:=
 ⟨c,none,.func { name:=Str.ofString nm,qualname:=Str.ofString qn,params:=((fG i j).getD ir).1,body:=.stmts ((fG i j).getD ir).2.1,scope:=((fG i j).getD ir).2.2,globals:=g,closure:=[],defaults:=dv,kwdefaults:=kv,doc:=doc,pyModule:=pm,annotations:=an,code:=cd,closureTuple:=ct,builtins:=b },#[]⟩
noncomputable def gG:List (Nat×Obj)->BT->BT
 | [],t=>t
 | (i,o)::r,t=>gG r (t.ins i o)
noncomputable def gH:Env:={ scope:=pw.main.scope,locals:=mainNs,globals:=mainNs,cells:=[],code:=.ref 13,frame:=some 14 }
noncomputable def cE:Code:=.body (behindTheImports pw) gH
noncomputable def m0:Nat:=11
noncomputable def mK:Option Value:=some (.ref 6)
noncomputable def sT(t:BT)(n tk:Nat)(os:OsState):SharedT:=⟨t,n,{},#[],{},tk,os⟩
noncomputable def aO(i n:Nat):List Stmt:=(pw.main.body.drop i).take n
theorem cQ:@segRunT=PySem.W.Fast.tw10110043849684766642:=PySem.W.Fast.te10110043849684766642
theorem cR:treeTable=PySem.W.Fast.tw14364793385576792824:=PySem.W.Fast.te14364793385576792824
noncomputable def e0:Obj:=gE (.type "tuple") []
noncomputable def e1:Obj:=aA .none []
noncomputable def Ft:Nat->List String->List Value
 | _,[]=>[]
 | n,x::r=>S x n::Ft (n+1) r
noncomputable def tq(n:Nat)(l:List String):Obj:=gE (.type "tuple") (Ft n l)
noncomputable def fs(A:Nat)(x:String)(i j l n t:Nat)(vs:List String)(m:String)(mt:Nat):List Obj:=[e0,e1,tq (t+3) vs,e0,cL .none x x i j 0 .none .none .none .none none .none .none 0,
 aA (.type "code") [S x t,S x (t+1),S "/claim/cut.py" (t+2),I l,I n,I 0,I 0,I 3,.ref A,.bool true,I 181,.ref (A+1),.none,.ref (A+2),.ref (A+3),.ref (A+4),I (t+3+vs.length:Nat),I l,S "/claim/cut.py" (t+4+vs.length)],
 cL (.type "function") x x i j 3 .none .none .none (S m mt) none (.ref (A+5)) .none 0]
noncomputable def nb:Nat->List Obj->List (Nat×Obj)
 | _,[]=>[]
 | n,o::r=>(n,o)::nb (n+1) r
noncomputable def gr(x:String)(t a:Nat):Value×Value:=(S x t,.ref a)
noncomputable def gents:List (Value×Value):=[((S "__doc__" 166),.none),((S "__package__" 167),.none),((S "__loader__" 168),(.builtin "__main__.__loader__#opaque")),((S "__spec__" 169),.none),gr "__annotations__" 170 6,gr "__builtins__" 171 4,((S "__file__" 173),(S "/claim/cut.py" 172)),((S "__cached__" 174),.none),gr "_wall" 193 21,gr "F77Error" 224 38,gr "RunFault" 240 51,((S "INTEGER" 244),(.int 0 243)),((S "REAL" 246),(.int 1 245)),((S "DOUBLE" 248),(.int 2 247)),((S "COMPLEX" 250),(.int 3 249)),((S "LOGICAL" 252),(.int 4 251)),((S "CHARACTER" 254),(.int 5 253)),gr "units_of" 261 60,((S "SECOND" 265),(.int 6 264)),gr "Memory" 321 98,gr "need_units" 330 109,gr "read_cell" 340 116,gr "load_number" 350 123,gr "store_number" 360 130,gr "load_text" 370 137,gr "store_text" 380 144,gr "pad" 388 151,gr "unit_size" 396 158,gr "element_place" 413 165,gr "sub_place" 424 172,gr "fit_int" 435 179,gr "int_add" 444 186,gr "int_sub" 453 193,gr "int_mul" 462 200,gr "cut_quotient" 471 207,gr "int_div" 480 214,gr "inverse_power" 488 221,gr "int_power" 499 228,gr "order_of" 507 235,gr "holds" 515 242,gr "int_binary" 526 249,gr "logic_binary" 537 256,gr "NOUGHT" 542 257,((S "GUARD" 544),(.int 8 543)),((S "EXACT_POWER" 546),(.int 64 545)),gr "count_digits" 554 264,gr "strip_zeros" 562 271,gr "round_digits" 575 278,gr "round_real" 586 285,gr "exact_add" 595 292,gr "exact_mul" 603 299,gr "real_neg" 610 306,gr "quotient" 624 313,gr "real_add" 636 320,gr "real_sub" 648 327,gr "real_mul" 660 334,gr "real_div" 672 341,gr "real_compare" 681 348,gr "real_of_int" 690 355,gr "real_to_int" 700 362,gr "raised" 710 369,gr "real_power" 722 376,gr "digits_of" 730 383,gr "real_binary" 743 390,gr "ONE" 750 393,((S "EXACT_COMPLEX_POWER" 752),(.int 16 751)),gr "round_parts" 761 400,gr "complex_add" 771 407,gr "complex_neg" 778 414,gr "complex_sub" 788 421,gr "exact_product" 797 428,gr "complex_mul" 807 435,gr "complex_div" 821 442,gr "guarded_product" 832 449,gr "complex_raised" 843 456,gr "complex_power" 854 463,gr "complex_binary" 867 470,gr "collate" 878 477,gr "text_binary" 889 484,gr "all_operations" 895 491,gr "unary" 905 498,gr "real_as" 916 505,gr "convert" 926 512,gr "Run" 976 529,gr "evaluate" 984 540,gr "named_place" 993 547,gr "bound_of" 1001 554,gr "part_place" 1011 561,gr "place_of" 1017 566,gr "eval_const" 1025 573,gr "eval_place" 1033 580,gr "eval_conv" 1041 587,gr "eval_unary" 1049 594,gr "reckon" 1060 601,gr "eval_binary" 1070 608,gr "eval_compare" 1080 615,gr "eval_cat" 1089 622,gr "plain_expressions" 1097 629,gr "base_expressions" 1104 636,gr "char_expressions" 1110 643,gr "Limits" 1163 661,gr "_law_relations" 1171 672,gr "_law_places" 1177 679,gr "_law_take" 1186 686,gr "_law_number" 1193 693,gr "_law_real" 1200 700,gr "_law_text" 1206 705,gr "_law_const" 1214 712,gr "_law_leaf" 1220 717,gr "_law_index" 1228 724,gr "_law_tree" 1234 729,gr "_law_fit" 1247 736,gr "_law_fraction" 1254 743,gr "_law_whole" 1262 750,gr "_law_toward" 1271 757,gr "_law_power" 1280 764,gr "_law_two" 1295 771,gr "_law_order" 1308 778,gr "_law_held" 1317 785,gr "_law_subscripts" 1323 790,gr "_law_value" 1339 797,gr "_law_part" 1354 804,gr "_law_fill" 1360 809,gr "law" 1366 814]
noncomputable def dN(P:Params)(x:String)(t n:Nat):Obj:=dz (.type "dict") P ((S "__name__" 165,S x t)::gents.take (n - 1)) n
noncomputable def list12:List Value:=[(I 1),(I 0),(.ref 20),(I 5),(I 0),(.ref 27),(I 10),(I 0),(.ref 47),(I 19),(I 0),(.ref 59),(I 27),(I 0),(.ref 66),(I 46),(I 0),(.ref 108),(I 49),(I 0),(.ref 115),(I 54),(I 0),(.ref 122),(I 62),(I 0),(.ref 129),(I 71),(I 0),(.ref 136),(I 77),(I 0),(.ref 143),(I 81),(I 0),(.ref 150),(I 83),(I 0),(.ref 157),(I 87),(I 0),(.ref 164),(I 101),(I 0),(.ref 171),(I 108),(I 0),(.ref 178),(I 113),(I 0),(.ref 185),(I 115),(I 0),(.ref 192),(I 117),(I 0),(.ref 199),(I 119),(I 0),(.ref 206),(I 122),(I 0),(.ref 213),(I 126),(I 0),(.ref 220),(I 132),(I 0),(.ref 227),(I 141),(I 0),(.ref 234),(I 145),(I 0),(.ref 241),(I 159),(I 0),(.ref 248),(I 171),(I 0),(.ref 255),(I 185),(I 0),(.ref 263),(I 195),(I 0),(.ref 270),(I 202),(I 0),(.ref 277),(I 212),(I 0),(.ref 284),(I 220),(I 0),(.ref 291),(I 223),(I 0),(.ref 298),(I 225),(I 0),(.ref 305),(I 227),(I 0),(.ref 312),(I 234),(I 0),(.ref 319),(I 237),(I 0),(.ref 326),(I 240),(I 0),(.ref 333),(I 243),(I 0),(.ref 340),(I 248),(I 0),(.ref 347),(I 253),(I 0),(.ref 354),(I 255),(I 0),(.ref 361),(I 261),(I 0),(.ref 368),(I 271),(I 0),(.ref 375),(I 278),(I 0),(.ref 382),(I 280),(I 0),(.ref 389),(I 297),(I 0),(.ref 399),(I 299),(I 0),(.ref 406),(I 301),(I 0),(.ref 413),(I 303),(I 0),(.ref 420),(I 305),(I 0),(.ref 427),(I 308),(I 0),(.ref 434),(I 310),(I 0),(.ref 441),(I 318),(I 0),(.ref 448),(I 322),(I 0),(.ref 455),(I 334),(I 0),(.ref 462),(I 339),(I 0),(.ref 469),(I 358),(I 0),(.ref 476),(I 361),(I 0),(.ref 483),(I 365),(I 0),(.ref 490),(I 367),(I 0),(.ref 497),(I 377),(I 0),(.ref 504),(I 384),(I 0),(.ref 511),(I 397),(I 0),(.ref 518),(I 415),(I 0),(.ref 539),(I 419),(I 0),(.ref 546),(I 424),(I 0),(.ref 553),(I 428),(I 0),(.ref 560),(I 432),(I 0),(.ref 565),(I 439),(I 0),(.ref 572),(I 441),(I 0),(.ref 579),(I 443),(I 0),(.ref 586),(I 445),(I 0),(.ref 593),(I 447),(I 0),(.ref 600),(I 451),(I 0),(.ref 607),(I 455),(I 0),(.ref 614),(I 459),(I 0),(.ref 621),(I 462),(I 0),(.ref 628),(I 469),(I 0),(.ref 635),(I 475),(I 0),(.ref 642),(I 478),(I 0),(.ref 649),(I 490),(I 0),(.ref 671),(I 492),(I 0),(.ref 678),(I 494),(I 0),(.ref 685),(I 502),(I 0),(.ref 692),(I 504),(I 0),(.ref 699),(I 506),(I 0),(.ref 704),(I 508),(I 0),(.ref 711),(I 514),(I 0),(.ref 716),(I 523),(I 0),(.ref 723),(I 527),(I 0),(.ref 728),(I 554),(I 0),(.ref 735),(I 573),(I 0),(.ref 742),(I 575),(I 0),(.ref 749),(I 577),(I 0),(.ref 756),(I 580),(I 0),(.ref 763),(I 588),(I 0),(.ref 770),(I 602),(I 0),(.ref 777),(I 610),(I 0),(.ref 784),(I 612),(I 0),(.ref 789),(I 621),(I 0),(.ref 796),(I 653),(I 0),(.ref 803),(I 665),(I 0),(.ref 808),(I 682),(I 0),(.ref 813)]
noncomputable def DO(P:Params):BT:=gG [(0,boot_o_0 P),(1,boot_o_1 P),(2,boot_o_2 P),(3,boot_o_3 P),(4,boot_o_4 P),(5,boot_o_5 P),(6,boot_o_6 P),(7,boot_o_7 P),(8,boot_o_8 P),(9,boot_o_9 P),(10,boot_o_10 P)] .nil
noncomputable def T0(P:Params):BT:=gG ([(11,e0),(12,e1),(13,aA (.type "code") [(S "<module>" 182),(S "<module>" 183),(S "/claim/cut.py" 184),(I 1),(I 0),(I 0),(I 0),(I 0),(.ref 11),(.bool false),(I 181),(.ref 12),.none,.none,.none,.none,(I 185),(I 1),(S "/claim/cut.py" 186)]),(14,jL (.type "frame") none [(some (.ref 13)),(some (.ref 3)),(some (.ref 3)),none,(some (S "__main__" 164)),none,(some (.ref 0))])]) (DO P)
noncomputable def T1(P:Params):BT:=gG ([(2,dz .none P [((S "type.__subclasses__.Exception.0" 221),(I 38)),((S "type.__subclasses__.Exception.n" 222),(I 1))] 2),(3,dN P "f77.errors" 194 11),(12,aA .none (list12.take 6))]++(nb 15 (fs 15 "_wall" 0 0 1 1 187 ["k"] "__main__" 164)++([(22,gE (.type "tuple") [(.type "Exception")]),(23,aA (.type "builtin_function_or_method") [(.builtin "type.__prepare__"),(.type "type")]),(24,dz (.type "dict") P [((S "__module__" 203),(S "f77.errors" 194)),((S "__qualname__" 205),(S "F77Error" 204)),((S "__firstlineno__" 207),(.int 5 206)),((S "__init__" 215),(.ref 35)),((S "__static_attributes__" 217),(.ref 36))] 5),(25,e0),(26,aA .none [(I 7),(I 4),(.ref 34)]),(27,aA (.type "code") [(S "F77Error" 198),(S "F77Error" 199),(S "/claim/cut.py" 200),(I 5),(I 0),(I 0),(I 0),(I 0),(.ref 25),(.bool false),(I 181),(.ref 26),.none,.none,.none,.none,(I 201),(I 5),(S "/claim/cut.py" 202)]),(28,jL (.type "frame") none [(some (.ref 27)),(some (.ref 3)),(some (.ref 24)),none,(some (S "f77.errors" 194)),none,(some (.ref 0))]),(29,e0),(30,e1),(31,tq 211 ["self","text"]),(32,e0),(33,cL .none "__init__" "F77Error.__init__" 2 1 0 .none .none .none .none none .none .none 0),(34,aA (.type "code") [(S "__init__" 208),(S "F77Error.__init__" 209),(S "/claim/cut.py" 210),(I 7),(I 2),(I 0),(I 0),(I 3),(.ref 29),(.bool true),(I 181),(.ref 30),.none,(.ref 31),(.ref 32),(.ref 33),(I 213),(I 7),(S "/claim/cut.py" 214)]),(35,cL (.type "function") "__init__" "F77Error.__init__" 2 1 3 .none .none .none (S "f77.errors" 194) none (.ref 34) .none 0),(36,tq 216 ["text"]),(37,dz (.type "dict") P [((S "__module__" 203),(S "f77.errors" 194)),((S "__firstlineno__" 207),(.int 5 206)),((S "__init__" 215),(.ref 35)),((S "__static_attributes__" 217),(.ref 36)),((S "__weakref__" 219),(.ref 39)),((S "__doc__" 220),.none)] 3),(38,kf (.type "type") [(some (.ref 22)),none,(some (S "F77Error" 196)),(some (S "F77Error" 204)),(some (.builtin "Exception.__new__")),(some (.bool true))] "F77Error" [(.type "Exception")] [(.ref 38),(.type "Exception"),(.type "BaseException"),(.type "object")] 37 "F77Error" true [] [] false none false),(39,aA (.type "getset_descriptor") [(S "__weakref__" 218),(.ref 38),(.builtin "ExceptionGroup.__weakref__"),.none]),(40,aA (.type "super") [(.ref 38),(.ref 38),(.ref 38)]),(41,aA (.type "builtin_function_or_method") [(.builtin "object.__init_subclass__"),(.ref 38)])]))) (T0 P)
noncomputable def T2(P:Params):BT:=gG ([(3,dN P "f77.memory" 262 20),(12,aA .none (list12.take 12)),(38,kf (.type "type") [(some (.ref 22)),none,(some (S "F77Error" 196)),(some (S "F77Error" 204)),(some (.builtin "Exception.__new__")),(some (.bool true))] "F77Error" [(.type "Exception")] [(.ref 38),(.type "Exception"),(.type "BaseException"),(.type "object")] 37 "F77Error" true [] [(.ref 51)] false none false),(42,gE (.type "tuple") [(.ref 38)]),(43,aA (.type "builtin_function_or_method") [(.builtin "type.__prepare__"),(.type "type")]),(44,dz (.type "dict") P [((S "__module__" 232),(S "f77.errors" 194)),((S "__qualname__" 234),(S "RunFault" 233)),((S "__firstlineno__" 236),(.int 10 235)),((S "__static_attributes__" 237),(.ref 49))] 4),(45,e0),(46,e1),(47,aA (.type "code") [(S "RunFault" 227),(S "RunFault" 228),(S "/claim/cut.py" 229),(I 10),(I 0),(I 0),(I 0),(I 0),(.ref 45),(.bool false),(I 181),(.ref 46),.none,.none,.none,.none,(I 230),(I 10),(S "/claim/cut.py" 231)]),(48,jL (.type "frame") none [(some (.ref 47)),(some (.ref 3)),(some (.ref 44)),none,(some (S "f77.errors" 194)),none,(some (.ref 0))]),(49,e0),(50,dz (.type "dict") P [((S "__module__" 232),(S "f77.errors" 194)),((S "__firstlineno__" 236),(.int 10 235)),((S "__static_attributes__" 237),(.ref 49)),((S "__doc__" 238),.none)] 2),(51,kf (.type "type") [(some (.ref 42)),none,(some (S "RunFault" 225)),(some (S "RunFault" 233)),(some (.builtin "Exception.__new__")),(some (.bool true))] "RunFault" [(.ref 38)] [(.ref 51),(.ref 38),(.type "Exception"),(.type "BaseException"),(.type "object")] 50 "RunFault" true [] [] false none false),(52,aA (.type "super") [(.ref 51),(.ref 51),(.ref 51)]),(53,aA (.type "builtin_function_or_method") [(.builtin "object.__init_subclass__"),(.ref 51)])]++(nb 54 (fs 54 "units_of" 11 0 19 1 255 ["kind"] "f77.kinds" 241))) (T1 P)
noncomputable def T3(P:Params):BT:=gG ([(3,dN P "f77.memory" 262 23),(12,aA .none (list12.take 21)),(61,e0),(62,aA (.type "builtin_function_or_method") [(.builtin "type.__prepare__"),(.type "type")]),(63,dz (.type "dict") P [((S "__module__" 273),(S "f77.memory" 262)),((S "__qualname__" 275),(S "Memory" 274)),((S "__firstlineno__" 277),(.int 27 276)),((S "__init__" 286),(.ref 74)),((S "load" 294),(.ref 81)),((S "store" 303),(.ref 88)),((S "undefine" 311),(.ref 95)),((S "__static_attributes__" 314),(.ref 96))] 8),(64,e0),(65,aA .none [(I 29),(I 4),(.ref 73),(I 33),(I 4),(.ref 80),(I 38),(I 4),(.ref 87),(I 44),(I 4),(.ref 94)]),(66,aA (.type "code") [(S "Memory" 268),(S "Memory" 269),(S "/claim/cut.py" 270),(I 27),(I 0),(I 0),(I 0),(I 0),(.ref 64),(.bool false),(I 181),(.ref 65),.none,.none,.none,.none,(I 271),(I 27),(S "/claim/cut.py" 272)]),(67,jL (.type "frame") none [(some (.ref 66)),(some (.ref 3)),(some (.ref 63)),none,(some (S "f77.memory" 262)),none,(some (.ref 0))]),(68,e0),(69,e1),(70,tq 281 ["self","numeric","characters"]),(71,e0),(72,cL .none "__init__" "Memory.__init__" 14 1 0 .none .none .none .none none .none .none 0),(73,aA (.type "code") [(S "__init__" 278),(S "Memory.__init__" 279),(S "/claim/cut.py" 280),(I 29),(I 3),(I 0),(I 0),(I 3),(.ref 68),(.bool true),(I 181),(.ref 69),.none,(.ref 70),(.ref 71),(.ref 72),(I 284),(I 29),(S "/claim/cut.py" 285)]),(74,cL (.type "function") "__init__" "Memory.__init__" 14 1 3 .none .none .none (S "f77.memory" 262) none (.ref 73) .none 0),(75,e0),(76,e1),(77,tq 290 ["self","place"]),(78,e0),(79,cL .none "load" "Memory.load" 14 2 0 .none .none .none .none none .none .none 0),(80,aA (.type "code") [(S "load" 287),(S "Memory.load" 288),(S "/claim/cut.py" 289),(I 33),(I 2),(I 0),(I 0),(I 3),(.ref 75),(.bool true),(I 181),(.ref 76),.none,(.ref 77),(.ref 78),(.ref 79),(I 292),(I 33),(S "/claim/cut.py" 293)]),(81,cL (.type "function") "load" "Memory.load" 14 2 3 .none .none .none (S "f77.memory" 262) none (.ref 80) .none 0),(82,e0),(83,e1),(84,tq 298 ["self","place","value"]),(85,e0),(86,cL .none "store" "Memory.store" 14 3 0 .none .none .none .none none .none .none 0),(87,aA (.type "code") [(S "store" 295),(S "Memory.store" 296),(S "/claim/cut.py" 297),(I 38),(I 3),(I 0),(I 0),(I 3),(.ref 82),(.bool true),(I 181),(.ref 83),.none,(.ref 84),(.ref 85),(.ref 86),(I 301),(I 38),(S "/claim/cut.py" 302)]),(88,cL (.type "function") "store" "Memory.store" 14 3 3 .none .none .none (S "f77.memory" 262) none (.ref 87) .none 0),(89,e0),(90,e1),(91,tq 307 ["self","place"]),(92,e0),(93,cL .none "undefine" "Memory.undefine" 14 4 0 .none .none .none .none none .none .none 0),(94,aA (.type "code") [(S "undefine" 304),(S "Memory.undefine" 305),(S "/claim/cut.py" 306),(I 44),(I 2),(I 0),(I 0),(I 3),(.ref 89),(.bool true),(I 181),(.ref 90),.none,(.ref 91),(.ref 92),(.ref 93),(I 309),(I 44),(S "/claim/cut.py" 310)]),(95,cL (.type "function") "undefine" "Memory.undefine" 14 4 3 .none .none .none (S "f77.memory" 262) none (.ref 94) .none 0),(96,tq 312 ["characters","numeric"]),(97,dz (.type "dict") P [((S "__module__" 273),(S "f77.memory" 262)),((S "__firstlineno__" 277),(.int 27 276)),((S "__init__" 286),(.ref 74)),((S "load" 294),(.ref 81)),((S "store" 303),(.ref 88)),((S "undefine" 311),(.ref 95)),((S "__static_attributes__" 314),(.ref 96)),((S "__dict__" 316),(.ref 99)),((S "__weakref__" 318),(.ref 100)),((S "__doc__" 319),.none)] 4),(98,kf (.type "type") [none,none,(some (S "Memory" 266)),(some (S "Memory" 274)),(some (.builtin "object.__new__")),(some (.bool true))] "Memory" [(.type "object")] [(.ref 98),(.type "object")] 97 "Memory" true [] [] false none false),(99,aA (.type "getset_descriptor") [(S "__dict__" 315),(.ref 98),(.builtin "function.__dict__"),(.builtin "function.__dict__#set")]),(100,aA (.type "getset_descriptor") [(S "__weakref__" 317),(.ref 98),(.builtin "ExceptionGroup.__weakref__"),.none]),(101,aA (.type "super") [(.ref 98),(.ref 98),(.ref 98)]),(102,aA (.type "builtin_function_or_method") [(.builtin "object.__init_subclass__"),(.ref 98)])]++(nb 103 (fs 103 "need_units" 15 0 46 3 322 ["cells","address","count"] "f77.memory" 262)++(nb 110 (fs 110 "read_cell" 16 0 49 3 331 ["cells","address","tag","cell"] "f77.memory" 262)))) (T2 P)
noncomputable def T4(P:Params):BT:=gG ([(3,dN P "f77.ints" 425 35),(12,aA .none (list12.take 57))]++(nb 117 (fs 117 "load_number" 17 0 54 3 341 ["cells","kind","address","value"] "f77.memory" 262)++(nb 124 (fs 124 "store_number" 18 0 62 4 351 ["cells","kind","address","value"] "f77.memory" 262)++(nb 131 (fs 131 "load_text" 19 0 71 3 361 ["cells","address","length","signs"] "f77.memory" 262)++(nb 138 (fs 138 "store_text" 20 0 77 3 371 ["cells","address","text","k"] "f77.memory" 262)++(nb 145 (fs 145 "pad" 21 0 81 2 381 ["text","length"] "f77.memory" 262)++(nb 152 (fs 152 "unit_size" 22 0 83 2 389 ["kind","length"] "f77.memory" 262)++(nb 159 (fs 159 "element_place" 23 0 87 2 397 ["place","subscripts","kind","address","length","dims","offset","stride","k","low","high"] "f77.memory" 262)++(nb 166 (fs 166 "sub_place" 24 0 101 3 414 ["place","lo","hi","first","last"] "f77.memory" 262)++(nb 173 (fs 173 "fit_int" 26 0 108 2 427 ["n","width","most"] "f77.ints" 425)++(nb 180 (fs 180 "int_add" 27 0 113 3 436 ["x","y","width"] "f77.ints" 425)++(nb 187 (fs 187 "int_sub" 28 0 115 3 445 ["x","y","width"] "f77.ints" 425)++(nb 194 (fs 194 "int_mul" 29 0 117 3 454 ["x","y","width"] "f77.ints" 425)))))))))))))) (T3 P)
noncomputable def T5(P:Params):BT:=gG ([(3,dN P "f77.reals" 538 49),(12,aA .none (list12.take 90))]++(nb 201 (fs 201 "cut_quotient" 30 0 119 2 463 ["x","y","found"] "f77.ints" 425)++(nb 208 (fs 208 "int_div" 31 0 122 3 472 ["x","y","width"] "f77.ints" 425)++(nb 215 (fs 215 "inverse_power" 32 0 126 2 481 ["x","n"] "f77.ints" 425)++(nb 222 (fs 222 "int_power" 33 0 132 3 489 ["x","n","width","found","turn"] "f77.ints" 425)++(nb 229 (fs 229 "order_of" 34 0 141 2 500 ["x","y"] "f77.ints" 425)++(nb 236 (fs 236 "holds" 35 0 145 2 508 ["op","order"] "f77.ints" 425)++(nb 243 (fs 243 "int_binary" 36 0 159 5 516 ["op","kind","x","y","limits"] "f77.ints" 425)++(nb 250 (fs 250 "logic_binary" 37 0 171 5 527 ["op","kind","x","y","limits"] "f77.ints" 425)++([(257,gE (.type "tuple") [(.int 0 540),(.int 0 541)])]++(nb 258 (fs 258 "count_digits" 42 0 185 1 547 ["n","count"] "f77.reals" 538)++(nb 265 (fs 265 "strip_zeros" 43 0 195 2 555 ["m","e"] "f77.reals" 538)++(nb 272 (fs 272 "round_digits" 44 0 202 3 563 ["m","e","digits","drop","power","kept","rest"] "f77.reals" 538)))))))))))))) (T4 P)
noncomputable def T6(P:Params):BT:=gG ([(3,dN P "f77.reals" 538 61),(12,aA .none (list12.take 126))]++(nb 279 (fs 279 "round_real" 45 0 212 4 576 ["m","e","digits","top","lead"] "f77.reals" 538)++(nb 286 (fs 286 "exact_add" 46 0 220 2 587 ["x","y","low"] "f77.reals" 538)++(nb 293 (fs 293 "exact_mul" 47 0 223 2 596 ["x","y"] "f77.reals" 538)++(nb 300 (fs 300 "real_neg" 48 0 225 1 604 ["x"] "f77.reals" 538)++(nb 307 (fs 307 "quotient" 49 0 227 4 611 ["over","under","e","digits","shift","kept","rest","m"] "f77.reals" 538)++(nb 314 (fs 314 "real_add" 50 0 234 4 625 ["x","y","digits","top","m","e"] "f77.reals" 538)++(nb 321 (fs 321 "real_sub" 51 0 237 4 637 ["x","y","digits","top","m","e"] "f77.reals" 538)++(nb 328 (fs 328 "real_mul" 52 0 240 4 649 ["x","y","digits","top","m","e"] "f77.reals" 538)++(nb 335 (fs 335 "real_div" 53 0 243 4 661 ["x","y","digits","top","m","e"] "f77.reals" 538)++(nb 342 (fs 342 "real_compare" 54 0 248 2 673 ["x","y","m"] "f77.reals" 538)++(nb 349 (fs 349 "real_of_int" 55 0 253 3 682 ["n","digits","top"] "f77.reals" 538)++(nb 356 (fs 356 "real_to_int" 56 0 255 1 691 ["x","m","e","found"] "f77.reals" 538)))))))))))))) (T5 P)
noncomputable def T7(P:Params):BT:=gG ([(3,dN P "f77.complexes" 744 74),(12,aA .none (list12.take 159))]++(nb 363 (fs 363 "raised" 57 0 261 3 701 ["x","n","digits","found"] "f77.reals" 538)++(nb 370 (fs 370 "real_power" 58 0 271 4 711 ["x","n","digits","top","m","e"] "f77.reals" 538)++(nb 377 (fs 377 "digits_of" 59 0 278 2 723 ["kind","limits"] "f77.reals" 538)++(nb 384 (fs 384 "real_binary" 60 0 280 5 731 ["op","kind","x","y","limits","digits","top"] "f77.reals" 538)++([(391,gE (.type "tuple") [(.int 1 746),(.int 0 747)]),(392,gE (.type "tuple") [(.int 0 748),(.int 0 749)]),(393,gE (.type "tuple") [(.ref 391),(.ref 392)])]++(nb 394 (fs 394 "round_parts" 64 0 297 3 753 ["x","digits","top"] "f77.complexes" 744)++(nb 401 (fs 401 "complex_add" 65 0 299 4 762 ["x","y","digits","top"] "f77.complexes" 744)++(nb 408 (fs 408 "complex_neg" 66 0 301 1 772 ["x"] "f77.complexes" 744)++(nb 415 (fs 415 "complex_sub" 67 0 303 4 779 ["x","y","digits","top"] "f77.complexes" 744)++(nb 422 (fs 422 "exact_product" 68 0 305 2 789 ["x","y","across"] "f77.complexes" 744)++(nb 429 (fs 429 "complex_mul" 69 0 308 4 798 ["x","y","digits","top"] "f77.complexes" 744)++(nb 436 (fs 436 "complex_div" 70 0 310 4 808 ["x","y","digits","top","size","whole","across","upward"] "f77.complexes" 744)))))))))))))) (T6 P)
noncomputable def T8(P:Params):BT:=gG ([(3,dN P "f77.plainexpr" 927 84),(12,aA .none (list12.take 189))]++(nb 443 (fs 443 "guarded_product" 71 0 318 3 822 ["x","y","digits","found","more"] "f77.complexes" 744)++(nb 450 (fs 450 "complex_raised" 72 0 322 3 833 ["x","n","digits","found","turn"] "f77.complexes" 744)++(nb 457 (fs 457 "complex_power" 73 0 334 4 844 ["x","n","digits","top","found"] "f77.complexes" 744)++(nb 464 (fs 464 "complex_binary" 74 0 339 5 855 ["op","kind","x","y","limits","digits","top"] "f77.complexes" 744)++(nb 471 (fs 471 "collate" 76 0 358 2 870 ["x","y","wide"] "f77.operate" 868)++(nb 478 (fs 478 "text_binary" 77 0 361 5 879 ["op","kind","x","y","limits"] "f77.operate" 868)++(nb 485 (fs 485 "all_operations" 78 0 365 0 890 [] "f77.operate" 868)++(nb 492 (fs 492 "unary" 79 0 367 4 896 ["op","kind","x","limits"] "f77.operate" 868)++(nb 499 (fs 499 "real_as" 80 0 377 4 906 ["value","of","to","limits","digits"] "f77.operate" 868)++(nb 506 (fs 506 "convert" 81 0 384 4 917 ["value","of","to","limits"] "f77.operate" 868)))))))))))) (T7 P)
noncomputable def T9(P:Params):BT:=gG ([(3,dN P "f77.plainexpr" 927 90),(12,aA .none (list12.take 207)),(513,e0),(514,aA (.type "builtin_function_or_method") [(.builtin "type.__prepare__"),(.type "type")]),(515,dz (.type "dict") P [((S "__module__" 936),(S "f77.plainexpr" 927)),((S "__qualname__" 938),(S "Run" 937)),((S "__firstlineno__" 940),(.int 397 939)),((S "__init__" 953),(.ref 526)),((S "__static_attributes__" 969),(.ref 527))] 5),(516,e0),(517,aA .none [(I 399),(I 4),(.ref 525)]),(518,aA (.type "code") [(S "Run" 931),(S "Run" 932),(S "/claim/cut.py" 933),(I 397),(I 0),(I 0),(I 0),(I 0),(.ref 516),(.bool false),(I 181),(.ref 517),.none,.none,.none,.none,(I 934),(I 397),(S "/claim/cut.py" 935)]),(519,jL (.type "frame") none [(some (.ref 518)),(some (.ref 3)),(some (.ref 515)),none,(some (S "f77.plainexpr" 927)),none,(some (.ref 0))]),(520,e0),(521,e1),(522,tq 944 ["self","memory","limits","units","world","expressions","statements"]),(523,e0),(524,cL .none "__init__" "Run.__init__" 83 1 0 .none .none .none .none none .none .none 0),(525,aA (.type "code") [(S "__init__" 941),(S "Run.__init__" 942),(S "/claim/cut.py" 943),(I 399),(I 7),(I 0),(I 0),(I 3),(.ref 520),(.bool true),(I 181),(.ref 521),.none,(.ref 522),(.ref 523),(.ref 524),(I 951),(I 399),(S "/claim/cut.py" 952)]),(526,cL (.type "function") "__init__" "Run.__init__" 83 1 3 .none .none .none (S "f77.plainexpr" 927) none (.ref 525) .none 0),(527,tq 954 ["active","clears","depth","expressions","flows","frame","limits","loops","memory","operations","places","statements","steps","units","world"]),(528,dz (.type "dict") P [((S "__module__" 936),(S "f77.plainexpr" 927)),((S "__firstlineno__" 940),(.int 397 939)),((S "__init__" 953),(.ref 526)),((S "__static_attributes__" 969),(.ref 527)),((S "__dict__" 971),(.ref 530)),((S "__weakref__" 973),(.ref 531)),((S "__doc__" 974),.none)] 4),(529,kf (.type "type") [none,none,(some (S "Run" 929)),(some (S "Run" 937)),(some (.builtin "object.__new__")),(some (.bool true))] "Run" [(.type "object")] [(.ref 529),(.type "object")] 528 "Run" true [] [] false none false),(530,aA (.type "getset_descriptor") [(S "__dict__" 970),(.ref 529),(.builtin "function.__dict__"),(.builtin "function.__dict__#set")]),(531,aA (.type "getset_descriptor") [(S "__weakref__" 972),(.ref 529),(.builtin "ExceptionGroup.__weakref__"),.none]),(532,aA (.type "super") [(.ref 529),(.ref 529),(.ref 529)]),(533,aA (.type "builtin_function_or_method") [(.builtin "object.__init_subclass__"),(.ref 529)])]++(nb 534 (fs 534 "evaluate" 84 0 415 2 977 ["run","tree"] "f77.plainexpr" 927)++(nb 541 (fs 541 "named_place" 85 0 419 2 985 ["run","name","found"] "f77.plainexpr" 927)++(nb 548 (fs 548 "bound_of" 86 0 424 2 994 ["run","tree"] "f77.plainexpr" 927)++(nb 555 (fs 555 "part_place" 87 0 428 2 1002 ["run","tree","base","low"] "f77.plainexpr" 927)++([(562,e0),(563,e1),(564,cL .none "place_of" "place_of" 88 0 0 .none .none .none .none none .none .none 0),(565,aA (.type "code") [(S "place_of" 1012),(S "place_of" 1013),(S "/claim/cut.py" 1014),(I 432),(I 2),(I 0),(I 0),(I 3),(.ref 562),(.bool true),(I 181),(.ref 563),.none,.none,.none,(.ref 564),(I 1015),(I 432),(S "/claim/cut.py" 1016)]),(566,cL (.type "function") "place_of" "place_of" 88 0 3 .none .none .none (S "f77.plainexpr" 927) none (.ref 565) .none 0)])))))) (T8 P)
noncomputable def EO(P:Params):BT:=gG ([(3,dN P "f77.limits" 1111 101),(12,aA .none (list12.take 240))]++(nb 567 (fs 567 "eval_const" 89 0 439 2 1018 ["run","tree"] "f77.plainexpr" 927)++(nb 574 (fs 574 "eval_place" 90 0 441 2 1026 ["run","tree"] "f77.plainexpr" 927)++(nb 581 (fs 581 "eval_conv" 91 0 443 2 1034 ["run","tree"] "f77.plainexpr" 927)++(nb 588 (fs 588 "eval_unary" 92 0 445 2 1042 ["run","tree"] "f77.plainexpr" 927)++(nb 595 (fs 595 "reckon" 93 0 447 5 1050 ["run","word","kind","left","right"] "f77.plainexpr" 927)++(nb 602 (fs 602 "eval_binary" 94 0 451 2 1061 ["run","tree","left","right"] "f77.plainexpr" 927)++(nb 609 (fs 609 "eval_compare" 95 0 455 2 1071 ["run","tree","left","right"] "f77.plainexpr" 927)++(nb 616 (fs 616 "eval_cat" 96 0 459 2 1081 ["run","tree","left"] "f77.plainexpr" 927)++(nb 623 (fs 623 "plain_expressions" 97 0 462 0 1090 ["found","word"] "f77.plainexpr" 927)++(nb 630 (fs 630 "base_expressions" 98 0 469 0 1098 ["found"] "f77.plainexpr" 927)++(nb 637 (fs 637 "char_expressions" 99 0 475 0 1105 [] "f77.plainexpr" 927))))))))))))) (T9 P)
noncomputable def EP(P:Params):BT:=gG ([(3,dN P "law_no0284_01" 1164 107),(12,aA .none (list12.take 258)),(644,e0),(645,aA (.type "builtin_function_or_method") [(.builtin "type.__prepare__"),(.type "type")]),(646,dz (.type "dict") P [((S "__module__" 1120),(S "f77.limits" 1111)),((S "__qualname__" 1122),(S "Limits" 1121)),((S "__firstlineno__" 1124),(.int 478 1123)),((S "__init__" 1147),(.ref 658)),((S "__static_attributes__" 1156),(.ref 659))] 5),(647,e0),(648,aA .none [(I 480),(I 4),(.ref 657)]),(649,aA (.type "code") [(S "Limits" 1115),(S "Limits" 1116),(S "/claim/cut.py" 1117),(I 478),(I 0),(I 0),(I 0),(I 0),(.ref 647),(.bool false),(I 181),(.ref 648),.none,.none,.none,.none,(I 1118),(I 478),(S "/claim/cut.py" 1119)]),(650,jL (.type "frame") none [(some (.ref 649)),(some (.ref 3)),(some (.ref 646)),none,(some (S "f77.limits" 1111)),none,(some (.ref 0))]),(651,gE (.type "tuple") [(.int 32 1125),(.int 7 1126),(.int 15 1127),(.int 38 1128),(.int 1000000 1129),(.int 19 1130),(.int 72 1131),(.int 40 1132)]),(652,e0),(653,e1),(654,tq 1136 ["self","width","real_digits","double_digits","top_exponent","steps","continuations","columns","depth"]),(655,e0),(656,cL .none "__init__" "Limits.__init__" 101 1 0 .none .none .none .none none .none .none 0),(657,aA (.type "code") [(S "__init__" 1133),(S "Limits.__init__" 1134),(S "/claim/cut.py" 1135),(I 480),(I 9),(I 0),(I 0),(I 3),(.ref 652),(.bool true),(I 181),(.ref 653),.none,(.ref 654),(.ref 655),(.ref 656),(I 1145),(I 480),(S "/claim/cut.py" 1146)]),(658,cL (.type "function") "__init__" "Limits.__init__" 101 1 3 (.ref 651) .none .none (S "f77.limits" 1111) none (.ref 657) .none 0),(659,tq 1148 ["columns","continuations","depth","double_digits","real_digits","steps","top_exponent","width"]),(660,dz (.type "dict") P [((S "__module__" 1120),(S "f77.limits" 1111)),((S "__firstlineno__" 1124),(.int 478 1123)),((S "__init__" 1147),(.ref 658)),((S "__static_attributes__" 1156),(.ref 659)),((S "__dict__" 1158),(.ref 662)),((S "__weakref__" 1160),(.ref 663)),((S "__doc__" 1161),.none)] 4),(661,kf (.type "type") [none,none,(some (S "Limits" 1113)),(some (S "Limits" 1121)),(some (.builtin "object.__new__")),(some (.bool true))] "Limits" [(.type "object")] [(.ref 661),(.type "object")] 660 "Limits" true [] [] false none false),(662,aA (.type "getset_descriptor") [(S "__dict__" 1157),(.ref 661),(.builtin "function.__dict__"),(.builtin "function.__dict__#set")]),(663,aA (.type "getset_descriptor") [(S "__weakref__" 1159),(.ref 661),(.builtin "ExceptionGroup.__weakref__"),.none]),(664,aA (.type "super") [(.ref 661),(.ref 661),(.ref 661)]),(665,aA (.type "builtin_function_or_method") [(.builtin "object.__init_subclass__"),(.ref 661)])]++(nb 666 (fs 666 "_law_relations" 103 0 490 0 1166 [] "law_no0284_01" 1164)++(nb 673 (fs 673 "_law_places" 104 0 492 0 1172 [] "law_no0284_01" 1164)++(nb 680 (fs 680 "_law_take" 105 0 494 2 1178 ["pool","many","digit"] "law_no0284_01" 1164)++(nb 687 (fs 687 "_law_number" 106 0 502 1 1187 ["pool"] "law_no0284_01" 1164)++(nb 694 (fs 694 "_law_real" 107 0 504 1 1194 ["pool"] "law_no0284_01" 1164))))))) (EO P)
noncomputable def EQ(P:Params):BT:=gG ([(3,dN P "law_no0284_01" 1164 120),(12,aA .none (list12.take 297)),(701,e0),(702,e1),(703,cL .none "_law_text" "_law_text" 108 0 0 .none .none .none .none none .none .none 0),(704,aA (.type "code") [(S "_law_text" 1201),(S "_law_text" 1202),(S "/claim/cut.py" 1203),(I 506),(I 1),(I 0),(I 0),(I 3),(.ref 701),(.bool true),(I 181),(.ref 702),.none,.none,.none,(.ref 703),(I 1204),(I 506),(S "/claim/cut.py" 1205)]),(705,cL (.type "function") "_law_text" "_law_text" 108 0 3 .none .none .none (S "law_no0284_01" 1164) none (.ref 704) .none 0)]++(nb 706 (fs 706 "_law_const" 109 0 508 2 1207 ["pool","kind"] "law_no0284_01" 1164)++([(713,e0),(714,e1),(715,cL .none "_law_leaf" "_law_leaf" 110 0 0 .none .none .none .none none .none .none 0),(716,aA (.type "code") [(S "_law_leaf" 1215),(S "_law_leaf" 1216),(S "/claim/cut.py" 1217),(I 514),(I 2),(I 0),(I 0),(I 3),(.ref 713),(.bool true),(I 181),(.ref 714),.none,.none,.none,(.ref 715),(I 1218),(I 514),(S "/claim/cut.py" 1219)]),(717,cL (.type "function") "_law_leaf" "_law_leaf" 110 0 3 .none .none .none (S "law_no0284_01" 1164) none (.ref 716) .none 0)]++(nb 718 (fs 718 "_law_index" 111 0 523 2 1221 ["pool","k"] "law_no0284_01" 1164)++([(725,e0),(726,e1),(727,cL .none "_law_tree" "_law_tree" 112 0 0 .none .none .none .none none .none .none 0),(728,aA (.type "code") [(S "_law_tree" 1229),(S "_law_tree" 1230),(S "/claim/cut.py" 1231),(I 527),(I 3),(I 0),(I 0),(I 3),(.ref 725),(.bool true),(I 181),(.ref 726),.none,.none,.none,(.ref 727),(I 1232),(I 527),(S "/claim/cut.py" 1233)]),(729,cL (.type "function") "_law_tree" "_law_tree" 112 0 3 .none .none .none (S "law_no0284_01" 1164) none (.ref 728) .none 0)]++(nb 730 (fs 730 "_law_fit" 113 0 554 3 1235 ["over","under","digits","e","size","m","rest"] "law_no0284_01" 1164)++(nb 737 (fs 737 "_law_fraction" 114 0 573 1 1248 ["x"] "law_no0284_01" 1164)++(nb 744 (fs 744 "_law_whole" 115 0 575 2 1255 ["n","width"] "law_no0284_01" 1164)++(nb 751 (fs 751 "_law_toward" 116 0 577 2 1263 ["over","under","n"] "law_no0284_01" 1164)++(nb 758 (fs 758 "_law_power" 117 0 580 3 1272 ["x","n","width"] "law_no0284_01" 1164)++(nb 765 (fs 765 "_law_two" 118 0 588 5 1281 ["word","kind","x","y","width","a","b","c","d"] "law_no0284_01" 1164)++(nb 772 (fs 772 "_law_order" 119 0 602 3 1296 ["kind","x","y","a","b","c","d"] "law_no0284_01" 1164)++(nb 779 (fs 779 "_law_held" 120 0 610 3 1309 ["held","name","index"] "law_no0284_01" 1164)))))))))))))) (EP P)
noncomputable def DI(P:Params):BT:=gG ([(3,dN P "law_no0284_01" 1164 125),(12,aA .none (list12.take 312)),(786,e0),(787,e1),(788,cL .none "_law_subscripts" "_law_subscripts" 121 0 0 .none .none .none .none none .none .none 0),(789,aA (.type "code") [(S "_law_subscripts" 1318),(S "_law_subscripts" 1319),(S "/claim/cut.py" 1320),(I 612),(I 3),(I 0),(I 0),(I 3),(.ref 786),(.bool true),(I 181),(.ref 787),.none,.none,.none,(.ref 788),(I 1321),(I 612),(S "/claim/cut.py" 1322)]),(790,cL (.type "function") "_law_subscripts" "_law_subscripts" 121 0 3 .none .none .none (S "law_no0284_01" 1164) none (.ref 789) .none 0)]++(nb 791 (fs 791 "_law_value" 122 0 621 3 1324 ["held","tree","width","word","index","x","over","under","y","order"] "law_no0284_01" 1164)++(nb 798 (fs 798 "_law_part" 123 0 653 3 1340 ["held","tree","width","base","index","length","low","high","whole"] "law_no0284_01" 1164)++([(805,e0),(806,e1),(807,cL .none "_law_fill" "_law_fill" 124 0 0 .none .none .none .none none .none .none 0),(808,aA (.type "code") [(S "_law_fill" 1355),(S "_law_fill" 1356),(S "/claim/cut.py" 1357),(I 665),(I 2),(I 0),(I 0),(I 3),(.ref 805),(.bool true),(I 181),(.ref 806),.none,.none,.none,(.ref 807),(I 1358),(I 665),(S "/claim/cut.py" 1359)]),(809,cL (.type "function") "_law_fill" "_law_fill" 124 0 3 .none .none .none (S "law_no0284_01" 1164) none (.ref 808) .none 0),(810,e0),(811,e1),(812,cL .none "law" "law" 125 0 0 .none .none .none .none none .none .none 0),(813,aA (.type "code") [(S "law" 1361),(S "law" 1362),(S "/claim/cut.py" 1363),(I 682),(I 1),(I 0),(I 0),(I 3),(.ref 810),(.bool true),(I 181),(.ref 811),.none,.none,.none,(.ref 812),(I 1364),(I 682),(S "/claim/cut.py" 1365)]),(814,cL (.type "function") "law" "law" 125 0 3 .none .none .none (S "law_no0284_01" 1164) none (.ref 813) .none 0)])))) (EQ P)
noncomputable def jX(P:Params):List Obj:=[boot_o_0 P,boot_o_1 P,dz .none P [((S "type.__subclasses__.Exception.0" 221),(I 38)),((S "type.__subclasses__.Exception.n" 222),(I 1))] 2,dN P "law_no0284_01" 1164 125,boot_o_4 P,boot_o_5 P,boot_o_6 P,boot_o_7 P,boot_o_8 P,boot_o_9 P,boot_o_10 P,e0,aA .none (list12.take 312),aA (.type "code") [(S "<module>" 182),(S "<module>" 183),(S "/claim/cut.py" 184),(I 1),(I 0),(I 0),(I 0),(I 0),(.ref 11),(.bool false),(I 181),(.ref 12),.none,.none,.none,.none,(I 185),(I 1),(S "/claim/cut.py" 186)],jL (.type "frame") none [(some (.ref 13)),(some (.ref 3)),(some (.ref 3)),none,(some (S "__main__" 164)),none,(some (.ref 0))]]++(fs 15 "_wall" 0 0 1 1 187 ["k"] "__main__" 164++([gE (.type "tuple") [(.type "Exception")],aA (.type "builtin_function_or_method") [(.builtin "type.__prepare__"),(.type "type")],dz (.type "dict") P [((S "__module__" 203),(S "f77.errors" 194)),((S "__qualname__" 205),(S "F77Error" 204)),((S "__firstlineno__" 207),(.int 5 206)),((S "__init__" 215),(.ref 35)),((S "__static_attributes__" 217),(.ref 36))] 5,e0,aA .none [(I 7),(I 4),(.ref 34)],aA (.type "code") [(S "F77Error" 198),(S "F77Error" 199),(S "/claim/cut.py" 200),(I 5),(I 0),(I 0),(I 0),(I 0),(.ref 25),(.bool false),(I 181),(.ref 26),.none,.none,.none,.none,(I 201),(I 5),(S "/claim/cut.py" 202)],jL (.type "frame") none [(some (.ref 27)),(some (.ref 3)),(some (.ref 24)),none,(some (S "f77.errors" 194)),none,(some (.ref 0))],e0,e1,tq 211 ["self","text"],e0,cL .none "__init__" "F77Error.__init__" 2 1 0 .none .none .none .none none .none .none 0,aA (.type "code") [(S "__init__" 208),(S "F77Error.__init__" 209),(S "/claim/cut.py" 210),(I 7),(I 2),(I 0),(I 0),(I 3),(.ref 29),(.bool true),(I 181),(.ref 30),.none,(.ref 31),(.ref 32),(.ref 33),(I 213),(I 7),(S "/claim/cut.py" 214)],cL (.type "function") "__init__" "F77Error.__init__" 2 1 3 .none .none .none (S "f77.errors" 194) none (.ref 34) .none 0,tq 216 ["text"],dz (.type "dict") P [((S "__module__" 203),(S "f77.errors" 194)),((S "__firstlineno__" 207),(.int 5 206)),((S "__init__" 215),(.ref 35)),((S "__static_attributes__" 217),(.ref 36)),((S "__weakref__" 219),(.ref 39)),((S "__doc__" 220),.none)] 3,kf (.type "type") [(some (.ref 22)),none,(some (S "F77Error" 196)),(some (S "F77Error" 204)),(some (.builtin "Exception.__new__")),(some (.bool true))] "F77Error" [(.type "Exception")] [(.ref 38),(.type "Exception"),(.type "BaseException"),(.type "object")] 37 "F77Error" true [] [(.ref 51)] false none false,aA (.type "getset_descriptor") [(S "__weakref__" 218),(.ref 38),(.builtin "ExceptionGroup.__weakref__"),.none],aA (.type "super") [(.ref 38),(.ref 38),(.ref 38)],aA (.type "builtin_function_or_method") [(.builtin "object.__init_subclass__"),(.ref 38)],gE (.type "tuple") [(.ref 38)],aA (.type "builtin_function_or_method") [(.builtin "type.__prepare__"),(.type "type")],dz (.type "dict") P [((S "__module__" 232),(S "f77.errors" 194)),((S "__qualname__" 234),(S "RunFault" 233)),((S "__firstlineno__" 236),(.int 10 235)),((S "__static_attributes__" 237),(.ref 49))] 4,e0,e1,aA (.type "code") [(S "RunFault" 227),(S "RunFault" 228),(S "/claim/cut.py" 229),(I 10),(I 0),(I 0),(I 0),(I 0),(.ref 45),(.bool false),(I 181),(.ref 46),.none,.none,.none,.none,(I 230),(I 10),(S "/claim/cut.py" 231)],jL (.type "frame") none [(some (.ref 47)),(some (.ref 3)),(some (.ref 44)),none,(some (S "f77.errors" 194)),none,(some (.ref 0))],e0,dz (.type "dict") P [((S "__module__" 232),(S "f77.errors" 194)),((S "__firstlineno__" 236),(.int 10 235)),((S "__static_attributes__" 237),(.ref 49)),((S "__doc__" 238),.none)] 2,kf (.type "type") [(some (.ref 42)),none,(some (S "RunFault" 225)),(some (S "RunFault" 233)),(some (.builtin "Exception.__new__")),(some (.bool true))] "RunFault" [(.ref 38)] [(.ref 51),(.ref 38),(.type "Exception"),(.type "BaseException"),(.type "object")] 50 "RunFault" true [] [] false none false,aA (.type "super") [(.ref 51),(.ref 51),(.ref 51)],aA (.type "builtin_function_or_method") [(.builtin "object.__init_subclass__"),(.ref 51)]]++(fs 54 "units_of" 11 0 19 1 255 ["kind"] "f77.kinds" 241++([e0,aA (.type "builtin_function_or_method") [(.builtin "type.__prepare__"),(.type "type")],dz (.type "dict") P [((S "__module__" 273),(S "f77.memory" 262)),((S "__qualname__" 275),(S "Memory" 274)),((S "__firstlineno__" 277),(.int 27 276)),((S "__init__" 286),(.ref 74)),((S "load" 294),(.ref 81)),((S "store" 303),(.ref 88)),((S "undefine" 311),(.ref 95)),((S "__static_attributes__" 314),(.ref 96))] 8,e0,aA .none [(I 29),(I 4),(.ref 73),(I 33),(I 4),(.ref 80),(I 38),(I 4),(.ref 87),(I 44),(I 4),(.ref 94)],aA (.type "code") [(S "Memory" 268),(S "Memory" 269),(S "/claim/cut.py" 270),(I 27),(I 0),(I 0),(I 0),(I 0),(.ref 64),(.bool false),(I 181),(.ref 65),.none,.none,.none,.none,(I 271),(I 27),(S "/claim/cut.py" 272)],jL (.type "frame") none [(some (.ref 66)),(some (.ref 3)),(some (.ref 63)),none,(some (S "f77.memory" 262)),none,(some (.ref 0))],e0,e1,tq 281 ["self","numeric","characters"],e0,cL .none "__init__" "Memory.__init__" 14 1 0 .none .none .none .none none .none .none 0,aA (.type "code") [(S "__init__" 278),(S "Memory.__init__" 279),(S "/claim/cut.py" 280),(I 29),(I 3),(I 0),(I 0),(I 3),(.ref 68),(.bool true),(I 181),(.ref 69),.none,(.ref 70),(.ref 71),(.ref 72),(I 284),(I 29),(S "/claim/cut.py" 285)],cL (.type "function") "__init__" "Memory.__init__" 14 1 3 .none .none .none (S "f77.memory" 262) none (.ref 73) .none 0,e0,e1,tq 290 ["self","place"],e0,cL .none "load" "Memory.load" 14 2 0 .none .none .none .none none .none .none 0,aA (.type "code") [(S "load" 287),(S "Memory.load" 288),(S "/claim/cut.py" 289),(I 33),(I 2),(I 0),(I 0),(I 3),(.ref 75),(.bool true),(I 181),(.ref 76),.none,(.ref 77),(.ref 78),(.ref 79),(I 292),(I 33),(S "/claim/cut.py" 293)],cL (.type "function") "load" "Memory.load" 14 2 3 .none .none .none (S "f77.memory" 262) none (.ref 80) .none 0,e0,e1,tq 298 ["self","place","value"],e0,cL .none "store" "Memory.store" 14 3 0 .none .none .none .none none .none .none 0,aA (.type "code") [(S "store" 295),(S "Memory.store" 296),(S "/claim/cut.py" 297),(I 38),(I 3),(I 0),(I 0),(I 3),(.ref 82),(.bool true),(I 181),(.ref 83),.none,(.ref 84),(.ref 85),(.ref 86),(I 301),(I 38),(S "/claim/cut.py" 302)],cL (.type "function") "store" "Memory.store" 14 3 3 .none .none .none (S "f77.memory" 262) none (.ref 87) .none 0,e0,e1,tq 307 ["self","place"],e0,cL .none "undefine" "Memory.undefine" 14 4 0 .none .none .none .none none .none .none 0,aA (.type "code") [(S "undefine" 304),(S "Memory.undefine" 305),(S "/claim/cut.py" 306),(I 44),(I 2),(I 0),(I 0),(I 3),(.ref 89),(.bool true),(I 181),(.ref 90),.none,(.ref 91),(.ref 92),(.ref 93),(I 309),(I 44),(S "/claim/cut.py" 310)],cL (.type "function") "undefine" "Memory.undefine" 14 4 3 .none .none .none (S "f77.memory" 262) none (.ref 94) .none 0,tq 312 ["characters","numeric"],dz (.type "dict") P [((S "__module__" 273),(S "f77.memory" 262)),((S "__firstlineno__" 277),(.int 27 276)),((S "__init__" 286),(.ref 74)),((S "load" 294),(.ref 81)),((S "store" 303),(.ref 88)),((S "undefine" 311),(.ref 95)),((S "__static_attributes__" 314),(.ref 96)),((S "__dict__" 316),(.ref 99)),((S "__weakref__" 318),(.ref 100)),((S "__doc__" 319),.none)] 4,kf (.type "type") [none,none,(some (S "Memory" 266)),(some (S "Memory" 274)),(some (.builtin "object.__new__")),(some (.bool true))] "Memory" [(.type "object")] [(.ref 98),(.type "object")] 97 "Memory" true [] [] false none false,aA (.type "getset_descriptor") [(S "__dict__" 315),(.ref 98),(.builtin "function.__dict__"),(.builtin "function.__dict__#set")],aA (.type "getset_descriptor") [(S "__weakref__" 317),(.ref 98),(.builtin "ExceptionGroup.__weakref__"),.none],aA (.type "super") [(.ref 98),(.ref 98),(.ref 98)],aA (.type "builtin_function_or_method") [(.builtin "object.__init_subclass__"),(.ref 98)]]++(fs 103 "need_units" 15 0 46 3 322 ["cells","address","count"] "f77.memory" 262++(fs 110 "read_cell" 16 0 49 3 331 ["cells","address","tag","cell"] "f77.memory" 262++(fs 117 "load_number" 17 0 54 3 341 ["cells","kind","address","value"] "f77.memory" 262++(fs 124 "store_number" 18 0 62 4 351 ["cells","kind","address","value"] "f77.memory" 262++(fs 131 "load_text" 19 0 71 3 361 ["cells","address","length","signs"] "f77.memory" 262++(fs 138 "store_text" 20 0 77 3 371 ["cells","address","text","k"] "f77.memory" 262++(fs 145 "pad" 21 0 81 2 381 ["text","length"] "f77.memory" 262++(fs 152 "unit_size" 22 0 83 2 389 ["kind","length"] "f77.memory" 262++(fs 159 "element_place" 23 0 87 2 397 ["place","subscripts","kind","address","length","dims","offset","stride","k","low","high"] "f77.memory" 262++(fs 166 "sub_place" 24 0 101 3 414 ["place","lo","hi","first","last"] "f77.memory" 262++(fs 173 "fit_int" 26 0 108 2 427 ["n","width","most"] "f77.ints" 425++(fs 180 "int_add" 27 0 113 3 436 ["x","y","width"] "f77.ints" 425++(fs 187 "int_sub" 28 0 115 3 445 ["x","y","width"] "f77.ints" 425++(fs 194 "int_mul" 29 0 117 3 454 ["x","y","width"] "f77.ints" 425++(fs 201 "cut_quotient" 30 0 119 2 463 ["x","y","found"] "f77.ints" 425++(fs 208 "int_div" 31 0 122 3 472 ["x","y","width"] "f77.ints" 425++(fs 215 "inverse_power" 32 0 126 2 481 ["x","n"] "f77.ints" 425++(fs 222 "int_power" 33 0 132 3 489 ["x","n","width","found","turn"] "f77.ints" 425++(fs 229 "order_of" 34 0 141 2 500 ["x","y"] "f77.ints" 425++(fs 236 "holds" 35 0 145 2 508 ["op","order"] "f77.ints" 425++(fs 243 "int_binary" 36 0 159 5 516 ["op","kind","x","y","limits"] "f77.ints" 425++(fs 250 "logic_binary" 37 0 171 5 527 ["op","kind","x","y","limits"] "f77.ints" 425++([gE (.type "tuple") [(.int 0 540),(.int 0 541)]]++(fs 258 "count_digits" 42 0 185 1 547 ["n","count"] "f77.reals" 538++(fs 265 "strip_zeros" 43 0 195 2 555 ["m","e"] "f77.reals" 538++(fs 272 "round_digits" 44 0 202 3 563 ["m","e","digits","drop","power","kept","rest"] "f77.reals" 538++(fs 279 "round_real" 45 0 212 4 576 ["m","e","digits","top","lead"] "f77.reals" 538++(fs 286 "exact_add" 46 0 220 2 587 ["x","y","low"] "f77.reals" 538++(fs 293 "exact_mul" 47 0 223 2 596 ["x","y"] "f77.reals" 538++(fs 300 "real_neg" 48 0 225 1 604 ["x"] "f77.reals" 538++(fs 307 "quotient" 49 0 227 4 611 ["over","under","e","digits","shift","kept","rest","m"] "f77.reals" 538++(fs 314 "real_add" 50 0 234 4 625 ["x","y","digits","top","m","e"] "f77.reals" 538++(fs 321 "real_sub" 51 0 237 4 637 ["x","y","digits","top","m","e"] "f77.reals" 538++(fs 328 "real_mul" 52 0 240 4 649 ["x","y","digits","top","m","e"] "f77.reals" 538++(fs 335 "real_div" 53 0 243 4 661 ["x","y","digits","top","m","e"] "f77.reals" 538++(fs 342 "real_compare" 54 0 248 2 673 ["x","y","m"] "f77.reals" 538++(fs 349 "real_of_int" 55 0 253 3 682 ["n","digits","top"] "f77.reals" 538++(fs 356 "real_to_int" 56 0 255 1 691 ["x","m","e","found"] "f77.reals" 538++(fs 363 "raised" 57 0 261 3 701 ["x","n","digits","found"] "f77.reals" 538++(fs 370 "real_power" 58 0 271 4 711 ["x","n","digits","top","m","e"] "f77.reals" 538++(fs 377 "digits_of" 59 0 278 2 723 ["kind","limits"] "f77.reals" 538++(fs 384 "real_binary" 60 0 280 5 731 ["op","kind","x","y","limits","digits","top"] "f77.reals" 538++([gE (.type "tuple") [(.int 1 746),(.int 0 747)],gE (.type "tuple") [(.int 0 748),(.int 0 749)],gE (.type "tuple") [(.ref 391),(.ref 392)]]++(fs 394 "round_parts" 64 0 297 3 753 ["x","digits","top"] "f77.complexes" 744++(fs 401 "complex_add" 65 0 299 4 762 ["x","y","digits","top"] "f77.complexes" 744++(fs 408 "complex_neg" 66 0 301 1 772 ["x"] "f77.complexes" 744++(fs 415 "complex_sub" 67 0 303 4 779 ["x","y","digits","top"] "f77.complexes" 744++(fs 422 "exact_product" 68 0 305 2 789 ["x","y","across"] "f77.complexes" 744++(fs 429 "complex_mul" 69 0 308 4 798 ["x","y","digits","top"] "f77.complexes" 744++(fs 436 "complex_div" 70 0 310 4 808 ["x","y","digits","top","size","whole","across","upward"] "f77.complexes" 744++(fs 443 "guarded_product" 71 0 318 3 822 ["x","y","digits","found","more"] "f77.complexes" 744++(fs 450 "complex_raised" 72 0 322 3 833 ["x","n","digits","found","turn"] "f77.complexes" 744++(fs 457 "complex_power" 73 0 334 4 844 ["x","n","digits","top","found"] "f77.complexes" 744++(fs 464 "complex_binary" 74 0 339 5 855 ["op","kind","x","y","limits","digits","top"] "f77.complexes" 744++(fs 471 "collate" 76 0 358 2 870 ["x","y","wide"] "f77.operate" 868++(fs 478 "text_binary" 77 0 361 5 879 ["op","kind","x","y","limits"] "f77.operate" 868++(fs 485 "all_operations" 78 0 365 0 890 [] "f77.operate" 868++(fs 492 "unary" 79 0 367 4 896 ["op","kind","x","limits"] "f77.operate" 868++(fs 499 "real_as" 80 0 377 4 906 ["value","of","to","limits","digits"] "f77.operate" 868++(fs 506 "convert" 81 0 384 4 917 ["value","of","to","limits"] "f77.operate" 868++([e0,aA (.type "builtin_function_or_method") [(.builtin "type.__prepare__"),(.type "type")],dz (.type "dict") P [((S "__module__" 936),(S "f77.plainexpr" 927)),((S "__qualname__" 938),(S "Run" 937)),((S "__firstlineno__" 940),(.int 397 939)),((S "__init__" 953),(.ref 526)),((S "__static_attributes__" 969),(.ref 527))] 5,e0,aA .none [(I 399),(I 4),(.ref 525)],aA (.type "code") [(S "Run" 931),(S "Run" 932),(S "/claim/cut.py" 933),(I 397),(I 0),(I 0),(I 0),(I 0),(.ref 516),(.bool false),(I 181),(.ref 517),.none,.none,.none,.none,(I 934),(I 397),(S "/claim/cut.py" 935)],jL (.type "frame") none [(some (.ref 518)),(some (.ref 3)),(some (.ref 515)),none,(some (S "f77.plainexpr" 927)),none,(some (.ref 0))],e0,e1,tq 944 ["self","memory","limits","units","world","expressions","statements"],e0,cL .none "__init__" "Run.__init__" 83 1 0 .none .none .none .none none .none .none 0,aA (.type "code") [(S "__init__" 941),(S "Run.__init__" 942),(S "/claim/cut.py" 943),(I 399),(I 7),(I 0),(I 0),(I 3),(.ref 520),(.bool true),(I 181),(.ref 521),.none,(.ref 522),(.ref 523),(.ref 524),(I 951),(I 399),(S "/claim/cut.py" 952)],cL (.type "function") "__init__" "Run.__init__" 83 1 3 .none .none .none (S "f77.plainexpr" 927) none (.ref 525) .none 0,tq 954 ["active","clears","depth","expressions","flows","frame","limits","loops","memory","operations","places","statements","steps","units","world"],dz (.type "dict") P [((S "__module__" 936),(S "f77.plainexpr" 927)),((S "__firstlineno__" 940),(.int 397 939)),((S "__init__" 953),(.ref 526)),((S "__static_attributes__" 969),(.ref 527)),((S "__dict__" 971),(.ref 530)),((S "__weakref__" 973),(.ref 531)),((S "__doc__" 974),.none)] 4,kf (.type "type") [none,none,(some (S "Run" 929)),(some (S "Run" 937)),(some (.builtin "object.__new__")),(some (.bool true))] "Run" [(.type "object")] [(.ref 529),(.type "object")] 528 "Run" true [] [] false none false,aA (.type "getset_descriptor") [(S "__dict__" 970),(.ref 529),(.builtin "function.__dict__"),(.builtin "function.__dict__#set")],aA (.type "getset_descriptor") [(S "__weakref__" 972),(.ref 529),(.builtin "ExceptionGroup.__weakref__"),.none],aA (.type "super") [(.ref 529),(.ref 529),(.ref 529)],aA (.type "builtin_function_or_method") [(.builtin "object.__init_subclass__"),(.ref 529)]]++(fs 534 "evaluate" 84 0 415 2 977 ["run","tree"] "f77.plainexpr" 927++(fs 541 "named_place" 85 0 419 2 985 ["run","name","found"] "f77.plainexpr" 927++(fs 548 "bound_of" 86 0 424 2 994 ["run","tree"] "f77.plainexpr" 927++(fs 555 "part_place" 87 0 428 2 1002 ["run","tree","base","low"] "f77.plainexpr" 927++([e0,e1,cL .none "place_of" "place_of" 88 0 0 .none .none .none .none none .none .none 0,aA (.type "code") [(S "place_of" 1012),(S "place_of" 1013),(S "/claim/cut.py" 1014),(I 432),(I 2),(I 0),(I 0),(I 3),(.ref 562),(.bool true),(I 181),(.ref 563),.none,.none,.none,(.ref 564),(I 1015),(I 432),(S "/claim/cut.py" 1016)],cL (.type "function") "place_of" "place_of" 88 0 3 .none .none .none (S "f77.plainexpr" 927) none (.ref 565) .none 0]++(fs 567 "eval_const" 89 0 439 2 1018 ["run","tree"] "f77.plainexpr" 927++(fs 574 "eval_place" 90 0 441 2 1026 ["run","tree"] "f77.plainexpr" 927++(fs 581 "eval_conv" 91 0 443 2 1034 ["run","tree"] "f77.plainexpr" 927++(fs 588 "eval_unary" 92 0 445 2 1042 ["run","tree"] "f77.plainexpr" 927++(fs 595 "reckon" 93 0 447 5 1050 ["run","word","kind","left","right"] "f77.plainexpr" 927++(fs 602 "eval_binary" 94 0 451 2 1061 ["run","tree","left","right"] "f77.plainexpr" 927++(fs 609 "eval_compare" 95 0 455 2 1071 ["run","tree","left","right"] "f77.plainexpr" 927++(fs 616 "eval_cat" 96 0 459 2 1081 ["run","tree","left"] "f77.plainexpr" 927++(fs 623 "plain_expressions" 97 0 462 0 1090 ["found","word"] "f77.plainexpr" 927++(fs 630 "base_expressions" 98 0 469 0 1098 ["found"] "f77.plainexpr" 927++(fs 637 "char_expressions" 99 0 475 0 1105 [] "f77.plainexpr" 927++([e0,aA (.type "builtin_function_or_method") [(.builtin "type.__prepare__"),(.type "type")],dz (.type "dict") P [((S "__module__" 1120),(S "f77.limits" 1111)),((S "__qualname__" 1122),(S "Limits" 1121)),((S "__firstlineno__" 1124),(.int 478 1123)),((S "__init__" 1147),(.ref 658)),((S "__static_attributes__" 1156),(.ref 659))] 5,e0,aA .none [(I 480),(I 4),(.ref 657)],aA (.type "code") [(S "Limits" 1115),(S "Limits" 1116),(S "/claim/cut.py" 1117),(I 478),(I 0),(I 0),(I 0),(I 0),(.ref 647),(.bool false),(I 181),(.ref 648),.none,.none,.none,.none,(I 1118),(I 478),(S "/claim/cut.py" 1119)],jL (.type "frame") none [(some (.ref 649)),(some (.ref 3)),(some (.ref 646)),none,(some (S "f77.limits" 1111)),none,(some (.ref 0))],gE (.type "tuple") [(.int 32 1125),(.int 7 1126),(.int 15 1127),(.int 38 1128),(.int 1000000 1129),(.int 19 1130),(.int 72 1131),(.int 40 1132)],e0,e1,tq 1136 ["self","width","real_digits","double_digits","top_exponent","steps","continuations","columns","depth"],e0,cL .none "__init__" "Limits.__init__" 101 1 0 .none .none .none .none none .none .none 0,aA (.type "code") [(S "__init__" 1133),(S "Limits.__init__" 1134),(S "/claim/cut.py" 1135),(I 480),(I 9),(I 0),(I 0),(I 3),(.ref 652),(.bool true),(I 181),(.ref 653),.none,(.ref 654),(.ref 655),(.ref 656),(I 1145),(I 480),(S "/claim/cut.py" 1146)],cL (.type "function") "__init__" "Limits.__init__" 101 1 3 (.ref 651) .none .none (S "f77.limits" 1111) none (.ref 657) .none 0,tq 1148 ["columns","continuations","depth","double_digits","real_digits","steps","top_exponent","width"],dz (.type "dict") P [((S "__module__" 1120),(S "f77.limits" 1111)),((S "__firstlineno__" 1124),(.int 478 1123)),((S "__init__" 1147),(.ref 658)),((S "__static_attributes__" 1156),(.ref 659)),((S "__dict__" 1158),(.ref 662)),((S "__weakref__" 1160),(.ref 663)),((S "__doc__" 1161),.none)] 4,kf (.type "type") [none,none,(some (S "Limits" 1113)),(some (S "Limits" 1121)),(some (.builtin "object.__new__")),(some (.bool true))] "Limits" [(.type "object")] [(.ref 661),(.type "object")] 660 "Limits" true [] [] false none false,aA (.type "getset_descriptor") [(S "__dict__" 1157),(.ref 661),(.builtin "function.__dict__"),(.builtin "function.__dict__#set")],aA (.type "getset_descriptor") [(S "__weakref__" 1159),(.ref 661),(.builtin "ExceptionGroup.__weakref__"),.none],aA (.type "super") [(.ref 661),(.ref 661),(.ref 661)],aA (.type "builtin_function_or_method") [(.builtin "object.__init_subclass__"),(.ref 661)]]++(fs 666 "_law_relations" 103 0 490 0 1166 [] "law_no0284_01" 1164++(fs 673 "_law_places" 104 0 492 0 1172 [] "law_no0284_01" 1164++(fs 680 "_law_take" 105 0 494 2 1178 ["pool","many","digit"] "law_no0284_01" 1164++(fs 687 "_law_number" 106 0 502 1 1187 ["pool"] "law_no0284_01" 1164++(fs 694 "_law_real" 107 0 504 1 1194 ["pool"] "law_no0284_01" 1164++([e0,e1,cL .none "_law_text" "_law_text" 108 0 0 .none .none .none .none none .none .none 0,aA (.type "code") [(S "_law_text" 1201),(S "_law_text" 1202),(S "/claim/cut.py" 1203),(I 506),(I 1),(I 0),(I 0),(I 3),(.ref 701),(.bool true),(I 181),(.ref 702),.none,.none,.none,(.ref 703),(I 1204),(I 506),(S "/claim/cut.py" 1205)],cL (.type "function") "_law_text" "_law_text" 108 0 3 .none .none .none (S "law_no0284_01" 1164) none (.ref 704) .none 0]++(fs 706 "_law_const" 109 0 508 2 1207 ["pool","kind"] "law_no0284_01" 1164++([e0,e1,cL .none "_law_leaf" "_law_leaf" 110 0 0 .none .none .none .none none .none .none 0,aA (.type "code") [(S "_law_leaf" 1215),(S "_law_leaf" 1216),(S "/claim/cut.py" 1217),(I 514),(I 2),(I 0),(I 0),(I 3),(.ref 713),(.bool true),(I 181),(.ref 714),.none,.none,.none,(.ref 715),(I 1218),(I 514),(S "/claim/cut.py" 1219)],cL (.type "function") "_law_leaf" "_law_leaf" 110 0 3 .none .none .none (S "law_no0284_01" 1164) none (.ref 716) .none 0]++(fs 718 "_law_index" 111 0 523 2 1221 ["pool","k"] "law_no0284_01" 1164++([e0,e1,cL .none "_law_tree" "_law_tree" 112 0 0 .none .none .none .none none .none .none 0,aA (.type "code") [(S "_law_tree" 1229),(S "_law_tree" 1230),(S "/claim/cut.py" 1231),(I 527),(I 3),(I 0),(I 0),(I 3),(.ref 725),(.bool true),(I 181),(.ref 726),.none,.none,.none,(.ref 727),(I 1232),(I 527),(S "/claim/cut.py" 1233)],cL (.type "function") "_law_tree" "_law_tree" 112 0 3 .none .none .none (S "law_no0284_01" 1164) none (.ref 728) .none 0]++(fs 730 "_law_fit" 113 0 554 3 1235 ["over","under","digits","e","size","m","rest"] "law_no0284_01" 1164++(fs 737 "_law_fraction" 114 0 573 1 1248 ["x"] "law_no0284_01" 1164++(fs 744 "_law_whole" 115 0 575 2 1255 ["n","width"] "law_no0284_01" 1164++(fs 751 "_law_toward" 116 0 577 2 1263 ["over","under","n"] "law_no0284_01" 1164++(fs 758 "_law_power" 117 0 580 3 1272 ["x","n","width"] "law_no0284_01" 1164++(fs 765 "_law_two" 118 0 588 5 1281 ["word","kind","x","y","width","a","b","c","d"] "law_no0284_01" 1164++(fs 772 "_law_order" 119 0 602 3 1296 ["kind","x","y","a","b","c","d"] "law_no0284_01" 1164++(fs 779 "_law_held" 120 0 610 3 1309 ["held","name","index"] "law_no0284_01" 1164++([e0,e1,cL .none "_law_subscripts" "_law_subscripts" 121 0 0 .none .none .none .none none .none .none 0,aA (.type "code") [(S "_law_subscripts" 1318),(S "_law_subscripts" 1319),(S "/claim/cut.py" 1320),(I 612),(I 3),(I 0),(I 0),(I 3),(.ref 786),(.bool true),(I 181),(.ref 787),.none,.none,.none,(.ref 788),(I 1321),(I 612),(S "/claim/cut.py" 1322)],cL (.type "function") "_law_subscripts" "_law_subscripts" 121 0 3 .none .none .none (S "law_no0284_01" 1164) none (.ref 789) .none 0]++(fs 791 "_law_value" 122 0 621 3 1324 ["held","tree","width","word","index","x","over","under","y","order"] "law_no0284_01" 1164++(fs 798 "_law_part" 123 0 653 3 1340 ["held","tree","width","base","index","length","low","high","whole"] "law_no0284_01" 1164++([e0,e1,cL .none "_law_fill" "_law_fill" 124 0 0 .none .none .none .none none .none .none 0,aA (.type "code") [(S "_law_fill" 1355),(S "_law_fill" 1356),(S "/claim/cut.py" 1357),(I 665),(I 2),(I 0),(I 0),(I 3),(.ref 805),(.bool true),(I 181),(.ref 806),.none,.none,.none,(.ref 807),(I 1358),(I 665),(S "/claim/cut.py" 1359)],cL (.type "function") "_law_fill" "_law_fill" 124 0 3 .none .none .none (S "law_no0284_01" 1164) none (.ref 808) .none 0,e0,e1,cL .none "law" "law" 125 0 0 .none .none .none .none none .none .none 0,aA (.type "code") [(S "law" 1361),(S "law" 1362),(S "/claim/cut.py" 1363),(I 682),(I 1),(I 0),(I 0),(I 3),(.ref 810),(.bool true),(I 181),(.ref 811),.none,.none,.none,(.ref 812),(I 1364),(I 682),(S "/claim/cut.py" 1365)],cL (.type "function") "law" "law" 125 0 3 .none .none .none (S "law_no0284_01" 1164) none (.ref 813) .none 0]))))))))))))))))))))))))))))))))))))))))))))))))))))))))))))))))))))))))))))))))))))))))))))))))))))))))
theorem Ct(w:World)(os:OsState):segRunT treeTable pw w m0 mK 1 267 (sT (T0 w.params) 15 187 os) (piecesOf (aO 0 3) gH cE ⟨0,0,0,0⟩ [topFrame ⟨0,0,0,0⟩])=some (.next,sT (T1 w.params) 42 225 os,cE,⟨5,0,9,24⟩):=by rw[cQ,cR];kernel_rfl
theorem Cu(w:World)(os:OsState):segRunT treeTable pw w m0 mK 1 324 (sT (T1 w.params) 42 225 os) (piecesOf (aO 3 11) gH cE ⟨5,0,9,24⟩ [topFrame ⟨0,0,0,0⟩])=some (.next,sT (T2 w.params) 61 266 os,cE,⟨26,0,26,6⟩):=by rw[cQ,cR];kernel_rfl
theorem Cv(w:World)(os:OsState):segRunT treeTable pw w m0 mK 1 385 (sT (T2 w.params) 61 266 os) (piecesOf (aO 14 3) gH cE ⟨26,0,26,6⟩ [topFrame ⟨0,0,0,0⟩])=some (.next,sT (T3 w.params) 117 341 os,cE,⟨49,0,53,18⟩):=by rw[cQ,cR];kernel_rfl
theorem Cw(w:World)(os:OsState):segRunT treeTable pw w m0 mK 1 394 (sT (T3 w.params) 117 341 os) (piecesOf (aO 17 13) gH cE ⟨49,0,53,18⟩ [topFrame ⟨0,0,0,0⟩])=some (.next,sT (T4 w.params) 201 463 os,cE,⟨117,0,118,32⟩):=by rw[cQ,cR];kernel_rfl
theorem Cy(w:World)(os:OsState):segRunT treeTable pw w m0 mK 1 386 (sT (T4 w.params) 201 463 os) (piecesOf (aO 30 15) gH cE ⟨117,0,118,32⟩ [topFrame ⟨0,0,0,0⟩])=some (.next,sT (T5 w.params) 279 576 os,cE,⟨202,0,211,28⟩):=by rw[cQ,cR];kernel_rfl
theorem Cz(w:World)(os:OsState):segRunT treeTable pw w m0 mK 1 390 (sT (T5 w.params) 279 576 os) (piecesOf (aO 45 12) gH cE ⟨202,0,211,28⟩ [topFrame ⟨0,0,0,0⟩])=some (.next,sT (T6 w.params) 363 701 os,cE,⟨255,0,260,37⟩):=by rw[cQ,cR];kernel_rfl
theorem CA(w:World)(os:OsState):segRunT treeTable pw w m0 mK 1 391 (sT (T6 w.params) 363 701 os) (piecesOf (aO 57 14) gH cE ⟨255,0,260,37⟩ [topFrame ⟨0,0,0,0⟩])=some (.next,sT (T7 w.params) 443 822 os,cE,⟨310,0,317,53⟩):=by rw[cQ,cR];kernel_rfl
theorem CB(w:World)(os:OsState):segRunT treeTable pw w m0 mK 1 342 (sT (T7 w.params) 443 822 os) (piecesOf (aO 71 12) gH cE ⟨310,0,317,53⟩ [topFrame ⟨0,0,0,0⟩])=some (.next,sT (T8 w.params) 513 929 os,cE,⟨396,0,396,8⟩):=by rw[cQ,cR];kernel_rfl
theorem CC(w:World)(os:OsState):segRunT treeTable pw w m0 mK 1 391 (sT (T8 w.params) 513 929 os) (piecesOf (aO 83 6) gH cE ⟨396,0,396,8⟩ [topFrame ⟨0,0,0,0⟩])=some (.next,sT (T9 w.params) 567 1018 os,cE,⟨432,0,438,16⟩):=by rw[cQ,cR];kernel_rfl
theorem CD(w:World)(os:OsState):segRunT treeTable pw w m0 mK 1 345 (sT (T9 w.params) 567 1018 os) (piecesOf (aO 89 12) gH cE ⟨432,0,438,16⟩ [topFrame ⟨0,0,0,0⟩])=some (.next,sT (EO w.params) 644 1113 os,cE,⟨477,0,477,8⟩):=by rw[cQ,cR];kernel_rfl
theorem Aa(w:World)(os:OsState):segRunT treeTable pw w m0 mK 1 400 (sT (EO w.params) 644 1113 os) (piecesOf (aO 101 7) gH cE ⟨477,0,477,8⟩ [topFrame ⟨0,0,0,0⟩])=some (.next,sT (EP w.params) 701 1201 os,cE,⟨504,0,505,78⟩):=by rw[cQ,cR];kernel_rfl
theorem Ab(w:World)(os:OsState):segRunT treeTable pw w m0 mK 1 398 (sT (EP w.params) 701 1201 os) (piecesOf (aO 108 13) gH cE ⟨504,0,505,78⟩ [topFrame ⟨0,0,0,0⟩])=some (.next,sT (EQ w.params) 786 1318 os,cE,⟨610,0,611,32⟩):=by rw[cQ,cR];kernel_rfl
theorem Ac(w:World)(os:OsState):segRunT treeTable pw w m0 mK 1 154 (sT (EQ w.params) 786 1318 os) (piecesOf (aO 121 5) gH cE ⟨610,0,611,32⟩ [topFrame ⟨0,0,0,0⟩])=some (.next,sT (DI w.params) 815 1367 os,cE,⟨682,0,704,56⟩):=by rw[cQ,cR];kernel_rfl
end
section
abbrev rw':OpenLaw:=PySem.Challenge.rw_no0284_01
theorem CE:∀ w:World,(fencedOpening treeTable pw w 9234).map (λs=>(s.heap,s.gens,s.drawn,s.toks))=some (boot_heap w.params,Array.mk [],boot_drawn,boot_toks):=
 boot_open (p:=pw) (N:=9234) (by kernel_rfl) (by decide +kernel) (λs=>by kernel_rfl)
theorem uN:∀ w:World,((boot_heap w.params).isNs mainGlobals&&(Array.mk []:Array GenState).size==0,(boot_heap w.params).objs.size,(boot_heap w.params).nsMap mainGlobals "__annotations__")=(true,m0,mK):=λw=>by kernel_rfl
theorem ER(w:World)(os:OsState):topGo treeTable pw w m0 mK 12 ⟨boot_heap w.params,Array.mk [],boot_drawn,boot_toks,os⟩ (topStub pw)=some ((sT (T0 w.params) 15 187 os).abs,⟨denote treeTable cE,cE,⟨0,0,0,0⟩,[topFrame ⟨0,0,0,0⟩]⟩):=by kernel_rfl
theorem CF(w:World)(os:OsState):segRun treeTable pw w m0 mK 1 1 (sT (T0 w.params) 15 187 os).abs (blockOf (behindTheImports pw) gH cE ⟨0,0,0,0⟩ [topFrame ⟨0,0,0,0⟩])=some (.next,(sT (T0 w.params) 15 187 os).abs,cE,⟨0,0,0,0⟩):=by kernel_rfl
theorem ES(w:World)(os:OsState)(s:SharedT)(p:Pos):topRun treeTable pw w m0 mK 2 s.abs ⟨doneF .next,cE,p,[topFrame ⟨0,0,0,0⟩]⟩=some s.abs:=by kernel_rfl
noncomputable def HE(P:Params):Heap:=⟨(jX P).toArray,{}⟩
theorem DP(P:Params):absHeap (DI P) 815 {}=HE P:=by kernel_rfl
theorem FO(w:World)(os:OsState):topRun treeTable pw w m0 mK (12+(1+(267+(324+(385+(394+(386+(390+(391+(342+(391+(345+(400+(398+(154+2))))))))))))))) ⟨boot_heap w.params,Array.mk [],boot_drawn,boot_toks,os⟩ (topStub pw)=some (sT (DI w.params) 815 1367 os).abs:=by
 refine go_top (ER w os) ?_;refine piece_block (CF w os) ?_;have hb:behindTheImports pw=(aO 0 3++(aO 3 11++(aO 14 3++(aO 17 13++(aO 30 15++(aO 45 12++(aO 57 14++(aO 71 12++(aO 83 6++(aO 89 12++(aO 101 7++(aO 108 13++(aO 121 5++[]))))))))))))):=by kernel_rfl
 have z:topRun treeTable pw w m0 mK (267+(324+(385+(394+(386+(390+(391+(342+(391+(345+(400+(398+(154+2))))))))))))) (sT (T0 w.params) 15 187 os).abs (restOf (aO 0 3++(aO 3 11++(aO 14 3++(aO 17 13++(aO 30 15++(aO 45 12++(aO 57 14++(aO 71 12++(aO 83 6++(aO 89 12++(aO 101 7++(aO 108 13++(aO 121 5++[]))))))))))))) gH cE ⟨0,0,0,0⟩ [topFrame ⟨0,0,0,0⟩])=some (sT (DI w.params) 815 1367 os).abs:=
  piece_app (rest:=(aO 3 11++(aO 14 3++(aO 17 13++(aO 30 15++(aO 45 12++(aO 57 14++(aO 71 12++(aO 83 6++(aO 89 12++(aO 101 7++(aO 108 13++(aO 121 5++[]))))))))))))) (segRun_of (Ct w os)) (piece_app (rest:=(aO 14 3++(aO 17 13++(aO 30 15++(aO 45 12++(aO 57 14++(aO 71 12++(aO 83 6++(aO 89 12++(aO 101 7++(aO 108 13++(aO 121 5++[])))))))))))) (segRun_of (Cu w os)) (piece_app (rest:=(aO 17 13++(aO 30 15++(aO 45 12++(aO 57 14++(aO 71 12++(aO 83 6++(aO 89 12++(aO 101 7++(aO 108 13++(aO 121 5++[]))))))))))) (segRun_of (Cv w os)) (piece_app (rest:=(aO 30 15++(aO 45 12++(aO 57 14++(aO 71 12++(aO 83 6++(aO 89 12++(aO 101 7++(aO 108 13++(aO 121 5++[])))))))))) (segRun_of (Cw w os)) (piece_app (rest:=(aO 45 12++(aO 57 14++(aO 71 12++(aO 83 6++(aO 89 12++(aO 101 7++(aO 108 13++(aO 121 5++[]))))))))) (segRun_of (Cy w os)) (piece_app (rest:=(aO 57 14++(aO 71 12++(aO 83 6++(aO 89 12++(aO 101 7++(aO 108 13++(aO 121 5++[])))))))) (segRun_of (Cz w os)) (piece_app (rest:=(aO 71 12++(aO 83 6++(aO 89 12++(aO 101 7++(aO 108 13++(aO 121 5++[]))))))) (segRun_of (CA w os)) (piece_app (rest:=(aO 83 6++(aO 89 12++(aO 101 7++(aO 108 13++(aO 121 5++[])))))) (segRun_of (CB w os)) (piece_app (rest:=(aO 89 12++(aO 101 7++(aO 108 13++(aO 121 5++[]))))) (segRun_of (CC w os)) (piece_app (rest:=(aO 101 7++(aO 108 13++(aO 121 5++[])))) (segRun_of (CD w os)) (piece_app (rest:=(aO 108 13++(aO 121 5++[]))) (segRun_of (Aa w os)) (piece_app (rest:=(aO 121 5++[])) (segRun_of (Ab w os)) (piece_app (rest:=[]) (segRun_of (Ac w os)) (ES w os _ _)))))))))))))
 rw[<-hb]at z;exact z
theorem EU(w:World)(os:OsState):topRun treeTable pw w m0 mK (12+(1+(267+(324+(385+(394+(386+(390+(391+(342+(391+(345+(400+(398+(154+2))))))))))))))) ⟨boot_heap w.params,Array.mk [],boot_drawn,boot_toks,os⟩ (topStub pw)=some ⟨HE w.params,#[],{},1367,os⟩:=by
 have e:(sT (DI w.params) 815 1367 os).abs=⟨absHeap (DI w.params) 815 {},#[],{},1367,os⟩:=by kernel_rfl
 rw[FO,e,DP]
noncomputable def Ad:Stmt:=(pw.main.body[125]?).getD (.Pass ⟨0,0,0,0⟩)
noncomputable def qv:Program:=view pw [125]
noncomputable def B3:List Str:=(["_wall","F77Error","RunFault","INTEGER","REAL","DOUBLE","COMPLEX","LOGICAL","CHARACTER","units_of","SECOND","Memory","need_units","read_cell","load_number","store_number","load_text","store_text","pad","unit_size","element_place","sub_place","fit_int","int_add","int_sub","int_mul","cut_quotient","int_div","inverse_power","int_power","order_of","holds","int_binary","logic_binary","NOUGHT","GUARD","EXACT_POWER","count_digits","strip_zeros","round_digits","round_real","exact_add","exact_mul","real_neg","quotient","real_add","real_sub","real_mul","real_div","real_compare","real_of_int","real_to_int","raised","real_power","digits_of","real_binary","ONE","EXACT_COMPLEX_POWER","round_parts","complex_add","complex_neg","complex_sub","exact_product","complex_mul","complex_div","guarded_product","complex_raised","complex_power","complex_binary","collate","text_binary","all_operations","unary","real_as","convert","Run","evaluate","named_place","bound_of","part_place","place_of","eval_const","eval_place","eval_conv","eval_unary","reckon","eval_binary","eval_compare","eval_cat","plain_expressions","base_expressions","char_expressions","Limits","_law_relations","_law_places","_law_take","_law_number","_law_real","_law_text","_law_const","_law_leaf","_law_index","_law_tree","_law_fit","_law_fraction","_law_whole","_law_toward","_law_power","_law_two","_law_order","_law_held","_law_subscripts","_law_value","_law_part","_law_fill"]:List String).map Str.ofString
noncomputable def DQ:Stmt->DefRec
 | .FunctionDef nm a b _ _ _ sc _ _ p=>⟨nm,a,b,sc,p⟩
 | _=>⟨Str.ofString "",ir.1,[],ir.2.2,⟨0,0,0,0⟩⟩
noncomputable def xx:DefRec:=DQ Ad
noncomputable def Ae:Nat->List Obj->Frag
 | _,[]=>[]
 | n,o::r=>(n,o)::Ae (n+1) r
noncomputable def KH(P:Params):Frag:=Ae 0 (jX P)
theorem pG(L:List Obj):∀ (n a:Nat) (o:Obj),(Ae n L).lookup a=some o->n<=a/\L[a - n]?=some o:=by
 induction L with
 | nil=>intro n a o h;exact nomatch h
 | cons x L ih=>
  intro n a o h;simp only[Ae,List.lookup_cons]at h;refine PW (P_ (a=n)) (λe=>?_) λe=>?_
  ·subst e;rw[beq_self_eq_true]at h;rw[Nat.sub_self];exact⟨Nat.le_refl _,h⟩
  ·rw[beq_eq_false_iff_ne.mpr e]at h;refine PV (λh1 h2=>⟨Nat.le_of_succ_le h1, ?_⟩) (ih (n+1) a o h);rw[(Nat.succ_pred_eq_of_pos (Nat.sub_pos_of_lt h1)).symm,List.getElem?_cons_succ];exact h2
theorem vP(P:Params):(jX P).all (λo=>!o.isFreed)=true:=by kernel_rfl
noncomputable def HK:Hook:=⟨List Obj,λs=>s.heap.objs.toList,λw=>jX w.params,λw h=>(KH w.params).In h,λw s e a o h=>by
 obtain⟨_,h2⟩:=pG _ _ _ _ h;rw[Nat.sub_zero]at h2;refine Heap.get?_some_iff.mpr ⟨?_, ?_⟩
 ·rw[<-e]at h2;simpa using h2
 ·have:=List.all_eq_true.mp (vP w.params) o (List.mem_of_getElem? h2)
  simpa using this,λw h h' x k=>Frag.In.keeps x k⟩
abbrev EV(s:Shared):Bool:=xlAt qv [] s&&recOk (RowW.records rw'.row.toRowW) s
noncomputable def sE(w:World)(os:OsState):Shared:=⟨HE w.params,#[],{},1367,os⟩
theorem DR(w:World)(os:OsState):(staticsOk (importedModules pw.main.body) (boot_heap w.params) (HE w.params)&&namesBound pw (HE w.params)&&gensDone (sE w os)&&laidKept (boot_heap w.params) (HE w.params))=true:=by kernel_rfl
theorem DS(w:World)(os:OsState):openSeen qv B3 (importedModules pw.main.body) EV true (sE w os)=openGood qv B3:=by kernel_rfl
theorem DT:LeftO pw qv B3 EV HK.obs HK.val 9234:=
 LeftO.of_pieces (H₀:=boot_heap) (H₁:=HE) (gs₀:=Array.mk []) (gs₁:=#[]) (d₀:=boot_drawn) (d₁:={}) (k₀:=boot_toks) (k₁:=1367) CE uN EU (by decide +kernel)
  (λw=>funext λos=>Prod.ext (DR w os) (Prod.ext (DS w os) rfl))
theorem EW:OpenLaw.wellSaid rw'=true:=(congrFun PySem.W.Fast.te9446332074065402090 _).trans (by kernel_rfl)
theorem head(h:WalkO qv B3 (XL qv []) HK.says rw'.row.toRowW xx [] (λf vs=>PySem.call f vs)):rw'.Holds:=by refine holds_law EW λok=>?_;refine holds_open (q:=qv) (loose:=B3) (Xt:=EV) (XP:=XL qv []) (Yf:=HK.obs) (Ya:=HK.val) (YP:=HK.says) (d:=xx) (kwd:=[]) (N:=9234) DT HK.of HK.keeps (λs e=>xl_of s (P8 e).1) XL.keeps (by kernel_rfl) (by kernel_rfl) (by kernel_rfl) (λs e=>recFacts_of (P8 e).2) (by rfl) ok (by decide +kernel) ⟨rfl,rfl,rfl,rfl,rfl,by decide +kernel⟩ ?hw h;exact⟨[.list []],by decide +kernel,by decide +kernel⟩
end
end Mine
end
noncomputable section
namespace Mine
set_option genSizeOfSpec false
set_option genInjectivity false
open PySem PySem.W PySem.Calls PyProof.Rows
inductive D where
 | none | bool (b:Bool) | int (i:Int) | str (s:Str)
 | tup (l:List D) | list (l:List D) | sdict (l:List (Str×D)) | idict (l:List (Int×D))
 | ref (i:Nat) | inst (c:Str) (i:Nat) | fn (x:Str) | blt (x:Str)
 | range (a b:Int) | items (l:List (Str×D))
inductive Cell where
 | list (l:List D) | sdict (l:List (Str×D)) | tdict (l:List (List Int×D))
abbrev St:=List Cell
inductive R(α:Type) where
 | ok (a:α) (σ:St) | exc (σ:St) | stuck
abbrev M(α:Type):=St->R α
noncomputable def ret{α}(a:α):M α:=λσ=>.ok a σ
noncomputable def stuck{α}:M α:=λ_=>.stuck
noncomputable def aP{α}:M α:=λσ=>.exc σ
noncomputable def bnd{α β}(m:M α)(f:α->M β):M β:=λσ=>match m σ with
 | .ok a σ'=>f a σ'
 | .exc σ'=>.exc σ'
 | .stuck=>.stuck
noncomputable def d_(c:Cell):M Nat:=λσ=>.ok σ.length (σ++[c])
noncomputable def cell(i:Nat):M Cell:=λσ=>match σ[i]? with | some c=>.ok c σ | Option.none=>.stuck
noncomputable def xp(i:Nat)(c:Cell):M Unit:=λσ=>.ok () (σ.set i c)
abbrev af:=List (Str×D)
abbrev Sc:=List (Str×NameKind)
noncomputable def aj:af->Str->D->af
 | [],x,d=>[(x,d)]
 | (y,e)::r,x,d=>if y=x then (y,d)::r else (y,e)::aj r x d
noncomputable def nm(x:String):Str:=Str.ofString x
noncomputable def xq:Nat:=2 ^ 8192
noncomputable def fits(i:Int):Bool:=decide (i.natAbs<xq)
noncomputable def cz:D->M Bool
 | .bool b=>ret b
 | .int i=>ret (i !=0)
 | _=>stuck
noncomputable def dm:D->M D
 | .int i=>ret (.int (-i))
 | _=>stuck
noncomputable def ao(n:Nat):Bool:=decide (n<=1000000)
noncomputable def DU(op:Operator)(a b:Int):M D:=match op with
 | .Add=>ret (.int (a+b))
 | .Sub=>ret (.int (a - b))
 | .Mult=>if fits a&&fits b then ret (.int (a*b)) else stuck
 | .FloorDiv=>if b≠0/\fits a/\fits b then ret (.int (a.fdiv b)) else stuck
 | .Mod=>if b≠0 then ret (.int (a.fmod b)) else stuck
 | .Pow=>if 0<=b/\b<=4000/\fits a then ret (.int (a ^ b.toNat)) else stuck
 | .LShift=>if 0<=b/\b<=4000/\fits a then ret (.int (a*2 ^ b.toNat)) else stuck
 | _=>stuck
noncomputable def DV(op:Operator)(a b:Str):M D:=match op with
 | .Add=>if ao a.length&&ao b.length then ret (.str (a++b)) else stuck
 | _=>stuck
noncomputable def DW(op:Operator)(a:Str)(n:Int):M D:=match op with
 | .Mult=>if a=nm " " ∧ -1000000<=n/\n<=1000000 then ret (.str ⟨Array.replicate n.toNat 32⟩) else stuck
 | _=>stuck
noncomputable def EX(op:Operator)(l:List D)(n:Int):M D:=match l with
 | []=>stuck
 | x::r=>match r with
  | []=>match op with
   | .Mult=>if 0<=n/\n<=1000000 then bnd (d_ (.list (List.replicate n.toNat x))) λi=>ret (.ref i) else stuck
   | _=>stuck
  | _::_=>stuck
noncomputable def asInt{α:Type}(a:D)(f:Int->M α):M α:=if h:a.ctorIdx=2 then D.int.elim a h f else stuck
theorem kg{α:Type}{a:D}{f:Int->M α}(P:M α->Prop){C:Prop}(h:P (asInt a f))(k:∀ x,a=.int x->P (f x)->C)(k':P stuck->C):C:=
 if q:a.ctorIdx=2 then D.int.elim (motive_1:=λt=>a=t->P (asInt t f)->C) a q k rfl h else k' ((dif_neg q:asInt a f=stuck) ▸ h)
noncomputable def asStr{α:Type}(a:D)(f:Str->M α):M α:=if h:a.ctorIdx=3 then D.str.elim a h f else stuck
theorem xy{α:Type}{a:D}{f:Str->M α}(P:M α->Prop){C:Prop}(h:P (asStr a f))(k:∀ x,a=.str x->P (f x)->C)(k':P stuck->C):C:=
 if q:a.ctorIdx=3 then D.str.elim (motive_1:=λt=>a=t->P (asStr t f)->C) a q k rfl h else k' ((dif_neg q:asStr a f=stuck) ▸ h)
noncomputable def asBool{α:Type}(a:D)(f:Bool->M α):M α:=if h:a.ctorIdx=1 then D.bool.elim a h f else stuck
theorem vQ{α:Type}{a:D}{f:Bool->M α}(P:M α->Prop){C:Prop}(h:P (asBool a f))(k:∀ x,a=.bool x->P (f x)->C)(k':P stuck->C):C:=
 if q:a.ctorIdx=1 then D.bool.elim (motive_1:=λt=>a=t->P (asBool t f)->C) a q k rfl h else k' ((dif_neg q:asBool a f=stuck) ▸ h)
noncomputable def asTup{α:Type}(a:D)(f:List D->M α):M α:=if h:a.ctorIdx=4 then D.tup.elim a h f else stuck
theorem pH{α:Type}{a:D}{f:List D->M α}(P:M α->Prop){C:Prop}(h:P (asTup a f))(k:∀ x,a=.tup x->P (f x)->C)(k':P stuck->C):C:=
 if q:a.ctorIdx=4 then D.tup.elim (motive_1:=λt=>a=t->P (asTup t f)->C) a q k rfl h else k' ((dif_neg q:asTup a f=stuck) ▸ h)
noncomputable def asList{α:Type}(a:D)(f:List D->M α):M α:=if h:a.ctorIdx=5 then D.list.elim a h f else stuck
theorem vR{α:Type}{a:D}{f:List D->M α}(P:M α->Prop){C:Prop}(h:P (asList a f))(k:∀ x,a=.list x->P (f x)->C)(k':P stuck->C):C:=
 if q:a.ctorIdx=5 then D.list.elim (motive_1:=λt=>a=t->P (asList t f)->C) a q k rfl h else k' ((dif_neg q:asList a f=stuck) ▸ h)
noncomputable def ag(op:Operator)(a b:D):M D:=match a with
 | .int a=>asInt b (DU op a)
 | .str a=>match b with
  | .str b=>DV op a b
  | .int n=>DW op a n
  | _=>stuck
 | .list l=>asInt b (EX op l)
 | _=>stuck
mutual
noncomputable def fE(σ:St):D->Option PyData
 | .none=>some .none
 | .bool b=>some (.bool b)
 | .int i=>some (.int i)
 | .str s=>some (.str s)
 | .tup l=>(bO σ l).map .tuple
 | .list l=>(bO σ l).map .list
 | _=>Option.none
noncomputable def bO(σ:St):List D->Option (List PyData)
 | []=>some []
 | x::r=>match fE σ x,bO σ r with
  | some a,some b=>some (a::b)
  | _,_=>Option.none
end
noncomputable def fH(σ:St):D->D
 | .ref i=>match σ[i]? with
  | some (.list l)=>.list l
  | _=>.ref i
 | d=>d
noncomputable def fI(σ:St):D->D
 | .tup l=>.tup (l.map (fH σ))
 | d=>fH σ d
noncomputable def sj(a b:D):M Bool:=λσ=>match fE σ (fI σ a),fE σ (fI σ b) with
 | some x,some y=>if SeqAt.shaped x&&SeqAt.shaped y then .ok (PyData.eqv x y) σ else .stuck
 | _,_=>.stuck
noncomputable def isNone:D->Bool
 | .none=>true
 | _=>false
noncomputable def aa:List (Str×D)->Str->Option D
 | [],_=>Option.none
 | (y,d)::r,x=>if y=x then some d else aa r x
noncomputable def gK:List (Int×D)->Int->Option D
 | [],_=>Option.none
 | (y,d)::r,x=>if y=x then some d else gK r x
noncomputable def dA:List (List Int×D)->List Int->Option D
 | [],_=>Option.none
 | (y,d)::r,x=>if y=x then some d else dA r x
noncomputable def fJ:List (Str×D)->Str->D->List (Str×D)
 | [],x,d=>[(x,d)]
 | (y,e)::r,x,d=>if y=x then (y,d)::r else (y,e)::fJ r x d
noncomputable def xz:List (Int×D)->Int->D->List (Int×D)
 | [],x,d=>[(x,d)]
 | (y,e)::r,x,d=>if y=x then (y,d)::r else (y,e)::xz r x d
noncomputable def gI:List (List Int×D)->List Int->D->List (List Int×D)
 | [],x,d=>[(x,d)]
 | (y,e)::r,x,d=>if y=x then (y,d)::r else (y,e)::gI r x d
noncomputable def gL(x y:List Nat):Bool:=decide (x<y)
noncomputable def dX(d:D)(l:List D):M Bool:=λσ=>match fE σ d,bO σ l with
 | some x,some xs=>if PyData.canLay0 x&&PyData.canLayAll0 xs&&decide (PyData.depth x<=64) then .ok (xs.any λy=>PyData.eqv y x) σ else .stuck
 | _,_=>.stuck
noncomputable def mL:D->Bool
 | .fn _ | .blt _=>false
 | _=>true
noncomputable def B4(d:D):D->M Bool
 | .list l=>dX d l
 | .tup l=>dX d l
 | .idict l=>match d with
  | .int i=>ret (gK l i).isSome
  | _=>stuck
 | .ref i=>
  bnd (cell i) λq0=>match q0,d with
  | .sdict l,.str s=>ret (aa l s).isSome
  | _,_=>stuck
 | _=>stuck
noncomputable def zV(a b:D):M Bool:=match a with
 | .int x=>match b with
  | .int y=>ret (decide (x=y))
  | _=>sj a b
 | .str x=>match b with
  | .str y=>ret (decide (x=y))
  | _=>sj a b
 | .bool x=>match b with
  | .bool y=>ret (x==y)
  | _=>sj a b
 | _=>sj a b
noncomputable def EY(a b:D)(f:Bool->Bool):M Bool:=match b with
 | .none=>if mL a then ret (f (isNone a)) else stuck
 | _=>stuck
noncomputable def Fu(a b:D):M Bool:=match a with
 | .int x=>asInt b λy=>ret (decide (x<y))
 | .str x=>asStr b λy=>ret (gL x.cps.toList y.cps.toList)
 | _=>stuck
noncomputable def Fv(a b:D):M Bool:=match a with
 | .int x=>asInt b λy=>ret (decide (y<x))
 | .str x=>asStr b λy=>ret (gL y.cps.toList x.cps.toList)
 | _=>stuck
noncomputable def ae(op:CmpOp)(a b:D):M Bool:=match op with
 | .Is=>EY a b id
 | .IsNot=>EY a b not
 | .In=>B4 a b
 | .NotIn=>bnd (B4 a b) λr=>ret (!r)
 | .Eq=>zV a b
 | .NotEq=>bnd (zV a b) λr=>ret (!r)
 | .Lt=>Fu a b
 | .LtE=>asInt a λx=>asInt b λy=>ret (decide (x<=y))
 | .Gt=>Fv a b
 | .GtE=>asInt a λx=>asInt b λy=>ret (decide (y<=x))
noncomputable def so{α}(l:List α)(i:Int):Option α:=if 0<=i/\i<=1000000 then l[i.toNat]? else Option.none
noncomputable def dK:List D->Option (List Int)
 | []=>some []
 | .int i::r=>(dK r).map (i :: ·)
 | _::_=>Option.none
noncomputable def ac{α}:Option α->M α
 | some a=>ret a
 | Option.none=>stuck
noncomputable def subC(k:D)(c:Cell):M D:=match c with
 | .list l=>asInt k λj=>ac (so l j)
 | .sdict l=>asStr k λs=>ac (aa l s)
 | .tdict _=>stuck
noncomputable def subD(a k:D):M D:=match a with
 | .tup l=>asInt k λi=>ac (so l i)
 | .list l=>asInt k λi=>ac (so l i)
 | .str s=>asInt k λi=>bnd (ac (so s.cps.toList i)) λc=>ret (.str ⟨#[c]⟩)
 | .sdict l=>asStr k λs=>ac (aa l s)
 | .idict l=>asInt k λi=>ac (gK l i)
 | .ref i=>bnd (cell i) (subC k)
 | _=>stuck
noncomputable def iu(lo hi:D)(n:Nat):Option (Nat×Nat):=match hi with
 | .int b=>match lo with
  | .none=>if 0<=b then some (0,min b.toNat n) else Option.none
  | .int a=>if 0<=a/\0<=b then some (min a.toNat n,min b.toNat n) else Option.none
  | _=>Option.none
 | _=>Option.none
noncomputable def cut{α}(l:List α)(a b:Nat):List α:=(l.drop a).take (b - a)
noncomputable def bu(o lo hi:D):M D:=match o with
 | .str s=>if ao s.length then bnd (ac (iu lo hi s.length)) λ(a,b)=>ret (.str ⟨(cut s.cps.toList a b).toArray⟩) else stuck
 | .list l=>if ao l.length then bnd (ac (iu lo hi l.length)) λ(a,b)=>ret (.list (cut l a b)) else stuck
 | .ref i=>
  bnd (cell i) λq0=>match q0 with
  | .list l=>if ao l.length then bnd (ac (iu lo hi l.length)) λ(a,b)=>ret (.list (cut l a b)) else stuck
  | _=>stuck
 | _=>stuck
noncomputable def EZ(i:Nat)(k v:D)(c:Cell):M Unit:=match c with
 | .list l=>asInt k λj=>if 0<=j/\j.toNat<l.length/\ao l.length then xp i (.list (l.set j.toNat v)) else stuck
 | .sdict l=>match k with
  | .str s=>if ao l.length then xp i (.sdict (fJ l s v)) else stuck
  | .tup t=>match l with
   | []=>bnd (ac (dK t)) λq=>xp i (.tdict [(q,v)])
   | _::_=>stuck
  | _=>stuck
 | .tdict l=>asTup k λt=>bnd (ac (dK t)) λq=>if ao l.length then xp i (.tdict (gI l q v)) else stuck
noncomputable def cM(o k v:D):M Unit:=match o with
 | .ref i=>bnd (cell i) (EZ i k v)
 | _=>stuck
noncomputable def eP(c:Str):List Str:=
 if c=nm "Memory" then [nm "numeric",nm "characters"]
 else if c=nm "Run" then (["memory","limits","units","world","expressions","statements","frame","depth","steps","places","flows","clears","active","loops","operations"]:List String).map nm
 else if c=nm "Limits" then (["width","real_digits","double_digits","top_exponent","steps","continuations","columns","depth"]:List String).map nm
 else []
noncomputable def aB(o:D)(a:Str):M D:=match o with
 | .inst c i=>
  bnd (cell i) λq0=>match q0 with
  | .sdict l=>if (eP c).contains a then bnd (ac (aa l a)) λd=>if mL d then ret d else stuck else stuck
  | _=>stuck
 | _=>stuck
noncomputable def ef(o:D)(a:Str)(v:D):M Unit:=match o with
 | .inst c i=>
  bnd (cell i) λq0=>match q0 with
  | .sdict l=>if (eP c).contains a&&ao l.length then xp i (.sdict (fJ l a v)) else stuck
  | _=>stuck
 | _=>stuck
noncomputable def range(a b:Int):List D:=(List.range (b - a).toNat).map λ(k:Nat)=>D.int (a+k)
noncomputable def aZ:D->M (List D)
 | .tup l=>ret l
 | .list l=>ret l
 | .range a b=>if -100000<=a/\a<=100000 ∧ -100000<=b/\b<=100000 then ret (range a b) else stuck
 | .sdict l=>ret (l.map λx=>.str x.1)
 | _=>stuck
noncomputable def iw:List D->Option (List Str)
 | []=>some []
 | .str s::r=>(iw r).map (s :: ·)
 | _::_=>Option.none
noncomputable def xA:D->M D
 | .tup l=>if ao l.length then ret (.int l.length) else stuck
 | .list l=>if ao l.length then ret (.int l.length) else stuck
 | .str s=>if ao s.length then ret (.int s.length) else stuck
 | .ref i=>
  bnd (cell i) λq0=>match q0 with
  | .list l=>if ao l.length then ret (.int l.length) else stuck
  | _=>stuck
 | _=>stuck
noncomputable def su:D->M D
 | .tup _=>ret (.bool true)
 | _=>stuck
noncomputable def nL:D->M D
 | .bool _=>ret (.bool true)
 | .none=>ret (.bool false)
 | .int _=>ret (.bool false)
 | .str _=>ret (.bool false)
 | .tup _=>ret (.bool false)
 | _=>stuck
noncomputable def one(as:List D)(f:D->M D):M D:=match as with
 | []=>stuck
 | a::r=>match r with
  | []=>f a
  | _::_=>stuck
noncomputable def two(as:List D)(f:D->D->M D):M D:=match as with
 | []=>stuck
 | a::r=>one r (f a)
noncomputable def numB(g:Int->Int->M D)(k:Bool->Bool->M D)(a b:D):M D:=match a with
 | .int x=>asInt b (g x)
 | .bool x=>asBool b (k x)
 | _=>stuck
noncomputable def B5(a:D):M D:=match a with
 | .ref i=>bnd (cell i) λq0=>match q0 with
  | .list l=>if ao l.length then ret (.list l) else stuck
  | _=>stuck
 | _=>stuck
noncomputable def xB(a:D):M D:=match a with
 | .list l=>if ao l.length then ret (.tup l) else stuck
 | _=>stuck
noncomputable def DX(a b:D):M D:=match b with
 | .blt t=>if t=nm "tuple" then su a else if t=nm "bool" then nL a else stuck
 | _=>stuck
noncomputable def DY(a b:D):M D:=asInt a λa=>asInt b λb=>if -100000<=a/\b<=100000 then ret (.range a b) else stuck
noncomputable def xC(as:List D):M D:=match as with
 | []=>stuck
 | a::r=>match r with
  | []=>asInt a λb=>if b<=100000 then ret (.range 0 b) else stuck
  | b::r=>two (a::b::r) DY
noncomputable def au(x:Str)(as:List D):M D:=
 if x=nm "len" then one as xA
 else if x=nm "abs" then one as λa=>asInt a λi=>ret (.int i.natAbs)
 else if x=nm "min" then two as (numB (λa b=>ret (.int (if b<a then b else a))) λa b=>ret (.bool (a&&b)))
 else if x=nm "max" then two as (numB (λa b=>ret (.int (if a<b then b else a))) λa b=>ret (.bool (a||b)))
 else if x=nm "range" then xC as
 else if x=nm "divmod" then two as λa b=>asInt a λa=>asInt b λb=>if b≠0/\fits a/\fits b then ret (.tup [.int (a.fdiv b),.int (a.fmod b)]) else stuck
 else if x=nm "list" then one as B5
 else if x=nm "tuple" then one as xB
 else if x=nm "isinstance" then two as DX
 else stuck
noncomputable def jc(c m:Str):Option Str:=
 if c=nm "Memory" then (if m=nm "load" then some (nm "Memory.load") else if m=nm "store" then some (nm "Memory.store") else Option.none) else Option.none
noncomputable def cA(c:Str):Option Str:=
 if c=nm "Memory" then some (nm "Memory.__init__") else if c=nm "Run" then some (nm "Run.__init__") else if c=nm "Limits" then some (nm "Limits.__init__") else Option.none
inductive Mk where
 | pop | get | join | ljust | items | user (f:Str)
noncomputable def a_(o:D)(m:Str):M Mk:=match o with
 | .str _=>if m=nm "join" then ret .join else if m=nm "ljust" then ret .ljust else stuck
 | .ref i=>
  bnd (cell i) λq0=>match q0 with
  | .list _=>if m=nm "pop" then ret .pop else stuck
  | _=>if m=nm "get" then ret .get else stuck
 | .sdict _=>if m=nm "items" then ret .items else stuck
 | .inst c i=>
  bnd (cell i) λq0=>match q0 with
  | .sdict l=>if (aa l m).isNone then bnd (ac (jc c m)) λf=>ret (.user f) else stuck
  | _=>stuck
 | _=>stuck
section
variable(call:Str->List D->M D)
noncomputable def B6(s:Str)(a:D):M D:=asList a λl=>bnd (ac (iw l)) λys=>if (ys.map (·.length)).sum+ys.length*s.length<=16777216 then ret (.str (Txt.join s ys)) else stuck
noncomputable def xD(s:Str)(a:D):M D:=asInt a λn=>if PadOk n=true then ret (.str (Txt.ljust s n)) else stuck
noncomputable def DZ(a:D)(c:Cell):M D:=match c with
 | .list _=>stuck
 | .sdict l=>match a with
  | .str s=>ret ((aa l s).getD .none)
  | .tup t=>match l with
   | []=>bnd (ac (dK t)) λ_=>ret .none
   | _::_=>stuck
  | _=>stuck
 | .tdict l=>asTup a λt=>bnd (ac (dK t)) λq=>ret ((dA l q).getD .none)
noncomputable def D0(i:Nat)(a:D)(c:Cell):M D:=match c with
 | .list l=>match l with
  | []=>stuck
  | x::r=>asInt a λn=>if n=0 then if ao r.length then bnd (xp i (.list r)) λ_=>ret x else stuck else stuck
 | _=>stuck
noncomputable def xE(l:List (Str×D))(as:List D):M D:=match as with
 | []=>ret (.items l)
 | _::_=>stuck
noncomputable def be(o:D)(k:Mk)(as:List D):M D:=match k with
 | .join=>asStr o λs=>one as (B6 s)
 | .ljust=>asStr o λs=>one as (xD s)
 | .get=>match o with
  | .ref i=>one as λa=>bnd (cell i) (DZ a)
  | _=>stuck
 | .pop=>match o with
  | .ref i=>one as λa=>bnd (cell i) (D0 i a)
  | _=>stuck
 | .items=>match o with
  | .sdict l=>xE l as
  | _=>stuck
 | .user f=>match o with
  | .inst c i=>call f (.inst c i::as)
  | _=>stuck
noncomputable def bP(f:D)(as:List D):M D:=match f with
 | .fn x=>match cA x with
  | some g=>
   bnd (d_ (.sdict [])) λi=>
   bnd (call g (.inst x i::as)) λr=>
   if isNone r then ret (.inst x i) else stuck
  | Option.none=>if x=nm "law" then stuck else call x as
 | .blt x=>au x as
 | _=>stuck
noncomputable def xF:Const->M D
 | .none=>ret .none
 | .bool b=>ret (.bool b)
 | .int i=>ret (.int i)
 | .str s=>ret (.str s)
 | _=>stuck
variable(jf:Str->Option D)
noncomputable def xG(x:Str):Bool:=!(x==nm "__debug__")&&!(x==nm "__classdict__")
noncomputable def xH(sc:Sc)(fr:af)(x:Str):M D:=if xG x then match sc.lookup x with
 | some .local | some .cell | some .free=>ac (aa fr x)
 | some .globalImplicit=>ac (jf x)
 | _=>stuck else stuck
structure Rc where
 ev:Sc->af->Expr->M D
 tst:Sc->af->Expr->M Bool
noncomputable def onName{α:Type}(e:Expr)(f:Str->α)(o:α):α:=if h:e.ctorIdx=23 then Expr.Name.elim e h λx _=>f x else o
noncomputable def onAttr{α:Type}(e:Expr)(f:Expr->Str->Pos->α)(o:α):α:=if h:e.ctorIdx=20 then Expr.Attribute.elim e h f else o
noncomputable def kh{α:Type}(e:Expr)(f:Expr->List Expr->List Keyword->α)(o:α):α:=if h:e.ctorIdx=16 then Expr.Call.elim e h λg as ks _=>f g as ks else o
noncomputable def onTup{α:Type}(e:Expr)(f:List Expr->α)(o:α):α:=if h:e.ctorIdx=25 then Expr.Tuple.elim e h λes _ _=>f es else o
noncomputable def iz{α:Type}(e:Expr)(f:Const->α)(o:α):α:=if h:e.ctorIdx=19 then Expr.Constant.elim e h λc _ _=>f c else o
noncomputable def onSlice{α:Type}(e:Expr)(f:Option Expr->Option Expr->Option Expr->α)(o:α):α:=if h:e.ctorIdx=26 then Expr.Slice.elim e h λa b c _=>f a b c else o
noncomputable def onSub{α:Type}(e:Expr)(f:Expr->Expr->α)(o:α):α:=if h:e.ctorIdx=21 then Expr.Subscript.elim e h λa b _=>f a b else o
noncomputable def fM(e:Expr):Bool:=e.ctorIdx==22
noncomputable def ki(e:Expr):Bool:=e.ctorIdx==7
noncomputable def nM(e:Expr):Bool:=e.ctorIdx==20
noncomputable def xI(e:Expr):Bool:=e.ctorIdx==23
noncomputable def iA(e:Expr):Bool:=e.ctorIdx==26
noncomputable def kj(e:Expr):Bool:=e.ctorIdx==16
theorem jd{α:Type}{e:Expr}{f:Str->α}{o:α}(P:α->Prop){C:Prop}(h:P (onName e f o))(k:∀ x p,e=.Name x p->P (f x)->C)(k':P o->C):C:=
 if q:e.ctorIdx=23 then Expr.Name.elim (motive_1:=λt=>e=t->P (onName t f o)->C) e q k rfl h else k' ((dif_neg q:onName e f o=o) ▸ h)
theorem vS{α:Type}{e:Expr}{f:Expr->Str->Pos->α}{o:α}(P:α->Prop){C:Prop}(h:P (onAttr e f o))(k:∀ x a p,e=.Attribute x a p->P (f x a p)->C)(k':nM e=false->P o->C):C:=
 if q:e.ctorIdx=20 then Expr.Attribute.elim (motive_1:=λt=>e=t->P (onAttr t f o)->C) e q k rfl h else k' (decide_eq_false q) ((dif_neg q:onAttr e f o=o) ▸ h)
theorem vT{α:Type}{e:Expr}{f:Expr->List Expr->List Keyword->α}{o:α}(P:α->Prop){C:Prop}(h:P (kh e f o))(k:∀ g as ks p,e=.Call g as ks p->P (f g as ks)->C)(k':P o->C):C:=
 if q:e.ctorIdx=16 then Expr.Call.elim (motive_1:=λt=>e=t->P (kh t f o)->C) e q k rfl h else k' ((dif_neg q:kh e f o=o) ▸ h)
theorem xJ{α:Type}{e:Expr}{f:List Expr->α}{o:α}(P:α->Prop){C:Prop}(h:P (onTup e f o))(k:∀ es k p,e=.Tuple es k p->P (f es)->C)(k':P o->C):C:=
 if q:e.ctorIdx=25 then Expr.Tuple.elim (motive_1:=λt=>e=t->P (onTup t f o)->C) e q k rfl h else k' ((dif_neg q:onTup e f o=o) ▸ h)
theorem km{α:Type}{e:Expr}{f:Const->α}{o:α}(P:α->Prop){C:Prop}(h:P (iz e f o))(k:∀ c k p,e=.Constant c k p->P (f c)->C)(k':P o->C):C:=
 if q:e.ctorIdx=19 then Expr.Constant.elim (motive_1:=λt=>e=t->P (iz t f o)->C) e q k rfl h else k' ((dif_neg q:iz e f o=o) ▸ h)
theorem sv{α:Type}{e:Expr}{f:Option Expr->Option Expr->Option Expr->α}{o:α}(P:α->Prop){C:Prop}(h:P (onSlice e f o))(k:∀ a b c p,e=.Slice a b c p->P (f a b c)->C)(k':iA e=false->P o->C):C:=
 if q:e.ctorIdx=26 then Expr.Slice.elim (motive_1:=λt=>e=t->P (onSlice t f o)->C) e q k rfl h else k' (decide_eq_false q) ((dif_neg q:onSlice e f o=o) ▸ h)
theorem xK{α:Type}{e:Expr}{f:Expr->Expr->α}{o:α}(P:α->Prop){C:Prop}(h:P (onSub e f o))(k:∀ a b p,e=.Subscript a b p->P (f a b)->C)(k':P o->C):C:=
 if q:e.ctorIdx=21 then Expr.Subscript.elim (motive_1:=λt=>e=t->P (onSub t f o)->C) e q k rfl h else k' ((dif_neg q:onSub e f o=o) ▸ h)
noncomputable def uO(r:Rc)(sc:Sc)(fr:af):List Expr->M (List D)
 | []=>ret []
 | e::es=>if fM e then stuck else bnd (r.ev sc fr e) λa=>bnd (uO r sc fr es) λl=>ret (a::l)
noncomputable def DJ(r:Rc)(sc:Sc)(fr:af):Option Expr->M D
 | some e=>r.ev sc fr e
 | Option.none=>ret .none
noncomputable def uP(r:Rc)(sc:Sc)(fr:af)(op:BoolOp):List Expr->M D
 | []=>stuck
 | [e]=>r.ev sc fr e
 | e::es=>
  bnd (r.ev sc fr e) λv=>
  bnd (cz v) λb=>
  match op,b with
  | .And,false | .Or,true=>ret v
  | _,_=>uP r sc fr op es
noncomputable def CG(r:Rc)(sc:Sc)(fr:af)(op:BoolOp):List Expr->M Bool
 | []=>ret (op==.And)
 | e::es=>
  bnd (r.tst sc fr e) λb=>
  match op,b with
  | .And,false=>ret false
  | .Or,true=>ret true
  | _,_=>CG r sc fr op es
noncomputable def kq(r:Rc)(sc:Sc)(fr:af)(a:D):List CmpOp->List Expr->M Bool
 | [op],[e]=>bnd (r.ev sc fr e) λb=>ae op a b
 | op::ops,e::es=>
  bnd (r.ev sc fr e) λb=>
  bnd (ae op a b) λc=>
  if c then kq r sc fr b ops es else ret false
 | _,_=>stuck
noncomputable def fN(l:List (Str×D)):List D->List D->Option (List (Str×D))
 | [],[]=>some l
 | .str k::ks,v::vs=>fN (fJ l k v) ks vs
 | _,_=>Option.none
noncomputable def fO(l:List (Int×D)):List D->List D->Option (List (Int×D))
 | [],[]=>some l
 | .int k::ks,v::vs=>fO (xz l k v) ks vs
 | _,_=>Option.none
noncomputable def dO(r:Rc)(sc:Sc)(fr:af):List (Option Expr)->List Expr->M (List D×List D)
 | [],[]=>ret ([],[])
 | some k::ks,v::vs=>
  bnd (r.ev sc fr k) λkd=>
  bnd (r.ev sc fr v) λvd=>
  bnd (dO r sc fr ks vs) λ(a,b)=>
  ret (kd::a,vd::b)
 | _,_=>stuck
noncomputable def pI(r:Rc)(sc:Sc)(fr:af)(ks:List (Option Expr))(vs:List Expr):M (List (Str×D) ⊕ List (Int×D)):=
 if ks.length<=15/\ks.length=vs.length/\ks.all (·.isSome)=true then
  bnd (dO r sc fr ks vs) λ(a,b)=>
  match a with
  | .int _::_=>bnd (ac (fO [] a b)) λl=>ret (.inr l)
  | _=>bnd (ac (fN [] a b)) λl=>ret (.inl l)
 else stuck
noncomputable def bL(sc:Sc)(c:Scope):Bool:=
 c.kind==.function&&c.names.all λx=>x.2 !=.cell&&(x.2 !=.local||c.names.lookup x.1==some .local)&&(x.2 !=.free||sc.lookup x.1==some .cell||sc.lookup x.1==some .free)
noncomputable def df(e:Expr):Option Str:=onName e some Option.none
noncomputable def ca(cs:Sc)(g:Comprehension):Option Str:=match g with
 | ⟨t,i,ifs,n⟩=>match df t with
  | some x=>if ifs.isEmpty=true/\n=0/\cs.lookup x=some .local/\ki i=false then some x else Option.none
  | Option.none=>Option.none
noncomputable def aM(f:D->List D->M (List D)):List D->List D->M (List D)
 | [],acc=>ret acc
 | d::ds,acc=>bnd (f d acc) λacc'=>aM f ds acc'
noncomputable def gY(r:Rc)(elt:Expr)(cs:Sc):List Comprehension->af->List D->M (List D)
 | [],fr,acc=>bnd (r.ev cs fr elt) λv=>if ao acc.length then ret (acc++[v]) else stuck
 | g::gs,fr,acc=>
  bnd (ac (ca cs g)) λx=>
  if (aa fr x).isNone then
  bnd (r.ev cs fr g.iter) λsrc=>
  bnd (aZ src) λitems=>
  aM (λd acc=>gY r elt cs gs (aj fr x d) acc) items acc
  else stuck
noncomputable def aU(cs:Sc)(fr:af):af:=fr.filter λx=>cs.lookup x.1==some .free
noncomputable def eg(r:Rc)(sc:Sc)(fr:af)(elt:Expr)(gens:List Comprehension)(cs:Sc):M (List D):=match gens with
 | g::gs=>
  bnd (ac (ca cs g)) λx=>
  bnd (r.ev sc fr g.iter) λsrc=>
  bnd (aZ src) λitems=>
  aM (λd acc=>gY r elt cs gs (aj (aU cs fr) x d) acc) items []
 | []=>stuck
noncomputable def bU(e:Expr):Bool:=kh e (λf as ks=>onName f (λx=>!(as.isEmpty&&ks.isEmpty&&x==nm "super")) true) true
noncomputable def cB:List Expr->Bool
 | []=>true
 | e::r=>!fM e&&cB r
noncomputable def sA(r:Rc):Rc where
 ev sc fr e:=match e with
  | .Constant c _ _=>xF c
  | .Name x _=>xH jf sc fr x
  | .BoolOp op vs _=>uP r sc fr op vs
  | .BinOp l op b _=>bnd (r.ev sc fr l) λx=>bnd (r.ev sc fr b) λy=>ag op x y
  | .UnaryOp .Not x _=>bnd (r.ev sc fr x) λv=>bnd (cz v) λb=>ret (.bool !b)
  | .UnaryOp .USub x _=>bnd (r.ev sc fr x) λv=>dm v
  | .IfExp t a b _=>bnd (r.tst sc fr t) λc=>if c then r.ev sc fr a else r.ev sc fr b
  | .Dict ks vs _=>
   bnd (pI r sc fr ks vs) λq0=>match q0 with
   | .inl l=>ret (.sdict l)
   | .inr l=>ret (.idict l)
  | .List es _=>bnd (uO r sc fr es) λl=>if ao l.length then ret (.list l) else stuck
  | .Tuple es _ _=>bnd (uO r sc fr es) λl=>if ao l.length then ret (.tup l) else stuck
  | .ListComp elt gens cs _=>if bL sc cs then bnd (eg r sc fr elt gens cs.names) λl=>ret (.list l) else stuck
  | .Compare l ops es _=>if lastMarks ops es=false/\ops.length=es.length then bnd (r.ev sc fr l) λa=>bnd (kq r sc fr a ops es) λb=>ret (.bool b) else stuck
  | .Call f args ks pos=>onAttr f
   (λo m apos=>if ks.isEmpty&&(bU o&&apos.endLine==pos.line&&decide (args.length<20)&&cB args) then
    bnd (r.ev sc fr o) λov=>
    bnd (a_ ov m) λk=>
    bnd (uO r sc fr args) λas=>
    be call ov k as else stuck)
   (if ks.isEmpty&&cB args then
    bnd (r.ev sc fr f) λfv=>
    bnd (uO r sc fr args) λas=>
    bP call fv as else stuck)
  | .Attribute o a _=>if bU o then bnd (r.ev sc fr o) λov=>aB ov a else stuck
  | .Subscript v i _=>onSlice i
   (λlo hi st=>if xI v&&st.isNone then
    bnd (r.ev sc fr v) λov=>
    bnd (DJ r sc fr lo) λl=>
    bnd (DJ r sc fr hi) λh=>
    bu ov l h else stuck)
   (bnd (r.ev sc fr v) λov=>bnd (r.ev sc fr i) λiv=>subD ov iv)
  | _=>stuck
 tst sc fr e:=match e with
  | .UnaryOp .Not x _=>bnd (r.tst sc fr x) λb=>ret (!b)
  | .BoolOp op vs _=>CG r sc fr op vs
  | .IfExp t a b _=>bnd (r.tst sc fr t) λc=>if c then r.tst sc fr a else r.tst sc fr b
  | .Compare l ops es _=>if lastMarks ops es=false/\ops.length=es.length then bnd (r.ev sc fr l) λa=>kq r sc fr a ops es else stuck
  | e=>bnd (r.ev sc fr e) λv=>cz v
noncomputable def E0:Nat->Rc
 | 0=>⟨λ_ _ _=>stuck,λ_ _ _=>stuck⟩
 | n+1=>sA call jf (E0 n)
inductive Flow' where
 | next (fr:af) | ret (d:D)
abbrev K':=af->M Flow'
noncomputable def zW(r:Rc)(sc:Sc)(fr:af)(pool:Bool)(e:Expr):M D:=
 if h:e.ctorIdx=6 then Expr.Dict.elim e h λks vs _=>
  bnd (pI r sc fr ks vs) λq0=>match q0 with
  | .inl l=>bnd (d_ (.sdict l)) λi=>ret (.ref i)
  | .inr _=>stuck
 else if h:e.ctorIdx=8 then Expr.ListComp.elim e h λelt gens cs _=>
  if !bL sc cs then stuck else if pool then bnd (eg r sc fr elt gens cs.names) λl=>bnd (d_ (.list l)) λi=>ret (.ref i) else bnd (eg r sc fr elt gens cs.names) λl=>ret (.list l)
 else if e.ctorIdx=9\/e.ctorIdx=10 then stuck
 else r.ev sc fr e
noncomputable def gM(sc:Sc)(x:Str):Bool:=match sc.lookup x with
 | some .local | some .cell=>true
 | _=>false
noncomputable def aY(sc:Sc)(fr:af)(x:Str)(d:D):M af:=if gM sc x then ret (aj fr x d) else stuck
noncomputable def bc(sc:Sc)(fr:af):List Expr->List D->M af
 | [],[]=>ret fr
 | t::ts,d::ds=>onName t (λx=>bnd (aY sc fr x d) λfr'=>bc sc fr' ts ds) stuck
 | _,_=>stuck
noncomputable def Af(r:Rc)(sc:Sc)(fr:af)(v:D)(t:Expr):M af:=onSub t (λo i=>
  bnd (r.ev sc fr o) λov=>
  bnd (r.ev sc fr i) λiv=>
  bnd (cM ov iv v) λ_=>
  ret fr) stuck
noncomputable def Ag(r:Rc)(sc:Sc)(fr:af)(v:D)(t:Expr):M af:=onAttr t (λo a _=>
  bnd (r.ev sc fr o) λov=>
  bnd (ef ov a v) λ_=>
  ret fr) (Af r sc fr v t)
noncomputable def Ah(r:Rc)(sc:Sc)(fr:af)(v:D)(t:Expr):M af:=onTup t (λts=>asTup v (bc sc fr ts)) (Ag r sc fr v t)
noncomputable def gk(r:Rc)(sc:Sc)(fr:af)(v:D)(t:Expr):M af:=onName t (λx=>aY sc fr x v) (Ah r sc fr v t)
noncomputable def aG(body:af->K'->M Flow')(step:af->D->M af):List D->af->K'->M Flow'
 | [],fr,k=>k fr
 | d::ds,fr,k=>
  bnd (step fr d) λfr'=>
  body fr' λfr''=>aG body step ds fr'' k
noncomputable def az(body:af->K'->M Flow')(test:af->M Bool):Nat->af->K'->M Flow'
 | 0,_,_=>stuck
 | n+1,fr,k=>
  bnd (test fr) λb=>
  if b then body fr λfr'=>az body test n fr' k else k fr
noncomputable def vU(m:M D)(f:D->M Flow')(h:M Flow'):M Flow':=λσ=>match m σ with
 | .ok v σ'=>f v σ'
 | .exc σ'=>h σ'
 | .stuck=>.stuck
noncomputable def bF:Str:=nm "RunFault"
noncomputable def cC:Nat:=5000
abbrev Sx:=Sc->Stmt->af->K'->M Flow'
noncomputable def gZ(x:Sx)(sc:Sc):List Stmt->af->K'->M Flow'
 | [],fr,k=>k fr
 | s::ss,fr,k=>x sc s fr λfr'=>gZ x sc ss fr' k
noncomputable def xL(e:Expr):Bool:=onName e (· == nm "pool") false
noncomputable def xM:Operator->Bool
 | .Add | .Sub | .Mult | .FloorDiv=>true
 | _=>false
noncomputable def sB(ts vs:List Expr):Bool:=match ts with
 | [t,u]=>match vs with
  | [a,b]=>match df t with
   | some x=>match df u with
    | some y=>!(x==y)&&!([a,b].all (PySem.constantsAlone 8))
    | Option.none=>false
   | Option.none=>false
  | _=>false
 | _=>false
noncomputable def sC(t e:Expr):Bool:=onTup t (λts=>onTup e (sB ts) true) true
noncomputable def sD:List Expr->Bool
 | [e]=>iz e (λc=>c.ctorIdx==5) false
 | _=>false
noncomputable def jY(e:Expr):Option Str:=kh e (λg as ks=>if sD as=true/\ks.isEmpty=true then df g else Option.none) Option.none
noncomputable def xN(sc:Sc):Option Str->M Flow'
 | some f=>if f=bF/\sc.lookup f=some .globalImplicit then aP else stuck
 | Option.none=>stuck
noncomputable def iB{α:Type}(s:Stmt)(f:List Expr->Expr->α)(o:α):α:=if h:s.ctorIdx=5 then Stmt.Assign.elim s h λts e _=>f ts e else o
theorem pJ{α:Type}{e:Stmt}{f:List Expr->Expr->α}{o:α}(P:α->Prop){C:Prop}(h:P (iB e f o))(k:∀ ts v p,e=.Assign ts v p->P (f ts v)->C)(k':P o->C):C:=
 if q:e.ctorIdx=5 then Stmt.Assign.elim (motive_2:=λt=>e=t->P (iB t f o)->C) e q k rfl h else k' ((dif_neg q:iB e f o=o) ▸ h)
noncomputable def dB:List Stmt->Option (Str×Expr)
 | [s]=>iB s (λts e=>match ts with
  | [g]=>(df g).map λz=>(z,e)
  | _=>Option.none) Option.none
 | _=>Option.none
noncomputable def nN:List ExceptHandler->Option (Str×List Stmt)
 | [.ExceptHandler (some g) Option.none b _]=>(df g).map λf=>(f,b)
 | _=>Option.none
noncomputable def uQ(e:Expr):Bool:=iz e (λc=>c.ctorIdx==0) false
noncomputable def D1(tr:Bool)(r:Rc)(sc:Sc)(fr:af)(k:K')(z:Str)(e:Expr)(f:Str):Option (Str×Expr)->M Flow'
 | some (y,v)=>if uQ v=true/\tr=true/\f=bF/\sc.lookup f=some .globalImplicit/\kj e=true then vU (r.ev sc fr e) (λv=>bnd (aY sc fr z v) k) (bnd (aY sc fr y .none) k) else stuck
 | Option.none=>stuck
noncomputable def D2(tr:Bool)(r:Rc)(sc:Sc)(fr:af)(k:K'):Option (Str×Expr)->Option (Str×List Stmt)->M Flow'
 | some (z,e),some (f,b)=>D1 tr r sc fr k z e f (dB b)
 | _,_=>stuck
noncomputable def uR(op:Operator)(old v:D)(k:D->M Flow'):M Flow':=asInt old λa=>asInt v λb=>bnd (ag op (.int a) (.int b)) k
noncomputable def sF(src:D)(f:List D->M Flow'):M Flow':=if h:src.ctorIdx=13 then D.items.elim src h λl=>f (l.map λx=>.tup [.str x.1,x.2]) else stuck
theorem Ai{a:D}{f:List D->M Flow'}(P:M Flow'->Prop){C:Prop}(h:P (sF a f))(k:∀ l,a=.items l->P (f (l.map λx=>.tup [.str x.1,x.2]))->C)(k':P stuck->C):C:=
 if q:a.ctorIdx=13 then D.items.elim (motive_1:=λt=>a=t->P (sF t f)->C) a q k rfl h else k' ((dif_neg q:sF a f=stuck) ▸ h)
noncomputable def E2(r:Rc)(x:Sx)(sc:Sc)(t:Expr)(b:List Stmt)(fr:af)(k:K')(src:D):M Flow':=
 onTup t (λ_=>sF src λitems=>aG (gZ x sc b) (λfr d=>gk r sc fr d t) items fr k) <|
 onName t (λ_=>bnd (aZ src) λitems=>aG (gZ x sc b) (λfr d=>gk r sc fr d t) items fr k) stuck
noncomputable def xO(tr:Bool)(r:Rc)(x:Sx):Sx:=λsc st fr k=>match st with
 | .Pass _=>k fr
 | .Return o _=>match o with
  | some e=>bnd (r.ev sc fr e) λv=>ret (.ret v)
  | Option.none=>ret (.ret .none)
 | .Expr e _=>if kj e then bnd (r.ev sc fr e) λ_=>k fr else stuck
 | .Assign ts e _=>match ts with
  | [t]=>if sC t e then
   bnd (zW r sc fr (xL t) e) λv=>
   bnd (gk r sc fr v t) λfr'=>
   k fr' else stuck
  | _=>stuck
 | .AugAssign t op e _=>onName t (λy=>
   if sc.lookup y=some .local/\xM op=true then
   bnd (ac (aa fr y)) λold=>
   bnd (r.ev sc fr e) λv=>
   uR op old v λn=>
   bnd (aY sc fr y n) λfr'=>
   k fr'
   else stuck) stuck
 | .If t a b _=>
  bnd (r.tst sc fr t) λc=>
  if c then gZ x sc a fr k else gZ x sc b fr k
 | .While t b o _=>match o with
  | []=>az (gZ x sc b) (λfr=>r.tst sc fr t) cC fr k
  | _=>stuck
 | .For t i b o _=>match o with
  | []=>if ki i=false then bnd (r.ev sc fr i) (E2 r x sc t b fr k) else stuck
  | _=>stuck
 | .Raise o c _=>match o,c with
  | some e,Option.none=>xN sc (jY e)
  | _,_=>stuck
 | .Try b hs o fb _=>match o,fb with
  | [],[]=>D2 tr r sc fr k (dB b) (nN hs)
  | _,_=>stuck
 | _=>stuck
noncomputable def E3(tr:Bool)(r:Rc):Nat->Sx
 | 0=>λ_ _ _ _=>stuck
 | n+1=>xO tr r (E3 tr r n)
noncomputable def vV:Nat:=60
noncomputable def aq:M Flow'->M D:=λm=>
 bnd (m) λq0=>match q0 with
 | .ret d=>ret d
 | .next _=>ret .none
end
end Mine
end
noncomputable section
namespace Mine
open PySem PySem.W PySem.Calls PyProof.Rows
section
noncomputable def fnTab:List (Str×Nat×Nat):=([("units_of",11,0),("Memory.__init__",14,1),("Memory.load",14,2),("Memory.store",14,3),("need_units",15,0),("read_cell",16,0),("load_number",17,0),("store_number",18,0),("load_text",19,0),("store_text",20,0),("pad",21,0),("unit_size",22,0),("element_place",23,0),("sub_place",24,0),("fit_int",26,0),("int_add",27,0),("int_sub",28,0),("int_mul",29,0),("cut_quotient",30,0),("int_div",31,0),("inverse_power",32,0),("int_power",33,0),("order_of",34,0),("holds",35,0),("int_binary",36,0),("logic_binary",37,0),("count_digits",42,0),("strip_zeros",43,0),("round_digits",44,0),("round_real",45,0),("exact_add",46,0),("exact_mul",47,0),("real_neg",48,0),("quotient",49,0),("real_add",50,0),("real_sub",51,0),("real_mul",52,0),("real_div",53,0),("real_compare",54,0),("real_of_int",55,0),("real_to_int",56,0),("digits_of",59,0),("real_binary",60,0),("complex_binary",74,0),("collate",76,0),("text_binary",77,0),("all_operations",78,0),("unary",79,0),("real_as",80,0),("convert",81,0),("Run.__init__",83,1),("evaluate",84,0),("named_place",85,0),("bound_of",86,0),("part_place",87,0),("place_of",88,0),("eval_const",89,0),("eval_place",90,0),("eval_conv",91,0),("eval_unary",92,0),("reckon",93,0),("eval_binary",94,0),("eval_compare",95,0),("eval_cat",96,0),("plain_expressions",97,0),("base_expressions",98,0),("char_expressions",99,0),("Limits.__init__",101,1),("_law_relations",103,0),("_law_places",104,0),("_law_take",105,0),("_law_number",106,0),("_law_real",107,0),("_law_text",108,0),("_law_const",109,0),("_law_leaf",110,0),("_law_index",111,0),("_law_tree",112,0),("_law_fit",113,0),("_law_fraction",114,0),("_law_whole",115,0),("_law_toward",116,0),("_law_power",117,0),("_law_two",118,0),("_law_order",119,0),("_law_held",120,0),("_law_subscripts",121,0),("_law_value",122,0),("_law_part",123,0),("_law_fill",124,0),("law",125,0)]:List (String×Nat×Nat)).map λx=>(nm x.1,x.2)
noncomputable def constTab:List (Str×D):=([("INTEGER",.int 0),("REAL",.int 1),("DOUBLE",.int 2),("COMPLEX",.int 3),("LOGICAL",.int 4),("CHARACTER",.int 5),("SECOND",.int 6),("NOUGHT",.tup [.int 0,.int 0]),("GUARD",.int 8),("EXACT_POWER",.int 64),("ONE",.tup [.tup [.int 1,.int 0],.tup [.int 0,.int 0]]),("EXACT_COMPLEX_POWER",.int 16)]:List (String×D)).map λx=>(nm x.1,x.2)
noncomputable def bltTab:List Str:=(["len","abs","min","max","range","divmod","list","tuple","isinstance","bool"]:List String).map nm
noncomputable def vW(x:Str):Option (Arguments×List Stmt×Scope):=(fnTab.lookup x).bind λp=>fG p.1 p.2
noncomputable def jf(x:Str):Option D:=
 match fnTab.lookup x with
 | some (_,0)=>if x=nm "law" then none else some (.fn x)
 | _=>if (cA x).isSome then some (.fn x) else match constTab.lookup x with
  | some d=>some d
  | none=>if bltTab.contains x then some (.blt x) else none
noncomputable def kr:List Expr->Option (List D)
 | []=>some []
 | .Constant (.int i) _ _::r=>(kr r).map (.int i :: ·)
 | _=>none
noncomputable def fh{α:Type}(ps:List Str)(as dv:List α):Option (List (Str×α)):=
 if as.length<=ps.length then
  let dfl:=dv.drop (dv.length - ps.length)
  let first:=ps.length - dfl.length
  let slots:=ps.zip as
  if ((ps.take first).filter λn=>(slots.lookup n).isNone).isEmpty then
   let slots:=((ps.drop first).zip dfl).foldl (λs p=>if (s.lookup p.1).isNone then s++[p] else s) slots
   some (ps.filterMap λn=>(slots.lookup n).map (n,·))
  else none
 else none
noncomputable def iD(a:Arguments)(as:List D):M af:=match a with
 | ⟨[],ps,none,[],[],none,ds⟩=>
  bnd (ac (kr ds)) λdv=>
  bnd (ac (fh (ps.map (·.arg)) as dv)) λbs=>
  ret (bs.foldl (λfr p=>aj fr p.1 p.2) [])
 | _=>stuck
noncomputable def run:Nat->Str->List D->M D
 | 0,_,_=>stuck
 | d+1,x,as=>
  bnd (ac (vW x)) λf=>
  bnd (iD f.1 as) λfr=>
  aq (gZ (E3 (x==nm "law") (E0 (run d) jf vV) vV) f.2.2.names f.2.1 fr λfr=>ret (.next fr))
end
section
structure Gh where
 B:Addr->Option Obj
 ρ:List Addr
 σ:St
abbrev sk(w:World):=strKind pw w
abbrev ik(w:World):=intKind pw w
noncomputable def iE(w:World)(x:Str):Option Value:=(nsIn (KH w.params) mainGlobals x).join
noncomputable def jz(w:World)(c:Str)(C:Addr):Prop:=nsIn (KH w.params) mainGlobals c=some (some (.ref C))
noncomputable def BDict{w:World}{K:Type}[DecidableEq K](knd:KeyKind pw w K)(B:Addr->Option Obj)(a:Addr)(kvs:List (K×Value)):Prop:=
 ∃ o es ep,B a=some o/\o.ExactDict/\o.data=.dict es ep/\KeysOf knd es/\Pairs knd es.toList kvs/\(kvs.map (·.1)).Nodup
noncomputable def BSeq(B:Addr->Option Obj)(T:String)(a:Addr)(vs:List Value):Prop:=∃ o n,B a=some o/\o.cls=.type T/\o.data=.seq vs.toArray n
mutual
inductive Rep(w:World)(B:Addr->Option Obj)(ρ:List Addr):Value->D->Prop
 | none:Rep w B ρ .none .none
 | bool (b:Bool):Rep w B ρ (.bool b) (.bool b)
 | int (i:Int) (t:Tok):Rep w B ρ (.int i t) (.int i)
 | str (s:Str) (t:Tok):Rep w B ρ (.str s t) (.str s)
 | tup {a:Addr} {vs:List Value} {ds:List D}:BSeq B "tuple" a vs->RepL w B ρ vs ds->Rep w B ρ (.ref a) (.tup ds)
 | list {a:Addr} {vs:List Value} {ds:List D}:BSeq B "list" a vs->RepL w B ρ vs ds->Rep w B ρ (.ref a) (.list ds)
 | sdict {a:Addr} {kvs:List (Str×Value)} {l:List (Str×D)}:a≠sysModules->BDict (sk w) B a kvs->RepS w B ρ kvs l->Rep w B ρ (.ref a) (.sdict l)
 | idict {a:Addr} {kvs:List (Int×Value)} {l:List (Int×D)}:a≠sysModules->BDict (ik w) B a kvs->RepI w B ρ kvs l->Rep w B ρ (.ref a) (.idict l)
 | ref {i:Nat} {a:Addr}:ρ[i]?=some a->Rep w B ρ (.ref a) (.ref i)
 | inst {c:Str} {C x dx:Addr} {i:Nat}:B x=some (instObj C dx)->ρ[i]?=some dx->jz w c C->(cA c).isSome=true->Rep w B ρ (.ref x) (.inst c i)
 | fn {x:Str} {v:Value}:iE w x=some v->Rep w B ρ v (.fn x)
 | blt {x:Str} {v:Value}:bootBuiltins x=some v->Rep w B ρ v (.blt x)
 | range {r:Addr} {a b:Int} {o:Obj} {t u v:Tok}:B r=some o->o={ cls:=.type "range",data:=.fields #[.int a t,.int b u,.int 1 v] }->Rep w B ρ (.ref r) (.range a b)
 | items {r a:Addr} {l:List (Str×D)} {o:Obj}:B r=some o->o={ cls:=.type "dict_items",data:=.fields #[.ref a] }->Rep w B ρ (.ref a) (.sdict l)->Rep w B ρ (.ref r) (.items l)
inductive RepL(w:World)(B:Addr->Option Obj)(ρ:List Addr):List Value->List D->Prop
 | nil:RepL w B ρ [] []
 | cons {v:Value} {d:D} {vs:List Value} {ds:List D}:Rep w B ρ v d->RepL w B ρ vs ds->RepL w B ρ (v::vs) (d::ds)
inductive RepS(w:World)(B:Addr->Option Obj)(ρ:List Addr):List (Str×Value)->List (Str×D)->Prop
 | nil:RepS w B ρ [] []
 | cons {x:Str} {v:Value} {d:D} {vs:List (Str×Value)} {ds:List (Str×D)}:Rep w B ρ v d->RepS w B ρ vs ds->RepS w B ρ ((x,v)::vs) ((x,d)::ds)
inductive RepI(w:World)(B:Addr->Option Obj)(ρ:List Addr):List (Int×Value)->List (Int×D)->Prop
 | nil:RepI w B ρ [] []
 | cons {x:Int} {v:Value} {d:D} {vs:List (Int×Value)} {ds:List (Int×D)}:Rep w B ρ v d->RepI w B ρ vs ds->RepI w B ρ ((x,v)::vs) ((x,d)::ds)
end
noncomputable def E4(w:World)(B:Addr->Option Obj)(ρ:List Addr)(v:Value):D->Prop
 | .none=>v=.none
 | .bool b=>v=.bool b
 | .int i=>∃ t,v=.int i t
 | .str s=>∃ t,v=.str s t
 | .tup ds=>∃ a vs,v=.ref a/\BSeq B "tuple" a vs/\RepL w B ρ vs ds
 | .list ds=>∃ a vs,v=.ref a/\BSeq B "list" a vs/\RepL w B ρ vs ds
 | .sdict l=>∃ a kvs,v=.ref a/\a≠sysModules/\BDict (sk w) B a kvs/\RepS w B ρ kvs l
 | .idict l=>∃ a kvs,v=.ref a/\a≠sysModules/\BDict (ik w) B a kvs/\RepI w B ρ kvs l
 | .ref i=>∃ a,v=.ref a/\ρ[i]?=some a
 | .inst c i=>∃ C x dx,v=.ref x/\B x=some (instObj C dx)/\ρ[i]?=some dx/\jz w c C/\(cA c).isSome=true
 | .fn x=>iE w x=some v
 | .blt x=>bootBuiltins x=some v
 | .range a b=>∃ r t u z,v=.ref r/\B r=some { cls:=.type "range",data:=.fields #[.int a t,.int b u,.int 1 z] }
 | .items l=>∃ r a,v=.ref r/\B r=some { cls:=.type "dict_items",data:=.fields #[.ref a] }/\Rep w B ρ (.ref a) (.sdict l)
theorem Rep.inv{w:World}{B:Addr->Option Obj}{ρ:List Addr}{v:Value}{d:D}(r:Rep w B ρ v d):E4 w B ρ v d:=by
 cases r with
 | none=>rfl
 | bool=>rfl
 | int=>exact⟨_,rfl⟩
 | str=>exact⟨_,rfl⟩
 | tup h1 h2=>exact⟨_,_,rfl,h1,h2⟩
 | list h1 h2=>exact⟨_,_,rfl,h1,h2⟩
 | sdict h1 h2 h3=>exact⟨_,_,rfl,h1,h2,h3⟩
 | idict h1 h2 h3=>exact⟨_,_,rfl,h1,h2,h3⟩
 | ref h=>exact⟨_,rfl,h⟩
 | inst h1 h2 h3 h4=>exact⟨_,_,_,rfl,h1,h2,h3,h4⟩
 | fn h=>exact h
 | blt h=>exact h
 | range h e=>exact⟨_,_,_,_,rfl,e ▸ h⟩
 | items h e h2=>exact⟨_,_,rfl,e ▸ h,h2⟩
inductive RepT(w:World)(B:Addr->Option Obj)(ρ:List Addr):List (List Int×Addr×Value)->List (List Int×D)->Prop
 | nil:RepT w B ρ [] []
 | cons {x:List Int} {a:Addr} {v:Value} {d:D} {us:List Value} {vs:List (List Int×Addr×Value)} {ds:List (List Int×D)} :
   BSeq B "tuple" a us->ItemsAre (ik w) x us->Rep w B ρ v d->RepT w B ρ vs ds->RepT w B ρ ((x,a,v)::vs) ((x,d)::ds)
section
variable{w:World}{B:Addr->Option Obj}{ρ:List Addr}
@[elab_as_elim] theorem RepL.ind {P:List Value->List D->Prop} (h0:P [] []) (h1:∀ {v:Value} {d:D} {vs:List Value} {ds:List D},Rep w B ρ v d->RepL w B ρ vs ds->P vs ds->P (v::vs) (d::ds)) {vs:List Value} {ds:List D} (r:RepL w B ρ vs ds):P vs ds:=by refine RepL.rec (motive_1:=λ_ _ _=>True) (motive_2:=λv d _=>P v d) (motive_3:=λ_ _ _=>True) (motive_4:=λ_ _ _=>True) ?_ ?_ ?_ ?_ ?_ ?_ ?_ ?_ ?_ ?_ ?_ ?_ ?_ ?_ ?_ ?_ ?_ ?_ ?_ ?_ r <;> intros <;> first | trivial | exact h0 | (apply h1 <;> assumption)
@[elab_as_elim] theorem RepS.ind {P:List (Str×Value)->List (Str×D)->Prop} (h0:P [] []) (h1:∀ {x:Str} {v:Value} {d:D} {vs:List (Str×Value)} {ds:List (Str×D)},Rep w B ρ v d->RepS w B ρ vs ds->P vs ds->P ((x,v)::vs) ((x,d)::ds)) {vs:List (Str×Value)} {ds:List (Str×D)} (r:RepS w B ρ vs ds):P vs ds:=by refine RepS.rec (motive_1:=λ_ _ _=>True) (motive_2:=λ_ _ _=>True) (motive_3:=λv d _=>P v d) (motive_4:=λ_ _ _=>True) ?_ ?_ ?_ ?_ ?_ ?_ ?_ ?_ ?_ ?_ ?_ ?_ ?_ ?_ ?_ ?_ ?_ ?_ ?_ ?_ r <;> intros <;> first | trivial | exact h0 | (apply h1 <;> assumption)
@[elab_as_elim] theorem RepI.ind {P:List (Int×Value)->List (Int×D)->Prop} (h0:P [] []) (h1:∀ {x:Int} {v:Value} {d:D} {vs:List (Int×Value)} {ds:List (Int×D)},Rep w B ρ v d->RepI w B ρ vs ds->P vs ds->P ((x,v)::vs) ((x,d)::ds)) {vs:List (Int×Value)} {ds:List (Int×D)} (r:RepI w B ρ vs ds):P vs ds:=by refine RepI.rec (motive_1:=λ_ _ _=>True) (motive_2:=λ_ _ _=>True) (motive_3:=λ_ _ _=>True) (motive_4:=λv d _=>P v d) ?_ ?_ ?_ ?_ ?_ ?_ ?_ ?_ ?_ ?_ ?_ ?_ ?_ ?_ ?_ ?_ ?_ ?_ ?_ ?_ r <;> intros <;> first | trivial | exact h0 | (apply h1 <;> assumption)
end
noncomputable def CellAt(w:World)(G:Gh)(h:Heap)(a:Addr):Cell->Prop
 | .list l=>∃ vs n,h.get? a=some { cls:=.type "list",data:=.seq (List.toArray vs) n }/\RepL w G.B G.ρ vs l
 | .sdict l=>∃ kvs,h.DictOf (sk w) a kvs/\RepS w G.B G.ρ kvs l
 | .tdict l=>∃ xs,h.DictOfH (tupleKind (ik w)) a xs/\RepT w G.B G.ρ xs l
structure Inv(w:World)(Gm:Heap)(G:Gh)(h:Heap):Prop where
 stays:∀ b o,G.B b=some o->h.get? b=some o
 base:∀ b o,Gm.get? b=some o->G.B b=some o
 len:G.ρ.length=G.σ.length
 cell:∀ (i:Nat) (a:Addr) (c:Cell),G.ρ[i]?=some a->G.σ[i]?=some c->CellAt w G h a c
 apart:∀ a∈G.ρ,G.B a=none
 nodup:G.ρ.Nodup
 glo:∃ o,G.B mainGlobals=some o
 sys:∀ a∈G.ρ,a≠sysModules
noncomputable def aV(o:Obj):Prop:=∀ vs,o.data≠.fields vs
structure Rn(w:World)(Gm:Heap)(xt:Bool)(Id:List Addr)(G:Gh)(s:Shared)(G':Gh)(s':Shared):Prop where
 same:∃ h tk,s'={ s with heap:=h,toks:=tk }
 B:∀ b o,G.B b=some o->G'.B b=some o
 newB:∀ b o,G'.B b=some o->G.B b=some o\/s.heap.get? b=none
 ρ:∃ more,G'.ρ=G.ρ++more/\∀ a∈more,s.heap.get? a=none
 inv:Inv w Gm G' s'.heap
 keep:∀ b o,s.heap.get? b=some o->b∉G.ρ->b∉Id->∃ sl,s'.heap.get? b=some { o with slots:=sl }/\(xt=true\/(∃ vs,o.data=.fields vs)->sl=o.slots)
 there:∀ b o,s.heap.get? b=some o->∃ o',s'.heap.get? b=some o'/\(aV o->aV o')
variable{w:World}{Gm:Heap}{xt:Bool}
theorem Rep.mono{B B':Addr->Option Obj}{ρ ρ':List Addr}(hB:∀ b o,B b=some o->B' b=some o)(hρ:∃ more,ρ'=ρ++more){v:Value}{d:D}(h:Rep w B ρ v d):Rep w B' ρ' v d:=by
 obtain⟨more,rfl⟩:=hρ;have idx:∀ {i a},ρ[i]?=some a->(ρ++more)[i]?=some a:=λ{i a} e=>by refine PX (List.getElem?_append_left (List.getElem?_eq_some_iff.mp e).1) ?_;exact e
 have seq:∀ {T a vs},BSeq B T a vs->BSeq B' T a vs:=λ⟨o,n,h,r⟩=>⟨o,n,hB _ _ h,r⟩;refine Rep.rec (motive_1:=λv d _=>Rep w B' (ρ++more) v d) (motive_2:=λv d _=>RepL w B' (ρ++more) v d) (motive_3:=λv d _=>RepS w B' (ρ++more) v d) (motive_4:=λv d _=>RepI w B' (ρ++more) v d)
  ?_ ?_ ?_ ?_ ?_ ?_ ?_ ?_ ?_ ?_ ?_ ?_ ?_ ?_ ?_ ?_ ?_ ?_ ?_ ?_ h
 ·exact .none
 ·exact .bool
 ·exact .int
 ·exact .str
 ·exact λh _ ih=>.tup (seq h) ih
 ·exact λh _ ih=>.list (seq h) ih
 ·exact λns ⟨o,es,ep,h,r⟩ _ ih=>.sdict ns ⟨o,es,ep,hB _ _ h,r⟩ ih
 ·exact λns ⟨o,es,ep,h,r⟩ _ ih=>.idict ns ⟨o,es,ep,hB _ _ h,r⟩ ih
 ·exact λh=>.ref (idx h)
 ·exact λh1 h2 h3 h4=>.inst (hB _ _ h1) (idx h2) h3 h4
 ·exact λh=>.fn h
 ·exact λh=>.blt h
 ·exact λh e=>.range (hB _ _ h) e
 ·exact λh e _ ih=>.items (hB _ _ h) e ih
 ·exact .nil
 ·exact λ_ _ a b=>.cons a b
 ·exact .nil
 ·exact λ_ _ a b=>.cons a b
 ·exact .nil
 ·exact λ_ _ a b=>.cons a b
theorem RepL.mono{B B':Addr->Option Obj}{ρ ρ':List Addr}(hB:∀ b o,B b=some o->B' b=some o)(hρ:∃ more,ρ'=ρ++more){v:List Value}{d:List D}(r:RepL w B ρ v d):RepL w B' ρ' v d:=RepL.ind .nil (λa _ b=>.cons (a.mono hB hρ) b) r
theorem RepS.mono{B B':Addr->Option Obj}{ρ ρ':List Addr}(hB:∀ b o,B b=some o->B' b=some o)(hρ:∃ more,ρ'=ρ++more){v:List (Str×Value)}{d:List (Str×D)}(r:RepS w B ρ v d):RepS w B' ρ' v d:=RepS.ind .nil (λa _ b=>.cons (a.mono hB hρ) b) r
theorem RepT.mono{B B':Addr->Option Obj}{ρ ρ':List Addr}(hB:∀ b o,B b=some o->B' b=some o)(hρ:∃ more,ρ'=ρ++more){v:List (List Int×Addr×Value)}{d:List (List Int×D)}(r:RepT w B ρ v d):RepT w B' ρ' v d:=by
 induction r with
 | nil=>exact .nil
 | cons h i a _ b=>exact .cons (aJ h λo n h r=>⟨o,n,hB _ _ h,r⟩) i (a.mono hB hρ) b
theorem Rn.refl{G:Gh}{s:Shared}{Id:List Addr}(I:Inv w Gm G s.heap):Rn w Gm xt Id G s G s:=
 ⟨⟨_,_,rfl⟩,λ_ _ e=>e,λ_ _ e=>.inl e,⟨[],by simp,cP⟩,I,λ_ o e _ _=>⟨o.slots,e,λ_=>rfl⟩,λ_ o e=>⟨o,e,id⟩⟩
theorem Rn.trans{G Gn GB:Gh}{s Go Gv:Shared}{Id:List Addr}(x:Rn w Gm xt Id G s Gn Go)(y:Rn w Gm xt Id Gn Go GB Gv):Rn w Gm xt Id G s GB Gv:=by
 refine gD x.same λh1 t1 z1=>?_;obtain rfl:=z1;refine gD y.same λh2 t2 z2=>?_;obtain rfl:=z2;refine am x.ρ λm1 e1 f1=>?_;refine am y.ρ λm2 e2 f2=>?_;have fresh:∀ b,h1.get? b=none->s.heap.get? b=none:=λb e=>by
  induction q:s.heap.get? b with
  | none=>rfl
  | some o=>refine am (x.there b o q) λo' h _=>?_;have h:h1.get? b=some o':=h;exact du (PX (Eq.symm e) h)
 refine⟨⟨h2,t2,rfl⟩,λb o e=>y.B b o (x.B b o e),λb o e=>?_,⟨m1++m2,by simp only[e2,e1,List.append_assoc],λa ha=>?_⟩,y.inv,λb o e h h'=>?_,λb o e=>?_⟩
 ·rcases y.newB b o e with q | q
  ·exact x.newB b o q
  ·exact .inr (fresh b q)
 ·refine PW (List.mem_append.mp ha) (λq=>?_) λq=>?_
  ·exact f1 a q
  ·exact fresh a (f2 a q)
 ·refine am (x.keep b o e h h') λsl q qx=>?_;have n:b∉Gn.ρ:=by
   rw[e1];intro z;rcases List.mem_append.mp z with z | z
   ·exact h z
   ·replace e:=(f1 b z) ▸ e;exact du e
  refine am (y.keep b _ q n h') λsl' q' qx'=>?_;exact⟨sl',q',λz=>(qx' z).trans (qx z)⟩
 ·refine am (x.there b o e) λo' q z=>?_;refine am (y.there b o' q) λo'' q' z'=>?_;exact⟨o'',q',λn=>z' (z n)⟩
theorem Rn.weak{G G':Gh}{s s':Shared}{Id own':List Addr}(x:Rn w Gm xt Id G s G' s')(k:∀ b∈Id,b∈own'):Rn w Gm xt own' G s G' s':=
 ⟨x.same,x.B,x.newB,x.ρ,x.inv,λb o e h h'=>x.keep b o e h λz=>h' (k b z),x.there⟩
theorem Rn.slack{G G':Gh}{s s':Shared}{Id:List Addr}(x:Rn w Gm xt Id G s G' s'):Rn w Gm false Id G s G' s':=
 ⟨x.same,x.B,x.newB,x.ρ,x.inv,λb o e h h'=>let ⟨sl,q,qx⟩:=x.keep b o e h h';⟨sl,q,λz=>qx (.inr (z.elim (λz=>(nomatch z)) id))⟩,x.there⟩
theorem Rn.rep{G G':Gh}{s s':Shared}{Id:List Addr}(x:Rn w Gm xt Id G s G' s'){v:Value}{d:D}(h:Rep w G.B G.ρ v d):Rep w G'.B G'.ρ v d:=
 h.mono x.B (let ⟨m,e,_⟩:=x.ρ;⟨m,e⟩)
theorem Rn.repL{G G':Gh}{s s':Shared}{Id:List Addr}(x:Rn w Gm xt Id G s G' s'){v:List Value}{d:List D}(h:RepL w G.B G.ρ v d):RepL w G'.B G'.ρ v d:=
 h.mono x.B (let ⟨m,e,_⟩:=x.ρ;⟨m,e⟩)
noncomputable def sG(w:World)(C:Addr):Prop:=jz w bF C
noncomputable def ExcAt(w:World)(h:Heap)(G':Gh)(h':Heap)(Lf:Addr)(x:Value):Prop:=
 ∃ e oe vs C a0,x=.ref e/\h.get? e=none/\G'.B e=none/\h'.get? e=some oe/\sG w C/\oe.cls=.ref C/\oe.data=.fields vs/\vs[0]?=some a0 ∧
  (vs[1]?=some .none\/∃ T oT ts,vs[1]?=some (.ref T)/\h.get? T=none/\G'.B T=none/\T≠e/\h'.get? T=some oT/\oT.data=.fields ts/\(ts[3]?=some .none\/ts[3]?=some (rawInt Lf)))
noncomputable def Ok{α β:Type}(w:World)(Gm:Heap)(xt:Bool)(P:Gh->β->α->Prop)(Id:List Addr)(Lf:Addr)(G:Gh)(s:Shared)(r:R α)(Q:β->Shared->Prop)(E:Value->Shared->Prop):Prop:=
 match r with
 | .ok d σ'=>∀ v s' G',G'.σ=σ'->Rn w Gm xt Id G s G' s'->P G' v d->Q v s'
 | .exc σ'=>∀ x s' G',G'.σ=σ'->Rn w Gm false Id G s G' s'->ExcAt w s.heap G' s'.heap Lf x->E x s'
 | .stuck=>False
theorem ExcAt.back{h Gu:Heap}{G':Gh}{h':Heap}{Lf:Addr}{x:Value}(e:ExcAt w Gu G' h' Lf x)(k:∀ b,Gu.get? b=none->h.get? b=none):ExcAt w h G' h' Lf x:=by
 refine eO e λe oe vs z3=>?_;refine gD z3 λC a0 z4=>?_;refine bp z4 λr1 r2 r3 r4 z5=>?_;refine bp z5 λr5 r6 r7 r8 r9=>?_;refine⟨e,oe,vs,C,a0,r1,k _ r2,r3,r4,r5,r6,r7,r8, ?_⟩;rcases r9 with q | ⟨T,oT,ts,q1,q2,q3⟩
 ·exact .inl q
 ·exact .inr ⟨T,oT,ts,q1,k _ q2,q3⟩
theorem Rn.fresh{G Gn:Gh}{s Go:Shared}{Id:List Addr}(x:Rn w Gm xt Id G s Gn Go)(b:Addr)(e:Go.heap.get? b=none):s.heap.get? b=none:=by
 induction q:s.heap.get? b with
 | none=>rfl
 | some o=>refine am (x.there b o q) λo' h _=>?_;rw[e]at h;injection h
section
variable{α β γ δ:Type}{P:Gh->β->α->Prop}{Hh:Gh->δ->γ->Prop}{Id G9:List Addr}{Lf:Addr}{G:Gh}{s:Shared}{Q:β->Shared->Prop}{E:Value->Shared->Prop}
theorem Ok.shift{Gn:Gh}{Go:Shared}{r:R α}(x:Rn w Gm xt Id G s Gn Go)(h:Ok w Gm xt P Id Lf G s r Q E):Ok w Gm xt P Id Lf Gn Go r Q E:=by
 induction r with
 | ok d σ'=>exact λv s' G' e y p=>h v s' G' e (x.trans y) p
 | exc σ'=>exact λv s' G' e y p=>h v s' G' e (x.slack.trans y) (p.back λb q=>x.fresh b q)
 | stuck=>exact h
theorem Ok.bind{m:M γ}{f:γ->M α}{Gs:δ->Shared->Prop}(sub:∀ b∈G9,b∈Id)(h:Ok w Gm xt P Id Lf G s (bnd m f G.σ) Q E)
  (k:∀ v Go Gn d,Rn w Gm xt G9 G s Gn Go->Hh Gn v d->Ok w Gm xt P Id Lf Gn Go (f d Gn.σ) Q E->Gs v Go):Ok w Gm xt Hh G9 Lf G s (m G.σ) Gs E:=by
 unfold bnd at h
 induction hm:m G.σ with
 | ok d σ'=>rw[hm]at h;intro v s' G' e x p;subst e;exact k v s' G' d x p (h.shift (x.weak sub))
 | exc σ'=>replace h:=(hm) ▸ h;exact λx s' G' e y p=>h x s' G' e (y.weak sub) p
 | stuck=>rw[hm]at h;exact h
theorem Ok.now{d:α}(I:Inv w Gm G s.heap)(h:Ok w Gm xt P Id Lf G s (ret d G.σ) Q E){v:β}(p:P G v d):Q v s:=h v s G rfl (.refl I) p
end
end
section
variable{w:World}{Gm:Heap}{xt:Bool}
theorem RepL.length{B:Addr->Option Obj}{ρ:List Addr}:∀ {v:List Value} {d:List D},RepL w B ρ v d->v.length=d.length:=by
 intro v d r;refine RepL.ind ?_ ?_ r
 ·rfl
 ·intro _ _ _ _ _ _ ih;simp only[List.length_cons,List.length_cons,ih]
theorem BSeq.tup{B:Addr->Option Obj}{h:Heap}{a:Addr}{vs:List Value}(k:∀ b o,B b=some o->h.get? b=some o)(x:BSeq B "tuple" a vs):IsTup h a vs.toArray:=
 let ⟨o,n,e,c,d⟩:=x;⟨o,k _ _ e,c,n,d⟩
theorem BSeq.list{B:Addr->Option Obj}{h:Heap}{a:Addr}{vs:List Value}(k:∀ b o,B b=some o->h.get? b=some o)(x:BSeq B "list" a vs):h.IsList a vs.toArray:=
 let ⟨o,n,e,c,d⟩:=x;⟨o,k _ _ e,c,n,d⟩
theorem BDict.dict{K:Type}[DecidableEq K]{knd:KeyKind pw w K}{B:Addr->Option Obj}{h:Heap}{a:Addr}{kvs:List (K×Value)}(k:∀ b o,B b=some o->h.get? b=some o)(x:BDict knd B a kvs):h.DictOf knd a kvs:=
 let ⟨o,es,ep,e,r⟩:=x;⟨o,es,ep,k _ _ e,r⟩
theorem RepT.keys{B:Addr->Option Obj}{ρ:List Addr}{h:Heap}(k:∀ b o,B b=some o->h.get? b=some o):∀ {xs:List (List Int×Addr×Value)} {l:List (List Int×D)},RepT w B ρ xs l->∀ x∈xs,(tupleKind (ik w)).is h x.1 x.2.1:=by
 intro xs l r
 induction r with
 | nil=>intro x m;cases m
 | cons b i _ _ ih=>
  intro x m;rcases P9 m with rfl | m
  ·refine ar b λo n e c d=>?_;exact⟨o,_,n,k _ _ e,c,d,i⟩
  ·exact ih x m
theorem CellAt.move{G G':Gh}{h h':Heap}{a:Addr}{c:Cell}(hB:∀ b o,G.B b=some o->G'.B b=some o)(hρ:∃ more,G'.ρ=G.ρ++more)(ha:h'.get? a=h.get? a)
  (st:∀ b o,G'.B b=some o->h'.get? b=some o) (x:CellAt w G h a c):CellAt w G' h' a c:=by
 induction c with
 | list l=>refine aJ x λvs n ho z=>?_;exact⟨vs,n,ha.trans ho,z.mono hB hρ⟩
 | sdict l=>refine am x λkvs z1 z=>?_;obtain⟨o,es,ep,ho,r⟩:=z1;exact⟨kvs,⟨o,es,ep,ha.trans ho,r⟩,z.mono hB hρ⟩
 | tdict l=>refine am x λxs z2 z=>?_;obtain⟨o,es,ep,ho,r1,r2,r3,r4,r5⟩:=z2;have z':=z.mono hB hρ;exact⟨xs,⟨o,es,ep,ha.trans ho,r1,r2,r3,z'.keys st,r5⟩,z'⟩
theorem Inv.mem{G:Gh}{h:Heap}(I:Inv w Gm G h){a:Addr}(ha:a∈G.ρ):∃ (i:Nat) (c:Cell),G.ρ[i]?=some a/\G.σ[i]?=some c/\CellAt w G h a c:=by obtain⟨i,hi,rfl⟩:=List.getElem_of_mem ha;have hi':i<G.σ.length:=I.len ▸ hi;exact⟨i,G.σ[i],List.getElem?_eq_getElem hi,List.getElem?_eq_getElem hi',I.cell _ _ _ (List.getElem?_eq_getElem hi) (List.getElem?_eq_getElem hi')⟩
theorem CellAt.obj{G:Gh}{h:Heap}{a:Addr}{c:Cell}(x:CellAt w G h a c):∃ o,h.get? a=some o/\aV o:=by
 induction c with
 | list l=>refine aJ x λvs n ho z=>?_;exact⟨_,ho,λvs q=>by injection q⟩
 | sdict l=>refine am x λkvs z3 z=>?_;obtain⟨o,es,ep,ho,_,r,_⟩:=z3;exact⟨o,ho,λvs q=>by rw[r]at q;cases q⟩
 | tdict l=>refine am x λkvs z4 z=>?_;obtain⟨o,es,ep,ho,_,r,_⟩:=z4;exact⟨o,ho,λvs q=>by rw[r]at q;cases q⟩
theorem Inv.obj{G:Gh}{h:Heap}(I:Inv w Gm G h){a:Addr}(ha:a∈G.ρ):∃ o,h.get? a=some o/\aV o:=
 let ⟨_,_,_,_,x⟩:=I.mem ha;x.obj
theorem aD(h:Heap):h.get? h.objs.size=none:=by
 induction q:h.get? h.objs.size with
 | none=>rfl
 | some o=>exact absurd (Heap.lt_size q) (Nat.lt_irrefl _)
section
variable{G:Gh}{s:Shared}{Id:List Addr}
theorem bV(I:Inv w Gm G s.heap)(t:Nat):Rn w Gm xt Id G s G { s with toks:=t }:={ Rn.refl I with same:=⟨_,_,rfl⟩ }
theorem bM(I:Inv w Gm G s.heap)(o:Obj)(t:Nat):Rn w Gm xt Id G s G { s with heap:=s.heap.push o,toks:=t }:=by have st:∀ b o',G.B b=some o'->(s.heap.push o).get? b=some o':=λb o' e=>Heap.get?_push_of_some o (I.stays b o' e);refine⟨⟨_,_,rfl⟩,λ_ _ e=>e,λ_ _ e=>.inl e,⟨[],by simp,cP⟩,⟨st,I.base,I.len,λi a c h1 h2=>?_,I.apart,I.nodup,I.glo,I.sys⟩,λb o' e _ _=>⟨o'.slots,Heap.get?_push_of_some o e,λ_=>rfl⟩,λb o' e=>⟨o',Heap.get?_push_of_some o e,id⟩⟩;have x:=I.cell i a c h1 h2;refine am x.obj λoa ha _=>?_;exact x.move (λ_ _ e=>e) ⟨[],by simp⟩ ((Heap.get?_push_of_some o ha).trans ha.symm) st
noncomputable def Gh.add(G:Gh)(a:Addr)(o:Obj):Gh:={ G with B:=λb=>if b=a then some o else G.B b }
theorem mM(I:Inv w Gm G s.heap)(o:Obj)(hf:o.isFreed=false)(t:Nat) :
  Rn w Gm xt Id G s (G.add s.heap.objs.size o) { s with heap:=s.heap.push o,toks:=t }/\(G.add s.heap.objs.size o).B s.heap.objs.size=some o:=by
 have hn:G.B s.heap.objs.size=none:=by
  induction q:G.B s.heap.objs.size with
  | none=>rfl
  | some o'=>have:=I.stays _ _ q;rw[aD]at this;injection this
 have sub:∀ b o',G.B b=some o'->(G.add s.heap.objs.size o).B b=some o':=λb o' e=>by show(if b=s.heap.objs.size then some o else G.B b)=some o';refine PX (PZ (λq=>by rw[q]at e;replace e:=hn ▸ e;injection e)) ?_;exact e
 have st:∀ b o',(G.add s.heap.objs.size o).B b=some o'->(s.heap.push o).get? b=some o':=λb o' e=>by
  have e2:(if b=s.heap.objs.size then some o else G.B b)=some o':=e
  split at e2
  ·rename_i q;rw[q];obtain rfl:=P7 e2;exact Heap.get?_push_size _ hf
  ·exact Heap.get?_push_of_some o (I.stays b o' e2)
 refine⟨⟨⟨_,_,rfl⟩,sub,λb o' e=>?_,⟨[],by simp[Gh.add],λ_ h=>(nomatch h)⟩,⟨st,λb o' e=>sub _ _ (I.base b o' e),I.len,λi a c h1 h2=>?_,λa ha=>?_,I.nodup,let ⟨o',e⟩:=I.glo;⟨o',sub _ _ e⟩,I.sys⟩,λb o' e _ _=>⟨o'.slots,Heap.get?_push_of_some o e,λ_=>rfl⟩,λb o' e=>⟨o',Heap.get?_push_of_some o e,id⟩⟩,PY rfl⟩
 ·have e:(if b=s.heap.objs.size then some o else G.B b)=some o':=e
  split at e
  ·rename_i q;rw[q];exact .inr (aD _)
  ·exact .inl e
 ·have x:=I.cell i a c h1 h2;refine am x.obj λoa ha _=>?_;exact x.move sub ⟨[],by simp[Gh.add]⟩ ((Heap.get?_push_of_some o ha).trans ha.symm) st
 ·refine am (I.obj ha) λoa hoa _=>?_;show(if a=s.heap.objs.size then some o else G.B a)=none;refine PX (PZ (λq=>by replace hoa:=q ▸ hoa;rw[aD]at hoa;injection hoa)) ?_;exact I.apart a ha
noncomputable def Gh.more(G:Gh)(a:Addr)(c:Cell):Gh:={ G with ρ:=G.ρ++[a],σ:=G.σ++[c] }
theorem pK{h:Heap}(I:Inv w Gm G h){a:Addr}{c:Cell}(hB:G.B a=none)(hρ:a∉G.ρ)(hs:a≠sysModules)(x:CellAt w G h a c):Inv w Gm (G.more a c) h:=by
 refine⟨I.stays,I.base, ?_,λi b d h1 h2=>?_,λb hb=>?_, ?_,I.glo,λb hb=>?_⟩
 ·show(G.ρ++[a]).length=(G.σ++[c]).length;simp only[List.length_append,List.length_append,I.len];rfl
 ·have h1:(G.ρ++[a])[i]?=some b:=h1;have h2:(G.σ++[c])[i]?=some d:=h2
  by_cases q:i<G.ρ.length
  ·replace h1:=(Eq.symm (List.getElem?_append_left q)).trans h1;rw[List.getElem?_append_left (I.len ▸ q)]at h2;exact(I.cell i b d h1 h2).move (G:=G) (G':=G.more a c) (λ_ _ e=>e) ⟨[a],rfl⟩ rfl I.stays
  ·have e:i=G.ρ.length:=by have:=(List.getElem?_eq_some_iff.mp h1).1;simp only[List.length_append]at this;simp at this;lia
   subst e;simp only[List.getElem?_append_right (Nat.le_refl _),Nat.sub_self]at h1;simp only[I.len,List.getElem?_append_right (Nat.le_refl _),Nat.sub_self]at h2;cases h1;cases h2;exact x.move (G:=G) (G':=G.more a c) (λ_ _ e=>e) ⟨[a],rfl⟩ rfl I.stays
 ·rcases List.mem_append.mp hb with q | q
  ·exact I.apart b q
  ·obtain rfl:b=a:=by simpa using q
   exact hB
 ·show(G.ρ++[a]).Nodup;exact List.nodup_append.mpr ⟨I.nodup,by simp,λx hx y hy=>by simp at hy;rw[hy];exact λe=>hρ (e ▸ hx)⟩
 ·rcases List.mem_append.mp hb with q | q
  ·exact I.sys b q
  ·obtain rfl:b=a:=by simpa using q
   exact hs
theorem Inv.size{h:Heap}(I:Inv w Gm G h):mainGlobals<h.objs.size:=let ⟨_,e⟩:=I.glo;Heap.lt_size (I.stays _ _ e)
theorem Inv.fresh_sys{h:Heap}(I:Inv w Gm G h):h.objs.size≠sysModules:=λe=>by have h1:=I.size;rw[e]at h1;exact absurd h1 (by decide)
theorem uS(I:Inv w Gm G s.heap)(o:Obj)(c:Cell)(t:Nat)(hx:∀ h',(∀ b o',G.B b=some o'->h'.get? b=some o')->h'.get? s.heap.objs.size=some o->CellAt w G h' s.heap.objs.size c)(hf:o.isFreed=false) :
  Rn w Gm xt Id G s (G.more s.heap.objs.size c) { s with heap:=s.heap.push o,toks:=t }:=by
 have R:=bM (xt:=xt) (Id:=Id) I o t;have hn:s.heap.objs.size∉G.ρ:=λq=>by refine am (I.obj q) λo' h _=>?_;rw[aD]at h;injection h
 have hB:G.B s.heap.objs.size=none:=by
  induction q:G.B s.heap.objs.size with
  | none=>rfl
  | some o'=>have:=I.stays _ _ q;rw[aD]at this;injection this
 refine⟨R.same,R.B,R.newB,⟨[s.heap.objs.size],rfl,λa ha=>?_⟩,pK R.inv hB hn I.fresh_sys (hx _ R.inv.stays (Heap.get?_push_size _ hf)),R.keep,R.there⟩;obtain rfl:a=s.heap.objs.size:=List.mem_singleton.mp ha;exact aD _
theorem sH(I:Inv w Gm G s.heap){a:Addr}{h':Heap}(t:Nat)(hs:Heap.SameBut a s.heap h')(ha:a∈Id)(hB:G.B a=none)(hρ:a∉G.ρ)(hx:∀ o,s.heap.get? a=some o->∃ o',h'.get? a=some o'/\(aV o->aV o')) :
  Rn w Gm xt Id G s G { s with heap:=h',toks:=t }:=by
 have st:∀ b o',G.B b=some o'->h'.get? b=some o':=λb o' e=>(hs.2 b (λq=>by rw[q]at e;replace e:=hB ▸ e;injection e)).trans (I.stays b o' e);refine⟨⟨_,_,rfl⟩,λ_ _ e=>e,λ_ _ e=>.inl e,⟨[],by simp,λ_ h=>(nomatch h)⟩,⟨st,I.base,I.len,λi b c h1 h2=>?_,I.apart,I.nodup,I.glo,I.sys⟩,λb o' e _ n=>⟨o'.slots,(hs.2 b (λq=>n (q ▸ ha))).trans e,λ_=>rfl⟩,λb o' e=>?_⟩
 ·have hb:b∈G.ρ:=List.mem_of_getElem? h1;exact(I.cell i b c h1 h2).move (λ_ _ e=>e) ⟨[],by simp⟩ (hs.2 b (λq=>hρ (q ▸ hb))) st
 ·by_cases q:b=a
  ·subst q;exact hx o' e
  ·exact⟨o',(hs.2 b q).trans e,id⟩
noncomputable def Gh.turn(G:Gh)(i:Nat)(c:Cell):Gh:={ G with σ:=G.σ.set i c }
theorem gl(I:Inv w Gm G s.heap){i:Nat}{a:Addr}{c:Cell}{h':Heap}(t:Nat)(hi:G.ρ[i]?=some a)(hs:Heap.SameBut a s.heap h')(hx:(∀ b o',G.B b=some o'->h'.get? b=some o')->CellAt w G h' a c) :
  Rn w Gm xt Id G s (G.turn i c) { s with heap:=h',toks:=t }:=by
 have ha:a∈G.ρ:=List.mem_of_getElem? hi;have st:∀ b o',G.B b=some o'->h'.get? b=some o':=λb o' e=>(hs.2 b (λq=>by rw[q]at e;replace e:=(I.apart a ha) ▸ e;injection e)).trans (I.stays b o' e);have x:=hx st;refine⟨⟨_,_,rfl⟩,λ_ _ e=>e,λ_ _ e=>.inl e,⟨[],by simp[Gh.turn],λ_ h=>(nomatch h)⟩,⟨st,I.base, ?_,λj b d h1 h2=>?_,I.apart,I.nodup,I.glo,I.sys⟩,λb o' e n _=>⟨o'.slots,(hs.2 b (λq=>n (q ▸ ha))).trans e,λ_=>rfl⟩,λb o' e=>?_⟩
 ·show G.ρ.length=(G.σ.set i c).length;simp only[List.length_set];exact I.len
 ·have h1:G.ρ[j]?=some b:=h1;have h2:(G.σ.set i c)[j]?=some d:=h2;rcases P_ (i=j) with q | q
  ·subst q;replace h1:=(hi) ▸ h1;cases h1;replace h2:=(List.getElem?_set_self (by rw[<-I.len];exact(List.getElem?_eq_some_iff.mp hi).1)) ▸ h2;cases h2;exact x.move (λ_ _ e=>e) ⟨[],by simp[Gh.turn]⟩ rfl st
  ·rw[List.getElem?_set_ne q]at h2;have hne:b≠a:=λe=>by subst e;obtain⟨p1,e1⟩:=List.getElem?_eq_some_iff.mp hi;obtain⟨p2,e2⟩:=List.getElem?_eq_some_iff.mp h1;exact q ((List.getElem_inj I.nodup).mp (e1.trans e2.symm))
   exact(I.cell j b d h1 h2).move (λ_ _ e=>e) ⟨[],by simp[Gh.turn]⟩ (hs.2 b hne) st
 ·by_cases q:b=a
  ·rw[q];refine am x.obj λo1 e1 n1=>?_;exact⟨o1,e1,λ_=>n1⟩
  ·exact⟨o',(hs.2 b q).trans e,id⟩
end
end
section
variable{w:World}{Gm:Heap}{xt:Bool}
abbrev rep(w:World):Gh->Value->D->Prop:=λG v d=>Rep w G.B G.ρ v d
abbrev repL(w:World):Gh->List Value->List D->Prop:=λG v d=>RepL w G.B G.ρ v d
abbrev iG:Gh->Bool->Bool->Prop:=λ_ v d=>v=d
abbrev E5:Gh->Unit->Unit->Prop:=λ_ _ _=>True
theorem gm{i:Int}(h:fits i=true):Builtin.Int.intBits i<=8192:=intBits_le (of_decide_eq_true h)
theorem pL{a b:Int}(ha:fits a=true)(hb:fits b=true):IntMulOk a b:=
 IntMulOk.of_bits (PQ (gm ha) (by decide)) (PQ (gm hb) (by decide))
theorem fQ{a b:Int}(hb:fits b=true):Builtin.divisionGoesByPylong a b=false:=by
 refine PyProof.noPylong_of_log2 ?_;have h:b.natAbs<2 ^ 8192:=of_decide_eq_true hb;rcases Nat.eq_zero_or_pos b.natAbs with h0 | hp
 ·rw[h0];decide +kernel
 ·have:b.natAbs.log2<8192:=(Nat.log2_lt (Nat.ne_of_gt hp)).mpr h;lia
theorem bB:sizeLine=16777216:=by decide +kernel
theorem aW{n:Nat}(h:ao n=true):n<=1000000:=of_decide_eq_true h
section
variable{A:Around}{E:Value->Shared->Prop}{s:Shared}{G:Gh}{Id:List Addr}{Lf:Addr}
theorem Ok.int{i:Int}{Q:Value->Shared->Prop}(I:Inv w Gm G s.heap)(h:Ok w Gm xt (rep w) Id Lf G s (ret (D.int i) G.σ) Q E)(t tk:Nat):Q (.int i t) { s with toks:=tk }:=
 h _ _ G rfl (bV I tk) (.int i t)
theorem Ok.boolV{b:Bool}{Q:Value->Shared->Prop}(I:Inv w Gm G s.heap)(h:Ok w Gm xt (rep w) Id Lf G s (ret (D.bool b) G.σ) Q E):Q (.bool b) s:=Ok.now I h (.bool b)
theorem Ok.strV{x:Str}{Q:Value->Shared->Prop}(I:Inv w Gm G s.heap)(h:Ok w Gm xt (rep w) Id Lf G s (ret (D.str x) G.σ) Q E)(t tk:Nat):Q (.str x t) { s with toks:=tk }:=
 h _ _ G rfl (bV I tk) (.str x t)
theorem dC(I:Inv w Gm G s.heap){h':Heap}(t:Nat)(k:∀ b o,s.heap.get? b=some o->h'.get? b=some o):Rn w Gm xt Id G s G { s with heap:=h',toks:=t }:=by refine⟨⟨_,_,rfl⟩,λ_ _ e=>e,λ_ _ e=>.inl e,⟨[],by simp,cP⟩,⟨λb o e=>k _ _ (I.stays b o e),I.base,I.len,λi a c h1 h2=>?_,I.apart,I.nodup,I.glo,I.sys⟩,λb o e _ _=>⟨o.slots,k b o e,λ_=>rfl⟩,λb o e=>⟨o,k b o e,id⟩⟩;have x:=I.cell i a c h1 h2;refine am x.obj λoa ha _=>?_;exact x.move (λ_ _ e=>e) ⟨[],by simp⟩ ((k _ _ ha).trans ha.symm) (λb o e=>k _ _ (I.stays b o e))
theorem Ok.frozen{d:D}{Q:Value->Shared->Prop}(I:Inv w Gm G s.heap)(o:Obj)(hf:o.isFreed=false)(t:Nat)(h:Ok w Gm xt (rep w) Id Lf G s (ret d G.σ) Q E)
  (r:∀ B:Addr->Option Obj,(∀ b o',G.B b=some o'->B b=some o')->B s.heap.objs.size=some o->Rep w B G.ρ (.ref s.heap.objs.size) d):Q (.ref s.heap.objs.size) { s with heap:=s.heap.push o,toks:=t }:=by
 refine PV (λR e=>?_) (mM (xt:=xt) (Id:=Id) I o hf t);exact h _ _ (G.add s.heap.objs.size o) rfl R (r _ R.B e)
theorem pM(x:Value):∀ n:Nat,(List.replicate n [x]).flatten=List.replicate n x
 | 0=>rfl
 | n+1=>by simp only[List.replicate_succ,List.flatten_cons,pM x n,List.replicate_succ];rfl
theorem fR{B:Addr->Option Obj}{ρ:List Addr}{v:Value}{d:D}(h:Rep w B ρ v d):∀ n:Nat,RepL w B ρ (List.replicate n v) (List.replicate n d)
 | 0=>.nil
 | n+1=>by simp only[List.replicate_succ,List.replicate_succ];exact .cons h (fR h n)
theorem mf(n:Int):Txt.mul (nm " ") n=⟨Array.replicate n.toNat 32⟩:=by
 refine PW (P_ (n<1)) (λh=>?_) λh=>?_
 ·refine PX (PY h) ?_;have:n.toNat=0:=by lia
  exact this ▸ rfl
 ·refine PX (PZ h) ?_
  by_cases h1:n=1
  ·subst h1;rfl
  ·refine PX (PZ (by
    have e:(nm " ").length=1:=by decide +kernel
    simp[h1,e])) ?_
   have:∀ k:Nat,∀ acc:Array Nat,List.foldl (λx1 x2=>x1++x2) acc (List.replicate k (nm " ").cps)=acc++Array.replicate k 32:=by
    intro k
    induction k with
    | zero=>intro acc;simp
    | succ k ih=>
     intro acc;simp only[List.replicate_succ,List.foldl_cons,ih];have e:(nm " ").cps=#[32]:=by decide +kernel
     rw[e]
     apply Array.toList_inj.mp
     simp[List.replicate_succ]
   congr 1
   have:=this n.toNat #[]
   simpa using this
theorem pO{n:Int}(h0:-1000000<=n)(h:n<=1000000):MulOk (nm " ") n:=by
 have e:(nm " ").length=1:=by decide +kernel
 refine⟨?_,λh1 h2=>?_,λh1 h2=>?_⟩
 ·simp;lia
 ·rw[e];have:(1:Int)<=(2 ^ 63 - 1) / n:=by refine(Int.le_ediv_iff_mul_le (by lia)).mpr ?_;lia
  lia
 ·rw[e,Nat.one_mul];unfold Builtin.Str.tooLong;rw[bB];simp;lia
theorem kt{d:D}{v:Value}{Q:Bool->Shared->Prop}(I:Inv w Gm G s.heap)(r:Rep w G.B G.ρ v d)(h:Ok w Gm xt iG Id Lf G s (cz d G.σ) Q E):wpAny (model pw w) A (truthy v) Q E s:=by
 induction d using D.casesOn <;> try exact(h:False).elim
 ·obtain rfl:=r.inv;exact wpAny_truthy_bool (Ok.now I h rfl)
 ·refine PU r.inv λ_ zz1=>?_;exact zz1 ▸ (truthy_int (Ok.now I h rfl))
theorem CH{d:D}{v:Value}{Q:Value->Shared->Prop}(I:Inv w Gm G s.heap)(r:Rep w G.B G.ρ v d)(h:Ok w Gm xt (rep w) Id Lf G s (dm d G.σ) Q E):wpAny (model pw w) A (unaryOp .USub v) Q E s:=by
 induction d using D.casesOn <;> try exact(h:False).elim
 obtain⟨_,rfl⟩:=r.inv;exact neg_int (h.int I _ _)
theorem Ok.ite{α β:Type}{P:Gh->β->α->Prop}{Q:β->Shared->Prop}{c:Prop}[Decidable c]{m:M α}(h:Ok w Gm xt P Id Lf G s ((if c then m else stuck) G.σ) Q E):c/\Ok w Gm xt P Id Lf G s (m G.σ) Q E:=by
 split at h
 ·rename_i hc;exact⟨hc,h⟩
 ·exact(h:False).elim
theorem Ok.onName{α β γ:Type}{P:Gh->β->α->Prop}{Q:β->Shared->Prop}{e:Expr}{f:Str->M γ}{o:M γ}(K:M γ->R α){C:Prop}(h:Ok w Gm xt P Id Lf G s (K (Mine.onName e f o)) Q E)(k:∀ x p,e=.Name x p->Ok w Gm xt P Id Lf G s (K (f x)) Q E->C)(k':Ok w Gm xt P Id Lf G s (K o) Q E->C):C:=
 jd (λm:M γ=>Ok w Gm xt P Id Lf G s (K m) Q E) h k k'
theorem Ok.onAttr{α β γ:Type}{P:Gh->β->α->Prop}{Q:β->Shared->Prop}{e:Expr}{f:Expr->Str->Pos->M γ}{o:M γ}(K:M γ->R α){C:Prop}(h:Ok w Gm xt P Id Lf G s (K (Mine.onAttr e f o)) Q E)(k:∀ x a p,e=.Attribute x a p->Ok w Gm xt P Id Lf G s (K (f x a p)) Q E->C)(k':nM e=false->Ok w Gm xt P Id Lf G s (K o) Q E->C):C:=
 vS (λm:M γ=>Ok w Gm xt P Id Lf G s (K m) Q E) h k k'
theorem Ok.onTup{α β γ:Type}{P:Gh->β->α->Prop}{Q:β->Shared->Prop}{e:Expr}{f:List Expr->M γ}{o:M γ}(K:M γ->R α){C:Prop}(h:Ok w Gm xt P Id Lf G s (K (Mine.onTup e f o)) Q E)(k:∀ es k p,e=.Tuple es k p->Ok w Gm xt P Id Lf G s (K (f es)) Q E->C)(k':Ok w Gm xt P Id Lf G s (K o) Q E->C):C:=
 xJ (λm:M γ=>Ok w Gm xt P Id Lf G s (K m) Q E) h k k'
theorem Ok.onSlice{α β γ:Type}{P:Gh->β->α->Prop}{Q:β->Shared->Prop}{e:Expr}{f:Option Expr->Option Expr->Option Expr->M γ}{o:M γ}(K:M γ->R α){C:Prop}(h:Ok w Gm xt P Id Lf G s (K (Mine.onSlice e f o)) Q E)(k:∀ a b c p,e=.Slice a b c p->Ok w Gm xt P Id Lf G s (K (f a b c)) Q E->C)(k':iA e=false->Ok w Gm xt P Id Lf G s (K o) Q E->C):C:=
 sv (λm:M γ=>Ok w Gm xt P Id Lf G s (K m) Q E) h k k'
theorem Ok.onSub{α β γ:Type}{P:Gh->β->α->Prop}{Q:β->Shared->Prop}{e:Expr}{f:Expr->Expr->M γ}{o:M γ}(K:M γ->R α){C:Prop}(h:Ok w Gm xt P Id Lf G s (K (Mine.onSub e f o)) Q E)(k:∀ a b p,e=.Subscript a b p->Ok w Gm xt P Id Lf G s (K (f a b)) Q E->C)(k':Ok w Gm xt P Id Lf G s (K o) Q E->C):C:=
 xK (λm:M γ=>Ok w Gm xt P Id Lf G s (K m) Q E) h k k'
theorem Ok.iteB{α β γ:Type}{P:Gh->β->α->Prop}{Q:β->Shared->Prop}{c:Prop}[Decidable c]{m:M γ}{g:γ->M α}{σ:St}(h:Ok w Gm xt P Id Lf G s (bnd (if c then m else stuck) g σ) Q E):c/\Ok w Gm xt P Id Lf G s (bnd m g σ) Q E:=
 have e:∀ {x},(if c then m else stuck)=x->Ok w Gm xt P Id Lf G s (bnd x g σ) Q E:=λe=>e ▸ h
 if q:c then ⟨q,e (PY q)⟩ else (e (PZ q):False).elim
section
variable{α β:Type}{P:Gh->β->α->Prop}{Q:β->Shared->Prop}{a:D}{v:Value}{σ:St}
theorem Ok.asInt{g:Int->M α}(r:Rep w G.B G.ρ v a)(h:Ok w Gm xt P Id Lf G s (asInt a g σ) Q E):∃ i t,v=.int i t/\Ok w Gm xt P Id Lf G s (g i σ) Q E:=by refine kg (λm:M α=>Ok w Gm xt P Id Lf G s (m σ) Q E) h (λi z h=>?_) False.elim;subst z;obtain⟨t,e⟩:=r.inv;exact⟨i,t,e,h⟩
theorem Ok.asStr{g:Str->M α}(r:Rep w G.B G.ρ v a)(h:Ok w Gm xt P Id Lf G s (asStr a g σ) Q E):∃ i t,v=.str i t/\Ok w Gm xt P Id Lf G s (g i σ) Q E:=by refine xy (λm:M α=>Ok w Gm xt P Id Lf G s (m σ) Q E) h (λi z h=>?_) False.elim;subst z;obtain⟨t,e⟩:=r.inv;exact⟨i,t,e,h⟩
theorem Ok.asTup{g:List D->M α}(r:Rep w G.B G.ρ v a)(h:Ok w Gm xt P Id Lf G s (asTup a g σ) Q E):∃ l x vs,v=.ref x/\BSeq G.B "tuple" x vs/\RepL w G.B G.ρ vs l/\Ok w Gm xt P Id Lf G s (g l σ) Q E:=by refine pH (λm:M α=>Ok w Gm xt P Id Lf G s (m σ) Q E) h (λl z h=>?_) False.elim;subst z;refine ar r.inv λx vs e h1 h2=>?_;exact⟨l,x,vs,e,h1,h2,h⟩
theorem Ok.asList{g:List D->M α}(r:Rep w G.B G.ρ v a)(h:Ok w Gm xt P Id Lf G s (asList a g σ) Q E):∃ l x vs,v=.ref x/\BSeq G.B "list" x vs/\RepL w G.B G.ρ vs l/\Ok w Gm xt P Id Lf G s (g l σ) Q E:=by refine vR (λm:M α=>Ok w Gm xt P Id Lf G s (m σ) Q E) h (λl z h=>?_) False.elim;subst z;refine ar r.inv λx vs e h1 h2=>?_;exact⟨l,x,vs,e,h1,h2,h⟩
theorem Ok.asBool{g:Bool->M α}(r:Rep w G.B G.ρ v a)(h:Ok w Gm xt P Id Lf G s (asBool a g σ) Q E):∃ i,v=.bool i/\Ok w Gm xt P Id Lf G s (g i σ) Q E:=by refine vQ (λm:M α=>Ok w Gm xt P Id Lf G s (m σ) Q E) h (λi z h=>?_) False.elim;subst z;exact⟨i,r.inv,h⟩
end
theorem uT{B:Addr->Option Obj}{ρ:List Addr}{vs:List Value}{a:D}(r:RepL w B ρ vs [a]):∃ v,vs=[v]/\Rep w B ρ v a:=by
 cases r with
 | cons h t=>cases t;exact⟨_,rfl,h⟩
theorem pP{x:D}{n:Int}{va:Value}{u:Tok}{Q:Value->Shared->Prop}(I:Inv w Gm G s.heap)(ra:Rep w G.B G.ρ va (.list [x]))
  (h:Ok w Gm xt (rep w) Id Lf G s (ag .Mult (.list [x]) (.int n) G.σ) Q E):wpAny (model pw w) A (binaryOp .Mult va (.int n u)) Q E s:=by
 refine ar ra.inv λa vs z1 hb hr=>?_;obtain rfl:=z1;obtain⟨⟨h0,h1⟩,h⟩:=Ok.ite h;refine DM (hb.list I.stays) λz2 ho hcl k hd=>?_;obtain⟨cls,d,data,sl⟩:=z2;simp only at hcl hd;subst hcl hd;refine am (uT hr) λv z3 hv=>?_;obtain rfl:=z3;refine wpAny_binaryOp_repeat_ref (T:="list") (U:="int") (rfl) ⟨_,ho,rfl⟩ (λs'=>typeIs_int s' n u) noFill_list_mul F.fills_int_mul F.slot_int_rmul repeat_list F.slot_int_index.lookup
  (call_meets F.slot_int_rmul (typeIs_int s n u) F.entry_int_rmul (F.args_int_rmul_2 _ _) (lm_int_rmul_list_any n u a [v].toArray k d sl)
   ⟨ho,rfl,⟨_,ho,rfl⟩,call_meets F.slot_list_mul ⟨_,ho,rfl⟩ F.entry_list_mul (F.args_list_mul_2 _ _)
    (lm_list_mul_any a [v].toArray k d sl n u (by simp[Builtin.List.listFitsIndex];lia) (by simp;lia) (by simp[Builtin.List.listTooLong,sizeLine];lia))
    ⟨ho, ?_⟩⟩)
 simp only[listMul_foldl_if,show([v].toArray).toList=[v] from rfl,pM];refine h (.ref s.heap.objs.size) _ (G.more s.heap.objs.size (.list (List.replicate n.toNat x))) rfl (uS I _ _ _ (λh' st e=>⟨List.replicate n.toNat v,0,e, ?_⟩) rfl) (.ref ?_)
 ·exact fR hv _
 ·show(G.ρ++[s.heap.objs.size])[G.σ.length]?=some s.heap.objs.size;simp only[<-I.len,List.getElem?_append_right (Nat.le_refl _),Nat.sub_self];rfl
theorem Aj{op:Operator}{x y:Int}{t u:Tok}{Q:Value->Shared->Prop}(I:Inv w Gm G s.heap)(h:Ok w Gm xt (rep w) Id Lf G s (DU op x y G.σ) Q E):wpAny (model pw w) A (binaryOp op (.int x t) (.int y u)) Q E s:=by
 induction op with
 | Add=>exact add_int (h.int I _ _)
 | Sub=>exact sub_int (h.int I _ _)
 | Mult=>obtain⟨hc,h⟩:=Ok.ite h;obtain⟨h1,h2⟩:=P8 hc;exact mul_int (h.int I _ _) (pL h1 h2)
 | Mod=>obtain⟨h1,h⟩:=Ok.ite h;exact mod_int' h1 (h.int I _ _)
 | Pow=>obtain⟨⟨h1,h2,h3⟩,h⟩:=Ok.ite h;refine pow_int h1 ?_ (h.int I _ _);have hb:=gm h3;have:=Int.mul_le_mul (Int.ofNat_le.mpr hb) h2 h1 (by decide:(0:Int)<=((8192:Nat):Int));refine Int.le_trans this (by decide)
 | LShift=>
  obtain⟨⟨h1,h2,h3⟩,h⟩:=Ok.ite h;refine lshift_int h1 ?_ (h.int I _ _);have hb:=gm h3;have:(2:Int) ^ 27=134217728:=by decide
  lia
 | FloorDiv=>obtain⟨⟨h1,h2,h3⟩,h⟩:=Ok.ite h;exact floordiv_int h1 (h.int I _ _) (.inl (fQ h3))
 | _=>exact(h:False).elim
theorem Ak{op:Operator}{x y:Str}{t u:Tok}{Q:Value->Shared->Prop}(I:Inv w Gm G s.heap)(h:Ok w Gm xt (rep w) Id Lf G s (DV op x y G.σ) Q E):wpAny (model pw w) A (binaryOp op (.str x t) (.str y u)) Q E s:=by
 induction op with
 | Add=>refine PV (λhc h=>?_) (Ok.ite h);refine PV (λh1 h2=>?_) (P8 hc);exact add_str (λt tk=>h.strV I t tk) (by have:=aW h1;have:=aW h2;simp only[bB];lia)
 | _=>exact(h:False).elim
theorem Al{op:Operator}{x:Str}{y:Int}{t u:Tok}{Q:Value->Shared->Prop}(I:Inv w Gm G s.heap)(h:Ok w Gm xt (rep w) Id Lf G s (DW op x y G.σ) Q E):wpAny (model pw w) A (binaryOp op (.str x t) (.int y u)) Q E s:=by
 induction op with
 | Mult=>obtain⟨⟨ea,h2,h3⟩,h'⟩:=Ok.ite h;rw[ea];exact SB.mul (pO h2 h3) λt tk=>by rw[mf];exact h'.strV I t tk
 | _=>exact(h:False).elim
theorem CI{op:Operator}{a b:D}{va vb:Value}{Q:Value->Shared->Prop}(I:Inv w Gm G s.heap)(ra:Rep w G.B G.ρ va a)(rb:Rep w G.B G.ρ vb b)
  (h:Ok w Gm xt (rep w) Id Lf G s (ag op a b G.σ) Q E):wpAny (model pw w) A (binaryOp op va vb) Q E s:=by
 induction a using D.casesOn with
 | int x=>obtain⟨t,rfl⟩:=ra.inv;refine aJ (Ok.asInt rb h) λy u z4 h=>?_;obtain rfl:=z4;exact(Aj (A:=A) (t:=t) (u:=u) I h :)
 | str x=>
  obtain⟨t,rfl⟩:=ra.inv
  induction b using D.casesOn with
  | str y=>obtain⟨u,rfl⟩:=rb.inv;exact(Ak (A:=A) (x:=x) (y:=y) (op:=op) (t:=t) (u:=u) I h :)
  | int y=>obtain⟨u,rfl⟩:=rb.inv;exact(Al (A:=A) (x:=x) (y:=y) (op:=op) (t:=t) (u:=u) I h :)
  | _=>exact(h:False).elim
 | list l=>
  refine aJ (Ok.asInt rb h) λn u z5 h=>?_;obtain rfl:=z5;cases l with
  | nil=>exact(h:False).elim
  | cons x l=>
   induction l using List.casesOn with
   | cons=>exact(h:False).elim
   | nil=>
    induction op with
    | Mult=>exact(pP (A:=A) (n:=n) (u:=u) I ra h :)
    | _=>exact(h:False).elim
 | _=>exact(h:False).elim
end
end
section
variable{w:World}{Gm:Heap}{xt:Bool}
theorem mN{B:Addr->Option Obj}{ρ:List Addr}{vs:List Value}{d:D}{ds:List D}(r:RepL w B ρ vs (d::ds)):∃ v us,vs=v::us/\Rep w B ρ v d/\RepL w B ρ us ds:=by
 cases r with
 | cons a b=>exact⟨_,_,rfl,a,b⟩
theorem ku{σ:St}{d:D}{l:List D}{xs:List PyData}(e:bO σ (d::l)=some xs):∃ a b,fE σ d=some a/\bO σ l=some b/\xs=a::b:=by
 have e:(match fE σ d,bO σ l with | some a,some b=>some (a::b) | _,_=>none)=some xs:=e;generalize fE σ d=o at e ⊢;generalize bO σ l=q at e ⊢
 induction o using Option.casesOn with
 | none=>exact du e
 | some a=>
  induction q using Option.casesOn with
  | none=>exact du e
  | some b=>exact⟨a,b,rfl,rfl,(P7 e).symm⟩
set_option tactic.hygienic true in
mutual
theorem kx{G:Gh}{h:Heap}(I:Inv w Gm G h):∀ (d:D) {v:Value} {x:PyData},Rep w G.B G.ρ v d->fE G.σ d=some x->∃ as,Reads h v x as
 | .none,_,_,r,e=>by obtain rfl:=r.inv;cases e;exact⟨_,.none⟩
 | .bool b,_,_,r,e=>by obtain rfl:=r.inv;cases e;exact⟨_,.bool b⟩
 | .int i,_,_,r,e=>by obtain⟨_,rfl⟩:=r.inv;cases e;exact⟨_,.int i _⟩
 | .str s,_,_,r,e=>by obtain⟨_,rfl⟩:=r.inv;cases e;exact⟨_,.str s _⟩
 | .tup l,_,_,r,e=>by refine ar r.inv λ_ _ z1 hb hr=>?_;obtain rfl:=z1;refine am (Option.map_eq_some_iff.mp e) λxs q ex=>?_;rw[<-ex];refine ar hb λo n ho hc hd=>?_;exact PU (cv I l hr q) λas ra=>⟨_,.tuple (I.stays _ _ ho) hc hd ra⟩
 | .list l,_,_,r,e=>by refine ar r.inv λ_ _ z2 hb hr=>?_;obtain rfl:=z2;refine am (Option.map_eq_some_iff.mp e) λxs q ex=>?_;rw[<-ex];refine ar hb λo n ho hc hd=>?_;exact PU (cv I l hr q) λas ra=>⟨_,.list (I.stays _ _ ho) hc hd ra⟩
 | .sdict _,_,_,_,e=>by cases e
 | .idict _,_,_,_,e=>by cases e
 | .ref _,_,_,_,e=>by cases e
 | .inst _ _,_,_,_,e=>by cases e
 | .fn _,_,_,_,e=>by cases e
 | .blt _,_,_,_,e=>by cases e
 | .range _ _,_,_,_,e=>by cases e
 | .items _,_,_,_,e=>by cases e
theorem cv{G:Gh}{h:Heap}(I:Inv w Gm G h):∀ (l:List D) {vs:List Value} {xs:List PyData},RepL w G.B G.ρ vs l->bO G.σ l=some xs->∃ as,ReadsAll h vs xs as
 | [],_,_,r,e=>by rw[List.eq_nil_of_length_eq_zero r.length,<-P7 e];exact⟨_,.nil⟩
 | d::l,_,_,r,e=>by refine ar (mN r) λv us ev r1 r2=>?_;refine ar (ku e) λa b h1 h2 ex=>?_;rw[ev,ex];exact PU (kx I d r1 h1) λas p=>PU (cv I l r2 h2) λbs q=>⟨_,.cons p q⟩
end
theorem xP(σ:St)(d:D):fH σ d=d\/∃ i l,d=.ref i/\σ[i]?=some (.list l)/\fH σ d=.list l:=by
 induction d using D.casesOn <;> first | exact .inl rfl | skip
 delta fH;dsimp only;generalize q:σ[i]?=o
 induction o using Option.casesOn with
 | none=>exact .inl rfl
 | some c=>induction c using Cell.casesOn <;> first | exact .inl rfl | exact .inr ⟨_,_,rfl,q,rfl⟩
theorem vY(σ:St)(d:D):fI σ d=fH σ d\/∃ l,d=.tup l:=by induction d using D.casesOn <;> first | exact .inl rfl | exact .inr ⟨_,rfl⟩
theorem pQ{G:Gh}{h:Heap}(I:Inv w Gm G h)(d:D){v:Value}{x:PyData}(r:Rep w G.B G.ρ v d)(e:fE G.σ (fH G.σ d)=some x):∃ as,Reads h v x as:=by refine PW (xP G.σ d) (λq=>kx I d r (q ▸ e)) λq=>?_;refine ar q λi l z hl z2=>?_;rw[z2]at e;rw[z]at r;refine am r.inv λ_ z3 ha=>?_;refine aJ (I.cell _ _ _ ha hl) λvs n ho y=>?_;refine am (Option.map_eq_some_iff.mp e) λxs q ex=>?_;rw[z3,<-ex];exact PU (cv I l y q) λas ra=>⟨_,.list ho rfl rfl ra⟩
theorem vZ{G:Gh}{h:Heap}(I:Inv w Gm G h)(l:List D):∀ {vs:List Value} {xs:List PyData},RepL w G.B G.ρ vs l->bO G.σ (l.map (fH G.σ))=some xs->∃ as,ReadsAll h vs xs as:=by
 induction l with
 | nil=>intro vs xs r e;rw[List.eq_nil_of_length_eq_zero r.length,<-P7 e];exact⟨_,.nil⟩
 | cons d l ih=>intro vs xs r e;refine ar (mN r) λv us ev r1 r2=>?_;refine ar (ku e) λa b h1 h2 ex=>?_;rw[ev,ex];exact PU (pQ I d r1 h1) λas p=>PU (ih r2 h2) λbs q=>⟨_,.cons p q⟩
theorem mO{G:Gh}{h:Heap}(I:Inv w Gm G h)(d:D){v:Value}{x:PyData}(r:Rep w G.B G.ρ v d)(e:fE G.σ (fI G.σ d)=some x):∃ as,Reads h v x as:=by refine PW (vY G.σ d) (λq=>pQ I d r (q ▸ e)) λq=>PU q λl z=>?_;subst z;refine ar r.inv λ_ _ z4 hb hr=>?_;refine am (Option.map_eq_some_iff.mp e) λxs q ex=>?_;rw[z4,<-ex];refine ar hb λo n ho hc hd=>?_;exact PU (vZ I l hr q) λas ra=>⟨as,.tuple (I.stays _ _ ho) hc hd ra⟩
structure Rm(A:Around):Prop where
 h:A.handled=none
 u:A.units+100<cLine
theorem iH{K:Type}[DecidableEq K](y x:K)(v:Value)(vs:List (K×Value)):valueAt ((y,v)::vs) x=if y=x then some v else valueAt vs x:=by
 unfold valueAt;dsimp only[List.find?_cons];rcases P_ (y=x) with h | h
 ·simp[h]
 ·simp[h]
theorem bJ{B:Addr->Option Obj}{ρ:List Addr}:∀ {kvs:List (Str×Value)} {l:List (Str×D)},RepS w B ρ kvs l->∀ x,(aa l x=none->valueAt kvs x=none)/\∀ d,aa l x=some d->∃ v,valueAt kvs x=some v/\Rep w B ρ v d:=by
 intro kvs l r;refine RepS.ind ?_ ?_ r
 ·exact λx=>⟨λ_=>rfl,λd e=>by exact du e⟩
 ·intro y v d vs ds a b ih;intro x;have ih:=ih x;dsimp only[aa];rw[iH]
  by_cases h:y=x
  ·rw[PY h,PY h];exact⟨λe=>(nomatch e),λd e=>by cases e;exact⟨_,rfl,a⟩⟩
  ·rw[PZ h,PZ h];exact ih
theorem gP{B:Addr->Option Obj}{ρ:List Addr}:∀ {kvs:List (Int×Value)} {l:List (Int×D)},RepI w B ρ kvs l->∀ x,(gK l x=none->valueAt kvs x=none)/\∀ d,gK l x=some d->∃ v,valueAt kvs x=some v/\Rep w B ρ v d:=by
 intro kvs l r;refine RepI.ind ?_ ?_ r
 ·exact λx=>⟨λ_=>rfl,λd e=>by exact du e⟩
 ·intro y v d vs ds a b ih;intro x;have ih:=ih x;dsimp only[gK];rw[iH]
  by_cases h:y=x
  ·rw[PY h,PY h];exact⟨λe=>(nomatch e),λd e=>by cases e;exact⟨_,rfl,a⟩⟩
  ·rw[PZ h,PZ h];exact ih
theorem jA{B:Addr->Option Obj}{ρ:List Addr}:∀ {xs:List (List Int×Addr×Value)} {l:List (List Int×D)},RepT w B ρ xs l->∀ x,(dA l x=none->atKey xs x=none)/\∀ d,dA l x=some d->∃ p,atKey xs x=some p/\Rep w B ρ p.2 d
 | _,_,.nil,x=>⟨λ_=>rfl,λd e=>by exact du e⟩
 | _,_,.cons (x:=y) (a:=a) (v:=v) (vs:=vs) (ds:=ds) (d:=d) h1 h2 r b,x=>by
  have ih:=jA b x;dsimp only[dA];have e:atKey ((y,a,v)::vs) x=if y=x then some (a,v) else atKey vs x:=by
   unfold atKey;dsimp only[List.find?_cons]
   by_cases h:y=x <;> simp[h]
  rw[e]
  by_cases h:y=x
  ·rw[PY h,PY h];exact⟨λe=>(nomatch e),λd e=>by cases e;exact⟨_,rfl,r⟩⟩
  ·rw[PZ h,PZ h];exact ih
theorem dP{K:Type}[DecidableEq K](y x:K)(u v:Value)(vs:List (K×Value))(hn:y∉vs.map (·.1)):stored ((y,u)::vs) x v=if y=x then (y,v)::vs else (y,u)::stored vs x v:=by
 unfold stored;rw[List.any_cons]
 by_cases h:y=x
 ·subst h;refine PX (PY (by simp)) ?_;rw[PY rfl,List.map_cons,PY rfl]
  congr 1
  conv=>rhs;rw[<-List.map_id vs]
  refine List.map_congr_left λp hp=>?_;exact(PZ (λe=>hn (List.mem_map.mpr ⟨p,hp,e⟩)))
 ·refine PX ?_ (Eq.symm (PZ h));have:decide ((y,u).1=x)=false:=decide_eq_false h;rw[this,Bool.false_or]
  split
  ·refine PX List.map_cons ?_;rw[PZ h]
  ·rfl
theorem fT{B:Addr->Option Obj}{ρ:List Addr}{x:Str}{v:Value}{d:D}(r:Rep w B ρ v d):∀ {kvs:List (Str×Value)} {l:List (Str×D)},RepS w B ρ kvs l->(kvs.map (·.1)).Nodup->RepS w B ρ (stored kvs x v) (fJ l x d):=by
 intro kvs l q;refine RepS.ind ?_ ?_ q
 ·exact λ_=>.cons r .nil
 ·intro _ _ _ _ _ a b ih;intro n;rw[List.map_cons,List.nodup_cons]at n;rw[dP _ _ _ _ _ n.1];dsimp only[fJ]
  split
  ·exact .cons r b
  ·exact .cons a (ih n.2)
theorem pR{B:Addr->Option Obj}{ρ:List Addr}{x:Int}{v:Value}{d:D}(r:Rep w B ρ v d):∀ {kvs:List (Int×Value)} {l:List (Int×D)},RepI w B ρ kvs l->(kvs.map (·.1)).Nodup->RepI w B ρ (stored kvs x v) (xz l x d):=by
 intro kvs l q;refine RepI.ind ?_ ?_ q
 ·exact λ_=>.cons r .nil
 ·intro _ _ _ _ _ a b ih;intro n;rw[List.map_cons,List.nodup_cons]at n;rw[dP _ _ _ _ _ n.1];dsimp only[xz]
  split
  ·exact .cons r b
  ·exact .cons a (ih n.2)
theorem nO(y x:List Int)(a k:Addr)(u v:Value)(vs:List (List Int×Addr×Value))(hn:y∉vs.map (·.1)):storedH ((y,a,u)::vs) x k v=if y=x then (y,a,v)::vs else (y,a,u)::storedH vs x k v:=by
 unfold storedH;have e:atKey ((y,a,u)::vs) x=if y=x then some (a,u) else atKey vs x:=by
  unfold atKey;dsimp only[List.find?_cons]
  by_cases h:y=x <;> simp[h]
 rw[e]
 by_cases h:y=x
 ·rw[<-h];rw[PY rfl,PY rfl];show(if (y,a,u).1=y then _ else _)::List.map (putAt y v) vs=_;rw[PY rfl]
  congr 1
  conv=>rhs;rw[<-List.map_id vs]
  refine List.map_congr_left λp hp=>?_;unfold putAt;exact(PZ (λe=>hn (List.mem_map.mpr ⟨p,hp,e⟩)))
 ·rw[PZ h,PZ h]
  split
  ·refine PX List.map_cons ?_
   congr 1
   dsimp only[putAt];exact(PZ h)
  ·rfl
theorem pS{B:Addr->Option Obj}{ρ:List Addr}{x:List Int}{a:Addr}{us:List Value}{v:Value}{d:D}(hb:BSeq B "tuple" a us)(hi:ItemsAre (ik w) x us)(r:Rep w B ρ v d):∀ {xs:List (List Int×Addr×Value)} {l:List (List Int×D)},RepT w B ρ xs l->(xs.map (·.1)).Nodup->RepT w B ρ (storedH xs x a v) (gI l x d):=by
 intro xs l q
 induction q with
 | nil=>exact λ_=>.cons hb hi r .nil
 | cons h1 h2 h3 b ih=>
  intro n;rw[List.map_cons,List.nodup_cons]at n;rw[nO _ _ _ _ _ _ _ n.1];dsimp only[gI]
  split
  ·exact .cons h1 h2 r b
  ·exact .cons h1 h2 h3 (ih n.2)
theorem iI{B:Addr->Option Obj}{ρ:List Addr}:∀ {t:List D} {us:List Value} {q:List Int},RepL w B ρ us t->dK t=some q->ItemsAre (ik w) q us:=by
 intro t us q r
 revert q
 show ∀ q:List Int,dK t=some q->ItemsAre (ik w) q us;refine RepL.ind ?_ ?_ r
 ·intro q;intro e;cases e;exact .nil
 ·intro v d vs ds a b ih q;intro e
  induction d using D.casesOn <;> try exact du e
  refine PU a.inv λ_ zz1=>?_;rw[zz1];dsimp only[dK]at e
  induction k:dK ds with
  | none=>exact du (k ▸ e)
  | some q=>replace e:=(k) ▸ e;cases e;exact .cons (by simp[ik,intKind,Value.isInt]) (ih _ k)
section
variable{A:Around}{E:Value->Shared->Prop}{s:Shared}{G:Gh}{Id:List Addr}{Lf:Addr}
theorem g6{α β:Type}{P:Gh->β->α->Prop}{Q:β->Shared->Prop}{o:Option α}{σ:St}(h:Ok w Gm xt P Id Lf G s (ac o σ) Q E):∃ a,o=some a/\Ok w Gm xt P Id Lf G s (ret a σ) Q E:=by
 induction o with
 | none=>exact(h:False).elim
 | some a=>exact⟨a,rfl,h⟩
theorem cj{α β γ:Type}{P:Gh->β->α->Prop}{Q:β->Shared->Prop}{o:Option γ}{f:γ->M α}{σ:St}(h:Ok w Gm xt P Id Lf G s (bnd (ac o) f σ) Q E):∃ a,o=some a/\Ok w Gm xt P Id Lf G s (f a σ) Q E:=by
 induction o with
 | none=>exact(h:False).elim
 | some a=>exact⟨a,rfl,h⟩
theorem bQ{α β:Type}{P:Gh->β->α->Prop}{Q:β->Shared->Prop}{i:Nat}{f:Cell->M α}(h:Ok w Gm xt P Id Lf G s (bnd (cell i) f G.σ) Q E):∃ c,G.σ[i]?=some c/\Ok w Gm xt P Id Lf G s (f c G.σ) Q E:=by
 unfold bnd cell at h
 induction q:G.σ[i]? with
 | none=>replace h:=(q) ▸ h;exact(h:False).elim
 | some c=>rw[q]at h;exact⟨c,rfl,h⟩
theorem uU(i:Int)(t:Tok):(ik w).is i (.int i t)=true:=by show(i==i)=true;simp
theorem jB(x:Str)(t:Tok):(sk w).is x (.str x t)=true:=by show(Value.str x t).isStr x=true;simp[Value.isStr]
theorem v3{v:Value}{d:D}(r:Rep w G.B G.ρ v d)(n:mL d=true):(v==Value.none)=isNone d:=by induction d using D.casesOn <;> first | exact absurd n Bool.false_ne_true | (obtain rfl:=r.inv;rfl) | (obtain⟨_,rfl⟩:=r.inv;rfl) | (obtain⟨_,rfl,_⟩:=r.inv;rfl) | (obtain⟨_,_,rfl,_⟩:=r.inv;rfl) | (obtain⟨_,_,_,rfl,_⟩:=r.inv;rfl) | (refine sr r.inv λ_ _ _ _ z5 _=>?_;obtain rfl:=z5;rfl)
theorem iJ{d:D}{l:List D}{v c:Value}{as:List Addr}(T:Bool){Q:Value->Shared->Prop}(m:Rm A)(I:Inv w Gm G s.heap)(r:Rep w G.B G.ρ v d){xs:List PyData}(hxs:bO G.σ l=some xs)
  (rc:Reads s.heap c (if T then .tuple xs else .list xs) as) :
  (Ok w Gm xt iG Id Lf G s (dX d l G.σ) (λb s'=>Q (.bool b) s') E->wpAny (model pw w) A (compareOp .In v c) Q E s) ∧
  (Ok w Gm xt iG Id Lf G s (dX d l G.σ) (λb s'=>Q (.bool !b) s') E->wpAny (model pw w) A (compareOp .NotIn v c) Q E s):=by
 have key:∀ {Q':Bool->Shared->Prop},Ok w Gm xt iG Id Lf G s (dX d l G.σ) Q' E->∃ x bs,Reads s.heap v x bs/\PyData.canLayAll0 xs=true/\PyData.canLay0 x=true/\A.units+1+min (PyData.depthAll xs) x.depth<cLine/\Q' (xs.any λy=>PyData.eqv y x) s:=by
  intro Q' h;unfold dX at h;replace h:=hxs ▸ h
  induction q:fE G.σ d with
  | none=>replace h:=q ▸ h;exact(h:False).elim
  | some x=>
   replace h:=(q) ▸ h;dsimp only at h
   split at h
   ·rename_i hc;simp[Bool.and_eq_true,Bool.and_eq_true]at hc;refine PU (kx I d r q) λas ra=>?_;refine⟨x,as,ra,hc.1.2,hc.1.1, ?_,h _ _ G rfl (.refl I) rfl⟩;have:=m.u;have:=Nat.min_le_right (PyData.depthAll xs) x.depth;lia
   ·exact(h:False).elim
 induction T
 ·constructor
  ·intro h;refine dM (key h) λx bs r1 r2 r3 r4 r5=>?_;exact SeqAt.in_list_reads rc r1 r2 r3 r4 r5
  ·intro h;refine dM (key h) λx bs r1 r2 r3 r4 r5=>?_;exact SeqAt.notIn_list_reads rc r1 r2 r3 r4 r5
 ·constructor
  ·intro h;refine dM (key h) λx bs r1 r2 r3 r4 r5=>?_;exact SeqAt.in_tuple_reads rc r1 r2 r3 r4 r5
  ·intro h;refine dM (key h) λx bs r1 r2 r3 r4 r5=>?_;exact SeqAt.notIn_tuple_reads rc r1 r2 r3 r4 r5
theorem dD{α:Type}{o:Option α}{p:Option Value}{R:Value->α->Prop}(x:(o=none->p=none)/\∀ d,o=some d->∃ v,p=some v/\R v d):p.isSome=o.isSome:=by
 induction o with
 | none=>exact congrArg _ (x.1 rfl)
 | some d=>refine am (x.2 d rfl) λv e _=>?_;exact congrArg _ e
theorem B7{a b:D}{va vb:Value}{Q:Value->Shared->Prop}(m:Rm A)(I:Inv w Gm G s.heap)(ra:Rep w G.B G.ρ va a)(rb:Rep w G.B G.ρ vb b) :
  (Ok w Gm xt iG Id Lf G s (B4 a b G.σ) (λb s'=>Q (.bool b) s') E->wpAny (model pw w) A (compareOp .In va vb) Q E s) ∧
  (Ok w Gm xt iG Id Lf G s (B4 a b G.σ) (λb s'=>Q (.bool !b) s') E->wpAny (model pw w) A (compareOp .NotIn va vb) Q E s):=by
 have seq:∀ {l:List D} {Q':Bool->Shared->Prop},Ok w Gm xt iG Id Lf G s (dX a l G.σ) Q' E->∃ xs,bO G.σ l=some xs:=by
  intro l Q' h;unfold dX at h
  induction q:bO G.σ l with
  | none=>replace h:=(q) ▸ h;induction q2:fE G.σ a <;> replace h:=q2 ▸ h <;> exact(h:False).elim
  | some xs=>exact⟨xs,rfl⟩
 induction b using D.casesOn with
 | list l=>
  refine ar rb.inv λad vs z6 hb hr=>?_;obtain rfl:=z6;have rd:∀ {xs},bO G.σ l=some xs->∃ as,Reads s.heap (.ref ad) (.list xs) as:=λq=>by obtain⟨as,ra⟩:=cv I l hr q;refine ar hb λo n ho hc hd=>?_;exact⟨_,.list (I.stays _ _ ho) hc hd ra⟩
  exact⟨λh=>let ⟨_,q⟩:=seq h;let ⟨_,r⟩:=rd q;(iJ false m I ra q r).1 h,λh=>let ⟨_,q⟩:=seq h;let ⟨_,r⟩:=rd q;(iJ false m I ra q r).2 h⟩
 | tup l=>
  refine ar rb.inv λad vs z7 hb hr=>?_;obtain rfl:=z7;have rd:∀ {xs},bO G.σ l=some xs->∃ as,Reads s.heap (.ref ad) (.tuple xs) as:=λq=>by obtain⟨as,ra⟩:=cv I l hr q;refine ar hb λo n ho hc hd=>?_;exact⟨_,.tuple (I.stays _ _ ho) hc hd ra⟩
  exact⟨λh=>let ⟨_,q⟩:=seq h;let ⟨_,r⟩:=rd q;(iJ true m I ra q r).1 h,λh=>let ⟨_,q⟩:=seq h;let ⟨_,r⟩:=rd q;(iJ true m I ra q r).2 h⟩
 | idict l=>
  refine aH rb.inv λ_ _ z8 ns hb hr=>?_;obtain rfl:=z8;dsimp only[B4]
  induction a using D.casesOn <;> try exact⟨λh=>(h:False).elim,λh=>(h:False).elim⟩
  rename_i i;refine PU ra.inv λt zz1=>?_;obtain rfl:=zz1;have hm:=(hb.dict I.stays).mapOf;have e:=dD (gP hr i)
  constructor
  ·intro h;exact wpAny_in_of (uU i t) (by simpa using ns) hm (by rw[e];exact h _ _ G rfl (bV I _) rfl)
  ·intro h;exact wpAny_notIn_of (uU i t) (by simpa using ns) hm (by rw[e];exact h _ _ G rfl (bV I _) rfl)
 | ref j=>
  refine am rb.inv λ_ z9 ha=>?_;rw[z9];dsimp only[B4]
  constructor
  ·intro h;refine am (bQ h) λc hc h=>?_;cases c <;> try exact(h:False).elim
   obtain⟨x,t,rfl,rfl⟩ : ∃ x t,a=.str x/\va=.str x t:=by
    cases a with
    | str x=>obtain⟨t,rfl⟩:=ra.inv;exact⟨_,_,rfl,rfl⟩
    | _=>exact(h:False).elim
   refine am (I.cell _ _ _ ha hc) λkvs hd hr=>?_;have e:=dD (bJ hr x);exact wpAny_in_of (jB x t) (by simpa using I.sys _ (List.mem_of_getElem? ha)) hd.mapOf (by rw[e];exact h _ _ G rfl (bV I _) rfl)
  ·intro h;refine am (bQ h) λc hc h=>?_;cases c <;> try exact(h:False).elim
   obtain⟨x,t,rfl,rfl⟩ : ∃ x t,a=.str x/\va=.str x t:=by
    cases a with
    | str x=>obtain⟨t,rfl⟩:=ra.inv;exact⟨_,_,rfl,rfl⟩
    | _=>exact(h:False).elim
   refine am (I.cell _ _ _ ha hc) λkvs hd hr=>?_;have e:=dD (bJ hr x);exact wpAny_notIn_of (jB x t) (by simpa using I.sys _ (List.mem_of_getElem? ha)) hd.mapOf (by rw[e];exact h _ _ G rfl (bV I _) rfl)
 | _=>exact⟨λh=>(h:False).elim,λh=>(h:False).elim⟩
theorem D3{a b:D}{va vb:Value}{Q:Value->Shared->Prop}(m:Rm A)(I:Inv w Gm G s.heap)(ra:Rep w G.B G.ρ va a)(rb:Rep w G.B G.ρ vb b) :
  (Ok w Gm xt iG Id Lf G s (sj a b G.σ) (λb s'=>Q (.bool b) s') E->wpAny (model pw w) A (compareOp .Eq va vb) Q E s) ∧
  (Ok w Gm xt iG Id Lf G s (sj a b G.σ) (λb s'=>Q (.bool !b) s') E->wpAny (model pw w) A (compareOp .NotEq va vb) Q E s):=by
 have key:∀ {Q':Bool->Shared->Prop},Ok w Gm xt iG Id Lf G s (sj a b G.σ) Q' E->∃ x y as bs,Reads s.heap va x as/\Reads s.heap vb y bs/\SeqAt.shaped x=true/\SeqAt.shaped y=true/\Q' (PyData.eqv x y) s:=by
  intro Q' h;unfold sj at h
  induction q:fE G.σ (fI G.σ a) with
  | none=>replace h:=q ▸ h;exact(h:False).elim
  | some x=>
   induction q2:fE G.σ (fI G.σ b) with
   | none=>rw[q]at h;replace h:=q2 ▸ h;exact(h:False).elim
   | some y=>
    rw[q]at h;replace h:=q2 ▸ h;dsimp only at h
    split at h
    ·rename_i hc;simp only[Bool.and_eq_true]at hc;refine PU (mO I a ra q) λas r1=>?_;obtain⟨bs,r2⟩:=mO I b rb q2;exact⟨x,y,as,bs,r1,r2,hc.1,hc.2,h _ _ G rfl (.refl I) rfl⟩
    ·exact(h:False).elim
 have hu:A.units+64<cLine:=by have:=m.u;lia
 constructor
 ·intro h;refine bq (key h) λx y as bs z10=>?_;refine bp z10 λr1 r2 r3 r4 r5=>?_;exact SeqAt.compareEq_shaped r1 r2 r3 r4 hu r5
 ·intro h;refine bq (key h) λx y as bs z11=>?_;refine bp z11 λr1 r2 r3 r4 r5=>?_;exact SeqAt.compareNe_shaped r1 r2 r3 r4 hu r5
end
end
section
variable{w:World}{Gm:Heap}{xt:Bool}
section
variable{A:Around}{E:Value->Shared->Prop}{s:Shared}{G:Gh}{Id:List Addr}{Lf:Addr}
theorem Ok.ifS{α β:Type}{P:Gh->β->α->Prop}{Q:β->Shared->Prop}{c:Bool}{m:M α}(h:Ok w Gm xt P Id Lf G s ((if c=true then m else stuck) G.σ) Q E):c=true/\Ok w Gm xt P Id Lf G s (m G.σ) Q E:=Ok.ite h
theorem Ok.notB{m:M Bool}{Q:Bool->Shared->Prop}(h:Ok w Gm xt iG Id Lf G s (bnd m (λr=>ret !r) G.σ) Q E):Ok w Gm xt iG Id Lf G s (m G.σ) (λb s'=>Q (!b) s') E:=by
 unfold bnd at h
 induction q:m G.σ with
 | ok b σ'=>replace h:=(q) ▸ h;intro v s' G' e x p;exact p ▸ (h _ s' G' e x rfl)
 | exc σ'=>replace h:=(q) ▸ h;exact h
 | stuck=>replace h:=(q) ▸ h;exact(h:False).elim
theorem An(x y:Str):(x==y)=decide (x=y):=by
 by_cases h:x=y
 ·subst h;simp
 ·simp only[decide_eq_false h];exact beq_eq_false_iff_ne.mpr h
theorem Ao(x:Int)(b:D):(∃ y,b=.int y)\/zV (.int x) b=sj (.int x) b:=by
 induction b using D.casesOn with
 | int y=>exact .inl ⟨y,rfl⟩
 | _=>exact .inr rfl
theorem Ap(x:Str)(b:D):(∃ y,b=.str y)\/zV (.str x) b=sj (.str x) b:=by
 induction b using D.casesOn with
 | str y=>exact .inl ⟨y,rfl⟩
 | _=>exact .inr rfl
theorem xQ(x:Bool)(b:D):(∃ y,b=.bool y)\/zV (.bool x) b=sj (.bool x) b:=by
 induction b using D.casesOn with
 | bool y=>exact .inl ⟨y,rfl⟩
 | _=>exact .inr rfl
section
variable{a b:D}{va vb:Value}{Q:Value->Shared->Prop}
theorem B8{f:Bool->Bool}(I:Inv w Gm G s.heap)(ra:Rep w G.B G.ρ va a)(rb:Rep w G.B G.ρ vb b)(h:Ok w Gm xt iG Id Lf G s (EY a b f G.σ) (λb s'=>Q (.bool b) s') E):vb=.none/\Q (.bool (f (va==.none))) s:=by
 induction b using D.casesOn with
 | none=>obtain⟨hn,h⟩:=Ok.ite h;exact⟨rb.inv,by rw[v3 ra hn];exact Ok.now I h rfl⟩
 | _=>exact(h:False).elim
theorem jZ(m:Rm A)(I:Inv w Gm G s.heap)(ra:Rep w G.B G.ρ va a)(rb:Rep w G.B G.ρ vb b)(e:zV a b=sj a b) :
  (Ok w Gm xt iG Id Lf G s (zV a b G.σ) (λb s'=>Q (.bool b) s') E->wpAny (model pw w) A (compareOp .Eq va vb) Q E s) ∧
  (Ok w Gm xt iG Id Lf G s (zV a b G.σ) (λb s'=>Q (.bool !b) s') E->wpAny (model pw w) A (compareOp .NotEq va vb) Q E s):=by
 exact e ▸ (D3 m I ra rb)
theorem xR(m:Rm A)(I:Inv w Gm G s.heap)(ra:Rep w G.B G.ρ va a)(rb:Rep w G.B G.ρ vb b) :
  (Ok w Gm xt iG Id Lf G s (zV a b G.σ) (λb s'=>Q (.bool b) s') E->wpAny (model pw w) A (compareOp .Eq va vb) Q E s) ∧
  (Ok w Gm xt iG Id Lf G s (zV a b G.σ) (λb s'=>Q (.bool !b) s') E->wpAny (model pw w) A (compareOp .NotEq va vb) Q E s):=by
 induction a using D.casesOn with
 | int x=>
  rcases Ao x b with⟨y,rfl⟩ | e
  ·obtain⟨_,rfl⟩:=ra.inv;obtain⟨_,rfl⟩:=rb.inv;exact⟨λh=>eq_int (Ok.now I h rfl),λh=>ne_int (Ok.now I h rfl)⟩
  ·exact jZ m I ra rb e
 | str x=>
  rcases Ap x b with⟨y,rfl⟩ | e
  ·obtain⟨_,rfl⟩:=ra.inv;obtain⟨_,rfl⟩:=rb.inv;refine⟨λh=>eq_str (by exact Ok.now I h rfl),λh=>ne_str ?_⟩;have:=Ok.now I h rfl;rw[<-An]at this;exact this
  ·exact jZ m I ra rb e
 | bool x=>
  rcases xQ x b with⟨y,rfl⟩ | e
  ·obtain rfl:=ra.inv;obtain rfl:=rb.inv;have hu:=m.u;exact⟨λh=>SeqAt.compareEq_shaped (.bool _) (.bool _) (by rfl) (by rfl) (by lia) (Ok.now I h rfl),λh=>SeqAt.compareNe_shaped (.bool _) (.bool _) (by rfl) (by rfl) (by lia) (Ok.now I h rfl)⟩
  ·exact jZ m I ra rb e
 | _=>exact jZ m I ra rb rfl
theorem D4(I:Inv w Gm G s.heap)(ra:Rep w G.B G.ρ va a)(rb:Rep w G.B G.ρ vb b)(h:Ok w Gm xt iG Id Lf G s (Fu a b G.σ) (λb s'=>Q (.bool b) s') E):wpAny (model pw w) A (compareOp .Lt va vb) Q E s:=by
 induction a using D.casesOn with
 | int x=>obtain⟨_,rfl⟩:=ra.inv;refine aJ (Ok.asInt rb h) λ_ _ z1 h=>?_;obtain rfl:=z1;exact lt_int (Ok.now I h rfl)
 | str x=>obtain⟨_,rfl⟩:=ra.inv;refine aJ (Ok.asStr rb h) λ_ _ z2 h=>?_;obtain rfl:=z2;exact lt_str (Ok.now I h rfl)
 | _=>exact(h:False).elim
theorem D5(I:Inv w Gm G s.heap)(ra:Rep w G.B G.ρ va a)(rb:Rep w G.B G.ρ vb b)(h:Ok w Gm xt iG Id Lf G s (Fv a b G.σ) (λb s'=>Q (.bool b) s') E):wpAny (model pw w) A (compareOp .Gt va vb) Q E s:=by
 induction a using D.casesOn with
 | int x=>obtain⟨_,rfl⟩:=ra.inv;refine aJ (Ok.asInt rb h) λ_ _ z3 h=>?_;obtain rfl:=z3;exact gt_int (Ok.now I h rfl)
 | str x=>obtain⟨_,rfl⟩:=ra.inv;refine aJ (Ok.asStr rb h) λ_ _ z4 h=>?_;obtain rfl:=z4;exact PySem.P.gt_str (Ok.now I h rfl)
 | _=>exact(h:False).elim
theorem sI{op:CmpOp}(m:Rm A)(I:Inv w Gm G s.heap)(ra:Rep w G.B G.ρ va a)(rb:Rep w G.B G.ρ vb b)
  (h:Ok w Gm xt iG Id Lf G s (ae op a b G.σ) (λb s'=>Q (.bool b) s') E):wpAny (model pw w) A (compareOp op va vb) Q E s:=by
 induction op with
 | In=>exact(B7 m I ra rb).1 h
 | NotIn=>exact(B7 m I ra rb).2 (Ok.notB h)
 | Is=>obtain⟨rfl,q⟩:=B8 I ra rb h;exact is_none q
 | IsNot=>
  obtain⟨rfl,q⟩:=B8 I ra rb h
  by_cases e:va=Value.none
  ·rw[e];rw[e]at q;exact wpAny_isNot_self (by rfl) q
  ·rw[beq_eq_false_iff_ne.mpr e]at q;exact isnot_none_ne e q
 | Eq=>exact(xR m I ra rb).1 h
 | NotEq=>exact(xR m I ra rb).2 (Ok.notB h)
 | Lt=>exact D4 I ra rb h
 | LtE=>refine aJ (Ok.asInt ra h) λ_ _ z5 h=>?_;obtain rfl:=z5;refine aJ (Ok.asInt rb h) λ_ _ z6 h=>?_;obtain rfl:=z6;exact le_int (Ok.now I h rfl)
 | Gt=>exact D5 I ra rb h
 | GtE=>refine aJ (Ok.asInt ra h) λ_ _ z7 h=>?_;obtain rfl:=z7;refine aJ (Ok.asInt rb h) λ_ _ z8 h=>?_;obtain rfl:=z8;exact ge_int (Ok.now I h rfl)
end
end
end
section
variable{w:World}{Gm:Heap}{xt:Bool}
theorem RepL.get{B:Addr->Option Obj}{ρ:List Addr}:∀ {vs:List Value} {ds:List D},RepL w B ρ vs ds->∀ {j:Nat} {d:D},ds[j]?=some d->∃ v,vs[j]?=some v/\Rep w B ρ v d:=by
 intro vs ds r;show ∀ (j:Nat) (d:D),ds[j]?=some d->∃ v,vs[j]?=some v/\Rep w B ρ v d;refine RepL.ind ?_ ?_ r
 ·intro j d e;exact du e
 ·intro _ _ _ _ a b ih;intro j d e
  induction j using Nat.casesOn with
  | zero=>cases e;exact⟨_,rfl,a⟩
  | succ j=>rw[List.getElem?_cons_succ]at e ⊢;exact ih _ _ e
theorem ky{α:Type}{l:List α}{i:Int}{x:α}(h:so l i=some x):0<=i/\i<=1000000/\l[i.toNat]?=some x:=by
 unfold so at h
 split at h
 ·rename_i c;exact⟨c.1,c.2,h⟩
 ·exact nomatch h
theorem fV{i:Int}{n:Nat}(h0:0<=i)(h1:i.toNat<n):seqIndex? i n=some i.toNat:=by
 unfold seqIndex?;have e:¬ i<0:=by lia
 simp only[e,if_false];exact(PY (by simp;lia))
theorem sJ(lo hi:Option Int)(n:Nat):Builtin.Str.strSliceIndices lo hi 1 n=(List.range (hi.elim n (clipAt n) - lo.elim 0 (clipAt n))).map (lo.elim 0 (clipAt n) + ·):=by
 rw[<-sliceRange_one]
 induction lo <;> induction hi <;> simp[Builtin.Str.strSliceIndices,clipAt_cast]
section
variable{A:Around}{E:Value->Shared->Prop}{s:Shared}{G:Gh}{Id:List Addr}{Lf:Addr}
theorem ListAt.item{x:Addr}{vs:List Value}{l:List D}{i:Int}{t:Tok}{Q:Value->Shared->Prop}(I:Inv w Gm G s.heap)(hl:s.heap.IsList x vs.toArray)(hr:RepL w G.B G.ρ vs l)(h:Ok w Gm xt (rep w) Id Lf G s (ac (so l i) G.σ) Q E):ItemOn (model pw w) A E (.ref x) (.int i t) Q s:=by refine am (g6 h) λd e h=>?_;refine jb (ky e) λe0 e1 e2=>?_;refine am (hr.get e2) λv ev rv=>?_;exact⟨"list",_,F.slot_list_getitem.lookup,hl.typeIs,wpAny_getItem_list hl e0 (by lia) (by simpa using ev) (Ok.now I h rv)⟩
theorem DictAt.item{x:Addr}{kvs:List (Str×Value)}{l:List (Str×D)}{k:Str}{t:Tok}{Q:Value->Shared->Prop}(I:Inv w Gm G s.heap)(hd:s.heap.DictOf (sk w) x kvs)(hr:RepS w G.B G.ρ kvs l)(h:Ok w Gm xt (rep w) Id Lf G s (ac (aa l k) G.σ) Q E):ItemOn (model pw w) A E (.ref x) (.str k t) Q s:=by refine am (g6 h) λd e h=>?_;refine am ((bJ hr _).2 d e) λv ev rv=>?_;exact⟨"dict",_,F.slot_dict_getitem.lookup,hd.mapOf.typeIs,wpAny_getItem_of (jB _ _) hd.mapOf ev (h _ _ G rfl (bV I _) rv)⟩
theorem StrAt.item{x:Str}{i:Int}{t u:Tok}{Q:Value->Shared->Prop}(I:Inv w Gm G s.heap)(h:Ok w Gm xt (rep w) Id Lf G s (bnd (ac (so x.cps.toList i)) (λc=>ret (D.str ⟨#[c]⟩)) G.σ) Q E):ItemOn (model pw w) A E (.str x t) (.int i u) Q s:=by
 refine am (cj h) λc e h=>?_;refine jb (ky e) λe0 e1 e2=>?_;have lt:i.toNat<x.length:=by have:=(List.getElem?_eq_some_iff.mp e2).1;simpa[Str.length] using this
 have ec:Txt.charAt x i=some c:=by
  unfold Txt.charAt;rw[fV e0 lt]
  simpa using e2
 refine⟨"str",_,F.slot_str_getitem.lookup,rfl,SB.getItem (by unfold fitsSsize;simp;lia) (by exact congrArg _ ec) ?_⟩;have:Txt.item x i=⟨#[c]⟩:=by unfold Txt.item;rw[ec];rfl
 exact this ▸ (h.strV I _ _)
theorem Aq{a b:D}{va vb:Value}{Q:Value->Shared->Prop}(m:Rm A)(I:Inv w Gm G s.heap)(ra:Rep w G.B G.ρ va a)(rb:Rep w G.B G.ρ vb b)
  (h:Ok w Gm xt (rep w) Id Lf G s (subD a b G.σ) Q E):ItemOn (model pw w) A E va vb Q s:=by
 induction a using D.casesOn with
 | tup l=>refine ar ra.inv λ_ _ z1 hb hr=>?_;rw[z1];refine aJ (Ok.asInt rb h) λi _ z2 h=>?_;rw[z2];refine am (g6 h) λd e h=>?_;refine jb (ky e) λe0 e1 e2=>?_;refine am (hr.get e2) λv ev rv=>?_;have ht:=hb.tup I.stays;exact⟨"tuple",_,F.slot_tuple_getitem.lookup,ht.typeIs,getItem_tuple ht (by lia) (by lia) (fV e0 (by rw[List.size_toArray];exact(List.getElem?_eq_some_iff.mp ev).1)) (by simpa using ev) (Ok.now I h rv)⟩
 | list l=>refine ar ra.inv λ_ _ z3 hb hr=>?_;rw[z3];refine aJ (Ok.asInt rb h) λi _ z4 h=>?_;rw[z4];exact ListAt.item I (hb.list I.stays) hr h
 | str x=>obtain⟨_,y1⟩:=ra.inv;rw[y1];refine aJ (Ok.asInt rb h) λi _ z5 h=>?_;rw[z5];exact StrAt.item I h
 | sdict l=>refine aH ra.inv λ_ _ z6 ns hb hr=>?_;rw[z6];refine aJ (Ok.asStr rb h) λk _ z7 h=>?_;rw[z7];exact DictAt.item I (hb.dict I.stays) hr h
 | idict l=>refine aH ra.inv λ_ _ z8 ns hb hr=>?_;rw[z8];refine aJ (Ok.asInt rb h) λk _ z9 h=>?_;rw[z9];refine am (g6 h) λd e h=>?_;refine am ((gP hr _).2 d e) λv ev rv=>?_;have hd:=hb.dict I.stays;exact⟨"dict",_,F.slot_dict_getitem.lookup,hd.mapOf.typeIs,wpAny_getItem_of (uU _ _) hd.mapOf ev (h _ _ G rfl (bV I _) rv)⟩
 | ref i=>
  refine am ra.inv λ_ z10 ha=>?_;rw[z10];refine am (bQ h) λc hc h=>?_;have C:=I.cell _ _ _ ha hc
  induction c with
  | list l=>refine aJ C λvs n hl hr=>?_;refine aJ (Ok.asInt rb h) λj _ z11 h=>?_;exact z11 ▸ (ListAt.item I ⟨_,hl,rfl,n,rfl⟩ hr h)
  | sdict l=>refine am C λkvs hd hr=>?_;refine aJ (Ok.asStr rb h) λk _ z12 h=>?_;exact z12 ▸ (DictAt.item I hd hr h)
  | tdict=>exact(h:False).elim
 | _=>exact(h:False).elim
theorem Ar{lo hi:D}{n:Nat}(e:iu lo hi n≠none):∃ y,hi=.int y:=by
 induction hi using D.casesOn with
 | int y=>exact⟨y,rfl⟩
 | _=>exact absurd rfl e
theorem As{lo:D}{y:Int}{n:Nat}(e:iu lo (.int y) n≠none):lo=.none\/∃ x,lo=.int x:=by
 induction lo using D.casesOn with
 | none=>exact .inl rfl
 | int x=>exact .inr ⟨x,rfl⟩
 | _=>exact absurd rfl e
theorem kz{α:Type}{c:Prop}[Decidable c]{x y:α}(h:(if c then some x else none)=some y):c/\x=y:=by
 by_cases q:c
 ·replace h:=(PY q) ▸ h;exact⟨q,P7 h⟩
 ·replace h:=(PZ q) ▸ h;exact du h
theorem kA{lo hi:D}{vl vh:Value}{n a b:Nat}(rl:Rep w G.B G.ρ vl lo)(rh:Rep w G.B G.ρ vh hi)(e:iu lo hi n=some (a,b)) :
  ∃ (l u:Option (Int×Tok)),vl=partValue l/\vh=partValue u/\(l.map (·.1)).elim 0 (clipAt n)=a/\(u.map (·.1)).elim n (clipAt n)=b:=by
 have nat:∀ {i:Int},0<=i->clipAt n i=min i.toNat n:=λ{i} h=>by refine PU (Int.eq_ofNat_of_zero_le h) λk zz1=>?_;obtain rfl:=zz1;rw[clipAt_nat];rfl
 refine PU (Ar (e ▸ (nofun:some (a,b)≠none))) λy zz1=>?_;obtain rfl:=zz1;obtain⟨t',e'⟩:=rh.inv;rcases As (e ▸ (nofun:some (a,b)≠none)) with rfl | ⟨x,rfl⟩
 ·obtain⟨q,e⟩:=kz e;exact⟨none,some (y,t'),rl.inv,e',congrArg Prod.fst e,(nat q).trans (congrArg Prod.snd e)⟩
 ·refine PU rl.inv λt e1=>?_;obtain⟨⟨q1,q2⟩,e⟩:=kz e;exact⟨some (x,t),some (y,t'),e1,e',(nat q1).trans (congrArg Prod.fst e),(nat q2).trans (congrArg Prod.snd e)⟩
theorem RepL.drop{B:Addr->Option Obj}{ρ:List Addr}:∀ {vs:List Value} {ds:List D},RepL w B ρ vs ds->∀ n:Nat,RepL w B ρ (vs.drop n) (ds.drop n):=by
 intro vs ds r;refine RepL.ind ?_ ?_ r
 ·intro n;simp only[List.drop_nil,List.drop_nil];exact .nil
 ·intro _ _ _ _ a b ih;intro n
  induction n with
  | zero=>exact .cons a b
  | succ n=>exact ih n
theorem RepL.take{B:Addr->Option Obj}{ρ:List Addr}:∀ {vs:List Value} {ds:List D},RepL w B ρ vs ds->∀ n:Nat,RepL w B ρ (vs.take n) (ds.take n):=by
 intro vs ds r;refine RepL.ind ?_ ?_ r
 ·intro n;simp only[List.take_nil,List.take_nil];exact .nil
 ·intro _ _ _ _ a b ih;intro n
  induction n using Nat.casesOn with
  | zero=>exact .nil
  | succ n=>exact .cons a (ih n)
theorem RepL.cut{B:Addr->Option Obj}{ρ:List Addr}{vs:List Value}{ds:List D}(r:RepL w B ρ vs ds)(a b:Nat):RepL w B ρ (Mine.cut vs a b) (Mine.cut ds a b):=(r.drop a).take (b - a)
noncomputable def fW(vl vh:Value):Obj:={ cls:=.type "slice",data:=.fields #[vl,vh,.none] }
theorem gQ{l:List D}{lo hi:D}{x:Addr}{vs:List Value}{vl vh:Value}{Q:Value->Shared->Prop}(I:Inv w Gm G s.heap)(hl:s.heap.IsList x vs.toArray)(hr:RepL w G.B G.ρ vs l)(rl:Rep w G.B G.ρ vl lo)(rh:Rep w G.B G.ρ vh hi)
  (h:Ok w Gm xt (rep w) Id Lf G s ((if ao l.length then bnd (ac (iu lo hi l.length)) λ(a,b)=>ret (D.list (cut l a b)) else stuck) G.σ) Q E) :
  vs.toArray.size<=sizeLine/\∃ lo' hi',IsPart vl lo'/\IsPart vh hi'/\Q (.ref (s.heap.objs.size+1)) { s with heap:=(s.heap.push (fW vl vh)).push { cls:=.type "list",data:=.seq (slicePick vs.toArray lo' hi' none) } }:=by
 refine PV (λhn h=>?_) (Ok.ite h);refine am (cj h) λz13 e h=>?_;obtain⟨a,b⟩:=z13;have hn:=aW hn;have len:=hr.length;refine⟨by simp only[bB,List.size_toArray,len];lia, ?_⟩;refine aH (kA rl rh e) λpl pu z14 z15 e1 e2=>?_;obtain rfl:=z14;obtain rfl:=z15;have part:∀ p:Option (Int×Tok),IsPart (partValue p) (p.map (·.1)):=λp=>by
  induction p with
  | none=>exact .none
  | some q=>exact .int q.1 q.2
 refine⟨_,_,part pl,part pu, ?_⟩;have R:=bM (xt:=xt) (Id:=Id) I (fW (partValue pl) (partValue pu)) s.toks;have:=(h.shift R);refine(show Q (.ref (s.heap.push (fW (partValue pl) (partValue pu))).objs.size) _->_ from λq=>by rw[Heap.size_push]at q;exact q) ?_;refine this.frozen R.inv _ rfl _ λB hB e=>.list (vs:=cut vs a b) ⟨_,0,e,rfl, ?_⟩ ((hr.cut a b).mono hB ⟨[],by simp⟩);simp only[slicePick_plain];rw[show vs.toArray.size=l.length by exact List.size_toArray.trans len,e1,e2];rfl
theorem nP{x:Str}{t:Tok}{lo hi:D}{vl vh:Value}{Q:Value->Shared->Prop}(I:Inv w Gm G s.heap)(rl:Rep w G.B G.ρ vl lo)(rh:Rep w G.B G.ρ vh hi)
  (h:Ok w Gm xt (rep w) Id Lf G s (bu (.str x) lo hi G.σ) Q E) :
  ∃ l u,vl=partValue l/\vh=partValue u/\(sliceMade x t l u none).post Q { s with heap:=s.heap.push (fW vl vh) }:=by
 unfold bu at h;dsimp only at h;refine PV (λhn h=>?_) (Ok.ite h);refine am (cj h) λz16 e h=>?_;obtain⟨a,b⟩:=z16;refine aH (kA rl rh e) λpl pu z17 z18 e1 e2=>?_;rw[z17];rw[z18];refine⟨pl,pu,rfl,rfl, ?_⟩;have R:=bM (xt:=xt) (Id:=Id) I (fW (partValue pl) (partValue pu)) s.toks;have h':=(h.shift R);have pk:slicePicked x pl pu none=(List.range (b - a)).map (a + ·):=by show Builtin.Str.strSliceIndices _ _ 1 _=_;rw[sJ,e1,e2]
 have got:(List.filterMap (x.cps[·]?) ((List.range (b - a)).map (a + ·)))=cut x.cps.toList a b:=pick_run x.cps a (b - a);unfold sliceMade;rw[pk]
 split
 ·rename_i hc;have hl:((List.range (b - a)).map (a + ·)).length=x.length:=by simp only[Bool.and_eq_true]at hc;exact of_decide_eq_true hc.2
  simp only[List.length_map,List.length_range]at hl;have e3:cut x.cps.toList a b=x.cps.toList:=by
   have hb:b<=x.length:=by
    rw[<-e2]
    induction pu with
    | none=>exact Nat.le_refl _
    | some q=>exact Int.toNat_le.mpr (Int.max_le.mpr ⟨Int.natCast_nonneg _,Int.min_le_right _ _⟩)
   refine PW (Nat.eq_zero_or_pos x.length) (λz=>?_) λz=>?_
   ·have:x.cps.toList=[]:=List.length_eq_zero_iff.mp z;unfold cut;rw[this,List.drop_nil];exact List.take_nil
   ·have ha:a=0:=Nat.eq_zero_of_not_pos λq=>absurd (Nat.sub_lt (PR z (PQ (PT hl.symm) (Nat.sub_le b a))) q) (Nat.not_lt.mpr (PQ hb (PT hl.symm)));subst ha;unfold cut;rw[List.drop_zero,hl,List.take_of_length_le (by simp[Str.length])]
  rw[e3]at h';exact h' _ _ G rfl (.refl R.inv) (.str x t)
 ·rw[got];refine⟨?_,h'.strV R.inv s.toks (s.toks+1)⟩;have e5:(Str.mk (cut x.cps.toList a b).toArray).length<=x.length:=PQ (PT List.size_toArray) (PQ (List.length_take_le' _ _) (PQ (PT List.length_drop) (Nat.sub_le _ _)));exact PQ e5 (PQ (aW hn) (by rw[bB];decide))
end
end
section
variable{w:World}{Gm:Heap}{xt:Bool}
theorem RepL.set{B:Addr->Option Obj}{ρ:List Addr}{v:Value}{d:D}(r:Rep w B ρ v d):∀ {vs:List Value} {ds:List D},RepL w B ρ vs ds->∀ j:Nat,RepL w B ρ (vs.set j v) (ds.set j d):=by
 intro vs ds q;refine RepL.ind ?_ ?_ q
 ·intro j;exact .nil
 ·intro _ _ _ _ a b ih;intro j
  induction j with
  | zero=>exact .cons r b
  | succ j=>exact .cons a (ih j)
theorem RepS.length{B:Addr->Option Obj}{ρ:List Addr}:∀ {v:List (Str×Value)} {d:List (Str×D)},RepS w B ρ v d->v.length=d.length:=by
 intro v d r;refine RepS.ind ?_ ?_ r
 ·rfl
 ·intro _ _ _ _ _ _ _ ih;simp only[List.length_cons,List.length_cons,ih]
theorem RepT.length{B:Addr->Option Obj}{ρ:List Addr}:∀ {v:List (List Int×Addr×Value)} {d:List (List Int×D)},RepT w B ρ v d->v.length=d.length:=by
 intro v d r
 induction r with
 | nil=>rfl
 | cons _ _ _ _ ih=>simp only[List.length_cons,List.length_cons,ih]
theorem kC{h:Heap}{a:Addr}(x:h.DictOf (sk w) a []):h.DictOfH (tupleKind (ik w)) a []:=by
 refine eO x λo es ep z1=>?_;refine gX z1 λho hc hd hk hp hn=>?_;have:es.toList=[]:=by induction q:es.toList using List.casesOn with | nil=>rfl | cons e l=>rw[q]at hp;exact nomatch hp
 exact⟨o,es,ep,ho,hc,hd,by exact this,λx hx=>(nomatch hx),List.nodup_nil⟩
section
variable{A:Around}{E:Value->Shared->Prop}{s:Shared}{G:Gh}{Id:List Addr}{Lf:Addr}
theorem nQ{l:Addr}{items:Array Value}{n:Nat}{k:Int}{t:Tok}{v:Value}{Q:Unit->Shared->Prop}(ho:s.heap.get? l=some { cls:=.type "list",data:=.seq items n })(h0:0<=k)(hfit:k<2 ^ 63)(hn:k.toNat<items.size)
  (hQ:∀ h' n',h'.get? l=some { cls:=.type "list",data:=.seq (items.setIfInBounds k.toNat v) n' }->Heap.SameBut l s.heap h'->Q () { s with heap:=h' }):wpAny (model pw w) A (setItem (.ref l) (.int k t) v) Q E s:=by
 have hT:s.TypeIs (.ref l) "list":=⟨_,ho,rfl⟩;refine wpAny_holding (wpAny_bind (wpAny_sequenceKey hT (rfl) (wpAny_bind (wpAny_callSpecial?_slot (name:=Str.ofString "__setitem__") hT slot_list_setitem
  (wpAny_call_entry slot_list_setitem hT entry_list_setitem ?_ (args_list_setitem _ _ _))))))
 show wpAny _ _ (Builtin.List.listSubscript? (.int k t) >>= _) _ _ s;refine wpAny_bind (wpAny_listSubscript_int (fitsIndex_of h0 hfit) ?_);clear hfit;obtain⟨j,rfl⟩:=Int.eq_ofNat_of_zero_le h0;have hj:j<items.size:=hn;refine wpAny_bind (wpAny_bind (wpAny_seqItemAt ho rfl (wpAny_pure ?_)));rw[Array.getElem?_eq_getElem hj];refine wpAny_bind (wpAny_setSeqItemAt ho rfl ?_);have e:=Heap.get?_update_self (Obj.mapSeq (·.setIfInBounds j v)) ho rfl;exact wpAny_pure ⟨.none,rfl,wpAny_pure (hQ _ _ e (Heap.SameBut.update ..))⟩
theorem At{h:Heap}{a:Addr}{kvs:List (Str×Value)}(hd:h.DictOf (sk w) a kvs):(kvs.map (·.1)).Nodup:=let ⟨_,_,_,_,_,_,_,_,q⟩:=hd;q
theorem xS{h:Heap}{a:Addr}{xs:List (List Int×Addr×Value)}(hd:h.DictOfH (tupleKind (ik w)) a xs):(xs.map (·.1)).Nodup:=let ⟨_,_,_,_,_,_,_,_,q⟩:=hd;q
theorem CJ{a k d:D}{va vk v:Value}{Q:Unit->Shared->Prop}(m:Rm A)(I:Inv w Gm G s.heap)(ra:Rep w G.B G.ρ va a)(rk:Rep w G.B G.ρ vk k)(rv:Rep w G.B G.ρ v d)
  (h:Ok w Gm xt E5 Id Lf G s (cM a k d G.σ) Q E):wpAny (model pw w) A (setItem va vk v) Q E s:=by
 induction a using D.casesOn with
 | ref i=>
  refine am ra.inv λ_ z2 ha=>?_;rw[z2];refine am (bQ h) λc hc h=>?_;have C:=I.cell _ _ _ ha hc;have hu:A.in1.units<cLine:=by have:=m.u;show A.units+1<cLine;lia
  induction c with
  | list l=>refine aJ (Ok.asInt rk h) λj _ z3 h=>?_;subst z3;obtain⟨⟨h1,h2,h3⟩,h⟩:=Ok.ite h;have h3:=aW h3;refine aJ C λvs n hl hr=>?_;refine nQ hl h1 (by lia) (by simp only[List.size_toArray,hr.length];exact h2) λh' n' e sb=>?_;refine h () _ (G.turn _ (.list (l.set j.toNat d))) rfl (gl I _ ha sb λst=>⟨vs.set j.toNat v,n', ?_,hr.set rv _⟩) trivial;refine PX e ?_;congr 3;simp
  | sdict l=>
   refine am C λkvs hd hr=>?_
   induction k using D.casesOn with
   | str x=>obtain⟨_,y2⟩:=rk.inv;rw[y2];refine PV (λh3 h=>?_) (Ok.ite h);have h3:=aW h3;refine wpAny_setItem_pairs (jB _ _) hd (λh' hd' sb=>?_) (by simp only[bB,hr.length];lia);exact h () _ (G.turn _ (.sdict (fJ l x d))) rfl (gl I _ ha sb λst=>⟨_,hd',fT rv hr (At hd)⟩) trivial
   | tup t=>
    refine ar rk.inv λ_ _ z4 hb hl=>?_;rw[z4]
    induction l using List.casesOn with
    | cons=>exact(h:False).elim
    | nil=>refine am (cj h) λq hq h=>?_;cases hr;have hi:=iI hl hq;refine ar (id hb) λo n ho hcl hdt=>?_;refine wpAny_setItem_heap (knd:=tupleKind (ik w)) hu ⟨o,_,n,I.stays _ _ ho,hcl,hdt,hi⟩ (kC hd) (λh' hd' sb=>?_) (by exact Nat.zero_le _);exact h () _ (G.turn _ (.tdict [(q,d)])) rfl (gl I _ ha sb λst=>⟨_,hd',.cons hb hi rv .nil⟩) trivial
   | _=>exact(h:False).elim
  | tdict l=>refine iq (Ok.asTup rk h) λt _ _ z5 hb hl h=>?_;rw[z5];refine am (cj h) λq hq h=>?_;refine PV (λh3 h=>?_) (Ok.ite h);have h3:=aW h3;refine am C λxs hd hr=>?_;have hi:=iI hl hq;refine ar (id hb) λo n ho hcl hdt=>?_;refine wpAny_setItem_heap (knd:=tupleKind (ik w)) hu ⟨o,_,n,I.stays _ _ ho,hcl,hdt,hi⟩ hd (λh' hd' sb=>?_) (by simp only[bB,hr.length];lia);exact h () _ (G.turn _ (.tdict (gI l q d))) rfl (gl I _ ha sb λst=>⟨_,hd',pS hb hi rv hr (xS hd)⟩) trivial
 | _=>exact(h:False).elim
end
end
section
variable{w:World}{Gm:Heap}{xt:Bool}
noncomputable def clsTab:List (Str×Addr):=[(nm "Memory",98),(nm "Run",529),(nm "Limits",661)]
noncomputable def jC(K:Frag)(c:Str)(C:Addr):Bool:=
 nsIn K mainGlobals c==some (some (.ref C))&&plainGet K C c&&plainOver K C&&(clsIn K C).any (·.hasDict)&&findIn K (.ref C) "__setattr__" == some (some (.builtin "object.__setattr__"))&&(eP c).all λa=>findIn K (.ref C) a==some none
theorem jg(P:Params):(clsTab.all λx=>jC (KH P) x.1 x.2)=true:=by kernel_rfl
structure Cx(w:World)(Gm:Heap)(mg mb:Str->Option Value):Prop where
 K:(KH w.params).In Gm
 T:TopRead qv (looseW qv B3) mg mb Gm
theorem Inv.K{mg mb}{G:Gh}{h:Heap}(X:Cx w Gm mg mb)(I:Inv w Gm G h):(KH w.params).In h:=X.K.keeps λb o e=>I.stays _ _ (I.base _ _ e)
theorem Inv.T{mg mb}{G:Gh}{h:Heap}(X:Cx w Gm mg mb)(I:Inv w Gm G h):TopRead qv (looseW qv B3) mg mb h:=X.T.keeps λb o e=>I.stays _ _ (I.base _ _ e)
theorem sK{c:Str}{C:Addr}(h:jz w c C)(hi:(cA c).isSome=true):jC (KH w.params) c C=true:=by
 have F:=jg w.params;unfold clsTab at F;simp only[List.all_cons,List.all_nil,Bool.and_true,Bool.and_eq_true]at F;have key:∀ C',jC (KH w.params) c C'=true->C=C':=λC' e=>by unfold jC at e;simp only[Bool.and_eq_true,beq_iff_eq]at e;have e1:=e.1.1.1.1.1;unfold jz at h;replace e1:=(h) ▸ e1;cases e1;rfl
 unfold cA at hi
 by_cases h1:c=nm "Memory"
 ·cases h1;obtain rfl:=key _ F.1;exact F.1
 ·rw[PZ h1]at hi
  by_cases h2:c=nm "Run"
  ·cases h2;obtain rfl:=key _ F.2.1;exact F.2.1
  ·replace hi:=(PZ h2) ▸ hi
   by_cases h3:c=nm "Limits"
   ·subst h3;obtain rfl:=key _ F.2.2;exact F.2.2
   ·replace hi:=(PZ h3) ▸ hi;exact fD hi
theorem fX(x:Str)(v:Value):(sk w).is x v=v.isStr x:=by induction v <;> rfl
theorem pT{h:Heap}{a:Addr}{kvs:List (Str×Value)}(x:h.DictOf (sk w) a kvs):∃ o,h.get? a=some o/\∀ name,lookIn name o=some (valueAt kvs name):=by
 refine eO x λo es ep z1=>?_;refine gX z1 λho hc hd hk hp hn=>?_;refine⟨o,ho,λname=>?_⟩;unfold lookIn;rw[hd];dsimp only;have f:=hp.find name;have e:(λe:DictEntry=>e.key.isStr name)=λe=>(sk w).is name e.key:=funext λe=>(fX name e.key).symm;rw[e]
 induction q:es.toList.find? λe=>(sk w).is name e.key with
 | some en=>rw[q]at f;rw[<-f];rfl
 | none=>
  rw[q]at f;rw[<-f];dsimp only;rw[PZ];rfl;intro z;refine am (List.any_eq_true.mp z) λe he hr=>?_;refine am (hk e (by simpa using he)) λk h1 _=>?_;rw[fX]at h1;unfold DictEntry.refKey at hr
  induction hkey:e.key <;> rw[hkey]at h1 hr <;> first | (exact fD hr;done) | exact fD h1
section
variable{A:Around}{E:Value->Shared->Prop}{s:Shared}{G:Gh}{Id:List Addr}{Lf:Addr}{mg mb:Str->Option Value}
theorem nR(I:Inv w Gm G s.heap){x C dx:Addr}{i:Nat}{l:List (Str×D)}(hx:G.B x=some (instObj C dx))(hi:G.ρ[i]?=some dx)(hc:G.σ[i]?=some (.sdict l)) :
  ∃ kvs od,s.heap.DictOf (sk w) dx kvs/\RepS w G.B G.ρ kvs l/\s.heap.get? dx=some od/\(∀ name,lookIn name od=some (valueAt kvs name))/\W.InstAt s.heap x (instObj C dx) C (some od):=by
 refine am (I.cell _ _ _ hi hc) λkvs hd hr=>?_;refine am (pT hd) λod ho hl=>?_;exact⟨kvs,od,hd,hr,ho,hl,I.stays _ _ hx,rfl,rfl,ho⟩
theorem v4{v:Value}{d:D}(r:Rep w G.B G.ρ v d)(n:mL d=true):handedIn v=true:=by induction d using D.casesOn <;> first | exact absurd n Bool.false_ne_true | (obtain rfl:=r.inv;rfl) | (obtain⟨_,y1⟩:=r.inv;exact congrArg _ y1) | (obtain⟨_,y2,_⟩:=r.inv;exact congrArg _ y2) | (obtain⟨_,_,y3,_⟩:=r.inv;exact congrArg _ y3) | (obtain⟨_,_,_,y4,_⟩:=r.inv;exact congrArg _ y4) | (refine sr r.inv λ_ _ _ _ z2 _=>?_;exact congrArg _ z2)
theorem v5{a:D}{name:Str}{σ:St}(h:aB a name σ≠.stuck):∃ c i,a=.inst c i:=by induction a using D.casesOn <;> first | exact absurd rfl h | exact⟨_,_,rfl⟩
theorem nS{a d:D}{name:Str}{σ:St}(h:ef a name d σ≠.stuck):∃ c i,a=.inst c i:=by induction a using D.casesOn <;> first | exact absurd rfl h | exact⟨_,_,rfl⟩
theorem Au{a:D}{va:Value}{name:Str}{ex:Bool}{Q:Value->Shared->Prop}(X:Cx w Gm mg mb)(I:Inv w Gm G s.heap)(ra:Rep w G.B G.ρ va a)
  (h:Ok w Gm xt (rep w) Id Lf G s (aB a name G.σ) Q E):wpAny (model pw w) A (getAttr va name ex) Q E s:=by
 refine gD (v5 λq=>by rw[q]at h;exact h) λcc ii z=>?_;subst z;refine eO ra.inv λ_ _ _ z4=>?_;refine bp z4 λz3 hx hi hc hs=>?_;rw[z3];refine am (bQ h) λc hcl h=>?_
 induction c using Cell.casesOn <;> try exact(h:False).elim
 ·rename_i l;refine PV (λhn h=>?_) (Ok.ite h);refine am (cj h) λd hd h=>?_;refine PV (λhno h=>?_) (Ok.ite h);refine dM (nR I hx hi hcl) λkvs od hk hr ho hl IA=>?_;refine am ((bJ hr _).2 d hd) λv ev rv=>?_;have F:=sK hc hs;unfold jC at F;simp only[Bool.and_eq_true,beq_iff_eq,List.all_eq_true]at F;obtain⟨⟨⟨⟨⟨f1,f2⟩,f3⟩,f4⟩,f5⟩,f6⟩:=F;have f6:=f6 name (by simpa using hn);refine am (any_some f4) λcd hcd hdd=>?_;have gg:=(plainGet_of f2).1;refine get_value (I.K X) IA gg ?_ (v4 rv hno) (h _ _ G rfl (bV I _) rv);unfold findObj;rw[hcd,Option.bind_some,f6,Option.bind_some];rw[Option.bind_some];dsimp only[Option.bind_some];show(W.ownOf cd (some od) name).bind _=_;dsimp only[W.ownOf];rw[PY hdd];show(lookIn name od).bind _=_;rw[hl,ev];rfl
set_option tactic.hygienic true in
theorem v6{name:Str}{t:Tok}{v:Value}:∀ {es:List DictEntry} {kvs:List (Str×Value)},Pairs (sk w) es kvs->(kvs.map (·.1)).Nodup->(∀ e∈es,∃ k,(sk w).is k e.key=true/\e.hash=(sk w).hash k) →
  Pairs (sk w) (nsPutIn name.cps.size name.cps.toList (λx=>match x with | some e=>{ hash:=e.hash,key:=e.key,val:=v } | none=>{ hash:=PyData.keyHash w.params name,key:=.str name t,val:=v }) es).1 (stored kvs name v) ∧
  ∀ e∈(nsPutIn name.cps.size name.cps.toList (λx=>match x with | some e=>{ hash:=e.hash,key:=e.key,val:=v } | none=>{ hash:=PyData.keyHash w.params name,key:=.str name t,val:=v }) es).1,∃ k,(sk w).is k e.key=true/\e.hash=(sk w).hash k:=by
 intro es kvs p
 induction p with
 | nil=>
  intro _ _;refine⟨.cons (jB name t) rfl .nil,λe he=>?_⟩;obtain rfl:e=_:=by simpa[nsPutIn] using he
  exact⟨name,jB name t,rfl⟩
 | cons h1 h2 h3 ih=>
  rename_i e kv es kvs;obtain⟨y,u⟩:=kv;intro n hk;simp only[List.map_cons,List.nodup_cons]at n;have ih:=ih n.2 λe he=>hk e (.tail _ he);rw[dP _ _ _ _ _ n.1];dsimp only[nsPutIn];rw[Value.isStrByCps_eq]
  by_cases q:y=name
  ·rw[<-q];rw[PY (by rw[<-fX (w:=w)];exact h1),PY rfl];refine⟨.cons h1 rfl h3,λe' he=>?_⟩;rcases P9 he with rfl | he
   ·exact hk e (.head _)
   ·exact hk e' (.tail _ he)
  ·rw[PZ (by rw[<-fX (w:=w)];intro z;exact q ((sk w).inj _ _ _ h1 z)),PZ q];refine⟨.cons h1 h2 ih.1,λe' he=>?_⟩;rcases P9 he with rfl | he
   ·exact hk e' (.head _)
   ·exact ih.2 e' he
theorem dn{K:Type}[DecidableEq K](x:K)(v:Value):∀ (kvs:List (K×Value)),(kvs.map (·.1)).Nodup->((stored kvs x v).map (·.1)).Nodup
 | [],_=>by simp[stored]
 | (y,u)::kvs,n=>by
  simp only[List.map_cons,List.nodup_cons]at n;rw[dP _ _ _ _ _ n.1];have ih:=dn x v kvs n.2
  split
  ·simp only[List.map_cons,List.nodup_cons];exact n
  ·rename_i hne;simp only[List.map_cons,List.nodup_cons];refine⟨λz=>?_,ih⟩;have:∀ p∈stored kvs x v,p.1=x\/p.1∈kvs.map (·.1):=λp hp=>by
    unfold stored at hp
    split at hp
    ·refine am (List.mem_map.mp hp) λq hq z5=>?_;rw[<-z5]
     right
     refine List.mem_map.mpr ⟨q,hq, ?_⟩
     split <;> rfl
    ·refine PW (List.mem_append.mp hp) (λhp=>?_) λhp=>?_
     ·exact .inr (List.mem_map.mpr ⟨p,hp,rfl⟩)
     ·left;simp at hp;rw[hp]
   refine am (List.mem_map.mp z) λp hp e=>?_;refine PW (this p hp) (λq=>?_) λq=>?_
   ·exact hne (e ▸ q)
   ·exact n.1 (e ▸ q)
theorem Pairs.len{K:Type}[DecidableEq K]{knd:KeyKind pw w K}:∀ {es:List DictEntry} {kvs:List (K×Value)},Pairs knd es kvs->es.length=kvs.length:=by
 intro es kvs p
 induction p with
 | nil=>rfl
 | cons _ _ _ ih=>simp only[List.length_cons,List.length_cons,ih]
theorem sL{K:Type}[DecidableEq K](kvs:List (K×Value))(x:K)(v:Value):(stored kvs x v).length<=kvs.length+1:=by
 unfold stored
 split
 ·rw[List.length_map];lia
 ·rw[List.length_append];simp
theorem sM(name:Str)(hsh:Int)(key v:Value)(es:Array DictEntry)(ep:Nat):∃ ep',Obj.putName name hsh key v ⟨.type "dict",none,.dict es ep,#[]⟩ =
  ⟨.type "dict",none,.dict (nsPutIn name.cps.size name.cps.toList (λx=>match x with | some e=>{ hash:=e.hash,key:=e.key,val:=v } | none=>{ hash:=hsh,key:=key,val:=v }) es.toList).1.toArray ep',#[]⟩:=by
 unfold Obj.putName;dsimp only
 split
 ·rename_i q;exact⟨ep,congrArg (λl=>(⟨.type "dict",none,.dict (List.toArray l) ep,#[]⟩ : Obj)) (congrArg Prod.fst q).symm⟩
 ·rename_i q;exact⟨ep+1,congrArg (λl=>(⟨.type "dict",none,.dict (List.toArray l) (ep+1),#[]⟩ : Obj)) (congrArg Prod.fst q).symm⟩
theorem sN{a d:D}{va v:Value}{name:Str}{Q:Unit->Shared->Prop}(X:Cx w Gm mg mb)(I:Inv w Gm G s.heap)(ra:Rep w G.B G.ρ va a)(rv:Rep w G.B G.ρ v d)
  (h:Ok w Gm xt E5 Id Lf G s (ef a name d G.σ) Q E):wpAny (model pw w) A (setAttr va name v) Q E s:=by
 refine gD (nS λq=>by rw[q]at h;exact h) λcc ii z=>?_;subst z;refine eO ra.inv λ_ _ _ z7=>?_;refine bp z7 λz6 hx hi hc hs=>?_;rw[z6];refine am (bQ h) λc hcl h=>?_
 induction c using Cell.casesOn <;> try exact(h:False).elim
 ·rename_i l;refine PV (λhn h=>?_) (Ok.ite h);refine PV (λhn hlen=>?_) (P8 hn);have hlen:=aW hlen;refine dM (nR I hx hi hcl) λkvs od hk hr ho hl IA=>?_;have F:=sK hc hs;unfold jC at F;simp only[Bool.and_eq_true,beq_iff_eq,List.all_eq_true]at F;obtain⟨⟨⟨⟨⟨f1,f2⟩,f3⟩,f4⟩,f5⟩,f6⟩:=F;have f6:=f6 name (by simpa using hn);refine am (any_some f4) λcd hcd hdd=>?_;refine W.set_plain (I.K X) IA f5 (osa_open (s:={ s with toks:=s.toks+1 }) (I.K X) IA f3 (r:=none) ?_ λb=>?_)
  ·unfold takerIn;rw[f6];rfl
  ·have hxo:=IA.at_;refine eO hk λo es ep z8=>?_;refine gX z8 λho' hc' hd' hk' hp' hn'=>?_;obtain rfl:o=od:=P7 (ho'.symm.trans ho);obtain⟨oc,odd,oda,osl⟩:=o;refine jb hc' λc1 c2 c3=>?_;dsimp only at c1 c2 c3 hd';subst c1 c2 c3 hd';refine wpAny_bind (wpAny_pure (wpAny_bind (wpAny_bind (wpAny_loadPart hxo (wpAny_bind (looks_clsIn (I.K X) hcd _ _ _ _ (λ_ _ e=>e) ?_))))));rw[hdd];refine wpAny_pure (a:=some _) (wpAny_bind (wpAny_pure (wpAny_bind ?_)));refine wpAny_bind (wpAny_bind (wpAny_askSetting (wpAny_pure (wpAny_bind (wpAny_mkText (wpAny_bind (wpAny_loadPart ho ?_)))))));dsimp only;have nr:(!es.any (·.key.isStr name)&&es.any (·.refKey))=false:=by
    have:es.any (·.refKey)=false:=by rw[Bool.eq_false_iff];intro z;rw[<-Array.any_toList]at z;refine am (List.any_eq_true.mp z) λe he hre=>?_;refine am (hk' e (by simpa using he)) λk h1 _=>?_;rw[fX]at h1;unfold DictEntry.refKey at hre;cases hkey:e.key <;> rw[hkey]at h1 hre <;> first | (exact fD hre;done) | exact fD h1
    simp only[this,Bool.and_false]
   rw[aRefKeyMayBeTheName_at,nr];refine wpAny_updatePart ho ?_;have P:=λt=>v6 (name:=name) (t:=t) (v:=v) hp' hn' λe he=>hk' e (by simpa using he);generalize hf:Obj.putName name _ _ v=f;obtain⟨es',ep',hfo,P1,P2⟩ : ∃ es' ep',f ⟨.type "dict",none,.dict es ep,#[]⟩=⟨.type "dict",none,.dict (List.toArray es') ep',#[]⟩/\Pairs (sk w) es' (stored kvs name v)/\∀ e∈es',∃ k,(sk w).is k e.key=true/\e.hash=(sk w).hash k:=by rw[<-hf];refine PU (sM name (PyData.keyHash w.params name) (.str name (s.toks+1)) v es ep) λep' e=>?_;exact⟨_,ep',e,P _⟩
   have e1:=Heap.get?_update_self f ho (by exact congrArg _ hfo);rw[hfo]at e1;have len':es'.length<=1000001:=by rw[Pairs.len P1];have:=sL kvs name v;have:=hr.length;lia
   refine wpAny_bind (wpAny_lookBehind e1 (pastItsLine_dict (by simp only[List.size_toArray,bB];lia)) ?_);refine wpAny_pure ?_;refine h () _ (G.turn _ (.sdict (fJ _ name d))) rfl (gl I _ hi (Heap.SameBut.update ..) λst=>⟨stored kvs name v,⟨_,_,_,e1,⟨rfl,rfl,rfl⟩,rfl,λe he=>P2 e (by simpa using he),P1,dn _ _ _ hn'⟩,fT rv hr hn'⟩) trivial
end
end
section
variable{w:World}{Gm:Heap}{xt:Bool}
noncomputable def pU(v:Value):Int:=match v with | .bool b=>b2i b | _=>0
theorem Av{prog:Program}{A:Around}(vs:Array Value)(hn:∀ v∈vs,∃ b,v=.bool b) :
  CmpOf prog w A .Gt (λi v=>vs[i]?=some v) (λi j=>decide (pU (vs.getD i .none) > pU (vs.getD j .none))):=λi j vi vj s Q E hi hj h=>by
 have e1:vs.getD i .none=vi:=by simp[Array.getD_eq_getD_getElem?,hi]
 have e2:vs.getD j .none=vj:=by simp[Array.getD_eq_getD_getElem?,hj]
 simp only[e1,e2]at h;obtain⟨a,rfl⟩:=hn _ (Array.mem_of_getElem? hi);obtain⟨b,rfl⟩:=hn _ (Array.mem_of_getElem? hj);exact richCompare_gives (op:=.Gt) (PySem.typeIs_bool s a) (PySem.typeIs_bool s b) F.slot_bool_gt F.entry_int_gt (F.args_int_gt_2 _ _) (gives_int_gt_bools a b) (by intro hq;injection hq) h
theorem Aw{prog:Program}{A:Around}(vs:Array Value)(hn:∀ v∈vs,∃ b,v=.bool b) :
  CmpOf prog w A .Lt (λi v=>vs[i]?=some v) (λi j=>decide (pU (vs.getD i .none)<pU (vs.getD j .none))):=λi j vi vj s Q E hi hj h=>by
 have e1:vs.getD i .none=vi:=by simp[Array.getD_eq_getD_getElem?,hi]
 have e2:vs.getD j .none=vj:=by simp[Array.getD_eq_getD_getElem?,hj]
 simp only[e1,e2]at h;obtain⟨a,rfl⟩:=hn _ (Array.mem_of_getElem? hi);obtain⟨b,rfl⟩:=hn _ (Array.mem_of_getElem? hj);exact richCompare_gives (op:=.Lt) (PySem.typeIs_bool s a) (PySem.typeIs_bool s b) F.slot_bool_lt F.entry_int_lt (F.args_int_lt_2 _ _) (gives_int_lt_bools a b) (by intro hq;injection hq) h
section
variable{prog:Program}{A:Around}{E:Value->Shared->Prop}{s:Shared}{Q:Value->Shared->Prop}
theorem pV{h':Heap}{a b:Value}{o2:Obj}(hk:∀ c o,c∉[((s.heap.push { cls:=.type "tuple",data:=.seq #[a,b] }).objs.size)]->((s.heap.push { cls:=.type "tuple",data:=.seq #[a,b] }).push o2).get? c=some o->h'.get? c=some o) :
  ∀ c o,s.heap.get? c=some o->h'.get? c=some o:=λc o e=>by
 refine hk c o (λhm=>?_) (Heap.get?_push_of_some _ (Heap.get?_push_of_some _ e));rcases P9 hm with e1 | hm
 ·have:=Heap.lt_size e;rw[e1,Heap.size_push]at this;exact Nat.lt_irrefl _ (Nat.lt_of_succ_lt this)
 ·cases hm
theorem xT(a b:Bool):#[Value.bool a,.bool b][argBest (λi j=>decide (pU (#[Value.bool a,.bool b].getD i .none) > pU (#[Value.bool a,.bool b].getD j .none))) (#[Value.bool a,.bool b].size - 1)]?=some (.bool (a||b)):=by induction a <;> induction b <;> rfl
theorem xU(a b:Bool):#[Value.bool a,.bool b][argBest (λi j=>decide (pU (#[Value.bool a,.bool b].getD i .none)<pU (#[Value.bool a,.bool b].getD j .none))) (#[Value.bool a,.bool b].size - 1)]?=some (.bool (a&&b)):=by induction a <;> induction b <;> rfl
theorem xV{h:Heap}{o1 o2:Obj}{c:Addr}(hc:c∈[(h.push o1).objs.size,h.objs.size]):c<((h.push o1).push o2).objs.size:=by rw[Heap.size_push];exact vO hc (λq=>q ▸ Nat.lt_succ_self _) λq=>Nat.lt_succ_of_lt (by simp only[Heap.size_push,q];exact Nat.lt_succ_self _)
theorem v7{a b:Bool}(hh:A.handled=none)(h:∀ h' tk,(∀ c o,s.heap.get? c=some o->h'.get? c=some o)->Q (.bool (a||b)) { s with heap:=h',toks:=tk }) :
  wpAny (model prog w) A (call (.builtin "max") [.bool a,.bool b]) Q E s:=by
 have hT:(s.heap.push { cls:=.type "tuple",data:=.seq #[.bool a,.bool b] }).IsTuple s.heap.objs.size #[.bool a,.bool b]:=⟨_,Heap.get?_push_size _ rfl,rfl,0,rfl⟩;refine call_max_two (wpAny_pyIter_tuple hT ?_);refine⟨_,[_,s.heap.objs.size],[_],_,_,_,_,rfl,Walks.tuple (A:=A.in1) hh _ s.heap.objs.size (by simp only[Heap.size_push];exact Nat.ne_of_lt (Nat.lt_succ_self _)) #[.bool a,.bool b],
  ⟨⟨_,Heap.get?_push_size _ rfl,rfl,rfl⟩,hT.push _⟩,λc hc=>?_,by simp,Av #[.bool a,.bool b] (by simp),λv h' tk hP hk=>?_⟩
 ·exact xV hc
 ·exact P7 ((xT a b).symm.trans hP) ▸ (h h' tk (pV hk))
theorem v8{a b:Bool}(hh:A.handled=none)(h:∀ h' tk,(∀ c o,s.heap.get? c=some o->h'.get? c=some o)->Q (.bool (a&&b)) { s with heap:=h',toks:=tk }) :
  wpAny (model prog w) A (call (.builtin "min") [.bool a,.bool b]) Q E s:=by
 have hT:(s.heap.push { cls:=.type "tuple",data:=.seq #[.bool a,.bool b] }).IsTuple s.heap.objs.size #[.bool a,.bool b]:=⟨_,Heap.get?_push_size _ rfl,rfl,0,rfl⟩;refine call_min_two (wpAny_pyIter_tuple hT ?_);refine⟨_,[_,s.heap.objs.size],[_],_,_,_,_,rfl,Walks.tuple (A:=A.in1) hh _ s.heap.objs.size (by rw[Heap.size_push];exact Nat.ne_of_lt (Nat.lt_succ_self _)) #[.bool a,.bool b],
  ⟨⟨_,Heap.get?_push_size _ rfl,rfl,rfl⟩,hT.push _⟩,λc hc=>?_,by simp,Aw #[.bool a,.bool b] (by simp),λv h' tk hP hk=>?_⟩
 ·exact xV hc
 ·exact P7 ((xU a b).symm.trans hP) ▸ (h h' tk (pV hk))
end
theorem j3:bootBuiltins (nm "len")=some (.builtin "len")/\bootBuiltins (nm "abs")=some (.builtin "abs")/\bootBuiltins (nm "min")=some (.builtin "min")/\bootBuiltins (nm "max")=some (.builtin "max") ∧
  bootBuiltins (nm "range")=some (.type "range")/\bootBuiltins (nm "divmod")=some (.builtin "divmod")/\bootBuiltins (nm "list")=some (.type "list")/\bootBuiltins (nm "tuple")=some (.type "tuple") ∧
  bootBuiltins (nm "isinstance")=some (.builtin "isinstance")/\bootBuiltins (nm "bool")=some (.type "bool"):=by
 refine⟨?_, ?_, ?_, ?_, ?_, ?_, ?_, ?_, ?_, ?_⟩ <;> kernel_rfl
section
variable{A:Around}{E:Value->Shared->Prop}{s:Shared}{G:Gh}{Id:List Addr}{Lf:Addr}
theorem CL{a:D}{v:Value}{Q:Value->Shared->Prop}(I:Inv w Gm G s.heap)(r:Rep w G.B G.ρ v a)(h:Ok w Gm xt (rep w) Id Lf G s (xA a G.σ) Q E):wpAny (model pw w) A (call (.builtin "len") [v]) Q E s:=by
 have small:∀ {n:Nat},n<=1000000->(n:Int)<2 ^ 63:=λ{n} hn=>by lia
 induction a using D.casesOn with
 | tup=>refine ar r.inv λ_ _ z1 hb hr=>?_;obtain rfl:=z1;obtain⟨hn,h⟩:=Ok.ite h;have hn:=aW hn;have e:=hr.length;refine PyProof.Rows.len_tuple (hb.tup I.stays) (by rw[List.size_toArray,e];exact small hn) ?_;rw[List.size_toArray,e];exact h.int I _ _
 | list=>refine ar r.inv λ_ _ z2 hb hr=>?_;obtain rfl:=z2;obtain⟨hn,h⟩:=Ok.ite h;have hn:=aW hn;have e:=hr.length;refine call_len_list (hb.list I.stays) (by rw[List.size_toArray,e];exact small hn) ?_;rw[List.size_toArray,e];exact h.int I _ _
 | str=>refine PU r.inv λ_ zz1=>?_;obtain rfl:=zz1;obtain⟨hn,h⟩:=Ok.ite h;have hn:=aW hn;exact len_str (by have:=small hn;lia) (h.int I _ _)
 | ref=>
  refine am r.inv λ_ z3 ha=>?_;obtain rfl:=z3;refine am (bQ h) λc hc h=>?_
  induction c <;> try exact(h:False).elim
  refine PV (λhn h=>?_) (Ok.ite h);have hn:=aW hn;refine aJ (I.cell _ _ _ ha hc) λvs n hl hr=>?_;have e:=hr.length;refine call_len_list ⟨_,hl,rfl,n,rfl⟩ (by simp only[List.size_toArray,e];exact small hn) ?_;simp only[List.size_toArray,e];exact h.int I _ _
 | _=>exact(h:False).elim
theorem nU(I:Inv w Gm G s.heap){h':Heap}(t:Nat){a:Addr}{o:Obj}(k:∀ b o',s.heap.get? b=some o'->h'.get? b=some o')(hn:s.heap.get? a=none)(ho:h'.get? a=some o)(hs:a≠sysModules) :
  Rn w Gm xt Id G s (G.add a o) { s with heap:=h',toks:=t }/\(G.add a o).B a=some o:=by
 have hnB:G.B a=none:=by
  induction q:G.B a with
  | none=>rfl
  | some o'=>have:=I.stays _ _ q;replace this:=(hn) ▸ this;injection this
 have sub:∀ b o',G.B b=some o'->(G.add a o).B b=some o':=λb o' e=>by show(if b=a then some o else G.B b)=some o';refine PX (PZ (λq=>by rw[q]at e;replace e:=hnB ▸ e;injection e)) ?_;exact e
 have st:∀ b o',(G.add a o).B b=some o'->h'.get? b=some o':=λb o' e=>by
  have e2:(if b=a then some o else G.B b)=some o':=e
  split at e2
  ·rename_i q;rw[q];simp only[<-e2];exact ho
  ·exact k _ _ (I.stays b o' e2)
 refine⟨⟨⟨_,_,rfl⟩,sub,λb o' e=>?_,⟨[],by simp[Gh.add],cP⟩,⟨st,λb o' e=>sub _ _ (I.base b o' e),I.len,λi c d h1 h2=>?_,λc hc=>?_,I.nodup,let ⟨o',e⟩:=I.glo;⟨o',sub _ _ e⟩,I.sys⟩,λb o' e _ _=>⟨o'.slots,k _ _ e,λ_=>rfl⟩,λb o' e=>⟨o',k _ _ e,id⟩⟩,PY rfl⟩
 ·have e:(if b=a then some o else G.B b)=some o':=e
  split at e
  ·rename_i q;rw[q];exact .inr hn
  ·exact .inl e
 ·have x:=I.cell i c d h1 h2;refine am x.obj λoa ha _=>?_;exact x.move sub ⟨[],by simp[Gh.add]⟩ ((k _ _ ha).trans ha.symm) st
 ·refine am (I.obj hc) λoa hoa _=>?_;show(if c=a then some o else G.B c)=none;refine PX (PZ (λq=>by rw[q]at hoa;replace hoa:=hn ▸ hoa;injection hoa)) ?_;exact I.apart c hc
theorem v9{a:D}{t:Str}{v tv:Value}{Q:Value->Shared->Prop}(I:Inv w Gm G s.heap)(r:Rep w G.B G.ρ v a)(rt:bootBuiltins t=some tv)
  (h:Ok w Gm xt (rep w) Id Lf G s ((if t=nm "tuple" then su a else if t=nm "bool" then nL a else stuck) G.σ) Q E):wpAny (model pw w) A (call (.builtin "isinstance") [v,tv]) Q E s:=by
 have cal:∀ {g},bootBuiltins t=some g->wpAny (model pw w) A (call (.builtin "isinstance") [v,g]) Q E s->wpAny (model pw w) A (call (.builtin "isinstance") [v,tv]) Q E s:=λe k=>P7 (e.symm.trans rt) ▸ k;refine PW (P_ (t=nm "tuple")) (λh1=>?_) λh1=>?_
 ·refine cal (h1 ▸ j3.2.2.2.2.2.2.2.1) ?_;replace h:=(PY h1) ▸ h
  induction a using D.casesOn with
  | tup l=>refine ar r.inv λ_ _ z4 hb hr=>?_;rw[z4];refine ar hb λo n ho hc hd=>?_;exact IsiPair.tuple_tuple (I.stays _ _ ho) hc (h.boolV I)
  | _=>exact(h:False).elim
 replace h:=(PZ h1) ▸ h
 by_cases h2:t=nm "bool"
 ·refine cal (h2 ▸ j3.2.2.2.2.2.2.2.2.2) ?_;replace h:=(PY h2) ▸ h;have h':∀ b tk,Ok w Gm xt (rep w) Id Lf G s (ret (D.bool b) G.σ) Q E->Q (.bool b) { s with toks:=tk }:=λb tk h=>h _ _ G rfl (bV I tk) (.bool b)
  induction a using D.casesOn with
  | none=>obtain rfl:=r.inv;exact IsiPair.NoneType_bool (h' _ _ h)
  | bool=>obtain rfl:=r.inv;exact IsiPair.bool_bool (h' _ _ h)
  | int=>obtain⟨_,y6⟩:=r.inv;rw[y6];exact IsiPair.int_bool (h' _ _ h)
  | str=>obtain⟨_,y7⟩:=r.inv;rw[y7];exact IsiPair.str_bool (h' _ _ h)
  | tup=>refine ar r.inv λ_ _ z5 hb hr=>?_;rw[z5];refine ar hb λo n ho hc hd=>?_;exact IsiPair.tuple_bool (I.stays _ _ ho) hc (h' _ _ h)
  | _=>exact(h:False).elim
 replace h:=(PZ h2) ▸ h;exact(h:False).elim
theorem B9{B:Addr->Option Obj}{ρ:List Addr}{vs:List Value}{a b:D}(r:RepL w B ρ vs [a,b]):∃ v u,vs=[v,u]/\Rep w B ρ v a/\Rep w B ρ u b:=by
 cases r with
 | cons h t=>refine am (uT t) λu z6 hu=>?_;exact z6 ▸ (⟨_,_,rfl,h,hu⟩)
theorem Rep.int'{B:Addr->Option Obj}{ρ:List Addr}{v:Value}{i:Int}(r:Rep w B ρ v (.int i)):∃ t,v=.int i t:=r.inv
theorem Rep.str'{B:Addr->Option Obj}{ρ:List Addr}{v:Value}{i:Str}(r:Rep w B ρ v (.str i)):∃ t,v=.str i t:=r.inv
section
variable{Q:Value->Shared->Prop}{as:List D}{vs:List Value}{σ:St}
theorem Ok.one{g:D->M D}(ra:RepL w G.B G.ρ vs as)(h:Ok w Gm xt (rep w) Id Lf G s (one as g σ) Q E) :
  ∃ a v,as=[a]/\vs=[v]/\Rep w G.B G.ρ v a/\Ok w Gm xt (rep w) Id Lf G s (g a σ) Q E:=by
 cases as with
 | nil=>exact(h:False).elim
 | cons a r=>
  induction r using List.casesOn with
  | nil=>refine am (uT ra) λv e r=>?_;exact⟨a,v,rfl,e,r,h⟩
  | cons=>exact(h:False).elim
theorem Ok.two{g:D->D->M D}(ra:RepL w G.B G.ρ vs as)(h:Ok w Gm xt (rep w) Id Lf G s (two as g σ) Q E) :
  ∃ a b v u,vs=[v,u]/\Rep w G.B G.ρ v a/\Rep w G.B G.ρ u b/\Ok w Gm xt (rep w) Id Lf G s (g a b σ) Q E:=by
 cases as with
 | nil=>exact(h:False).elim
 | cons a r=>
  cases r with
  | nil=>exact(h:False).elim
  | cons b r=>
   induction r using List.casesOn with
   | nil=>refine ar (B9 ra) λv u e r r'=>?_;exact⟨a,b,v,u,e,r,r',h⟩
   | cons=>exact(h:False).elim
theorem Ok.numB{a b:D}{v u:Value}{g:Int->Int->M D}{k:Bool->Bool->M D}(r:Rep w G.B G.ρ v a)(r':Rep w G.B G.ρ u b)(h:Ok w Gm xt (rep w) Id Lf G s (numB g k a b σ) Q E) :
  (∃ i t j t',v=.int i t/\u=.int j t'/\Ok w Gm xt (rep w) Id Lf G s (g i j σ) Q E)\/∃ x y,v=.bool x/\u=.bool y/\Ok w Gm xt (rep w) Id Lf G s (k x y σ) Q E:=by
 induction a using D.casesOn with
 | int i=>obtain⟨t,e⟩:=r.inv;refine aJ (Ok.asInt r' h) λj t' e' h=>?_;exact .inl ⟨i,t,j,t',e,e',h⟩
 | bool x=>refine am (Ok.asBool r' h) λy e' h=>?_;exact .inr ⟨x,y,r.inv,e',h⟩
 | _=>exact(h:False).elim
end
theorem Ax{a:D}{v:Value}{Q:Value->Shared->Prop}(I:Inv w Gm G s.heap)(r:Rep w G.B G.ρ v a)(h:Ok w Gm xt (rep w) Id Lf G s (B5 a G.σ) Q E):wpAny (model pw w) A (call (.type "list") [v]) Q E s:=by
 induction a using D.casesOn with
 | ref i=>
  refine am r.inv λ_ z7 ha=>?_;obtain rfl:=z7;refine am (bQ h) λc hc h=>?_
  induction c with
  | list l=>obtain⟨hn,h⟩:=Ok.ite h;have hn:=aW hn;refine aJ (I.cell _ _ _ ha hc) λus n hl hr=>?_;refine call_list_seq _ (.inl rfl) hl rfl rfl (λh' c' k e=>?_) (by simp only[List.size_toArray,hr.length,bB];lia);refine PV (λR eB=>?_) (nU (xt:=xt) (Id:=Id) I s.toks k (aD _) e I.fresh_sys);exact h _ _ (G.add _ _) rfl R (.list (vs:=us) ⟨_,c',eB,rfl,rfl⟩ (hr.mono R.B (let ⟨m,q,_⟩:=R.ρ;⟨m,q⟩)))
  | _=>exact(h:False).elim
 | _=>exact(h:False).elim
theorem xW{a:D}{v:Value}{Q:Value->Shared->Prop}(I:Inv w Gm G s.heap)(r:Rep w G.B G.ρ v a)(h:Ok w Gm xt (rep w) Id Lf G s (xB a G.σ) Q E):wpAny (model pw w) A (call (.type "tuple") [v]) Q E s:=by
 induction a using D.casesOn with
 | list l=>refine ar r.inv λ_ _ z8 hb hr=>?_;subst z8;refine PV (λhn h=>?_) (Ok.ite h);have hn:=aW hn;refine call_tuple_list (hb.list I.stays) (λh' k=>?_) (by simp only[List.size_toArray,hr.length,bB];lia);have R1:=dC (xt:=xt) (Id:=Id) I s.toks k;exact(h.shift R1).frozen R1.inv _ rfl _ λB hB e=>.tup ⟨_,0,e,rfl,rfl⟩ (hr.mono hB ⟨[],by simp⟩)
 | _=>exact(h:False).elim
theorem xX{as:List D}{vs:List Value}{Q:Value->Shared->Prop}(I:Inv w Gm G s.heap)(ra:RepL w G.B G.ρ vs as)(h:Ok w Gm xt (rep w) Id Lf G s (xC as G.σ) Q E):wpAny (model pw w) A (call (.type "range") vs) Q E s:=by
 cases as with
 | nil=>exact(h:False).elim
 | cons a r=>
  induction r using List.casesOn with
  | nil=>refine am (uT ra) λv e r=>?_;refine aJ (Ok.asInt r h) λi t e' h=>?_;rw[e,e'];refine PV (λ_ h=>?_) (Ok.ite h);exact call_range_1 (h.frozen I _ rfl _ λB hB e=>.range e rfl)
  | cons b r=>refine bq (Ok.two (g:=DY) (σ:=G.σ) ra h) λa b v u z9=>?_;refine cO z9 λe r1 r2 h=>?_;refine aJ (Ok.asInt r1 h) λi t e1 h=>?_;refine aJ (Ok.asInt r2 h) λj t' e2 h=>?_;rw[e,e1,e2];refine PV (λ_ h=>?_) (Ok.ite h);exact call_range_2 (h.frozen I _ rfl _ λB hB e=>.range e rfl)
theorem CM{a b:D}{v u:Value}{Q:Value->Shared->Prop}(I:Inv w Gm G s.heap)(r1:Rep w G.B G.ρ v a)(r2:Rep w G.B G.ρ u b)(h:Ok w Gm xt (rep w) Id Lf G s (DX a b G.σ) Q E):wpAny (model pw w) A (call (.builtin "isinstance") [v,u]) Q E s:=by
 induction b using D.casesOn with
 | blt t=>exact v9 I r1 r2.inv h
 | _=>exact(h:False).elim
theorem CN{x:Str}{as:List D}{f:Value}{vs:List Value}{Q:Value->Shared->Prop}(m:Rm A)(I:Inv w Gm G s.heap)(rx:bootBuiltins x=some f)(ra:RepL w G.B G.ρ vs as)
  (h:Ok w Gm xt (rep w) Id Lf G s (au x as G.σ) Q E):wpAny (model pw w) A (call f vs) Q E s:=by
 refine bp j3 λb1 b2 b3 b4 z10=>?_;refine gX z10 λb5 b6 b7 b8 b9 b10=>?_;have any:∀ {d:D} {v:Value} {h':Heap} {tk:Nat},(∀ c o,s.heap.get? c=some o->h'.get? c=some o)->Rep w G.B G.ρ v d->Ok w Gm xt (rep w) Id Lf G s (ret d G.σ) Q E->Q v { s with heap:=h',toks:=tk }:=
  λk r h=>h _ _ G rfl (dC I _ k) r
 have cal:∀ {y g us},x=y->bootBuiltins y=some g->vs=us->wpAny (model pw w) A (call g us) Q E s->wpAny (model pw w) A (call f vs) Q E s:=λe e' e2 k=>by rw[e2,P7 (rx.symm.trans (e ▸ e'))];exact k
 unfold au at h;refine PW (P_ (x=nm "len")) (λq=>?_) λq=>?_
 ·replace h:=(PY q) ▸ h;refine aH (Ok.one ra h) λa v _ e r h=>?_;exact cal q b1 e (CL I r h)
 replace h:=(PZ q) ▸ h;clear q
 by_cases q:x=nm "abs"
 ·replace h:=(PY q) ▸ h;refine aH (Ok.one ra h) λa v _ e r h=>?_;refine aJ (Ok.asInt r h) λi t e' h=>?_;rw[e']at e;refine cal q b2 e (call_abs_int λu tk=>?_);exact(show(if i<0 then -i else i)=((i.natAbs:Nat):Int) by split <;> lia) ▸ (h.int I _ _)
 replace h:=(PZ q) ▸ h;clear q
 by_cases q:x=nm "min"
 ·replace h:=(PY q) ▸ h;refine bq (Ok.two ra h) λa b v u z11=>?_;refine cO z11 λe r1 r2 h=>?_;rcases Ok.numB r1 r2 h with⟨i,t,j,t',e1,e2,h⟩ | ⟨y,z,e1,e2,h⟩
  ·rw[e1,e2]at e;refine cal q b3 e (min_two_ints m.h λh' tk k=>any k ?_ h)
   split <;> exact .int _ _
  ·rw[e1,e2]at e;exact cal q b3 e (v8 m.h λh' tk k=>any k (.bool _) h)
 rw[PZ q]at h;clear q;rcases P_ (x=nm "max") with q | q
 ·rw[PY q]at h;refine bq (Ok.two ra h) λa b v u z12=>?_;refine cO z12 λe r1 r2 h=>?_;rcases Ok.numB r1 r2 h with⟨i,t,j,t',e1,e2,h⟩ | ⟨y,z,e1,e2,h⟩
  ·rw[e1,e2]at e;refine cal q b4 e (max_two_ints m.h λh' tk k=>any k ?_ h)
   split <;> exact .int _ _
  ·rw[e1,e2]at e;exact cal q b4 e (v7 m.h λh' tk k=>any k (.bool _) h)
 replace h:=(PZ q) ▸ h;clear q;refine PW (P_ (x=nm "range")) (λq=>?_) λq=>?_
 ·replace h:=(PY q) ▸ h;exact cal q b5 rfl (xX I ra h)
 replace h:=(PZ q) ▸ h;clear q;rcases P_ (x=nm "divmod") with q | q
 ·rw[PY q]at h;refine bq (Ok.two ra h) λa b v u z13=>?_;refine cO z13 λe r1 r2 h=>?_;refine aJ (Ok.asInt r1 h) λi t e1 h=>?_;refine aJ (Ok.asInt r2 h) λj t' e2 h=>?_;rw[e1,e2]at e;obtain⟨⟨c1,c2,c3⟩,h⟩:=Ok.ite h;exact cal q b6 e (divmod_int c1 (h.frozen I _ rfl _ λB hB e=>.tup (vs:=[.int _ _,.int _ _]) ⟨_,0,e,rfl,rfl⟩ (.cons (.int _ _) (.cons (.int _ _) .nil))) (.inl (fQ c3)))
 replace h:=(PZ q) ▸ h;clear q
 by_cases q:x=nm "list"
 ·replace h:=(PY q) ▸ h;refine aH (Ok.one ra h) λa v _ e r h=>?_;exact cal q b7 e (Ax I r h)
 rw[PZ q]at h;clear q;rcases P_ (x=nm "tuple") with q | q
 ·rw[PY q]at h;refine aH (Ok.one ra h) λa v _ e r h=>?_;exact cal q b8 e (xW I r h)
 rw[PZ q]at h;clear q
 by_cases q:x=nm "isinstance"
 ·rw[PY q]at h;refine bq (Ok.two ra h) λa b v u z14=>?_;refine cO z14 λe r1 r2 h=>?_;exact cal q b9 e (CM I r1 r2 h)
 rw[PZ q]at h;exact(h:False).elim
theorem xY{B:Addr->Option Obj}{ρ:List Addr}:∀ {l:List D} {vs:List Value} {ys:List Str},RepL w B ρ vs l->iw l=some ys->StrsAre vs ys:=by
 intro l vs ys r
 revert ys
 show ∀ ys:List Str,iw l=some ys->StrsAre vs ys;refine RepL.ind ?_ ?_ r
 ·intro ys;intro e;cases e;exact .nil
 ·intro v d vs ds a b ih ys;intro e
  induction d using D.casesOn <;> try exact du e
  obtain⟨_,y8⟩:=a.inv;rw[y8];dsimp only[iw]at e
  induction k:iw ds with
  | none=>exact du (k ▸ e)
  | some q=>replace e:=(k) ▸ e;cases e;exact .cons _ _ (ih _ k)
end
end
section
variable{w:World}{Gm:Heap}{xt:Bool}
noncomputable def StkL(G:Gh)(h:Heap)(l:List Env):Prop:=∀ env∈l,env.scope.kind≠.module/\∃ L o,env.frame=some L/\h.get? L=some o/\aV o/\G.B L=none/\L∉G.ρ
noncomputable def sp(l:List Env):List Addr:=l.filterMap (·.frame)
theorem StkL.rn{G G':Gh}{s s':Shared}{Id:List Addr}{l:List Env}(S:StkL G s.heap l)(R:Rn w Gm false Id G s G' s'):StkL G' s'.heap l:=λenv he=>by
 refine pF (S env he) λhk L o hf z1=>?_;refine cO z1 λho hn hB hρ=>?_;refine am (R.there L o ho) λo' ho' hn'=>?_;refine⟨hk,L,o',hf,ho',hn' hn, ?_,λq=>?_⟩
 ·induction q:G'.B L with
  | none=>rfl
  | some o2=>
   refine PW (R.newB L o2 q) (λz=>?_) λz=>?_
   ·replace z:=(hB) ▸ z;injection z
   ·replace z:=(ho) ▸ z;injection z
 ·refine am R.ρ λmore e f=>?_;rw[e]at q;refine PW (List.mem_append.mp q) (λq=>?_) λq=>?_
  ·exact hρ q
  ·have:=f L q;replace this:=(ho) ▸ this;injection this
theorem StkL.mem{G:Gh}{h:Heap}{l:List Env}(S:StkL G h l){b:Addr}(hb:b∈sp l):∃ o,h.get? b=some o/\aV o/\G.B b=none/\b∉G.ρ:=by refine am (List.mem_filterMap.mp hb) λenv he hf=>?_;refine pF (S env he) λ_ L o hf' z2=>?_;refine cO z2 λho hn hB hρ=>?_;have:L=b:=P7 (hf'.symm.trans hf);subst this;exact⟨o,ho,hn,hB,hρ⟩
theorem StkL.fun{G:Gh}{h:Heap}(es:List Addr):∀ {l:List Env},StkL G h l->∀ l',(∀ b∈sp l,b∈l')->h.FunFrames (hideAll h l') l
 | [],_,_,_=>trivial
 | env::l,S,l',sub=>by refine pF (S env (.head _)) λhk L o hf z3=>?_;refine cO z3 λho hn _ _=>?_;have hm:L∈sp (env::l):=List.mem_filterMap.mpr ⟨env,.head _,hf⟩;refine⟨hk,⟨L,o,hf,hideAll_none _ (sub L hm),ho,hn⟩,StkL.fun es (λe he=>S e (.tail _ he)) l' λb hb=>sub b ?_⟩;refine am (List.mem_filterMap.mp hb) λe he q=>?_;exact List.mem_filterMap.mpr ⟨e,.tail _ he,q⟩
theorem kD(h:Heap)(l:List Addr):(hideAll h l).StaysIn h:=λb o e=>of_hideAll _ e
section
variable{G G':Gh}{s s':Shared}{Id:List Addr}{l:List Env}
theorem pW{es:List Addr}(R:Rn w Gm false Id G s G' s')(S:StkL G' s'.heap l)(hX:∀ b∈es,s.heap.get? b=none/\G'.B b=none/\∃ o vs,s'.heap.get? b=some o/\o.data=.fields vs)
  {h'':Heap} (k1:(hideAll s'.heap (sp l++es)).StaysIn h'') (k2:∀ b o,s'.heap.get? b=some o->(∀ vs,o.data≠.fields vs)->∃ sl,h''.get? b=some { o with slots:=sl }) :
  Rn w Gm false Id G s G' { s' with heap:=h'' }/\StkL G' h'' l/\∀ T oT ts,h''.get? T=some oT->oT.data=.fields ts->(hideAll s'.heap (sp l++es)).get? T=none->s.heap.get? T=none/\G'.B T=none:=by
 have ex:∀ b o,s'.heap.get? b=some o->b∉sp l->b∉es->h''.get? b=some o:=λb o e n1 n2=>k1 b o (hideAll_get _ e λq=>(List.mem_append.mp q).elim n1 n2);have st:∀ b o,G'.B b=some o->h''.get? b=some o:=λb o e=>ex b o (R.inv.stays b o e) (λq=>by refine dj (S.mem q) λ_ _ _ z _=>?_;replace z:=(e) ▸ z;cases z) (λq=>by have:=(hX b q).2.1;replace this:=(e) ▸ this;injection this);refine gD R.same λhh tk es'=>?_;refine⟨⟨⟨h'',tk,by rw[es']⟩,R.B,R.newB,R.ρ,⟨st,R.inv.base,R.inv.len,λi a c h1 h2=>?_,R.inv.apart,R.inv.nodup,R.inv.glo,R.inv.sys⟩,λb o e n1 n2=>?_,λb o e=>?_⟩,λenv he=>?_,λT oT ts hT hd hn=>?_⟩
 ·have x:=R.inv.cell i a c h1 h2;refine am x.obj λoa ha hna=>?_;have hm:a∈G'.ρ:=List.mem_of_getElem? h1;exact x.move (λ_ _ e=>e) ⟨[],by simp⟩ ((ex a oa ha (λq=>by refine dj (S.mem q) λ_ _ _ _ z=>?_;exact z hm) (λq=>by refine Cr (hX a q) λ_ _ o vs z zd=>?_;replace z:=(ha) ▸ z;cases z;exact hna vs zd)).trans ha.symm) st
 ·refine am (R.keep b o e n1 n2) λsl q qx=>?_;rcases P_ (b∈sp l) with hf | hf
  ·refine dj (S.mem hf) λo2 z zn _ _=>?_;replace z:=(q) ▸ z;cases z;obtain⟨sl',z⟩:=k2 b _ q zn;exact⟨sl',z,λz=>z.elim (λz=>(nomatch z)) λ⟨vs,z⟩=>absurd z (zn vs)⟩
  ·exact⟨sl,ex b _ q hf (λz=>by have:=(hX b z).1;replace this:=(e) ▸ this;injection this),qx⟩
 ·refine am (R.there b o e) λo' q qn=>?_;rcases P_ (b∈sp l) with hf | hf
  ·refine dj (S.mem hf) λo2 z zn _ _=>?_;replace z:=(Eq.symm (q)).trans z;cases z;obtain⟨sl',z⟩:=k2 b _ q zn;exact⟨_,z,λ_=>zn⟩
  ·exact⟨o',ex b _ q hf (λz=>by have:=(hX b z).1;replace this:=(e) ▸ this;cases this),qn⟩
 ·refine pF (S env he) λhk L o hf z4=>?_;refine cO z4 λho hn hB hρ=>?_;refine PU (k2 L o ho hn) λsl q=>?_;exact⟨hk,L,_,hf,q,hn,hB,hρ⟩
 ·have key:∀ o,s'.heap.get? T=some o->T∈es:=λo e=>by
   by_cases hf:T∈sp l
   ·refine dj (S.mem hf) λo2 z zn _ _=>?_;refine PU (k2 T _ z zn) λsl' z=>?_;replace z:=(hT) ▸ z;cases z;exact absurd hd (zn ts)
   ·by_cases he:T∈es
    ·exact he
    ·have:=hideAll_get (sp l++es) e λq=>(List.mem_append.mp q).elim hf he;replace this:=(hn) ▸ this;injection this
  constructor
  ·induction q:s.heap.get? T with
   | none=>rfl
   | some o=>refine am (R.there T o q) λo' z _=>?_;have:=(hX T (key _ z)).1;replace this:=(q) ▸ this;injection this
  ·induction q:G'.B T with
   | none=>rfl
   | some o=>have:=(hX T (key _ (R.inv.stays _ _ q))).2.1;replace this:=(q) ▸ this;injection this
noncomputable def mh(vs:Array Value):List Addr:=match vs[1]? with
 | some (Value.ref T)=>[T]
 | _=>[]
theorem uV{Lf:Addr}{x:Value}(X:ExcAt w s.heap G' s'.heap Lf x):∃ e oe vs C a0,x=.ref e/\s'.heap.get? e=some oe/\sG w C/\oe.cls=.ref C/\oe.data=.fields vs/\vs[0]?=some a0/\s.heap.get? e=none/\G'.B e=none ∧
  (vs[1]?=some .none\/∃ T oT ts,vs[1]?=some (.ref T)/\T≠e/\s'.heap.get? T=some oT/\oT.data=.fields ts/\(ts[3]?=some .none\/ts[3]?=some (rawInt Lf))) ∧
  ∀ b∈e::mh vs,s.heap.get? b=none/\G'.B b=none/\∃ o vs,s'.heap.get? b=some o/\o.data=.fields vs:=by
 refine eO X λe oe vs z5=>?_;refine gD z5 λC a0 z6=>?_;refine bp z6 λr1 r2 r3 r4 z7=>?_;refine bp z7 λr5 r6 r7 r8 r9=>?_;refine⟨e,oe,vs,C,a0,r1,r4,r5,r6,r7,r8,r2,r3, ?_,λb hb=>?_⟩
 ·rcases r9 with q | ⟨T,oT,ts,q1,q2,q3,q4,q5,q6,q7⟩
  ·exact .inl q
  ·exact .inr ⟨T,oT,ts,q1,q4,q5,q6,q7⟩
 ·rcases P9 hb with rfl | hb
  ·exact⟨r2,r3,oe,vs,r4,r7⟩
  ·unfold mh at hb;rcases r9 with q | ⟨T,oT,ts,q1,q2,q3,q4,q5,q6,q7⟩
   ·replace hb:=(q) ▸ hb;cases hb
   ·rw[q1]at hb;obtain rfl:b=T:=List.mem_singleton.mp hb;exact⟨q2,q3,oT,ts,q5,q6⟩
variable{M:Model}{A:Around}{E:Value->Shared->Prop}
theorem iK{env:Env}{outer:List Env}{L:Addr}{x:Value}(hfr:A.frames=some (env::outer))(hf:env.frame=some L)(R:Rn w Gm false Id G s G' s')(S:StkL G' s'.heap (env::outer))(X:ExcAt w s.heap G' s'.heap L x)
  {Q:Unit->Shared->Prop} (h:∀ s'',(∀ b o,s'.heap.get? b=some o->aV o->∃ sl,s''.heap.get? b=some { o with slots:=sl })->Rn w Gm false Id G s G' s''->StkL G' s''.heap (env::outer)->ExcAt w s.heap G' s''.heap L x->(∃ e oe vs T oT ts,x=.ref e/\s''.heap.get? e=some oe/\oe.data=.fields vs/\vs[1]?=some (.ref T)/\s''.heap.get? T=some oT/\oT.data=.fields ts/\ts[3]?=some (rawInt L))->Q () s''):wpAny M A (noteFrame x env) Q E s':=by
 refine eO (uV X) λe oe vs z9=>?_;refine gD z9 λC a0 z10=>?_;refine bp z10 λz8 he hC hcl z11=>?_;refine gX z11 λhd h0 hes heB hT hX=>?_;obtain rfl:=z8;have sub:∀ b∈sp (env::outer),b∈sp (env::outer)++e::mh vs:=λb hb=>List.mem_append_left _ hb;have FF:=StkL.fun [] S (sp (env::outer)++e::mh vs) sub;have hen:(hideAll s'.heap (sp (env::outer)++e::mh vs)).get? e=none:=hideAll_none _ (List.mem_append_right _ (.head _));have xr:∀ h'',Heap.NotedW (hideAll s'.heap (sp (env::outer)++e::mh vs)) (env::outer) e oe.cls a0 (rawInt L) s'.heap h''->Q () { s' with heap:=h'' }:=λh'' ⟨n1,n2,n3,n4⟩=>by refine jb (pW R S hX n1 n4) λR' S' nT=>?_;refine eO n3 λoe' vs' T z13=>?_;refine gD z13 λoT ts z14=>?_;refine bp z14 λt1 z12 t3 t4 z15=>?_;refine bp z15 λt5 t6 t7 t8 t9=>?_;obtain⟨t2,t2'⟩:=z12;refine PV (λu1 u2=>?_) (nT T oT ts t7 t8 t5);exact h _ n4 R' S' ⟨e,oe',vs',C,a0,rfl,hes,heB,t1,hC,t2.trans hcl,t3,t2',.inr ⟨T,oT,ts,t4,u1,u2,t6,t7,t8,.inr t9⟩⟩ ⟨e,oe',vs',T,oT,ts,rfl,t1,t3,t4,t7,t8,t9⟩
 rcases hT with h1 | ⟨T,oT,ts,h1,hTe,hT,hdT,h3⟩
 ·dsimp only[noteFrame];simp only[hf];refine wpAny_bind (wpAny_field he hd h1 ?_);rw[PZ (by decide)];exact wpAny_entryW hfr FF hf he (kD _ _) hen hd (Array.getElem?_eq_some_iff.mp h1).1 h0 xr
 ·have hTn:(hideAll s'.heap (sp (env::outer)++e::mh vs)).get? T=none:=hideAll_none _ (List.mem_append_right _ (.tail _ (by unfold mh;exact h1 ▸ (.head _))));rcases h3 with h3 | h3
  ·exact wpAny_noteFrame_onW hfr FF hf ⟨oe,vs,T,oT,ts,he,⟨rfl,h0⟩,hd,h1,hTn,hTe,hT,hdT,h3⟩ (kD _ _) hen xr
  ·exact wpAny_noteFrame_againW hf ⟨oe,vs,T,oT,ts,he,⟨rfl,h0⟩,hd,h1,hTn,hTe,hT,hdT,h3⟩ (h _ (λb o q _=>⟨o.slots,q⟩) R S X ⟨e,oe,vs,T,oT,ts,rfl,he,hd,h1,hT,hdT,h3⟩)
theorem eQ{L:Addr}{fr:Option Addr}{x:Value}(hL:fr=none\/fr=some L)(R:Rn w Gm false Id G s G' s')(S:StkL G' s'.heap l)(X:ExcAt w s.heap G' s'.heap L x)
  {Q:Unit->Shared->Prop} (h:∀ s'',(∀ b o,s'.heap.get? b=some o->aV o->∃ sl,s''.heap.get? b=some { o with slots:=sl })->Rn w Gm false Id G s G' s''->StkL G' s''.heap l->ExcAt w s.heap G' s''.heap L x->(fr=none->∀ L',ExcAt w s.heap G' s''.heap L' x)->Q () s''):wpAny M A (setFlight x fr) Q E s':=by
 refine eO (uV X) λe oe vs z17=>?_;refine gD z17 λC a0 z18=>?_;refine bp z18 λz16 he hC hcl z19=>?_;refine gX z19 λhd h0 hes heB hT hX=>?_;obtain rfl:=z16;rcases hT with h1 | ⟨T,oT,ts,h1,hTe,hT,hdT,h3⟩
 ·refine wpAny_bind (wpAny_field he hd h1 ?_);exact wpAny_pure (h _ (λb o q _=>⟨o.slots,q⟩) R S X λ_ L'=>⟨e,oe,vs,C,a0,rfl,hes,heB,he,hC,hcl,hd,h0,.inl h1⟩)
 ·refine wpAny_bind (wpAny_field he hd h1 ?_);rw[PY (show(Value.ref T !=Value.none)=true from rfl)];have hsz3:3<ts.size:=by rcases h3 with h3 | h3 <;> exact(Array.getElem?_eq_some_iff.mp h3).1
  refine wpAny_setField hT hdT hsz3 ?_;have mem:T∈e::mh vs:=.tail _ (by unfold mh;exact h1 ▸ (.head _));have other:∀ b,b≠T->(s'.heap.update T (Obj.mapFields (·.setIfInBounds 3 (fr.elim Value.none λf=>rawInt f)))).get? b=s'.heap.get? b:=λb hb=>Heap.get?_update_other _ _ (Ne.symm hb);refine jb (pW (h'':=s'.heap.update T (Obj.mapFields (·.setIfInBounds 3 (fr.elim Value.none λf=>rawInt f)))) R S hX
   (λb o hb=>(other b λq=>by rw[q]at hb;replace hb:=(hideAll_none _ (List.mem_append_right _ mem)) ▸ hb;injection hb).trans (of_hideAll _ hb))
   (λb o hb hn=>⟨o.slots,(other b λq=>by rw[q]at hb;replace hb:=hT ▸ hb;cases hb;exact hn ts hdT).trans hb⟩)) λR' S' nT=>?_
  have hT':=Heap.get?_update_self (Obj.mapFields (·.setIfInBounds 3 (fr.elim Value.none λf=>rawInt f))) hT (Obj.isFreed_of_fields (Obj.data_mapFields hdT _));refine jb (hX T mem) λu1 u2 _=>?_;have mk:∀ L',(fr=none\/fr=some L')->ExcAt w s.heap G' (s'.heap.update T (Obj.mapFields (·.setIfInBounds 3 (fr.elim Value.none λf=>rawInt f)))) L' (.ref e):=λL' hl=>
   ⟨e,oe,vs,C,a0,rfl,hes,heB,(other e (Ne.symm hTe)).trans he,hC,hcl,hd,h0,.inr ⟨T,_,_,h1,u1,u2,hTe,hT',Obj.data_mapFields hdT _,by
    rcases hl with rfl | rfl
    ·left;simp[hsz3]
    ·right;simp[hsz3]⟩⟩
  exact h _ (λb o hb hn=>⟨o.slots,(other b λq=>by rw[q]at hb;replace hb:=hT ▸ hb;cases hb;exact hn ts hdT).trans hb⟩) R' S' (mk L hL) λhn L'=>mk L' (.inl hn)
theorem v_{env:Env}{outer:List Env}{L:Addr}{x:Value}(hfr:A.frames=some (env::outer))(hf:env.frame=some L)(R:Rn w Gm false Id G s G' s')(S:StkL G' s'.heap (env::outer))(X:ExcAt w s.heap G' s'.heap L x)
  {Q:Unit->Shared->Prop} (h:∀ s'',(∀ b o,s'.heap.get? b=some o->aV o->∃ sl,s''.heap.get? b=some { o with slots:=sl })->Rn w Gm false Id G s G' s''->StkL G' s''.heap (env::outer)->(∀ L',ExcAt w s.heap G' s''.heap L' x)->Q () s''):wpAny M A (leaving env x) Q E s':=by
 exact wpAny_bind (iK hfr hf R S X λs'' k R' S' X' _=>eQ (.inl rfl) R' S' X' λs3 k3 R3 S3 _ X3=>h s3 (λb o q n=>by refine PU (k b o q n) λsl z=>?_;refine PU (k3 b _ z n) λsl' z'=>?_;exact⟨sl',z'⟩) R3 S3 (X3 rfl))
theorem eR{x:Value}{env env':Env}(h:env'.frame=env.frame):noteFrame x env'=noteFrame x env:=by delta noteFrame PySem.frameOf;rw[h]
end
end
section
variable{w:World}{Gm:Heap}
noncomputable def fnAddr:List (Str×Addr×Nat×Nat):=([("units_of",60,11,0),("Memory.__init__",74,14,1),("Memory.load",81,14,2),("Memory.store",88,14,3),("need_units",109,15,0),("read_cell",116,16,0),("load_number",123,17,0),("store_number",130,18,0),("load_text",137,19,0),("store_text",144,20,0),("pad",151,21,0),("unit_size",158,22,0),("element_place",165,23,0),("sub_place",172,24,0),("fit_int",179,26,0),("int_add",186,27,0),("int_sub",193,28,0),("int_mul",200,29,0),("cut_quotient",207,30,0),("int_div",214,31,0),("inverse_power",221,32,0),("int_power",228,33,0),("order_of",235,34,0),("holds",242,35,0),("int_binary",249,36,0),("logic_binary",256,37,0),("count_digits",264,42,0),("strip_zeros",271,43,0),("round_digits",278,44,0),("round_real",285,45,0),("exact_add",292,46,0),("exact_mul",299,47,0),("real_neg",306,48,0),("quotient",313,49,0),("real_add",320,50,0),("real_sub",327,51,0),("real_mul",334,52,0),("real_div",341,53,0),("real_compare",348,54,0),("real_of_int",355,55,0),("real_to_int",362,56,0),("digits_of",383,59,0),("real_binary",390,60,0),("complex_binary",470,74,0),("collate",477,76,0),("text_binary",484,77,0),("all_operations",491,78,0),("unary",498,79,0),("real_as",505,80,0),("convert",512,81,0),("Run.__init__",526,83,1),("evaluate",540,84,0),("named_place",547,85,0),("bound_of",554,86,0),("part_place",561,87,0),("place_of",566,88,0),("eval_const",573,89,0),("eval_place",580,90,0),("eval_conv",587,91,0),("eval_unary",594,92,0),("reckon",601,93,0),("eval_binary",608,94,0),("eval_compare",615,95,0),("eval_cat",622,96,0),("plain_expressions",629,97,0),("base_expressions",636,98,0),("char_expressions",643,99,0),("Limits.__init__",658,101,1),("_law_relations",672,103,0),("_law_places",679,104,0),("_law_take",686,105,0),("_law_number",693,106,0),("_law_real",700,107,0),("_law_text",705,108,0),("_law_const",712,109,0),("_law_leaf",717,110,0),("_law_index",724,111,0),("_law_tree",729,112,0),("_law_fit",736,113,0),("_law_fraction",743,114,0),("_law_whole",750,115,0),("_law_toward",757,116,0),("_law_power",764,117,0),("_law_two",771,118,0),("_law_order",778,119,0),("_law_held",785,120,0),("_law_subscripts",790,121,0),("_law_value",797,122,0),("_law_part",804,123,0),("_law_fill",809,124,0),("law",814,125,0)]:List (String×Nat×Nat×Nat)).map λx=>(nm x.1,x.2)
noncomputable def xZ(d:Data):Option FuncData:=if h:d.ctorIdx=7 then Data.func.elim d h some else none
noncomputable def kF(P:Params)(a:Addr):Option FuncData:=((KH P).lookup a).bind λo=>xZ o.data
theorem wa{d:Data}{fd:FuncData}(h:xZ d=some fd):d=.func fd:=by
 induction d using Data.casesOn with
 | func f=>exact congrArg _ (P7 h)
 | _=>exact du h
theorem kG{P:Params}{a:Addr}{fd:FuncData}(h:kF P a=some fd):∃ oc od sl,(KH P).lookup a=some ⟨oc,od,.func fd,sl⟩:=
 am (Option.bind_eq_some_iff.mp h) λo ho hd=>⟨o.cls,o.dict,o.slots,ho.trans (congrArg (λd=>some (Obj.mk o.cls o.dict d o.slots)) (wa hd))⟩
theorem sO:(fnAddr.map λe=>(e.1,e.2.2))=fnTab:=by kernel_rfl
theorem x7(P:Params):(fnAddr.map λe=>(kF P e.2.1).map λfd=>(fd.params,fd.body,fd.scope))=fnAddr.map λe=>some (((fG e.2.2.1 e.2.2.2).getD ir).1,FuncBody.stmts ((fG e.2.2.1 e.2.2.2).getD ir).2.1,((fG e.2.2.1 e.2.2.2).getD ir).2.2):=by kernel_rfl
noncomputable def sP(vs:List Value)(ds:List D):Bool:=match vs,ds with
 | [],[]=>true
 | .int i _::vs,.int j::ds=>i==j&&sP vs ds
 | _,_=>false
noncomputable def B_:Data->Option (List Value)
 | .seq vs _=>some vs.toList
 | _=>none
noncomputable def sQ(K:Frag)(dV:Value)(ds:List Expr):Bool:=match dV with
 | .none=>ds.isEmpty
 | .ref T=>(K.lookup T).any λo=>(B_ o.data).any λvs=>(kr ds).any (sP vs)
 | _=>false
theorem nV{α:Type}{o:Option α}{p:α->Bool}(h:o.any p=true):∃ x,o=some x/\p x=true:=by
 induction o with
 | none=>exact fD h
 | some x=>exact⟨x,rfl,h⟩
theorem Ay{d:Data}{vs:List Value}(h:B_ d=some vs):∃ a n,d=.seq a n/\a.toList=vs:=by
 induction d with
 | seq a n=>exact⟨a,n,rfl,P7 h⟩
 | _=>exact du h
noncomputable def mP(K:Frag)(q:Str)(fd:FuncData):Bool:=
 fd.globals==mainGlobals&&fd.closure.isEmpty&&fd.builtins==builtinsNs&&codeIn K fd.code fd.qualname&&!fd.scope.isCoroutine&&!fd.scope.isGenerator&&fd.scope.kind==.function &&
 sQ K fd.defaults fd.params.defaults&&fd.scope.names.all (λx=>x.2 !=.free)&&decide (((cellsFrom 0 fd.scope.names []).map (·.1)).Nodup) &&
 fd.params.args.all λa=>fd.scope.names.lookup a.arg==some .local||(fd.scope.names.lookup a.arg==some .cell&&((cellsFrom 0 fd.scope.names []).map (·.1)).contains a.arg)
theorem CO(P:Params):(fnAddr.all λe=>(kF P e.2.1).any (mP (KH P) e.1))=true:=by kernel_rfl
theorem sR(P:Params):(fnAddr.all λe=>(if e.2.2.2==0 then nsIn (KH P) mainGlobals e.1==some (some (.ref e.2.1)) else nsIn (KH P) mainGlobals e.1==some none)&&keepIn (KH P) (.ref e.2.1))=true:=by kernel_rfl
theorem x8(P:Params):(clsTab.all λe=>keepIn (KH P) (.ref e.2)&&!(fnAddr.lookup e.1).isSome)=true:=by kernel_rfl
noncomputable def methTab:List (Str×Str×Str):=([("Memory","load","Memory.load"),("Memory","store","Memory.store"),("Memory","__init__","Memory.__init__"),("Run","__init__","Run.__init__"),("Limits","__init__","Limits.__init__")]:List (String×String×String)).map λx=>(nm x.1,nm x.2.1,nm x.2.2)
theorem Az(P:Params):(methTab.all λx=>match clsTab.lookup x.1,fnAddr.lookup x.2.2 with
 | some C,some p=>makesIn (KH P) C&&findIn (KH P) (.ref C) x.2.1==some (some (.ref p.1))&&typeIn (KH P) (.ref p.1)==some (.type "function")
 | _,_=>false)=true:=by kernel_rfl
end
section
variable{w:World}{Gm:Heap}
theorem fY{α:Type}{M:Model}{A:Around}{E:Value->Shared->Prop}{s:Shared}{Q:List (Str×α)->Shared->Prop}:∀ (l st:List (Str×α)),Q (l.foldl (λs p=>if (s.lookup p.1).isNone then s++[p] else s) st) s →
  wpAny M A (forIn l st λx st=>if (List.lookup x.fst st).isNone=true then pure (ForInStep.yield (st++[(x.fst,x.snd)])) else pure (ForInStep.yield st)) Q E s
 | [],st,h=>wpAny_pure h
 | p::l,st,h=>by
  rw[List.forIn_cons];simp only[List.foldl_cons]at h
  split
  ·rename_i q;rw[PY q]at h;exact wpAny_bind (wpAny_pure (fY l _ h))
  ·rename_i q;rw[PZ q]at h;exact wpAny_bind (wpAny_pure (fY l _ h))
theorem wF{M:Model}{A:Around}{E:Value->Shared->Prop}{s:Shared}{α:Type}{Q:α->Shared->Prop}{c:Prop}[Decidable c]{x y:Sem α}(h:¬ c)(k:wpAny M A y Q E s):wpAny M A (if c then x else y) Q E s:=by rw[PZ h];exact k
theorem AA{α β:Type}{M:Model}{A:Around}{m:Sem (Option (Array β))}{k:Option (Array β)->Sem α}{b:Array β}{Q:α->Shared->Prop}{E:Value->Shared->Prop}{s:Shared}(h:wpAny M A m (λr s'=>r.getD #[]=b/\s'=s) E s)(hk:∀ r,r.getD #[]=b->wpAny M A (k r) Q E s):wpAny M A (m >>= k) Q E s:=
 wpAny_bind (wpAny_mono h (λr s' hr=>hr.2.symm ▸ hk r hr.1) λ_ _ x=>x)
theorem pX{s:Shared}{fd:FuncData}{vs dv:List Value}{bs:List (Str×Value)}{ps:List Arg}{ds:List Expr}(hp:fd.params=⟨[],ps,none,[],[],none,ds⟩)
  (hd:(fd.defaults=.none/\dv=[])\/∃ T o items n,fd.defaults=.ref T/\s.heap.get? T=some o/\o.data=.seq items n/\items.toList=dv) (e:fh (ps.map (·.arg)) vs dv=some bs):BindsTo s fd ⟨vs,[]⟩ bs:=by
 induction fd
 subst hp;unfold fh at e
 split at e
 case isFalse=>exact nomatch e
 rename_i hle;dsimp only at e
 split at e
 case isFalse=>exact nomatch e
 rename_i hmiss;have e:=P7 e;intro M A E Q hq;refine wpAny_bind (wpAny_pure (AA (b:=dv.toArray) ?_ λr hr=>?_))
 ·rcases hd with⟨h1,h2⟩ | ⟨T,o,items,n,h1,h2,h3,h4⟩
  ·rw[h1];rw[h2];exact wpAny_pure ⟨rfl,rfl⟩
  ·obtain rfl:=h1;exact wpAny_seqItems h2 h3 ⟨by rw[<-h4];simp,rfl⟩
 generalize r.getD #[]=da at hr ⊢;subst hr;refine wF ?_ (wF ?_ (wpAny_bind (fY _ _ (wpAny_bind (wpAny_pure ?_)))))
 ·have:=hle;simp at this ⊢;omega
 ·exact λq=>Bool.false_ne_true ((congrArg not hmiss).symm.trans q)
 ·exact wpAny_pure ((congrArg (λl=>Q (List.filterMap _ l) _) (List.append_nil (ps.map (·.arg)))).mpr ((congrArg (λb=>Q b _) e).mpr hq))
theorem kH{α β:Type}{f g:α->β}:∀ {l:List α},l.map f=l.map g->∀ x∈l,f x=g x
 | a::l,h,x,hx=>by
  simp only[List.map_cons,List.map_cons,List.cons.injEq]at h;rcases P9 hx with rfl | hx
  ·exact h.1
  ·exact kH h.2 x hx
theorem eS{α β γ:Type}[BEq α](f:β->γ)(x:α):∀ (l:List (α×β)),(l.map λe=>(e.1,f e.2)).lookup x=(l.lookup x).map f
 | []=>rfl
 | (a,b)::l=>by
  rw[List.map_cons,List.lookup_cons,List.lookup_cons]
  induction x==a
  ·exact eS f x l
  ·rfl
theorem aX{α β:Type}[BEq α][LawfulBEq α]{x:α}{b:β}:∀ {l:List (α×β)},l.lookup x=some b->(x,b)∈l
 | (a,c)::l,h=>by
  dsimp only[List.lookup_cons]at h
  induction q:x==a with
  | true=>replace h:=(q) ▸ h;cases h;rw[beq_iff_eq.mp q];exact .head _
  | false=>replace h:=(q) ▸ h;exact .tail _ (aX h)
structure D6(K:Frag)(x:Str)(a:Addr)(fd:FuncData)(t:Arguments×List Stmt×Scope):Prop where
 row:∃ ij,fnAddr.lookup x=some (a,ij)
 obj:∃ oc od sl,K.lookup a=some ⟨oc,od,.func fd,sl⟩
 params:fd.params=t.1
 body:fd.body=.stmts t.2.1
 scope:fd.scope=t.2.2
 Fs:mP K x fd=true
set_option tactic.hygienic true in
theorem Ca{x:Str}{t:Arguments×List Stmt×Scope}(h:vW x=some t)(P:Params):∃ a fd,D6 (KH P) x a fd t:=by unfold vW at h;refine am (Option.bind_eq_some_iff.mp h) λz1 h1 h2=>?_;obtain⟨i,j⟩:=z1;rw[<-sO,eS]at h1;refine am (Option.map_eq_some_iff.mp h1) λz2 h3 h4=>?_;obtain⟨a,ij⟩:=z2;dsimp only at h4;subst h4;have hm:=aX h3;have p:=kH (x7 P) _ hm;dsimp only at p h2;rw[h2]at p;refine am (Option.map_eq_some_iff.mp p) λfd hfd p=>?_;simp only[Option.getD_some,Prod.mk.injEq]at p;have c:=List.all_eq_true.mp (CO P) _ hm;dsimp only at c;rw[hfd]at c;exact⟨a,fd,⟨_,h3⟩,kG hfd,p.1,p.2.1,p.2.2,c⟩
theorem uW{x:Str}{i:Nat}(h:fnTab.lookup x=some (i,0))(P:Params):∃ a ij,fnAddr.lookup x=some (a,ij)/\nsIn (KH P) mainGlobals x=some (some (.ref a)):=by rw[<-sO,eS]at h;refine am (Option.map_eq_some_iff.mp h) λz3 h3 h4=>?_;obtain⟨a,ij⟩:=z3;dsimp only at h4;subst h4;have hm:=aX h3;have c:=List.all_eq_true.mp (sR P) _ hm;dsimp only at c;exact⟨a,_,h3,eq_of_beq ((P8 c).1)⟩
theorem CP{x:Str}{a:Addr}{ij:Nat×Nat}{v:Value}(h:fnAddr.lookup x=some (a,ij))(P:Params)(hv:(nsIn (KH P) mainGlobals x).join=some v):v=.ref a:=by
 have c:=List.all_eq_true.mp (sR P) _ (aX h);obtain⟨c,_⟩:=P8 c;dsimp only at c
 split at c
 ·replace hv:=(beq_iff_eq.mp c) ▸ hv;cases hv;rfl
 ·replace hv:=(beq_iff_eq.mp c) ▸ hv;exact du hv
theorem uX{x:Str}{a:Addr}{ij:Nat×Nat}(h:fnAddr.lookup x=some (a,ij))(P:Params):keepIn (KH P) (.ref a)=true:=
 (P8 (List.all_eq_true.mp (sR P) _ (aX h))).2
set_option tactic.hygienic true in
theorem jh{c m f:Str}(h:(c,m,f)∈methTab)(P:Params):∃ C a ij,clsTab.lookup c=some C/\fnAddr.lookup f=some (a,ij)/\makesIn (KH P) C=true/\findIn (KH P) (.ref C) m=some (some (.ref a))/\typeIn (KH P) (.ref a)=some (.type "function"):=by
 have e:=List.all_eq_true.mp (Az P) _ h;dsimp only at e
 split at e
 ·rename_i C p h1 h2;simp[Bool.and_eq_true,beq_iff_eq]at e;exact⟨C,p.1,p.2,h1,h2,e.1.1,e.1.2,e.2⟩
 ·exact nomatch e
end
section
variable{w:World}{Gm:Heap}{xt:Bool}
noncomputable def CR(P:Params)(p:Str×D):Prop:=∃ v,nsIn (KH P) mainGlobals p.1=some (some v)/\∀ {w:World} {B:Addr->Option Obj} {ρ:List Addr},(∀ b o,(KH P).lookup b=some o->B b=some o)->Rep w B ρ v p.2
theorem jM{α:Type}{P:α->Prop}{a:α}{l:List α}(h:P a)(t:∀ x∈l,P x):∀ x∈a::l,P x:=List.forall_mem_cons.mpr ⟨h,t⟩
theorem cI{P:Params}{x:Str}{i:Int}{t:Tok}(h:nsIn (KH P) mainGlobals x=some (some (.int i t))):CR P (x,.int i):=⟨_,h,λ_=>.int _ _⟩
theorem tR{w:World}{B:Addr->Option Obj}{ρ:List Addr}{K:Frag}(k:∀ b o,K.lookup b=some o->B b=some o){a:Addr}{vs:List Value}{ds:List D}(o:K.lookup a=some { cls:=.type "tuple",data:=.seq (List.toArray vs) 0 })(r:RepL w B ρ vs ds):Rep w B ρ (.ref a) (.tup ds):=.tup ⟨_,_,k _ _ o,rfl,rfl⟩ r
theorem CQ{w:World}{B:Addr->Option Obj}{ρ:List Addr}{i j:Int}{t u:Tok}:RepL w B ρ [.int i t,.int j u] [.int i,.int j]:=.cons (.int _ _) (.cons (.int _ _) .nil)
theorem x9(P:Params):∀ p∈constTab,CR P p:=
 jM (cI (t:=243) (by kernel_rfl)) (jM (cI (t:=245) (by kernel_rfl)) (jM (cI (t:=247) (by kernel_rfl)) (jM (cI (t:=249) (by kernel_rfl)) (jM (cI (t:=251) (by kernel_rfl)) (jM (cI (t:=253) (by kernel_rfl)) (jM (cI (t:=264) (by kernel_rfl))
  (jM ⟨.ref 257,by kernel_rfl,λk=>tR (vs:=[.int 0 540,.int 0 541]) k (by kernel_rfl) CQ⟩ (jM (cI (t:=543) (by kernel_rfl)) (jM (cI (t:=545) (by kernel_rfl))
  (jM ⟨.ref 393,by kernel_rfl,λk=>tR (vs:=[.ref 391,.ref 392]) k (by kernel_rfl) (.cons (tR (vs:=[.int 1 746,.int 0 747]) k (by kernel_rfl) CQ) (.cons (tR (vs:=[.int 0 748,.int 0 749]) k (by kernel_rfl) CQ) .nil))⟩ (jM (cI (t:=751) (by kernel_rfl)) nofun)))))))))))
theorem CS(P:Params):(bltTab.all λx=>nsIn (KH P) mainGlobals x==some none&&(bootBuiltins x).isSome&&!(x==("__name__" : Str)))=true:=by kernel_rfl
theorem x_(x:Str):(∃ i,fnTab.lookup x=some (i,0)/\jf x=if x=nm "law" then none else some (.fn x))\/jf x=if (cA x).isSome then some (.fn x) else match constTab.lookup x with
  | some d=>some d
  | none=>if bltTab.contains x then some (.blt x) else none:=by
 delta jf;generalize fnTab.lookup x=o
 induction o using Option.casesOn with
 | none=>exact .inr rfl
 | some p=>
  obtain⟨i,n⟩:=p
  induction n using Nat.casesOn with
  | zero=>exact .inl ⟨i,rfl,rfl⟩
  | succ n=>exact .inr rfl
set_option tactic.hygienic true in
theorem AB{mg mb}(X:Cx w Gm mg mb){G:Gh}{h:Heap}(I:Inv w Gm G h){x:Str}{d:D}(e:jf x=some d) :
  ∃ v,Rep w G.B G.ρ v d/\(nsIn (KH w.params) mainGlobals x=some (some v)\/(nsIn (KH w.params) mainGlobals x=some none/\bootBuiltins x=some v/\x ≠ "__name__")):=by
 have kB:∀ b o,(KH w.params).lookup b=some o->G.B b=some o:=λb o q=>I.base _ _ (X.K _ _ q);have rest:(if (cA x).isSome then some (D.fn x) else match constTab.lookup x with
  | some d=>some d
  | none=>if bltTab.contains x then some (.blt x) else none)=some d->∃ v,Rep w G.B G.ρ v d/\(nsIn (KH w.params) mainGlobals x=some (some v)\/(nsIn (KH w.params) mainGlobals x=some none/\bootBuiltins x=some v/\x ≠ "__name__")):=λe=>by
  split at e
  ·rename_i hi;cases e;have F:=jg w.params;have hm:∃ C,(x,C)∈clsTab:=by
    unfold cA at hi;unfold clsTab
    by_cases h1:x=nm "Memory"
    ·exact⟨98,by simp[h1]⟩
    ·by_cases h2:x=nm "Run"
     ·exact⟨529,by simp[h2]⟩
     ·by_cases h3:x=nm "Limits"
      ·exact⟨661,by simp[h3]⟩
      ·rw[PZ h1,PZ h2,PZ h3]at hi;exact nomatch hi
   refine PU hm λC hm=>?_;have c:=List.all_eq_true.mp F _ hm;dsimp only[jC]at c;simp only[Bool.and_eq_true,beq_iff_eq]at c;have c1:=c.1.1.1.1.1;exact⟨.ref C,.fn (by unfold iE;rw[c1];rfl),.inl c1⟩
  ·split at e
   ·rename_i d' hc;cases e;refine am (x9 w.params _ (aX hc)) λv hv hr=>?_;exact⟨v,hr kB,.inl hv⟩
   ·split at e
    ·rename_i hb;cases e;have c:=List.all_eq_true.mp (CS w.params) x (by simpa using hb);simp only[Bool.and_eq_true,beq_iff_eq,Bool.not_eq_true',beq_eq_false_iff_ne]at c;obtain⟨⟨c1,c2⟩,c3⟩:=c;obtain⟨v,hv⟩:=Option.isSome_iff_exists.mp c2;exact⟨v,.blt hv,.inr ⟨c1,hv,c3⟩⟩
    ·injection e
 refine PW (x_ x) (λq=>am q λi hf q=>?_) λq=>rest (q.symm.trans e);refine aJ (uW hf w.params) λa ij h1 h2=>?_;refine PW (P_ (x=nm "law")) (λz=>du ((PY z).symm.trans (q.symm.trans e))) λz=>?_;rw[<-P7 ((PZ z).symm.trans (q.symm.trans e))];exact⟨.ref a,.fn (by unfold iE;rw[h2];rfl),.inl h2⟩
structure Fm(w:World)(H_:Nat)(A:Around)(G:Gh)(h:Heap)(env:Env)(L:Addr)(sc:Sc)(fr:af):Prop where
 handled:A.handled=none
 depth:A.depth+4*H_+6<recursionLimit
 units:A.units+20*H_+210<cLine
 stk:∃ GH outer,A.frames=some (GH::outer)/\GH.frame=some L/\StkL G h (GH::outer)
 frame:env.frame=some L
 kind:env.scope.kind=.function
 globals:env.globals=mainGlobals
 builtins:env.builtins=builtinsNs
 names:∀ x,env.kindOf x=sc.lookup x\/(sc.lookup x=some .free/\env.kindOf x=some .cell)
 loc:∃ m,h.Ns env.locals m/\∀ x d,sc.lookup x=some .local->aa fr x=some d->∃ v,m x=some v/\Rep w G.B G.ρ v d
 cel:∀ x d,(sc.lookup x=some .cell\/sc.lookup x=some .free)->aa fr x=some d->∃ c v,env.cells.lookup x=some c/\h.IsCell c (some v)/\Rep w G.B G.ρ v d
 cel0:∀ x,(sc.lookup x=some .cell\/sc.lookup x=some .free)->∃ c v,env.cells.lookup x=some c/\h.IsCell c v
 apart:∀ b∈env.locals::env.cells.map (·.2),G.B b=none/\b∉G.ρ
 lc:env.locals∉env.cells.map (·.2)
 ex:∀ c∈env.cells.map (·.2),∃ o,h.get? c=some o
 inj:∀ x y c,env.cells.lookup x=some c->env.cells.lookup y=some c->x=y
noncomputable def ownOf(env:Env):List Addr:=env.locals::env.cells.map (·.2)
theorem kI{h h':Heap}{a:Addr}{m:Str->Option Value}(k:∀ o,h.get? a=some o->∃ sl,h'.get? a=some { o with slots:=sl })(x:h.Ns a m):h'.Ns a m:=by refine bA x λo es ep ho hd r=>?_;obtain⟨sl,q⟩:=k o ho;exact⟨_,es,ep,q,hd,r⟩
theorem eT{h h':Heap}{a:Addr}{v:Option Value}(k:∀ o,h.get? a=some o->∃ sl,h'.get? a=some { o with slots:=sl })(x:h.IsCell a v):h'.IsCell a v:=by refine am x λo ho hd=>?_;obtain⟨sl,q⟩:=k o ho;exact⟨_,q,hd⟩
theorem dw{l:List (Str×Addr)}{x:Str}{c:Addr}(h:l.lookup x=some c):c∈l.map (·.2):=List.mem_map.mpr ⟨_,aX h,rfl⟩
theorem Fm.there{H_:Nat}{A:Around}{G:Gh}{h:Heap}{env:Env}{L:Addr}{sc:Sc}{fr:af}(F:Fm w H_ A G h env L sc fr):∃ o,h.get? env.locals=some o:=let ⟨_,⟨o,_,_,e,_⟩,_⟩:=F.loc;⟨o,e⟩
theorem Fm.rn{H_:Nat}{A:Around}{G G':Gh}{s s':Shared}{env:Env}{L:Addr}{sc:Sc}{fr:af}{Id:List Addr}(F:Fm w H_ A G s.heap env L sc fr)(R:Rn w Gm xt Id G s G' s')(ho:∀ b∈ownOf env,b∉Id):Fm w H_ A G' s'.heap env L sc fr:=by
 have hρ:∃ more,G'.ρ=G.ρ++more:=let ⟨m,e,_⟩:=R.ρ;⟨m,e⟩
 have k:∀ b∈ownOf env,∀ o,s.heap.get? b=some o->∃ sl,s'.heap.get? b=some { o with slots:=sl }:=λb hb o e=>let ⟨sl,q,_⟩:=R.keep b o e (F.apart b hb).2 (ho b hb);⟨sl,q⟩
 have kc:∀ {x c},env.cells.lookup x=some c->c∈ownOf env:=λe=>.tail _ (dw e);refine am F.loc λm hn hm=>?_;refine ar F.stk λGH outer f1 f2 f3=>?_;refine⟨F.handled,F.depth,F.units,⟨GH,outer,f1,f2,f3.rn R.slack⟩,F.frame,F.kind,F.globals,F.builtins,F.names,⟨m,kI (k _ (.head _)) hn,λx d h1 h2=>?_⟩,λx d h1 h2=>?_,λx h1=>?_,λb hb=>?_,F.lc,λc hc=>?_,F.inj⟩
 ·refine am (hm x d h1 h2) λv e r=>?_;exact⟨v,e,r.mono R.B hρ⟩
 ·refine ar (F.cel x d h1 h2) λc v e q r=>?_;exact⟨c,v,e,eT (k _ (kc e)) q,r.mono R.B hρ⟩
 ·refine aJ (F.cel0 x h1) λc v e q=>?_;exact⟨c,v,e,eT (k _ (kc e)) q⟩
 ·obtain⟨o,ho⟩ : ∃ o,s.heap.get? b=some o:=by
   rcases P9 hb with rfl | hb
   ·exact F.there
   ·exact F.ex b hb
  refine⟨?_,λq=>?_⟩
  ·induction q:G'.B b with
   | none=>rfl
   | some o2=>
    refine PW (R.newB b o2 q) (λz=>?_) λz=>?_
    ·exact du (PX (Eq.symm ((F.apart b hb).1)) z)
    ·exact DN (PX (Eq.symm ho) z)
  ·refine am R.ρ λmore e f=>?_;rw[e]at q;rcases List.mem_append.mp q with q | q
   ·exact(F.apart b hb).2 q
   ·have:=f b q;replace this:=(ho) ▸ this;exact DN this
 ·obtain⟨o,e⟩:=F.ex c hc;refine am (R.there c o e) λo' e' _=>?_;exact⟨o',e'⟩
theorem gn{h:Heap}{c:Addr}{v:Option Value}(x:h.IsCell c v):∃ o,h.get? c=some o/\aV o:=by refine am x λo ho hd=>?_;exact⟨o,ho,λvs q=>by replace q:=(hd) ▸ q;injection q⟩
theorem pY{h:Heap}{a:Addr}{m:Str->Option Value}(x:h.Ns a m):∃ o,h.get? a=some o/\aV o:=by refine bA x λo es ep ho hd _=>?_;exact⟨o,ho,λvs q=>by replace q:=(hd) ▸ q;injection q⟩
theorem Fm.sl{H_:Nat}{A:Around}{G:Gh}{h h':Heap}{env:Env}{L:Addr}{sc:Sc}{fr:af}(F:Fm w H_ A G h env L sc fr)(k:∀ b o,h.get? b=some o->aV o->∃ sl,h'.get? b=some { o with slots:=sl })
  (S:∀ l,A.frames=some l->StkL G h' l) (there:∀ c∈env.cells.map (·.2),∃ o',h'.get? c=some o'):Fm w H_ A G h' env L sc fr:=by
 refine am F.loc λm hn hm=>?_;refine ar F.stk λGH outer f1 f2 f3=>?_;have ko:∀ {b o},h.get? b=some o->aV o->∀ Hq,h.get? b=some Hq->∃ sl,h'.get? b=some { Hq with slots:=sl }:=λe n Hq GP=>by replace GP:=(e) ▸ GP;cases GP;exact k _ _ e n
 refine⟨F.handled,F.depth,F.units,⟨GH,outer,f1,f2,S _ f1⟩,F.frame,F.kind,F.globals,F.builtins,F.names,⟨m, ?_,hm⟩,λx d h1 h2=>?_,λx h1=>?_,F.apart,F.lc,λc hc=>?_,F.inj⟩
 ·refine am (pY hn) λo ho hno=>?_;exact kI (ko ho hno) hn
 ·refine ar (F.cel x d h1 h2) λc v e q r=>?_;refine am (gn q) λo ho hno=>?_;exact⟨c,v,e,eT (ko ho hno) q,r⟩
 ·refine aJ (F.cel0 x h1) λc v e q=>?_;refine am (gn q) λo ho hno=>?_;exact⟨c,v,e,eT (ko ho hno) q⟩
 ·exact there c hc
theorem bn(x:Str)(d:D):∀ (fr:af) (y:Str),aa (aj fr x d) y=if x=y then some d else aa fr y
 | [],y=>by unfold aj aa;rfl
 | (z,e)::r,y=>by
  dsimp only[aj];rcases P_ (z=x) with q | q
  ·subst q;rw[PY rfl];dsimp only[aa]
   by_cases q2:z=y
   ·rw[PY q2,PY q2]
   ·rw[PZ q2,PZ q2,PZ q2]
  ·rw[PZ q];dsimp only[aa]
   by_cases q2:z=y
   ·subst q2;refine PX (PY rfl) ?_;rw[PY rfl,PZ (λe=>q e.symm)]
   ·refine PX (PZ q2) ?_;rw[PZ q2];exact bn x d r y
section
variable{H_:Nat}{A:Around}{G:Gh}{s:Shared}{env:Env}{L:Addr}{sc:Sc}{fr:af}{E:Value->Shared->Prop}{xt:Bool}
theorem nW{k:ScopeKind}{b:Bool}(h:k=.function):(k==.class||(k==.module&&b))=false:=by subst h;rfl
theorem jD{A':Around}(F:Fm w H_ A G s.heap env L sc fr)(I:Inv w Gm G s.heap){x:Str}{v:Value}{d:D}(rv:Rep w G.B G.ρ v d)(hx:sc.lookup x=some .local){Q:Unit->Shared->Prop}
  (k:∀ s',Rn w Gm xt [env.locals] G s G s'->Fm w H_ A G s'.heap env L sc (aj fr x d)->Q () s'):wpAny (model pw w) A' (storeName env x v) Q E s:=by
 refine am F.loc λm hn hm=>?_;have hk:env.kindOf x=some .local:=by
  rcases F.names x with q | ⟨q,_⟩
  ·refine PX q ?_;exact hx
  ·replace q:=(hx) ▸ q;exact nomatch q
 have ap:=F.apart env.locals (.head _);refine wpAny_storeName_local hk hn (λh' hn' hs=>?_) (nW F.kind);have R:Rn w Gm xt [env.locals] G s G { s with heap:=h',toks:=s.toks+1 }:=sH I (s.toks+1) hs (.head _) ap.1 ap.2 λo ho=>let ⟨o',q,n⟩:=pY hn';⟨o',q,λ_=>n⟩
 refine ar F.stk λGH outer f1 f2 f3=>?_;have kc:∀ {y c},env.cells.lookup y=some c->h'.get? c=s.heap.get? c:=λe=>hs.2 _ λq=>F.lc (q ▸ dw e);have cl:∀ {c v},h'.get? c=s.heap.get? c->s.heap.IsCell c v->h'.IsCell c v:=λe ⟨o,ho,hd⟩=>⟨o,e.trans ho,hd⟩;refine k _ R ⟨F.handled,F.depth,F.units,⟨GH,outer,f1,f2,f3.rn R.slack⟩,F.frame,F.kind,F.globals,F.builtins,F.names,⟨_,hn',λy d' h1 h2=>?_⟩,λy d' h1 h2=>?_,λy h1=>?_,F.apart,F.lc,λc hc=>?_,F.inj⟩
 ·rw[bn]at h2
  by_cases q:x=y
  ·subst q;replace h2:=(PY rfl) ▸ h2;cases h2;exact⟨v,PY rfl,rv⟩
  ·rw[PZ q]at h2;refine am (hm y d' h1 h2) λv' e r=>?_;exact⟨v',(PZ λz=>q z.symm).trans e,r⟩
 ·rw[bn,PZ (λq=>by subst q;rw[hx]at h1;rcases h1 with h1 | h1 <;> exact absurd h1 (by decide))]at h2;refine ar (F.cel y d' h1 h2) λc v' e q r=>?_;exact⟨c,v',e,cl (kc e) q,r⟩
 ·refine aJ (F.cel0 y h1) λc v' e q=>?_;exact⟨c,v',e,cl (kc e) q⟩
 ·obtain⟨o,e⟩:=F.ex c hc;exact⟨o,(hs.2 c λq=>F.lc (q ▸ hc)).trans e⟩
theorem sS{A':Around}(F:Fm w H_ A G s.heap env L sc fr)(I:Inv w Gm G s.heap){x:Str}{v:Value}{d:D}(rv:Rep w G.B G.ρ v d)(hx:sc.lookup x=some .cell){Q:Unit->Shared->Prop}
  (k:∀ s',Rn w Gm xt (env.cells.map (·.2)) G s G s'->Fm w H_ A G s'.heap env L sc (aj fr x d)->Q () s'):wpAny (model pw w) A' (storeName env x v) Q E s:=by
 refine am F.loc λm hn hm=>?_;have hk:env.kindOf x=some .cell:=by
  rcases F.names x with q | ⟨q,_⟩
  ·refine PX q ?_;exact hx
  ·replace q:=(Eq.symm (hx)).trans q;injection q
 refine aJ (F.cel0 x (.inl hx)) λHd H2 hc hcell=>?_;have hmem:=dw hc;have ap:=F.apart Hd (.tail _ hmem);refine wpAny_storeName_cell F.kind hk hc hcell λh' hc' hs=>?_;have R:Rn w Gm xt (env.cells.map (·.2)) G s G { s with heap:=h' }:=sH I s.toks hs hmem ap.1 ap.2 λo ho=>let ⟨o',q,n⟩:=gn hc';⟨o',q,λ_=>n⟩
 refine ar F.stk λGH outer f1 f2 f3=>?_;have kl:h'.get? env.locals=s.heap.get? env.locals:=hs.2 _ λq=>F.lc (q ▸ hmem);have cl:∀ {y c v},y≠x->env.cells.lookup y=some c->s.heap.IsCell c v->h'.IsCell c v:=λn e ⟨o,ho,hd⟩=>⟨o,(hs.2 _ λ(q:_=Hd)=>n (F.inj _ _ Hd (by exact(Eq.symm q) ▸ e) hc)).trans ho,hd⟩;refine k _ R ⟨F.handled,F.depth,F.units,⟨GH,outer,f1,f2,f3.rn R.slack⟩,F.frame,F.kind,F.globals,F.builtins,F.names,⟨m,let ⟨o,es,ep,ho,r⟩:=hn;⟨o,es,ep,kl.trans ho,r⟩,λy d' h1 h2=>?_⟩,λy d' h1 h2=>?_,λy h1=>?_,F.apart,F.lc,λc hc2=>?_,F.inj⟩
 ·rw[bn,PZ (λq=>by subst q;replace h1:=(hx) ▸ h1;exact absurd h1 (by decide))]at h2;exact hm y d' h1 h2
 ·rw[bn]at h2;rcases P_ (x=y) with q | q
  ·subst q;replace h2:=(PY rfl) ▸ h2;cases h2;exact⟨Hd,v,hc,hc',rv⟩
  ·rw[PZ q]at h2;refine ar (F.cel y d' h1 h2) λc v' e z r=>?_;exact⟨c,v',e,cl (λz=>q z.symm) e z,r⟩
 ·rcases P_ (x=y) with q | q
  ·subst q;exact⟨Hd,_,hc,hc'⟩
  ·refine aJ (F.cel0 y h1) λc v' e z=>?_;exact⟨c,v',e,cl (λz=>q z.symm) e z⟩
 ·obtain⟨o,e⟩:=F.ex c hc2
  by_cases q:c=Hd
  ·rw[q];refine am (gn hc') λo' ho' _=>?_;exact⟨o',ho'⟩
  ·exact⟨o,(hs.2 c q).trans e⟩
end
end
section
variable{w:World}{Gm:Heap}{mg mb:Str->Option Value}
noncomputable def D7(w:World)(Gm:Heap)(H_:Nat)(ev:Sc->af->Expr->M D):Prop:=∀ {A:Around} {env:Env} {L:Addr} {sc:Sc} {fr:af} {e:Expr} {G:Gh} {s:Shared} {Q:Value->Shared->Prop} {E:Value->Shared->Prop},
 Inv w Gm G s.heap->Fm w H_ A G s.heap env L sc fr->Ok w Gm true (rep w) [] L G s (ev sc fr e G.σ) Q E->wpAny (model pw w) A (eval e env) Q E s
noncomputable def D8(w:World)(Gm:Heap)(H_:Nat)(tst:Sc->af->Expr->M Bool):Prop:=∀ {A:Around} {env:Env} {L:Addr} {sc:Sc} {fr:af} {e:Expr} {G:Gh} {s:Shared} {Q:Bool->Shared->Prop} {E:Value->Shared->Prop},
 Inv w Gm G s.heap->Fm w H_ A G s.heap env L sc fr->Ok w Gm true iG [] L G s (tst sc fr e G.σ) Q E->wpAny (model pw w) A (PySem.isTrue e env (eval e env)) Q E s
structure bt(w:World)(Gm:Heap)(H_:Nat)(r:Rc):Prop where
 ev:D7 w Gm H_ r.ev
 tst:D8 w Gm H_ r.tst
noncomputable def pZ(Q:Value->Shared->Prop)(E:Value->Shared->Prop):Result->Shared->Prop:=λr s'=>match r with | .ok (.ret v)=>Q v s' | .ok _=>False | .error e=>E e s'
structure Amb(w:World)(H_:Nat)(A:Around)(G:Gh)(h:Heap)(L:Addr):Prop where
 handled:A.handled=none
 depth:A.depth+4*H_+4<recursionLimit
 units:A.units+20*H_+200<cLine
 stk:∃ GH outer,A.frames=some (GH::outer)/\GH.frame=some L/\StkL G h (GH::outer)
noncomputable def E6(w:World)(Gm:Heap)(H_:Nat)(call:Str->List D->M D):Prop:=∀ {A:Around} {L:Addr} {x:Str} {a:Addr} {ij:Nat×Nat} {as:List D} {vs:List Value} {G:Gh} {s:Shared} {Q:Value->Shared->Prop} {E:Value->Shared->Prop},
 x≠nm "law" → Inv w Gm G s.heap->Amb w H_ A G s.heap L->RepL w G.B G.ρ vs as->fnAddr.lookup x=some (a,ij)->Ok w Gm true (rep w) [] L G s (call x as G.σ) Q E->codeAny (model pw w) A (.call (.ref a) ⟨vs,[]⟩) (pZ Q E) s
structure nX(w:World)(Gm:Heap)(H_:Nat)(call:Str->List D->M D):Prop where
 snd:E6 w Gm H_ call
 dom:∀ x as σ,fnAddr.lookup x=none->call x as σ=.stuck
theorem Fm.amb{H_:Nat}{A:Around}{G:Gh}{h:Heap}{env:Env}{L:Addr}{sc:Sc}{fr:af}(F:Fm w H_ A G h env L sc fr):Amb w H_ A G h L:=⟨F.handled,by have:=F.depth;lia,by have:=F.units;lia,F.stk⟩
theorem Amb.rm{H_:Nat}{A:Around}{G:Gh}{h:Heap}{L:Addr}(F:Amb w H_ A G h L):Rm A:=⟨F.handled,by have:=F.units;lia⟩
theorem Fm.rm{H_:Nat}{A:Around}{G:Gh}{h:Heap}{env:Env}{L:Addr}{sc:Sc}{fr:af}(F:Fm w H_ A G h env L sc fr):Rm A:=F.amb.rm
section
variable{H_:Nat}{A:Around}{env:Env}{L:Addr}{sc:Sc}{fr:af}{G:Gh}{s:Shared}{E:Value->Shared->Prop}{r:Rc}{xt:Bool}{Id:List Addr}
theorem Fm.on{G':Gh}{s':Shared}(F:Fm w H_ A G s.heap env L sc fr)(R:Rn w Gm true [] G s G' s'):Fm w H_ A G' s'.heap env L sc fr:=F.rn R λ_ _ h=>(nomatch h)
theorem bC(S:bt w Gm H_ r)(I:Inv w Gm G s.heap)(F:Fm w H_ A G s.heap env L sc fr){α β:Type}{P:Gh->β->α->Prop}{Q:β->Shared->Prop}{e:Expr}{f:D->M α}(h:Ok w Gm xt P Id L G s (bnd (r.ev sc fr e) f G.σ) Q E)
  {Gs:Value->Shared->Prop} (k:∀ v Go Gn d,Rn w Gm true [] G s Gn Go->Inv w Gm Gn Go.heap->Fm w H_ A Gn Go.heap env L sc fr->Rep w Gn.B Gn.ρ v d->Ok w Gm xt P Id L Gn Go (f d Gn.σ) Q E->Gs v Go):wpAny (model pw w) A (eval e env) Gs E s:=by
 refine S.ev I F ?_;unfold bnd at h
 induction hm:r.ev sc fr e G.σ with
 | ok d σ'=>
  rw[hm]at h;intro v s' G' e x p;subst e;have x':Rn w Gm xt Id G s G' s':=by refine⟨x.same,x.B,x.newB,x.ρ,x.inv,λb o e h h'=>?_,x.there⟩;refine am (x.keep b o e h (λq=>(nomatch q))) λsl q z=>?_;exact⟨sl,q,λ_=>z (.inl rfl)⟩
  exact k v s' G' d x x.inv (F.on x) p (h.shift x')
 | exc σ'=>replace h:=(hm) ▸ h;exact λx s' G' e y p=>h x s' G' e (y.weak λ_ q=>(nomatch q)) p
 | stuck=>rw[hm]at h;exact h
theorem j4(S:bt w Gm H_ r)(I:Inv w Gm G s.heap)(F:Fm w H_ A G s.heap env L sc fr){α β:Type}{P:Gh->β->α->Prop}{Q:β->Shared->Prop}{e:Expr}{f:Bool->M α}(h:Ok w Gm xt P Id L G s (bnd (r.tst sc fr e) f G.σ) Q E)
  {Gs:Bool->Shared->Prop} (k:∀ b Go Gn,Rn w Gm true [] G s Gn Go->Inv w Gm Gn Go.heap->Fm w H_ A Gn Go.heap env L sc fr->Ok w Gm xt P Id L Gn Go (f b Gn.σ) Q E->Gs b Go):wpAny (model pw w) A (PySem.isTrue e env (eval e env)) Gs E s:=by
 refine S.tst I F ?_;unfold bnd at h
 induction hm:r.tst sc fr e G.σ with
 | ok d σ'=>
  rw[hm]at h;intro v s' G' e x p;subst e;rw[p];have x':Rn w Gm xt Id G s G' s':=by refine⟨x.same,x.B,x.newB,x.ρ,x.inv,λb o e h h'=>?_,x.there⟩;refine am (x.keep b o e h (λq=>(nomatch q))) λsl q z=>?_;exact⟨sl,q,λ_=>z (.inl rfl)⟩
  exact k _ s' G' x x.inv (F.on x) (h.shift x')
 | exc σ'=>replace h:=hm ▸ h;exact λx s' G' e y p=>h x s' G' e (y.weak λ_ q=>(nomatch q)) p
 | stuck=>rw[hm]at h;exact h
theorem AC(X:Cx w Gm mg mb){x:Str}{pos:Pos}{Q:Value->Shared->Prop}(I:Inv w Gm G s.heap)(F:Fm w H_ A G s.heap env L sc fr)(h:Ok w Gm xt (rep w) Id L G s (xH jf sc fr x G.σ) Q E):wpAny (model pw w) A (eval (.Name x pos) env) Q E s:=by
 unfold xH at h;refine PV (λhn h=>?_) (Ok.ifS h);unfold xG at hn;simp only[Bool.and_eq_true,Bool.not_eq_true']at hn;have hd:=hn.1;have hcl:=hn.2;have cel:(sc.lookup x=some .cell\/sc.lookup x=some .free)->Ok w Gm xt (rep w) Id L G s (ac (aa fr x) G.σ) Q E->wpAny (model pw w) A (eval (.Name x pos) env) Q E s:=λhk h=>by
  refine am (g6 h) λd e h=>?_;refine ar (F.cel x d hk e) λc v e1 e2 rv=>?_;have kk:env.kindOf x=some .cell\/env.kindOf x=some .free:=by
   rcases F.names x with q | ⟨_,q⟩
   ·rw[q];exact hk
   ·exact .inl q
  rcases kk with q | q
  ·exact wpAny_Name (wpAny_loadName_cell F.kind q e1 e2 (Ok.now I h rv)) hd
  ·exact wpAny_Name (wpAny_loadName_free F.kind q e1 e2 (Ok.now I h rv) hcl) hd
 induction hk:sc.lookup x with
 | none=>replace h:=(hk) ▸ h;exact(h:False).elim
 | some q=>
 rw[hk]at h
 induction q
 ·refine am (g6 h) λd e h=>?_;refine am F.loc λm hns hm=>?_;refine am (hm x d hk e) λv e1 rv=>?_;have kk:env.kindOf x=some .local:=by
   rcases F.names x with q | ⟨q,_⟩
   ·refine PX q ?_;exact hk
   ·replace q:=(hk) ▸ q;exact absurd q (by decide)
  exact wpAny_Name (wpAny_loadName_local F.kind kk hns e1 (Ok.now I h rv)) hd
 ·exact cel (.inl hk) h
 ·exact cel (.inr hk) h
 ·exact(h:False).elim
 ·refine am (g6 h) λd e h=>?_;refine am (AB X I e) λv rv hv=>?_;have kk:env.kindOf x=some .globalImplicit:=by
   rcases F.names x with q | ⟨q,_⟩
   ·refine PX q ?_;exact hk
   ·replace q:=(hk) ▸ q;exact absurd q (by decide)
  have T:=I.T X;have xr:=Ok.now I h rv;refine Name_function_global F.kind kk ?_ hd;rcases hv with hv | ⟨h1,h2,h3⟩
  ·exact loadGlobal_global (by rw[F.globals];exact T.g) (mg_of (I.K X) T.g hv) xr
  ·exact loadGlobal_builtin (by rw[F.globals];exact T.g) (mg_none_of (I.K X) T.g h1) (by rw[F.builtins];exact T.b) ((T.builtins x h3).trans h2) xr
noncomputable def ya(e:Expr):Expr:=if h:e.ctorIdx=22 then Expr.Starred.elim e h λx _=>x else e
theorem wb(e:Expr)(es:List Expr)(env:Env):starEach (e::es) env=(fM e,eval (ya e) env)::starEach es env:=by induction e using Expr.casesOn <;> rfl
theorem eU{e:Expr}(h:fM e=false)(es:List Expr)(env:Env):starEach (e::es) env=(false,eval e env)::starEach es env:=by rw[wb,h,show ya e=e from dif_neg (ne_of_beq_false h)]
theorem cD{e:Expr}{es:List Expr}(h:cB (e::es)=true):fM e=false/\cB es=true:=
 have h:(!fM e&&cB es)=true:=h;have h:=P8 h
 ⟨Bool.eq_false_iff.mpr λq=>fD (by rw[q]at h;exact h.1),h.2⟩
theorem yb{r:Rc}{sc:Sc}{fr:af}{e:Expr}{es:List Expr}:(fM e=false/\uO r sc fr (e::es)=bnd (r.ev sc fr e) λa=>bnd (uO r sc fr es) λl=>ret (a::l))\/uO r sc fr (e::es)=stuck:=
 if h:fM e=true then .inr (PY h) else .inl ⟨Bool.eq_false_iff.mpr h,PZ h⟩
theorem D9{α β γ:Type}(m:M α)(g:α->M β)(f:β->M γ)(σ:St):bnd (bnd m g) f σ=bnd m (λa=>bnd (g a) f) σ:=by unfold bnd;induction m σ <;> rfl
theorem nY(S:bt w Gm H_ r){pos:Pos}{α β:Type}{P:Gh->β->α->Prop}{Q:β->Shared->Prop}:∀ {es:List Expr} {G:Gh} {s:Shared} {f:List D->M α},Inv w Gm G s.heap->Fm w H_ A G s.heap env L sc fr->Ok w Gm xt P Id L G s (bnd (uO r sc fr es) f G.σ) Q E →
  ∀ {Gs:List Value->Shared->Prop},(∀ vs Go Gn ds,Rn w Gm true [] G s Gn Go->Inv w Gm Gn Go.heap->Fm w H_ A Gn Go.heap env L sc fr->RepL w Gn.B Gn.ρ vs ds->Ok w Gm xt P Id L Gn Go (f ds Gn.σ) Q E->Gs vs Go)->wpAny (model pw w) A (spliced (backTo pos (starEach es env))) Gs E s:=λ{es}=>by
 induction es with
 | nil=>exact λI F h _ k=>args_nil (k [] _ _ [] (.refl I) I F .nil h)
 | cons e es ih=>
  intro G s f I F h Gs k;rcases yb (r:=r) (sc:=sc) (fr:=fr) (e:=e) (es:=es) with⟨q,e1⟩ | e1
  ·rw[e1,D9]at h;refine args_cons (bC S I F h λv Go Gn d R Gz Gx rv Gu=>?_) (eU q es env);rw[D9]at Gu;exact ih Gz Gx Gu λvs Gv GB ds Gw GL GM rl Gy=>k _ Gv GB (d::ds) (R.trans Gw) GL GM (.cons (Gw.rep rv) rl) Gy
  ·replace h:=e1 ▸ h;exact(h:False).elim
end
end
section
variable{w:World}{Gm:Heap}{mg mb:Str->Option Value}
section
variable{H_:Nat}{A:Around}{env:Env}{L:Addr}{sc:Sc}{fr:af}{E:Value->Shared->Prop}{r:Rc}
theorem th{α β:Type}{m:Sem α}{f:α->Sem β}{Q:β->Shared->Prop}{s:Shared}(h:wpAny (model pw w) A m (λa s'=>wpAny (model pw w) A (f a) Q E s') E s):wpAny (model pw w) A (m >>= f) Q E s:=wpAny_bind h
theorem wm{α:Type}{m:Sem α}{Q Q':α->Shared->Prop}{s:Shared}(h:wpAny (model pw w) A m Q E s)(k:∀ a s',Q a s'->Q' a s'):wpAny (model pw w) A m Q' E s:=wpAny_mono h k λ_ _ x=>x
theorem Ok.mono{α β:Type}{P:Gh->β->α->Prop}{Id:List Addr}{xt:Bool}{G:Gh}{s:Shared}{Q Q':β->Shared->Prop}{x:R α}(h:Ok w Gm xt P Id L G s x Q E)(k:∀ v s',Q v s'->Q' v s'):Ok w Gm xt P Id L G s x Q' E:=by
 induction x with
 | ok d σ'=>exact λv s' G' e x p=>k _ _ (h v s' G' e x p)
 | exc σ'=>exact h
 | stuck=>exact h
theorem p0(S:bt w Gm H_ r){op:BoolOp}{pos:Pos}:∀ {es:List Expr} {G:Gh} {s:Shared} {Q:Value->Shared->Prop},Inv w Gm G s.heap->Fm w H_ A G s.heap env L sc fr->Ok w Gm true (rep w) [] L G s (uP r sc fr op es G.σ) Q E →
  wpAny (model pw w) A (boolOp pos op (evalEach es env)) Q E s
 | [],G,s,Q,I,F,h=>(h:False).elim
 | [e],G,s,Q,I,F,h=>S.ev I F h
 | e::e2::es,G,s,Q,I,F,h=>by
  refine th (wm (bC (Gs:=λv Go=>wpAny (model pw w) A (truthy v) (λt Gv=>wpAny (model pw w) A (match op,t with | .And,false | .Or,true=>pure v | _,_=>boolOp pos op (evalEach (e2::es) env)) Q E Gv) E Go) S I F h λv Go Gn d R Gz Gx rv Gu=>?_) λv Go z=>th (wpAny_standAt (th (wpAny_holding z))));refine kt Gz rv (Ok.bind (G9:=[]) (Hh:=iG) (λ_ q=>q) Gu λb Gv GB b' Gw e Gy=>?_);subst e;have go:Ok w Gm true (rep w) [] L GB Gv (uP r sc fr op (e2::es) GB.σ) Q E->wpAny (model pw w) A (boolOp pos op (evalEach (e2::es) env)) Q E Gv:=λh=>p0 S Gw.inv (Gx.on Gw) h
  induction op <;> induction b
  ·exact wpAny_pure (Ok.now Gw.inv Gy (Gw.rep rv))
  ·exact go Gy
  ·exact go Gy
  ·exact wpAny_pure (Ok.now Gw.inv Gy (Gw.rep rv))
theorem nZ(S:bt w Gm H_ r){op:BoolOp}:∀ {es:List Expr} {G:Gh} {s:Shared} {Q:Bool->Shared->Prop},Inv w Gm G s.heap->Fm w H_ A G s.heap env L sc fr->Ok w Gm true iG [] L G s (CG r sc fr op es G.σ) Q E →
  wpAny (model pw w) A (allTrue op es env) Q E s
 | [],G,s,Q,I,F,h=>wpAny_pure (Ok.now I h rfl)
 | e::es,G,s,Q,I,F,h=>by
  dsimp only[arm_allTrue_cons];refine th (j4 S I F h λb Go Gn R Gz Gx Gu=>?_)
  induction op <;> induction b
  ·exact wpAny_pure (Ok.now Gz Gu rfl)
  ·exact nZ S Gz Gx Gu
  ·exact nZ S Gz Gx Gu
  ·exact wpAny_pure (Ok.now Gz Gu rfl)
theorem uY{op:CmpOp}{a b:D}{va vb:Value}{G:Gh}{s:Shared}{α β:Type}{P:Gh->β->α->Prop}{Q:β->Shared->Prop}{f:Bool->M α}{Gs:Value->Shared->Prop}(m:Rm A)(I:Inv w Gm G s.heap)(ra:Rep w G.B G.ρ va a)(rb:Rep w G.B G.ρ vb b)
  (h:Ok w Gm true P [] L G s (bnd (ae op a b) f G.σ) Q E) (k:∀ c Go Gn,Rn w Gm true [] G s Gn Go->Ok w Gm true P [] L Gn Go (f c Gn.σ) Q E->Gs (.bool c) Go):wpAny (model pw w) A (compareOp op va vb) Gs E s:=
 sI m I ra rb (Ok.bind (G9:=[]) (Hh:=iG) (λ_ q=>q) h λb Gv GB b' Gw e Gy=>by induction e;exact k b Gv GB Gw Gy)
theorem mQ(S:bt w Gm H_ r){pos:Pos}:∀ {ops:List CmpOp} {es:List Expr} {a:D} {va:Value} {G:Gh} {s:Shared} {Q:Value->Shared->Prop},ops.length=es.length->Inv w Gm G s.heap->Fm w H_ A G s.heap env L sc fr->Rep w G.B G.ρ va a →
  Ok w Gm true iG [] L G s (kq r sc fr a ops es G.σ) (λb s'=>Q (.bool b) s') E->wpAny (model pw w) A (compareChain pos va ops (evalEach es env)) Q E s
 | [],_,a,va,G,s,Q,hl,I,F,ra,h=>by induction ‹List Expr› using List.casesOn <;> exact(h:False).elim
 | op::ops,[],a,va,G,s,Q,hl,I,F,ra,h=>by simp at hl
 | [op],e::e2::es,a,va,G,s,Q,hl,I,F,ra,h=>by simp at hl
 | op::op'::ops,[e],a,va,G,s,Q,hl,I,F,ra,h=>by simp at hl
 | [op],[e],a,va,G,s,Q,hl,I,F,ra,h=>chain_last (bC S I F h λv Go Gn d R Gz Gx rv Gu=>sI Gx.rm Gz (R.rep ra) rv Gu)
 | op::op'::ops,e::e2::es,a,va,G,s,Q,hl,I,F,ra,h=>by
  refine chain_link (bC S I F h λv Go Gn d R Gz Gx rv Gu=>uY Gx.rm Gz (R.rep ra) rv Gu λc Gv GB Gw Gy=>wpAny_truthy_bool ?_)
  induction c
  ·exact Ok.now Gw.inv Gy rfl
  ·exact mQ S (by simpa using hl) Gw.inv (Gx.on Gw) (Gw.rep rv) Gy
theorem p_(S:bt w Gm H_ r){pos:Pos}:∀ {ops:List CmpOp} {es:List Expr} {a:D} {va:Value} {G:Gh} {s:Shared} {Q:Bool->Shared->Prop},ops.length=es.length->Inv w Gm G s.heap->Fm w H_ A G s.heap env L sc fr->Rep w G.B G.ρ va a →
  Ok w Gm true iG [] L G s (kq r sc fr a ops es G.σ) Q E->wpAny (model pw w) A (testChain pos va ops (evalEach es env)) Q E s
 | [],_,a,va,G,s,Q,hl,I,F,ra,h=>by induction ‹List Expr› using List.casesOn <;> exact(h:False).elim
 | op::ops,[],a,va,G,s,Q,hl,I,F,ra,h=>by simp at hl
 | [op],e::e2::es,a,va,G,s,Q,hl,I,F,ra,h=>by simp at hl
 | op::op'::ops,[e],a,va,G,s,Q,hl,I,F,ra,h=>by simp at hl
 | [op],[e],a,va,G,s,Q,hl,I,F,ra,h=>test_last (bC S I F h λv Go Gn d R Gz Gx rv Gu=>wm (sI (Q:=λv s'=>∃ b,v=.bool b/\Q b s') Gx.rm Gz (R.rep ra) rv (Ok.mono Gu λb s' q=>⟨b,rfl,q⟩)) λv s' ⟨b,e,q⟩=>by exact e ▸ (wpAny_truthy_bool q))
 | op::op'::ops,e::e2::es,a,va,G,s,Q,hl,I,F,ra,h=>by
  refine test_link (bC S I F h λv Go Gn d R Gz Gx rv Gu=>uY Gx.rm Gz (R.rep ra) rv Gu λc Gv GB Gw Gy=>wpAny_truthy_bool ?_);obtain⟨⟩:=c
  ·exact Ok.now Gw.inv Gy rfl
  ·exact p_ S (by simpa using hl) Gw.inv (Gx.on Gw) (Gw.rep rv) Gy
theorem yc(o:Expr)(attr:Str)(whole:Sem Value):attributeBase o attr env whole=if bU o=true then whole else attributeBase o attr env whole:=by
 induction o using Expr.casesOn with
 | Call f as ks p=>
  induction f using Expr.casesOn with
  | Name id p2=>
   induction as using List.casesOn with
   | cons=>rfl
   | nil=>
    induction ks using List.casesOn with
    | cons=>rfl
    | nil=>refine PW (P_ (bU (.Call (.Name id p2) [] [] p)=true)) (λhn=>?_) λhn=>(PZ hn).symm;refine PX ?_ (PY hn).symm;exact PY (congrArg (λb:Bool=>b||_||_||_) (show(id !=("super" : Str))=true from hn))
  | _=>rfl
 | _=>rfl
theorem AD{o:Expr}{attr:Str}{whole:Sem Value}(hp:bU o=true):attributeBase o attr env whole=whole:=(yc o attr whole).trans (PY hp)
theorem g7{o:Expr}{attr:Str}{whole:Sem Value}{s:Shared}{Q:Value->Shared->Prop}(hp:bU o=true)(h:wpAny (model pw w) A whole Q E s):wpAny (model pw w) A (attributeBase o attr env whole) Q E s:=(AD hp).symm ▸ h
theorem yd(X:Cx w Gm mg mb)(S:bt w Gm H_ r){o:Expr}{a:Str}{pos:Pos}{G:Gh}{s:Shared}{Q:Value->Shared->Prop}(I:Inv w Gm G s.heap)(F:Fm w H_ A G s.heap env L sc fr)(hp:bU o=true)
  (h:Ok w Gm true (rep w) [] L G s (bnd (r.ev sc fr o) (λov=>aB ov a) G.σ) Q E):wpAny (model pw w) A (eval (.Attribute o a pos) env) Q E s:=by
 simp only[arm_eval_Attribute];refine th (g7 hp (bC S I F h λv Go Gn d R Gz Gx rv Gu=>th (wpAny_standAt (th (wpAny_holding (Au (xt:=true) (Id:=[]) (Lf:=L) X Gz rv ?_))))));refine Ok.mono Gu λv s' q=>th (wpAny_letTemporaryGo (wpAny_pure q))
theorem sU(i:Expr)(v u:Value):subscripted i false v u=if iA i=true then subscripted i false v u else operate [v,u] (getItem v u):=by induction i using Expr.casesOn <;> rfl
theorem n_{i:Expr}{v u:Value}(h:iA i=false):subscripted i false v u=operate [v,u] (getItem v u):=(sU i v u).trans (PZ λq=>fD (h.symm.trans q))
theorem AE(S:bt w Gm H_ r){o i:Expr}{pos:Pos}{G:Gh}{s:Shared}{Q:Value->Shared->Prop}(I:Inv w Gm G s.heap)(F:Fm w H_ A G s.heap env L sc fr)(hp:iA i=false)
  (h:Ok w Gm true (rep w) [] L G s (bnd (r.ev sc fr o) (λov=>bnd (r.ev sc fr i) λiv=>subD ov iv) G.σ) Q E):wpAny (model pw w) A (eval (.Subscript o i pos) env) Q E s:=by
 refine Subscript_ (bC S I F h λv Go Gn d R Gz Gx rv Gu=>bC S Gz Gx Gu λu Gv GB HG Gw GL GM ru Gy=>?_);refine ar (Aq GM.rm GL (Gw.rep rv) ru Gy) λT id h1 h2 h3=>?_;exact tail_any (ops:=[v,u]) h2 h1 h3 (n_ hp)
theorem gp(S:bt w Gm H_ r){G:Gh}{s:Shared}(I:Inv w Gm G s.heap)(F:Fm w H_ A G s.heap env L sc fr){α β:Type}{P:Gh->β->α->Prop}{Q:β->Shared->Prop}{e:Expr}{f:D->M α}(h:Ok w Gm true P [] L G s (bnd (r.ev sc fr e) f G.σ) Q E)
  {Gs:Value->Shared->Prop} (k:∀ v Go Gn d,r.ev sc fr e G.σ=.ok d Gn.σ->Rn w Gm true [] G s Gn Go->Inv w Gm Gn Go.heap->Fm w H_ A Gn Go.heap env L sc fr->Rep w Gn.B Gn.ρ v d->Ok w Gm true P [] L Gn Go (f d Gn.σ) Q E->Gs v Go):wpAny (model pw w) A (eval e env) Gs E s:=by
 refine S.ev I F ?_;unfold bnd at h
 induction hm:r.ev sc fr e G.σ with
 | ok d σ'=>rw[hm]at h;intro v s' G' e x p;subst e;exact k v s' G' d hm x x.inv (F.on x) p (h.shift x)
 | exc σ'=>replace h:=(hm) ▸ h;exact λx s' G' e y p=>h x s' G' e y p
 | stuck=>rw[hm]at h;exact h
theorem j5(S:bt w Gm H_ r){G:Gh}{s:Shared}(I:Inv w Gm G s.heap)(F:Fm w H_ A G s.heap env L sc fr){α β:Type}{P:Gh->β->α->Prop}{Q:β->Shared->Prop}{o:Option Expr}{f:D->M α}(h:Ok w Gm true P [] L G s (bnd (DJ r sc fr o) f G.σ) Q E)
  {Gs:Value->Shared->Prop} (k:∀ v Go Gn d,Rn w Gm true [] G s Gn Go->Inv w Gm Gn Go.heap->Fm w H_ A Gn Go.heap env L sc fr->Rep w Gn.B Gn.ρ v d->Ok w Gm true P [] L Gn Go (f d Gn.σ) Q E->Gs v Go):wpAny (model pw w) A (evalPart o env) Gs E s:=by
 induction o with
 | none=>exact wpAny_pure (k _ s G .none (.refl I) I F .none h)
 | some e=>exact bC S I F h k
theorem sV{o lo hi:D}{σ:St}(h:bu o lo hi σ≠.stuck):(∃ x,o=.str x)\/(∃ l,o=.list l)\/∃ i,o=.ref i:=by induction o using D.casesOn <;> first | exact absurd rfl h | exact .inl ⟨_,rfl⟩ | exact .inr (.inl ⟨_,rfl⟩) | exact .inr (.inr ⟨_,rfl⟩)
theorem wc(S:bt w Gm H_ r){o:Expr}{lo hi:Option Expr}{p pos:Pos}{G:Gh}{s:Shared}{Q:Value->Shared->Prop}(I:Inv w Gm G s.heap)(F:Fm w H_ A G s.heap env L sc fr)(hp:xI o=true)
  (h:Ok w Gm true (rep w) [] L G s (bnd (r.ev sc fr o) (λov=>bnd (DJ r sc fr lo) λl=>bnd (DJ r sc fr hi) λh=>bu ov l h) G.σ) Q E):wpAny (model pw w) A (eval (.Subscript o (.Slice lo hi none p) pos) env) Q E s:=by
 have ht:∀ a r,letTemporaryGo o a r=pure ():=Expr.Name.elim (motive_1:=λo=>∀ a r,letTemporaryGo o a r=pure ()) o (eq_of_beq hp) λ_ _ _ _=>rfl;rcases P_ (∃ x σ',r.ev sc fr o G.σ=.ok (.str x) σ') with hs | hs
 ·refine gD hs λx σ' hx=>?_;refine wpAny_Subscript_str_slice (gp S I F h λv Go Gn d e R Gz Gx rv Gu=>j5 S Gz Gx Gu λvl Gv GB dl Gw GL GM rl Gy=>j5 S GL GM Gy λvh GC GI dh GD G_ GX rh GG=>?_) ht;replace e:=(hx) ▸ e;cases e;obtain⟨t,rfl⟩:=rv.str';refine ar (nP (t:=t) G_ (GD.rep rl) rh GG) λl u e1 e2 q=>?_;exact⟨x,t,l,u,rfl,e1,e2,q⟩
 ·refine wpAny_Subscript_list_slice (gp S I F h λv Go Gn d e R Gz Gx rv Gu=>j5 S Gz Gx Gu λvl Gv GB dl Gw GL GM rl Gy=>j5 S GL GM Gy λvh GC GI dh GD G_ GX rh GG=>?_) ht;have rr:=(GD.rep (Gw.rep rv)).inv;refine PW (sV λq=>by rw[q]at GG;exact GG) (λq=>PU q λx z=>absurd ⟨x,Gn.σ,e.trans (congrArg (λd=>Mine.R.ok d Gn.σ) z)⟩ hs) λq=>PW q (λq=>PU q λds z=>?_) λq=>PU q λi z=>?_
  ·rw[z]at rr GG;refine ar rr λa vs ev hb hr=>?_;refine sq (gQ G_ (hb.list G_.stays) hr (GD.rep rl) rh GG) λz lo' hi' p1 p2 q=>?_;exact⟨_,_,lo',hi',ev,hb.list G_.stays,z,p1,p2,q⟩
  ·rw[z]at rr GG;refine am rr λa ev ha=>?_;refine am (bQ GG) λc hc GG=>?_
   induction c <;> try exact(GG:False).elim
   refine aJ (G_.cell _ _ _ ha hc) λvs n hl hr=>?_;have hl':GC.heap.IsList _ vs.toArray:=⟨_,hl,rfl,n,rfl⟩;refine sq (gQ G_ hl' hr (GD.rep rl) rh GG) λz lo' hi' p1 p2 q=>?_;exact⟨_,_,lo',hi',ev,hl',z,p1,p2,q⟩
theorem wd{c:Const}{k:Nat}{pos:Pos}{G:Gh}{s:Shared}{Q:Value->Shared->Prop}(I:Inv w Gm G s.heap)(h:Ok w Gm true (rep w) [] L G s (xF c G.σ) Q E):wpAny (model pw w) A (eval (.Constant c k pos) env) Q E s:=by
 induction c using Const.casesOn <;> try exact(h:False).elim
 ·exact Constant_none (Ok.now I h .none)
 ·exact Constant_bool (h.boolV I)
 ·exact wpAny_Constant_int (h.int I _ _)
 ·exact Constant_str (h.strV I _ _)
theorem ye(S:bt w Gm H_ r){es:List Expr}{pos:Pos}{G:Gh}{s:Shared}{Q:Value->Shared->Prop}(I:Inv w Gm G s.heap)(F:Fm w H_ A G s.heap env L sc fr)
  (h:Ok w Gm true (rep w) [] L G s (bnd (uO r sc fr es) (λl=>if ao l.length then ret (.list l) else stuck) G.σ) Q E):wpAny (model pw w) A (eval (.List es pos) env) Q E s:=by
 refine wpAny_List (nY S I F h λvs Go Gn ds R Gz Gx rl Gu=>?_);refine PV (λhl Gu=>?_) (Ok.ite Gu);have hl:=aW hl;exact⟨by simp only[rl.length,bB];lia,Gu.frozen Gz _ rfl _ λB hB e=>.list ⟨_,0,e,rfl,rfl⟩ (rl.mono hB ⟨[],by simp⟩)⟩
theorem we(S:bt w Gm H_ r){es:List Expr}{k:Nat}{pos:Pos}{G:Gh}{s:Shared}{Q:Value->Shared->Prop}(I:Inv w Gm G s.heap)(F:Fm w H_ A G s.heap env L sc fr)
  (h:Ok w Gm true (rep w) [] L G s (bnd (uO r sc fr es) (λl=>if ao l.length then ret (.tup l) else stuck) G.σ) Q E):wpAny (model pw w) A (eval (.Tuple es k pos) env) Q E s:=by
 refine wpAny_Tuple (nY S I F h λvs Go Gn ds R Gz Gx rl Gu=>?_);obtain⟨hl,Gu⟩:=Ok.ite Gu;have hl:=aW hl;exact⟨by simp only[rl.length,bB];omega,Gu.frozen Gz _ rfl _ λB hB e=>.tup ⟨_,0,e,rfl,rfl⟩ (rl.mono hB ⟨[],by simp⟩)⟩
end
end
section
variable{w:World}{Gm:Heap}{mg mb:Str->Option Value}
theorem qa{A:Around}{C:Addr}{vs:List Value}:(A.under (.builtin "type.__call__" ⟨.ref C::vs,[]⟩)).handled=A.handled/\(A.under (.builtin "type.__call__" ⟨.ref C::vs,[]⟩)).frames=A.frames ∧
  (A.under (.builtin "type.__call__" ⟨.ref C::vs,[]⟩)).depth<=A.depth+1/\(A.under (.builtin "type.__call__" ⟨.ref C::vs,[]⟩)).units<=A.units+4:=by
 obtain⟨hd,d,fr,gs,u⟩:=A;have e1:(Code.builtin "type.__call__" ⟨.ref C::vs,[]⟩).envs=[]:=by kernel_rfl
 have e2:(Code.builtin "type.__call__" ⟨.ref C::vs,[]⟩).weight=1:=by kernel_rfl
 have e3:(Code.builtin "type.__call__" ⟨.ref C::vs,[]⟩).cUnits=1:=by kernel_rfl
 refine⟨rfl, ?_, ?_, ?_⟩
 ·show pushEnvs (Code.builtin "type.__call__" ⟨.ref C::vs,[]⟩).envs fr=fr;exact e1 ▸ rfl
 ·show d+(Code.builtin "type.__call__" ⟨.ref C::vs,[]⟩).weight<=d+1;lia
 ·show u+(Code.builtin "type.__call__" ⟨.ref C::vs,[]⟩).cUnits<=u+4;lia
theorem qb:∀ {x g:Str},cA x=some g->g≠nm "law" ∧ (x,nm "__init__",g)∈methTab:=by
 intro x g h;unfold cA at h
 by_cases h1:x=nm "Memory"
 ·replace h:=(PY h1) ▸ h;cases h;subst h1;exact⟨by decide +kernel,by unfold methTab;simp⟩
 ·replace h:=(PZ h1) ▸ h
  by_cases h2:x=nm "Run"
  ·replace h:=(PY h2) ▸ h;cases h;subst h2;exact⟨by decide +kernel,by unfold methTab;simp⟩
  ·replace h:=(PZ h2) ▸ h
   by_cases h3:x=nm "Limits"
   ·replace h:=(PY h3) ▸ h;cases h;subst h3;exact⟨by decide +kernel,by unfold methTab;simp⟩
   ·replace h:=(PZ h3) ▸ h;exact du h
section
variable{H_:Nat}{A:Around}{env:Env}{L:Addr}{sc:Sc}{fr:af}{E:Value->Shared->Prop}{G:Gh}{s:Shared}
theorem Amb.rn{G':Gh}{s':Shared}{xt:Bool}{Id:List Addr}(F:Amb w H_ A G s.heap L)(R:Rn w Gm xt Id G s G' s'):Amb w H_ A G' s'.heap L:=
 ⟨F.handled,F.depth,F.units,let ⟨e,o,h1,h2,h3⟩:=F.stk;⟨e,o,h1,h2,h3.rn R.slack⟩⟩
theorem kJ{G:Gh}{h:Heap}{a:Addr}(e:h.get? a=some emptyDict):CellAt w G h a (.sdict []):=
 ⟨[],⟨_,#[],0,e,⟨rfl,rfl,rfl⟩,rfl,λ_ he=>by simp at he,.nil,List.nodup_nil⟩,.nil⟩
theorem kK{x:Str}{C:Addr}{v:Value}(hC:clsTab.lookup x=some C)(hv:iE w x=some v):v=.ref C/\jz w x C:=by have c:=List.all_eq_true.mp (jg w.params) _ (aX hC);dsimp only[jC]at c;simp only[Bool.and_eq_true,beq_iff_eq]at c;have c1:=c.1.1.1.1.1;unfold iE at hv;replace hv:=(c1) ▸ hv;cases hv;exact⟨rfl,c1⟩
theorem yf{call:Str->List D->M D}(X:Cx w Gm mg mb)(C:nX w Gm H_ call){x g:Str}{as:List D}{v:Value}{vs:List Value}{Q:Value->Shared->Prop}(I:Inv w Gm G s.heap)(F:Amb w H_ A G s.heap L)(hd:A.depth+4*H_+6<recursionLimit)(hu:A.units+20*H_+210<cLine)
  (hi:cA x=some g) (hv:iE w x=some v) (ra:RepL w G.B G.ρ vs as)
  (h:Ok w Gm true (rep w) [] L G s (bnd (d_ (.sdict [])) (λi=>bnd (call g (.inst x i::as)) λr=>if isNone r then ret (.inst x i) else stuck) G.σ) Q E):wpAny (model pw w) A (PySem.call v vs) Q E s:=by
 refine PV (λhgl hm=>?_) (qb hi);refine eO (jh hm w.params) λCl a ij z1=>?_;refine bp z1 λhC hf hmk hfi hty=>?_;refine PV (λzz0 hca=>?_) (kK hC hv);obtain rfl:=zz0;refine wpAny_call ?_;have K:=I.K X;obtain⟨hh,gs,dr,t,os⟩:=s;have R1:=uS (xt:=true) (Id:=[]) (s:=⟨hh,gs,dr,t,os⟩) I emptyDict (.sdict []) t (λh' _ e=>kJ e) rfl;refine PV (λR2 eB=>?_) (mM (xt:=true) (Id:=[]) R1.inv (instObj Cl hh.objs.size) rfl t);have R:=R1.trans R2;refine make_core (makes_of K hmk) (looks_findIn K hfi) (λself=>bind_fn K self hty) (.inl rfl) ?_;have hsz:(hh.push emptyDict).objs.size=hh.objs.size+1:=Heap.size_push ..;refine cO (qa (A:=A) (C:=Cl) (vs:=vs)) λu1 u2 u3 u4=>?_;have FA:=F.rn R;have idx:((G.more hh.objs.size (.sdict [])).add (hh.push emptyDict).objs.size (instObj Cl hh.objs.size)).ρ[G.σ.length]?=some hh.objs.size:=by show(G.ρ++[hh.objs.size])[G.σ.length]?=_;simp only[<-I.len,List.getElem?_append_right (Nat.le_refl _),Nat.sub_self];rfl
 have ri:Rep w ((G.more hh.objs.size (.sdict [])).add (hh.push emptyDict).objs.size (instObj Cl hh.objs.size)).B ((G.more hh.objs.size (.sdict [])).add (hh.push emptyDict).objs.size (instObj Cl hh.objs.size)).ρ (.ref (hh.objs.size+1)) (.inst x G.σ.length):=by rw[<-hsz];exact .inst eB idx hca (by exact congrArg _ hi)
 refine codeAny_mono (C.snd (A:=A.under (.builtin "type.__call__" ⟨.ref Cl::vs,[]⟩)) (L:=L) (G:=(G.more hh.objs.size (.sdict [])).add (hh.push emptyDict).objs.size (instObj Cl hh.objs.size)) (s:=⟨(hh.push emptyDict).push (instObj Cl hh.objs.size),gs,dr,t,os⟩) (as:=.inst x G.σ.length::as) (Q:=λv s'=>v=.none/\Q (.ref (hh.objs.size+1)) s') (E:=E)
  hgl R.inv ⟨u1.trans F.handled,by lia,by lia,by exact FA.stk⟩ (.cons ri (R.repL ra)) hf ?_) λr s' z=>?_
 ·have h':=h;have h2:=h'.shift R;refine Ok.bind (G9:=[]) (G:=(G.more hh.objs.size (.sdict [])).add (hh.push emptyDict).objs.size (instObj Cl hh.objs.size)) (λ_ q=>q) h2 λv Go Gn d GF rv GG=>?_;refine PV (λhn GG=>?_) (Ok.ite GG);have:d=.none:=by induction d using D.casesOn <;> first | rfl | exact fD hn
  subst this;obtain rfl:=rv.inv;exact⟨rfl,Ok.now GF.inv GG (GF.rep ri)⟩
 ·rcases r with e | (v | _ | _ | _) <;> first | exact z | exact z.elim
theorem AF{x:Str}{as:List D}{v:Value}{Q:Value->Shared->Prop}(hb:bootBuiltins x=some v)(h:Ok w Gm true (rep w) [] L G s (au x as G.σ) Q E):∀ a,v≠.ref a:=by
 refine bp j3 λb1 b2 b3 b4 z2=>?_;refine gX z2 λb5 b6 b7 b8 b9 b10=>?_;unfold au at h;have go:∀ {n:String} {u:Value},bootBuiltins (nm n)=some u->(∀ a,u≠.ref a)->x=nm n->∀ a,v≠.ref a:=λhu hn e=>by subst e;replace hu:=(hb) ▸ hu;cases hu;exact hn
 by_cases q:x=nm "len"
 ·exact go b1 (λ_ e=>by injection e) q
 rw[PZ q]at h;clear q
 by_cases q:x=nm "abs"
 ·exact go b2 (λ_ e=>by injection e) q
 rw[PZ q]at h;clear q
 by_cases q:x=nm "min"
 ·exact go b3 (λ_ e=>by injection e) q
 rw[PZ q]at h;clear q
 by_cases q:x=nm "max"
 ·exact go b4 (λ_ e=>by injection e) q
 rw[PZ q]at h;clear q
 by_cases q:x=nm "range"
 ·exact go b5 (λ_ e=>by injection e) q
 rw[PZ q]at h;clear q
 by_cases q:x=nm "divmod"
 ·exact go b6 (λ_ e=>by injection e) q
 rw[PZ q]at h;clear q
 by_cases q:x=nm "list"
 ·exact go b7 (λ_ e=>by injection e) q
 rw[PZ q]at h;clear q
 by_cases q:x=nm "tuple"
 ·exact go b8 (λ_ e=>by injection e) q
 rw[PZ q]at h;clear q
 by_cases q:x=nm "isinstance"
 ·exact go b9 (λ_ e=>by injection e) q
 rw[PZ q]at h;exact(h:False).elim
theorem yg{call:Str->List D->M D}{f:D}{as:List D}{σ:St}(h:bP call f as σ≠.stuck):(∃ x,f=.fn x)\/∃ x,f=.blt x:=by induction f using D.casesOn <;> first | exact absurd rfl h | exact .inl ⟨_,rfl⟩ | exact .inr ⟨_,rfl⟩
set_option tactic.hygienic true in
theorem AG{call:Str->List D->M D}(X:Cx w Gm mg mb)(C:nX w Gm H_ call){f:D}{as:List D}{v:Value}{vs:List Value}{Q:Value->Shared->Prop}(I:Inv w Gm G s.heap)(F:Amb w H_ A G s.heap L)(hd:A.depth+4*H_+6<recursionLimit)(hu:A.units+20*H_+210<cLine)
  (rv:Rep w G.B G.ρ v f) (ra:RepL w G.B G.ρ vs as) (h:Ok w Gm true (rep w) [] L G s (bP call f as G.σ) Q E) :
  (∃ k,(k=Keeper.frame\/k=Keeper.machine\/k=Keeper.boundFrame)/\Looks (model pw w) s.heap (keeperOf v) k)/\wpAny (model pw w) A (PySem.call v vs) Q E s:=by
 refine PW (yg λq=>by rw[q]at h;exact h) (λq=>PU q λx z=>?_) λq=>PU q λx z=>?_
 ·rw[z]at rv h;unfold bP at h;dsimp only at h;have hv:iE w x=some v:=rv.inv
  induction hi:cA x with
  | some g=>rw[hi]at h;refine⟨?_,yf X C I F hd hu hi hv ra h⟩;obtain⟨hgl,hm⟩:=qb hi;refine eO (jh hm w.params) λCl a ij z3=>?_;refine bp z3 λhC hf hmk hfi hty=>?_;obtain⟨y2,hca⟩:=kK hC hv;rw[y2];have c:=List.all_eq_true.mp (x8 w.params) _ (aX hC);exact keeps_K (P8 c).1 _ (I.K X)
  | none=>
   replace h:=(hi) ▸ h;dsimp only at h
   by_cases hl:x=nm "law"
   ·replace h:=(PY hl) ▸ h;exact(h:False).elim
   replace h:=(PZ hl) ▸ h
   induction hx:fnAddr.lookup x with
   | none=>rw[C.dom x as _ hx]at h;exact(h:False).elim
   | some p=>obtain⟨a,ij⟩:=p;obtain rfl:=CP hx w.params hv;exact⟨keeps_K (uX hx w.params) _ (I.K X),wpAny_call (C.snd hl I F ra hx h)⟩
 ·rw[z]at rv h;replace h:Ok w Gm true (rep w) [] L G s (au x as G.σ) Q E:=h;have hb:bootBuiltins x=some v:=rv.inv;refine⟨⟨.machine,.inr (.inl rfl),Looks.of_pure ?_⟩,CN F.rm I hb ra h⟩;have:=AF hb h
  induction v <;> first | rfl | exact(this _ rfl).elim
theorem eW{pos:Pos}:∀ {es:List Expr},cB es=true->(backTo pos (starEach es env)).any (·.1)=false
 | [],_=>rfl
 | e::es,h=>by rw[eU (cD h).1];exact eW (cD h).2
theorem mR{call:Str->List D->M D}{r:Rc}(S:bt w Gm H_ r){pos:Pos}{es:List Expr}{v:Value}{first:List Value}{f:List D->M D}{Q:Value->Shared->Prop}(I:Inv w Gm G s.heap)(F:Fm w H_ A G s.heap env L sc fr)(hs:cB es=true)
  (h:Ok w Gm true (rep w) [] L G s (bnd (uO r sc fr es) f G.σ) Q E)
  (k:∀ vs Go Gn ds,Rn w Gm true [] G s Gn Go->Inv w Gm Gn Go.heap->Fm w H_ A Gn Go.heap env L sc fr->RepL w Gn.B Gn.ρ vs ds->Ok w Gm true (rep w) [] L Gn Go (f ds Gn.σ) Q E →
   (∃ k,(k=Keeper.frame\/k=Keeper.machine\/k=Keeper.boundFrame)/\Looks (model pw w) Go.heap (keeperOf v) k)/\wpAny (model pw w) A (PySem.call v (first++vs)) Q E Go) :
  wpAny (model pw w) A (callWith pos v first (backTo pos (starEach es env)) (backToKw pos (keywordEach [] env))) Q E s:=by
 refine callWith_of (P:=λhp=>∃ k,(k=Keeper.frame\/k=Keeper.machine\/k=Keeper.boundFrame)/\Looks (model pw w) hp (keeperOf v) k) (by rw[eW hs];rfl) (λ_ z=>z) ?_;have kk:(backToKw pos (keywordEach [] env))=[]:=rfl;simp only[kk]
 induction es using List.casesOn with
 | nil=>exact PySem.evalArgs_none (k [] s G [] (.refl I) I F .nil h)
 | cons e es=>have he:=eU (cD hs).1 es env;have:=nY (pos:=pos) S I F h k;rw[he]at this ⊢;exact evalArgs_plain this
theorem yh(o:Expr)(es:List Expr)(pos:Pos):eval (.Call o es [] pos) env=if nM o=true then eval (.Call o es [] pos) env else (do callWith pos (<-eval o env) [] (backTo pos (starEach es env)) (backToKw pos (keywordEach [] env))):=by induction o using Expr.casesOn <;> rfl
theorem yi{call:Str->List D->M D}{r:Rc}(X:Cx w Gm mg mb)(C:nX w Gm H_ call)(S:bt w Gm H_ r){o:Expr}{es:List Expr}{pos:Pos}{Q:Value->Shared->Prop}(I:Inv w Gm G s.heap)(F:Fm w H_ A G s.heap env L sc fr)(ha:nM o=false)(hs:cB es=true)
  (h:Ok w Gm true (rep w) [] L G s (bnd (r.ev sc fr o) (λfv=>bnd (uO r sc fr es) λas=>bP call fv as) G.σ) Q E):wpAny (model pw w) A (eval (.Call o es [] pos) env) Q E s:=by
 refine Call_ (bC S I F h λv Go Gn d R Gz Gx rv Gu=>?_) ((yh o es pos).trans (PZ λq=>fD (ha.symm.trans q)));exact mR (call:=call) (first:=[]) S Gz Gx hs Gu λvs Gv GB ds Gw GL GM ra Gy=>AG X C GL GM.amb GM.depth GM.units (Gw.rep rv) ra Gy
end
end
section
variable{w:World}{Gm:Heap}{mg mb:Str->Option Value}
noncomputable def D_(k:Mk)(f:Value):Prop:=match k with
 | .join=>f=.builtin "str.join"
 | .ljust=>f=.builtin "str.ljust"
 | .pop=>f=.builtin "list.pop"
 | .get=>f=.builtin "dict.get"
 | .items=>f=.builtin "dict.items"
 | .user g=>∃ a ij,f=.ref a/\fnAddr.lookup g=some (a,ij)/\g≠nm "law"
theorem yj:∀ {c m g:Str},jc c m=some g->g≠nm "law" ∧ (c,m,g)∈methTab:=by
 intro c m g h;unfold jc at h
 by_cases h1:c=nm "Memory"
 ·replace h:=(PY h1) ▸ h;refine PW (P_ (m=nm "load")) (λh2=>?_) λh2=>?_
  ·replace h:=(PY h2) ▸ h;cases h;subst h1 h2;exact⟨by decide +kernel,by unfold methTab;simp⟩
  ·replace h:=(PZ h2) ▸ h;refine PW (P_ (m=nm "store")) (λh3=>?_) λh3=>?_
   ·replace h:=(PY h3) ▸ h;cases h;subst h1 h3;exact⟨by decide +kernel,by unfold methTab;simp⟩
   ·replace h:=(PZ h3) ▸ h;injection h
 ·replace h:=(PZ h1) ▸ h;injection h
theorem wf{c:Str}{Cl:Addr}(hca:jz w c Cl)(hs:(cA c).isSome=true):plainGet (KH w.params) Cl c=true:=
 have band:∀ {a b:Bool},(a&&b)=true->a=true/\b=true:=P8
 (band (band (band (band (band (sK hca hs)).1).1).1).1).2
section
variable{H_:Nat}{A:Around}{env:Env}{L:Addr}{sc:Sc}{fr:af}{E:Value->Shared->Prop}{G:Gh}{s:Shared}
noncomputable def mS{α β:Type}(w:World)(Gm:Heap)(A:Around)(E:Value->Shared->Prop)(L:Addr)(G:Gh)(s:Shared)(P:Gh->β->α->Prop)(Q:β->Shared->Prop)(f:Mk->M α)(m:Str)(v:Value):Prop:=
 ∃ k u,(∀ (pl:Sem Bool) (Q':Value×List Value->Shared->Prop),Q' (u,[v]) s->wpAny (model pw w) A (getMethod v m pl) Q' E s)/\D_ k u/\Ok w Gm true P [] L G s (f k G.σ) Q E
section
variable{α β:Type}{P:Gh->β->α->Prop}{Q:β->Shared->Prop}{m:Str}{v:Value}{f:Mk->M α}
theorem j6{c:Prop}[Decidable c]{k:Mk}(h:Ok w Gm true P [] L G s (bnd (if c then ret k else stuck) f G.σ) Q E):c/\Ok w Gm true P [] L G s (f k G.σ) Q E:=by
 by_cases q:c
 ·rw[PY q]at h;exact⟨q,h⟩
 ·rw[PZ q]at h;exact(h:False).elim
theorem mT{i:Nat}{g:Cell->M Mk}(h:Ok w Gm true P [] L G s (bnd (bnd (cell i) g) f G.σ) Q E):∃ c,G.σ[i]?=some c/\Ok w Gm true P [] L G s (bnd (g c) f G.σ) Q E:=by
 unfold bnd cell at h;cases q:G.σ[i]? with
 | none=>replace h:=(q) ▸ h;exact(h:False).elim
 | some c=>rw[q]at h;exact⟨c,rfl,h⟩
theorem yk{x:Str}{t:Tok}(h:Ok w Gm true P [] L G s (bnd (if m=nm "join" then ret Mk.join else if m=nm "ljust" then ret Mk.ljust else stuck) f G.σ) Q E):mS w Gm A E L G s P Q f m (.str x t):=by
 by_cases hc:m=nm "join"
 ·rw[PY hc]at h;rw[hc];exact⟨.join,_,λpl Q' q=>getMethod_builtin (typeIs_str s x t) F.plainAttrs_str F.slot_str_join F.type_str_join (λa e=>by cases e) q,rfl,h⟩
 ·rw[PZ hc]at h;obtain⟨hc,h⟩:=j6 h;rw[hc];exact⟨.ljust,_,λpl Q' q=>getMethod_builtin (typeIs_str s x t) F.plainAttrs_str F.slot_str_ljust F.type_str_ljust (λa e=>by cases e) q,rfl,h⟩
theorem sW{a:Addr}{ob:Obj}(ho:s.heap.get? a=some ob)(hx:ob.ExactDict)(h:Ok w Gm true P [] L G s (bnd (if m=nm "items" then ret Mk.items else stuck) f G.σ) Q E):mS w Gm A E L G s P Q f m (.ref a):=by refine PV (λhc h=>?_) (j6 h);simp only[hc];exact⟨.items,_,λpl Q' q=>getMethod_builtin (T:="dict") ⟨_,ho,hx.1⟩ F.plainAttrs_dict F.slot_dict_items F.type_dict_items (λa e=>by cases e;exact⟨_,ho,hx.2.1⟩) q,rfl,h⟩
theorem qc{a:Addr}{ob:Obj}(ho:s.heap.get? a=some ob)(hx:ob.ExactDict)(h:Ok w Gm true P [] L G s (bnd (if m=nm "get" then ret Mk.get else stuck) f G.σ) Q E):mS w Gm A E L G s P Q f m (.ref a):=by refine PV (λhc h=>?_) (j6 h);simp only[hc];exact⟨.get,_,λpl Q' q=>getMethod_builtin (T:="dict") ⟨_,ho,hx.1⟩ F.plainAttrs_dict F.slot_dict_get F.type_dict_get (λa e=>by cases e;exact⟨_,ho,hx.2.1⟩) q,rfl,h⟩
theorem yl{a:Addr}{ob:Obj}(ho:s.heap.get? a=some ob)(h1:ob.cls=.type "list")(h2:ob.dict=none)(h:Ok w Gm true P [] L G s (bnd (if m=nm "pop" then ret Mk.pop else stuck) f G.σ) Q E):mS w Gm A E L G s P Q f m (.ref a):=by refine PV (λhc h=>?_) (j6 h);simp only[hc];exact⟨.pop,_,λpl Q' q=>getMethod_builtin (T:="list") ⟨_,ho,h1⟩ F.plainAttrs_list F.slot_list_pop F.type_list_pop (λa e=>by cases e;exact⟨_,ho,h2⟩) q,rfl,h⟩
theorem wg(X:Cx w Gm mg mb){c:Str}{i:Nat}{l:List (Str×D)}(I:Inv w Gm G s.heap)(rv:Rep w G.B G.ρ v (.inst c i))(hc:G.σ[i]?=some (.sdict l))(h:Ok w Gm true P [] L G s (bnd (if (aa l m).isNone then bnd (ac (jc c m)) λf=>ret (Mk.user f) else stuck) f G.σ) Q E):mS w Gm A E L G s P Q f m v:=by
 refine eO rv.inv λCl x dx z2=>?_;refine bp z2 λz1 hx hi hca hs=>?_;simp only[z1]
 by_cases hn:(aa l m).isNone=true
 ·replace h:=(PY hn) ▸ h;obtain⟨g,hg,h⟩ : ∃ g,jc c m=some g/\Ok w Gm true P [] L G s (f (.user g) G.σ) Q E:=by
   induction q:jc c m with
   | none=>replace h:=q ▸ h;exact(h:False).elim
   | some g=>rw[q]at h;exact⟨g,rfl,h⟩
  obtain⟨hgl,hm⟩:=yj hg;refine eO (jh hm w.params) λCl' a ij z3=>?_;refine bp z3 λhC hf hmk hfi hty=>?_;have e1:Cl'=Cl:=by have:=(kK hC (v:=.ref Cl) (by unfold iE;exact congrArg _ hca)).1;injection this with e;exact e.symm
  rw[e1]at hfi;refine dM (nR I hx hi hc) λkvs od hk hr ho hl IA=>?_;have f2:=wf hca hs;refine⟨.user g,.ref a,λpl Q' q=>method_fn (I.K X) IA (plainGet_of f2).1 (plainGet_of f2).2 hfi hty ?_ q,⟨a,ij,rfl,hf,hgl⟩,h⟩;have:=(bJ hr m).1 (Option.isNone_iff_eq_none.mp hn);show(lookIn m od).map _=_;rw[hl,this];rfl
 ·replace h:=(PZ hn) ▸ h;exact(h:False).elim
theorem ym(X:Cx w Gm mg mb){o:D}(I:Inv w Gm G s.heap)(rv:Rep w G.B G.ρ v o)(h:Ok w Gm true P [] L G s (bnd (a_ o m) f G.σ) Q E):mS w Gm A E L G s P Q f m v:=by
 induction o using D.casesOn with
 | str=>obtain⟨t,y1⟩:=rv.inv;exact y1 ▸ (yk h)
 | sdict=>refine aH rv.inv λ_ _ z4 ns z5 hr=>?_;rw[z4];obtain⟨ob,es,ep,ho,hx,_⟩:=z5;exact sW (I.stays _ _ ho) hx h
 | ref i=>
  refine am rv.inv λa z6 ha=>?_;simp only[z6];refine am (mT h) λc hc h=>?_;have C:=I.cell _ _ _ ha hc
  induction c with
  | list l=>refine aJ C λvs n hl hr=>?_;exact yl hl rfl rfl h
  | sdict l=>refine am C λkvs z7 _=>?_;obtain⟨ob,es,ep,ho,hx,_⟩:=z7;exact qc ho hx h
  | tdict l=>refine am C λkvs z8 _=>?_;obtain⟨ob,es,ep,ho,hx,_⟩:=z8;exact qc ho hx h
 | inst c i=>
  refine am (mT h) λce hc h=>?_
  induction ce with
  | sdict l=>exact wg X I rv hc h
  | _=>exact(h:False).elim
 | _=>exact(h:False).elim
end
section
variable{call:Str->List D->M D}{as:List D}{vs:List Value}{Q:Value->Shared->Prop}
theorem CT{x:Str}{t:Tok}(I:Inv w Gm G s.heap)(ra:RepL w G.B G.ρ vs as)(h:Ok w Gm true (rep w) [] L G s (one as (B6 x) G.σ) Q E):wpAny (model pw w) A (PySem.call (.builtin "str.join") (.str x t::vs)) Q E s:=by refine aH (Ok.one ra h) λa v _ z9 r h=>?_;rw[z9];refine iq (Ok.asList r h) λl _ _ z10 hb hr h=>?_;rw[z10];refine am (cj h) λys hy h=>?_;refine PV (λhn h=>?_) (Ok.ite h);exact PyProof.Rows.join_list (hb.list I.stays) (xY hr hy) hn λt' tk=>h.strV I t' tk
theorem AH{x:Str}{t:Tok}(I:Inv w Gm G s.heap)(ra:RepL w G.B G.ρ vs as)(h:Ok w Gm true (rep w) [] L G s (one as (xD x) G.σ) Q E):wpAny (model pw w) A (PySem.call (.builtin "str.ljust") (.str x t::vs)) Q E s:=by refine aH (Ok.one ra h) λa v _ z11 r h=>?_;subst z11;refine aJ (Ok.asInt r h) λn t' z12 h=>?_;rw[z12];refine PV (λhn h=>?_) (Ok.ite h);exact SC.ljust hn λt' tk=>h.strV I t' tk
theorem AI{v:Value}{l:List (Str×D)}(I:Inv w Gm G s.heap)(rv:Rep w G.B G.ρ v (.sdict l))(ra:RepL w G.B G.ρ vs as)(h:Ok w Gm true (rep w) [] L G s (xE l as G.σ) Q E):wpAny (model pw w) A (PySem.call (.builtin "dict.items") (v::vs)) Q E s:=by
 induction as using List.casesOn with
 | cons=>exact(h:False).elim
 | nil=>cases ra;refine aH rv.inv λad kvs z13 hns hb hr=>?_;obtain rfl:=z13;have hd:=hb.dict I.stays;refine call_meetsIn (T:="dict") PySem.F.slot_dict_items hd.mapOf.typeIs PySem.F.entry_dict_items (PySem.F.args_dict_items_1 _) (meets_dict_items (sk w) ad (by simpa using hns)) ⟨⟨_,hd⟩, ?_⟩;exact h.frozen I _ rfl _ λB hB e=>.items e rfl (.sdict hns (let ⟨o,es,ep,q,r⟩:=hb;⟨o,es,ep,hB _ _ q,r⟩) (hr.mono hB ⟨[],by simp⟩))
theorem Ea{i:Nat}{ad:Addr}(I:Inv w Gm G s.heap)(F:Amb w H_ A G s.heap L)(ha:G.ρ[i]?=some ad)(ra:RepL w G.B G.ρ vs as)(h:Ok w Gm true (rep w) [] L G s (one as (λa=>bnd (cell i) (DZ a)) G.σ) Q E):wpAny (model pw w) A (PySem.call (.builtin "dict.get") (.ref ad::vs)) Q E s:=by
 refine aH (Ok.one ra h) λa v _ z14 r h=>?_;rw[z14];refine am (bQ h) λc hc h=>?_;have Ce:=I.cell _ _ _ ha hc;have ns:(ad==sysModules)=false:=by simpa using I.sys _ (List.mem_of_getElem? ha)
 have hu:A.units+1<cLine:=by have:=F.units;lia
 induction c with
 | list=>exact(h:False).elim
 | sdict l=>
  refine am Ce λkvs hd hr=>?_
  induction a using D.casesOn with
  | str k=>
   obtain⟨t,y2⟩:=r.str';rw[y2];refine call_meetsIn PySem.F.slot_dict_get hd.mapOf.typeIs PySem.F.entry_dict_get (PySem.F.args_dict_get_2 _ _) (meets_dict_get (sk w) _ (jB _ _) ns) ⟨_,hd.mapOf, ?_⟩;refine h _ _ G rfl (bV I _) ?_;have lv:=bJ hr k
   revert lv
   induction aa l k with
   | none=>intro lv;exact(lv.1 rfl) ▸ .none
   | some d=>intro lv;refine am (lv.2 d rfl) λv e rv=>?_;exact e ▸ rv
  | tup t=>
   induction l using List.casesOn with
   | cons=>exact(h:False).elim
   | nil=>refine ar r.inv λ_ _ z15 z16 hl=>?_;rw[z15];obtain⟨o,n,ho,hcl,hdt⟩:=z16;refine am (cj h) λq hq h=>?_;cases hr;refine call_meetsIn (T:="dict") PySem.F.slot_dict_get hd.mapOf.typeIs PySem.F.entry_dict_get (PySem.F.args_dict_get_2 _ _) (meetsH_dict_get (tupleKind (ik w)) _ _ ns) ⟨hu,q,[],⟨o,_,n,I.stays _ _ ho,hcl,hdt,iI hl hq⟩,kC hd, ?_⟩;exact h _ _ G rfl (bV I _) .none
  | _=>exact(h:False).elim
 | tdict l=>
  refine am Ce λxs hd hr=>?_;refine iq (Ok.asTup r h) λt _ _ z17 z18 hl h=>?_;rw[z17];obtain⟨o,n,ho,hcl,hdt⟩:=z18;refine am (cj h) λq hq h=>?_;have hT:s.TypeIs (.ref ad) "dict":=by refine bA hd λod es ep hod hx _=>?_;exact⟨od,hod,hx.1⟩
  refine call_meetsIn (T:="dict") PySem.F.slot_dict_get hT PySem.F.entry_dict_get (PySem.F.args_dict_get_2 _ _) (meetsH_dict_get (tupleKind (ik w)) _ _ ns) ⟨hu,q,xs,⟨o,_,n,I.stays _ _ ho,hcl,hdt,iI hl hq⟩,hd, ?_⟩;refine h _ _ G rfl (bV I _) ?_;have lv:=jA hr q
  revert lv
  induction dA l q with
  | none=>intro lv;exact(lv.1 rfl) ▸ .none
  | some d=>intro lv;refine am (lv.2 d rfl) λp e rv=>?_;exact e ▸ rv
theorem Eb{i:Nat}{ad:Addr}(I:Inv w Gm G s.heap)(ha:G.ρ[i]?=some ad)(ra:RepL w G.B G.ρ vs as)(h:Ok w Gm true (rep w) [] L G s (one as (λa=>bnd (cell i) (D0 i a)) G.σ) Q E):wpAny (model pw w) A (PySem.call (.builtin "list.pop") (.ref ad::vs)) Q E s:=by
 refine aH (Ok.one ra h) λa v _ z19 r h=>?_;subst z19;refine am (bQ h) λc hc h=>?_;have Ce:=I.cell _ _ _ ha hc
 induction c with
 | list l=>
  induction l using List.casesOn with
  | nil=>exact(h:False).elim
  | cons x r0=>
   refine aJ (Ok.asInt r h) λn t z20 h=>?_;rw[z20];obtain⟨y3,h1⟩:=Ok.ite h;rw[y3];refine PV (λhn h2=>?_) (Ok.ite h1);have hn:=aW hn;refine aJ Ce λus n hl hr=>?_;cases hr with
   | @cons y _ ys _ hy hys=>
   refine call_meets (T:="list") PySem.F.slot_list_pop ⟨_,hl,rfl⟩ PySem.F.entry_list_pop (PySem.F.args_list_pop_2 _ _) (MeetsSeq.list_pop_at ad (y::ys).toArray n 0 t 0 y (rfl) (fV (by decide) (by simp)) (rfl) (by simp only[List.size_toArray,List.length_cons,hys.length,bB];lia)) ⟨hl, ?_⟩;have e:=Heap.get?_update_self (Obj.mapSeq λxs=>xs.eraseIdxIfInBounds 0) hl rfl;have er:(y::ys).toArray.eraseIdxIfInBounds 0=ys.toArray:=by simp
   have e2:(s.heap.update ad (Obj.mapSeq λxs=>xs.eraseIdxIfInBounds 0)).get? ad=some ⟨.type "list",none,.seq ((y::ys).toArray.eraseIdxIfInBounds 0) (if ((y::ys).toArray.eraseIdxIfInBounds 0).size==(y::ys).toArray.size then n else n+1),#[]⟩:=e;rw[er]at e2;exact h2 y _ (G.turn _ (.list _)) rfl (gl I _ ha (Heap.SameBut.update ..) λst=>⟨ys,_,e2,hys⟩) hy
 | _=>exact(h:False).elim
end
theorem yn{call:Str->List D->M D}(X:Cx w Gm mg mb)(C:nX w Gm H_ call){o:D}{k:Mk}{as:List D}{u v:Value}{vs:List Value}{Q:Value->Shared->Prop}(I:Inv w Gm G s.heap)(F:Amb w H_ A G s.heap L)
  (rv:Rep w G.B G.ρ v o) (ra:RepL w G.B G.ρ vs as) (hk:D_ k u) (h:Ok w Gm true (rep w) [] L G s (be call o k as G.σ) Q E) :
  (∃ k,(k=Keeper.frame\/k=Keeper.machine\/k=Keeper.boundFrame)/\Looks (model pw w) s.heap (keeperOf u) k)/\wpAny (model pw w) A (PySem.call u ([v]++vs)) Q E s:=by
 have mach:∀ {i:String},u=.builtin i->wpAny (model pw w) A (PySem.call (.builtin i) (v::vs)) Q E s->(∃ k,(k=Keeper.frame\/k=Keeper.machine\/k=Keeper.boundFrame)/\Looks (model pw w) s.heap (keeperOf u) k)/\wpAny (model pw w) A (PySem.call u ([v]++vs)) Q E s:=
  λe h=>by rw[e];exact⟨⟨.machine,.inr (.inl rfl),Looks.of_pure rfl⟩,h⟩
 induction k with
 | join=>refine aJ (Ok.asStr rv h) λx t z21 h=>?_;obtain rfl:=z21;exact mach hk (CT I ra h)
 | ljust=>refine aJ (Ok.asStr rv h) λx t z22 h=>?_;obtain rfl:=z22;exact mach hk (AH I ra h)
 | get=>
  cases o with
  | ref=>refine am rv.inv λad z23 ha=>?_;obtain rfl:=z23;exact mach hk (Ea I F ha ra h)
  | _=>exact(h:False).elim
 | pop=>
  cases o with
  | ref=>refine am rv.inv λad z24 ha=>?_;obtain rfl:=z24;exact mach hk (Eb I ha ra h)
  | _=>exact(h:False).elim
 | items=>
  induction o using D.casesOn with
  | sdict=>exact mach hk (AI I rv ra h)
  | _=>exact(h:False).elim
 | user f=>
  induction o using D.casesOn with
  | inst c i=>refine ar hk λa ij z25 hf hgl=>?_;exact z25 ▸ (⟨keeps_K (uX hf w.params) _ (I.K X),wpAny_call (C.snd hgl I F (.cons rv ra) hf h)⟩)
  | _=>exact(h:False).elim
end
end
section
variable{w:World}{Gm:Heap}{mg mb:Str->Option Value}
section
variable{H_:Nat}{A:Around}{env:Env}{L:Addr}{sc:Sc}{fr:af}{E:Value->Shared->Prop}{G:Gh}{s:Shared}
theorem ji{pos:Pos}:∀ {es:List Expr},cB es=true->(backTo pos (starEach es env)).all (λx=>!x.1)=true
 | [],_=>rfl
 | e::es,h=>by rw[eU (cD h).1];exact ji (cD h).2
theorem og{call:Str->List D->M D}{r:Rc}(X:Cx w Gm mg mb)(C:nX w Gm H_ call)(S:bt w Gm H_ r){o:Expr}{m:Str}{apos:Pos}{es:List Expr}{pos:Pos}{Q:Value->Shared->Prop}(I:Inv w Gm G s.heap)(F:Fm w H_ A G s.heap env L sc fr)
  (hp:bU o=true) (hl:(apos.endLine==pos.line)=true) (hn:es.length<20) (hs:cB es=true)
  (h:Ok w Gm true (rep w) [] L G s (bnd (r.ev sc fr o) (λov=>bnd (a_ ov m) λk=>bnd (uO r sc fr es) λas=>be call ov k as) G.σ) Q E):wpAny (model pw w) A (eval (.Call (.Attribute o m apos) es [] pos) env) Q E s:=by
 simp only[arm_eval_Call];refine th (g7 hp (bC S I F h λv Go Gn d R Gz Gx rv Gu=>th (wpAny_standAt ?_)));obtain⟨k,u,hg,hk,Gy⟩:=ym X Gz rv Gu;have hf:methodCallForm (es.length+([]:List Keyword).length) (backTo pos (starEach es env)) (backToKw pos (keywordEach [] env))=true:=by unfold methodCallForm;rw[ji hs];show(true&&true&&decide (es.length+0+0<30))=true;simp;lia
 dsimp only[methodCall];rw[hf];refine th (wpAny_holding (hg _ _ ?_));have hpos:methodCallPos true o env apos pos=pure pos:=by unfold methodCallPos;rw[hl];rfl
 rw[hpos];refine th (wpAny_pure ?_);exact mR (call:=call) (first:=[v]) S Gz Gx hs Gy λvs Gv GB ds Gw GL GM ra GG=>yn X C GL GM.amb (Gw.rep rv) ra hk GG
variable{xt:Bool}{Id:List Addr}{Gn:Gh}{Go:Shared}
theorem kM(R:Rn w Gm xt Id G s Gn Go){d:Addr}{h':Heap}(t:Nat)(hs:Heap.SameBut d Go.heap h')(hd:s.heap.get? d=none)(hB:Gn.B d=none)(hρ:d∉Gn.ρ):Rn w Gm xt Id G s Gn { Go with heap:=h',toks:=t }:=by
 refine gD R.same λhh tk e=>?_;have st:∀ b o,Gn.B b=some o->h'.get? b=some o:=λb o q=>(hs.2 b (λz=>by rw[z]at q;replace q:=hB ▸ q;injection q)).trans (R.inv.stays b o q);refine⟨⟨h',t,by rw[e]⟩,R.B,R.newB,R.ρ,⟨st,R.inv.base,R.inv.len,λi a c h1 h2=>?_,R.inv.apart,R.inv.nodup,R.inv.glo,R.inv.sys⟩,λb o q n1 n2=>?_,λb o q=>?_⟩
 ·exact(R.inv.cell i a c h1 h2).move (λ_ _ e=>e) ⟨[],by simp⟩ (hs.2 a λz=>hρ (z ▸ List.mem_of_getElem? h1)) st
 ·refine am (R.keep b o q n1 n2) λsl z1 z2=>?_;exact⟨sl,(hs.2 b λz=>by rw[z]at q;replace q:=hd ▸ q;injection q).trans z1,z2⟩
 ·refine am (R.there b o q) λo' z1 z2=>?_;exact⟨o',(hs.2 b λz=>by rw[z]at q;replace q:=hd ▸ q;injection q).trans z1,z2⟩
theorem gq(R:Rn w Gm xt Id G s Gn Go){d:Addr}{o:Obj}(hd:s.heap.get? d=none)(hB:Gn.B d=none)(hρ:d∉Gn.ρ)(ho:Go.heap.get? d=some o):Rn w Gm xt Id G s (Gn.add d o) Go/\(Gn.add d o).B d=some o:=by
 have sub:∀ b o',Gn.B b=some o'->(Gn.add d o).B b=some o':=λb o' e=>by show(if b=d then some o else Gn.B b)=some o';refine PX (PZ (λq=>by rw[q]at e;replace e:=hB ▸ e;injection e)) ?_;exact e
 have st:∀ b o',(Gn.add d o).B b=some o'->Go.heap.get? b=some o':=λb o' e=>by
  have e2:(if b=d then some o else Gn.B b)=some o':=e
  split at e2
  ·rename_i q;rw[q];simp only[<-e2];exact ho
  ·exact R.inv.stays b o' e2
 refine⟨⟨R.same,λb o' e=>sub b o' (R.B b o' e),λb o' e=>?_,R.ρ,⟨st,λb o' e=>sub _ _ (R.inv.base b o' e),R.inv.len,λi c q h1 h2=>?_,λc hc=>?_,R.inv.nodup,let ⟨o',e⟩:=R.inv.glo;⟨o',sub _ _ e⟩,R.inv.sys⟩,R.keep,R.there⟩,PY rfl⟩
 ·have e2:(if b=d then some o else Gn.B b)=some o':=e
  split at e2
  ·rename_i q;rw[q];exact .inr hd
  ·exact R.newB b o' e2
 ·exact(R.inv.cell i c q h1 h2).move sub ⟨[],by simp[Gh.add]⟩ rfl st
 ·show(if c=d then some o else Gn.B c)=none;refine PX (PZ (λq:c=d=>hρ (q ▸ hc))) ?_;exact R.inv.apart c hc
theorem mU(R:Rn w Gm xt Id G s Gn Go){d:Addr}{c:Cell}(hd:s.heap.get? d=none)(hB:Gn.B d=none)(hρ:d∉Gn.ρ)(hs:d≠sysModules)(x:CellAt w Gn Go.heap d c):Rn w Gm xt Id G s (Gn.more d c) Go:=by
 refine am R.ρ λmore e f=>?_;refine⟨R.same,R.B,R.newB,⟨more++[d],by show Gn.ρ++[d]=_;rw[e,List.append_assoc],λa ha=>?_⟩,pK R.inv hB hρ hs x,R.keep,R.there⟩;rcases List.mem_append.mp ha with q | q
 ·exact f a q
 ·obtain rfl:a=d:=List.mem_singleton.mp q;exact hd
theorem bK{Gq:Gh}{Gp:Shared}(R:Rn w Gm xt Id Gq Gp Gn Go){d:Addr}{o:Obj}(ho:Gp.heap.get? d=some o)(hB:Gq.B d=none)(hρ:d∉Gq.ρ):Gn.B d=none/\d∉Gn.ρ:=by
 constructor
 ·induction q:Gn.B d with
  | none=>rfl
  | some o2=>
   refine PW (R.newB d o2 q) (λz=>?_) λz=>?_
   ·replace z:=(hB) ▸ z;injection z
   ·replace z:=(ho) ▸ z;injection z
 ·refine am R.ρ λmore e f=>?_;rw[e];intro q;rcases List.mem_append.mp q with q | q
  ·exact hρ q
  ·have:=f d q;replace this:=(ho) ▸ this;injection this
theorem Inv.fresh_un{h:Heap}(I:Inv w Gm G h):G.B h.objs.size=none/\h.objs.size∉G.ρ:=by
 constructor
 ·induction q:G.B h.objs.size with
  | none=>rfl
  | some o=>have:=I.stays _ _ q;rw[aD]at this;injection this
 ·intro q;refine am (I.obj q) λo e _=>?_;rw[aD]at e;injection e
noncomputable def gu(pos:Pos)(env:Env):List (Option Expr)->List Expr->List (Sem Value×Sem Value)
 | some k::ks,v::vs=>(eval k env,do let x <-eval v env;standAt pos;pure x)::gu pos env ks vs
 | _,_=>[]
theorem jE{pos:Pos}:∀ {ks:List (Option Expr)} {vs:List Expr},ks.length=vs.length->ks.all (·.isSome)=true →
  (evalEachOpt ks env).zip ((evalEach vs env).map λv=>do let x <-v;standAt pos;pure x)=(gu pos env ks vs).map (λp=>(some p.1,p.2))/\(gu pos env ks vs).length=ks.length
 | [],[],_,_=>⟨rfl,rfl⟩
 | some k::ks,v::vs,h,ha=>by refine PV (λh1 h2=>?_) (jE (pos:=pos) (ks:=ks) (vs:=vs) (by simpa using h) ha);refine⟨?_,congrArg (· + 1) h2⟩;simp only[show gu pos env (some k::ks) (v::vs)=_::gu pos env ks vs from rfl,List.map_cons,<-h1];rfl
 | none::ks,v::vs,h,ha=>by simp at ha
 | [],v::vs,h,_=>by simp at h
 | k::ks,[],h,_=>by simp at h
theorem jj{r:Rc}(S:bt w Gm H_ r){pos:Pos}{α β:Type}{P:Gh->β->α->Prop}{Q:β->Shared->Prop}:∀ {ks:List (Option Expr)} {vs:List Expr} {G:Gh} {s:Shared} {f:List D×List D->M α},Inv w Gm G s.heap->Fm w H_ A G s.heap env L sc fr->Ok w Gm true P [] L G s (bnd (dO r sc fr ks vs) f G.σ) Q E →
  ∀ {Gs:List (Value×Value)->Shared->Prop},(∀ us Go Gn a b,dO r sc fr ks vs G.σ=.ok (a,b) Gn.σ->Rn w Gm true [] G s Gn Go->RepL w Gn.B Gn.ρ (us.map (·.1)) a->RepL w Gn.B Gn.ρ (us.map (·.2)) b->Ok w Gm true P [] L Gn Go (f (a,b) Gn.σ) Q E->Gs us Go)->wpAny (model pw w) A (evalPairs (gu pos env ks vs)) Gs E s
 | [],[],G,s,f,I,F,h,Gs,k=>evalPairs_nil (k [] s G [] [] rfl (.refl I) .nil .nil h)
 | some ke::ks,ve::vs,G,s,f,I,F,h,Gs,k=>by
  have as:∀ {α β γ:Type} (m:M α) (g:α->M β) (f:β->M γ) σ,bnd (bnd m g) f σ=bnd m (λa=>bnd (g a) f) σ:=λm g f σ=>by unfold bnd;induction m σ <;> rfl
  have h':Ok w Gm true P [] L G s (bnd (r.ev sc fr ke) (λkd=>bnd (r.ev sc fr ve) λvd=>bnd (dO r sc fr ks vs) λp=>f (kd::p.1,vd::p.2)) G.σ) Q E:=by
   have e:bnd (dO r sc fr (some ke::ks) (ve::vs)) f G.σ=bnd (r.ev sc fr ke) (λkd=>bnd (r.ev sc fr ve) λvd=>bnd (dO r sc fr ks vs) λp=>f (kd::p.1,vd::p.2)) G.σ:=by
    show bnd (bnd _ _) f G.σ=_;rw[as]
    congr 1;funext kd;funext σ
    rw[as]
    congr 1;funext vd;funext σ
    rw[as];rfl
   exact(Eq.symm e) ▸ h
  refine evalPairs_cons (gp S I F h' λkv Go Gn kd GP GF Gz Gx rk Gu=>?_);refine th (gp S Gz Gx Gu λvv Gv GB vd Hr Gw GL GM rv Gy=>th (wpAny_standAt (wpAny_pure ?_)));refine jj S GL GM Gy λus GC GI a b G0 GD ra rb GG=>?_;refine k ((kv,vv)::us) GC GI (kd::a) (vd::b) ?_ (GF.trans (Gw.trans GD)) (.cons ((Gw.trans GD).rep rk) ra) (.cons (GD.rep rv) rb) GG;show bnd (r.ev sc fr ke) _ G.σ=_;dsimp only[bnd];rw[GP];dsimp only;rw[Hr];dsimp only;rw[G0];rfl
 | none::ks,vs,G,s,f,I,F,h,Gs,k=>by induction vs using List.casesOn <;> exact(h:False).elim
 | [],v::vs,G,s,f,I,F,h,Gs,k=>(h:False).elim
 | some _::ks,[],G,s,f,I,F,h,Gs,k=>(h:False).elim
theorem RepL.un{B:Addr->Option Obj}{ρ:List Addr}{v:Value}{vs:List Value}{ds:List D}(r:RepL w B ρ (v::vs) ds):∃ d l,ds=d::l/\Rep w B ρ v d/\RepL w B ρ vs l:=by cases r with | cons a b=>exact⟨_,_,rfl,a,b⟩
theorem qd{GU l:List (Str×D)}{k:D}{a b:List D}(h:fN GU (k::a) b=some l):∃ x v b',k=.str x/\b=v::b'/\fN (fJ GU x v) a b'=some l:=by
 induction k using D.casesOn with
 | str x=>
  induction b using List.casesOn with
  | nil=>exact nomatch (show(none:Option (List (Str×D)))=some l from h)
  | cons v b=>exact⟨x,v,b,rfl,rfl,h⟩
 | _=>exact nomatch (show(none:Option (List (Str×D)))=some l from h)
theorem wh{B:Addr->Option Obj}{ρ:List Addr}{us:List (Value×Value)}:∀ {a b:List D} {GU l:List (Str×D)} {GW:List (Str×Value)},RepL w B ρ (us.map (·.1)) a->RepL w B ρ (us.map (·.2)) b->fN GU a b=some l->RepS w B ρ GW GU->(GW.map (·.1)).Nodup →
  ∃ kvs,Carries (sk w) us kvs/\RepS w B ρ (merged GW kvs) l:=by
 induction us with
 | nil=>intro a b GU l GW ra rb h r n;cases ra;cases rb;cases h;exact⟨[],trivial,r⟩
 | cons u us ih=>intro a b GU l GW ra rb h r n;refine ar ra.un λk a z1 rk ra'=>?_;obtain rfl:=z1;refine bA (qd h) λx v b z2 z3 h'=>?_;obtain rfl:=z2;obtain rfl:=z3;refine ar rb.un λ_ _ e rv rb'=>?_;rw[(List.cons.inj e).1,(List.cons.inj e).2]at h';obtain⟨k,y⟩:=u;obtain⟨t,ek⟩:=rk.inv;refine am (ih ra' rb' h' (fT rv r n) (dn _ _ _ n)) λkvs c z=>?_;exact⟨(x,y)::kvs,⟨by rw[show k=_ from ek];exact jB x t,rfl,c⟩,z⟩
theorem qe{GU l:List (Int×D)}{k:D}{a b:List D}(h:fO GU (k::a) b=some l):∃ x v b',k=.int x/\b=v::b'/\fO (xz GU x v) a b'=some l:=by
 induction k using D.casesOn with
 | int x=>
  induction b using List.casesOn with
  | nil=>exact nomatch (show(none:Option (List (Int×D)))=some l from h)
  | cons v b=>exact⟨x,v,b,rfl,rfl,h⟩
 | _=>exact nomatch (show(none:Option (List (Int×D)))=some l from h)
theorem wi{B:Addr->Option Obj}{ρ:List Addr}{us:List (Value×Value)}:∀ {a b:List D} {GU l:List (Int×D)} {GW:List (Int×Value)},RepL w B ρ (us.map (·.1)) a->RepL w B ρ (us.map (·.2)) b->fO GU a b=some l->RepI w B ρ GW GU->(GW.map (·.1)).Nodup →
  ∃ kvs,Carries (ik w) us kvs/\RepI w B ρ (merged GW kvs) l:=by
 induction us with
 | nil=>intro a b GU l GW ra rb h r n;cases ra;cases rb;cases h;exact⟨[],trivial,r⟩
 | cons u us ih=>intro a b GU l GW ra rb h r n;refine ar ra.un λk a z4 rk ra'=>?_;obtain rfl:=z4;refine bA (qe h) λx v b z5 z6 h'=>?_;obtain rfl:=z5;obtain rfl:=z6;refine ar rb.un λ_ _ e rv rb'=>?_;rw[(List.cons.inj e).1,(List.cons.inj e).2]at h';obtain⟨k,y⟩:=u;obtain⟨t,ek⟩:=rk.inv;refine am (ih ra' rb' h' (pR rv r n) (dn _ _ _ n)) λkvs c z=>?_;exact⟨(x,y)::kvs,⟨by rw[show k=_ from ek];exact uU x t,rfl,c⟩,z⟩
theorem yo{α β γ:Type}{P:Gh->β->α->Prop}{Q:β->Shared->Prop}{o:Option γ}{f:γ->M α}{σ:St}(h:Ok w Gm xt P Id L G s (bnd (ac o) f σ) Q E):∃ a,o=some a/\Ok w Gm xt P Id L G s (f a σ) Q E:=by
 induction o with
 | none=>exact(h:False).elim
 | some a=>exact⟨a,rfl,h⟩
theorem CU(a:List D):(∃ i r,a=.int i::r)\/∀ {β:Type} (X Y:β),(match a with | .int _::_=>X | _=>Y)=Y:=by
 induction a using List.casesOn with
 | nil=>exact .inr λ_ _=>rfl
 | cons d r=>induction d using D.casesOn <;> first | exact .inr λ_ _=>rfl | exact .inl ⟨_,_,rfl⟩
theorem qf{r:Rc}(S:bt w Gm H_ r){ks:List (Option Expr)}{vs:List Expr}{pos:Pos}{α β:Type}{P:Gh->β->α->Prop}{Q:β->Shared->Prop}{f:(List (Str×D) ⊕ List (Int×D))->M α}(I:Inv w Gm G s.heap)(F:Fm w H_ A G s.heap env L sc fr)
  (h:Ok w Gm true P [] L G s (bnd (pI r sc fr ks vs) f G.σ) Q E) {Gs:Value->Shared->Prop}
  (k:∀ d Go Gn x,Rn w Gm true [] G s Gn Go->s.heap.get? d=none->Gn.B d=none->d∉Gn.ρ->d≠sysModules →
   (match x with | .inl l=>∃ kvs,Go.heap.DictOf (sk w) d kvs/\RepS w Gn.B Gn.ρ kvs l | .inr l=>∃ kvs,Go.heap.DictOf (ik w) d kvs/\RepI w Gn.B Gn.ρ kvs l)->Ok w Gm true P [] L Gn Go (f x Gn.σ) Q E->Gs (.ref d) Go):wpAny (model pw w) A (eval (.Dict ks vs pos) env) Gs E s:=by
 have un:=I.fresh_un;refine PV (λhc h=>?_) (Ok.iteB h)
 ·refine jb hc λh1 h2 h3=>?_
  induction ks using List.casesOn with
  | nil=>
   induction vs using List.casesOn with
   | cons _ _=>simp at h2
   | nil=>
   refine wpAny_Dict_empty (k _ _ G (.inl []) (bM I emptyDict s.toks) (aD _) un.1 un.2 I.fresh_sys ?_ ?_)
   ·exact⟨[],⟨_,#[],0,Heap.get?_push_size _ rfl,⟨rfl,rfl,rfl⟩,rfl,λ_ he=>by simp at he,.nil,List.nodup_nil⟩,.nil⟩
   ·exact Ok.shift (bM I emptyDict s.toks) h
  | cons k0 ks=>
  refine PV (λsh len=>?_) (jE (env:=env) (pos:=pos) h2 h3);have R0:Rn w Gm true [] G s G { s with heap:=s.heap.push emptyDict }:=bM I emptyDict s.toks;have F0:=F.on R0;have as:∀ {α β γ:Type} (m:M α) (g:α->M β) (f:β->M γ) σ,bnd (bnd m g) f σ=bnd m (λa=>bnd (g a) f) σ:=λm g f σ=>by unfold bnd;obtain⟨⟩:=m σ <;> rfl
  rw[as]at h;have h0:=h.shift R0;have uN:({ s with heap:=s.heap.push emptyDict }:Shared).heap.get? s.heap.objs.size=some emptyDict:=Heap.get?_push_size _ rfl;have after:∀ {Go:Shared} {Gn:Gh},Rn w Gm true [] G { s with heap:=s.heap.push emptyDict } Gn Go->Go.heap.get? s.heap.objs.size=some emptyDict/\Gn.B s.heap.objs.size=none/\s.heap.objs.size∉Gn.ρ:=λR=>by refine am (R.keep _ _ uN un.2 (λq=>(nomatch q))) λsl q z=>?_;refine PV (λu1 u2=>?_) (bK R uN un.1 un.2);rw[z (.inl rfl)]at q;exact⟨q,u1,u2⟩
  have emp:∀ {K:Type} [DecidableEq K] {knd:KeyKind pw w K} {h:Heap},h.get? s.heap.objs.size=some emptyDict->h.DictOf knd s.heap.objs.size []:=λe=>⟨_,#[],0,e,⟨rfl,rfl,rfl⟩,rfl,λ_ he=>by simp at he,.nil,List.nodup_nil⟩;rcases P_ (∃ i a b σ',dO r sc fr (k0::ks) vs G.σ=.ok (.int i::a,b) σ') with hi | hi
  ·refine bq hi λi a b σ' hi=>?_;refine wpAny_Dict_pairs (knd:=ik w) sh (by intro z;rw[z]at len;simp at len) (by omega) (jj S (R0.inv) F0 h0 λus Go Gn a' b' e R ra rb Gu=>?_);refine jb (after R) λq0 q1 q2=>?_;have h2:Ok w Gm true P [] L G s (bnd (match a' with | .int _::_=>bnd (ac (fO [] a' b')) λl=>ret (.inr l) | _=>bnd (ac (fN [] a' b')) λl=>ret (.inl l)) f Gn.σ) Q E:=by unfold bnd at h ⊢;rw[e]at h;exact h
   obtain⟨rfl,rfl⟩ : a'=.int i::a/\b'=b:=by simp only[hi]at e;cases e;exact⟨rfl,rfl⟩
   dsimp only at h2;rw[as]at h2;refine am (yo h2) λl hl h2=>?_;refine am (wi (GW:=[]) ra rb hl .nil List.nodup_nil) λkvs hcar hr=>?_;refine⟨kvs,hcar,emp q0,λh' hd' sb=>?_⟩;have R2:=kM (R0.trans R) (h':=h') (Go.toks+us.length) sb (aD _) q1 q2;exact k _ _ Gn (.inr l) R2 (aD _) q1 q2 I.fresh_sys ⟨_,hd',hr⟩ (Ok.shift R2 h2)
  ·refine wpAny_Dict_pairs (knd:=sk w) sh (by intro z;rw[z]at len;simp at len) (by omega) (jj S (R0.inv) F0 h0 λus Go Gn a' b' e R ra rb Gu=>?_);refine jb (after R) λq0 q1 q2=>?_;have h2:Ok w Gm true P [] L G s (bnd (match a' with | .int _::_=>bnd (ac (fO [] a' b')) λl=>ret (.inr l) | _=>bnd (ac (fN [] a' b')) λl=>ret (.inl l)) f Gn.σ) Q E:=by unfold bnd at h ⊢;rw[e]at h;exact h
   refine PW (CU a') (λq=>gD q λi r q=>absurd ⟨i,r,b',Gn.σ,e.trans (congrArg (λa=>Mine.R.ok (a,b') Gn.σ) q)⟩ hi) λq=>?_
   ·rw[q,as]at h2;refine am (yo h2) λl hl h2=>?_;refine am (wh (GW:=[]) ra rb hl .nil List.nodup_nil) λkvs hcar hr=>?_;refine⟨kvs,hcar,emp q0,λh' hd' sb=>?_⟩;have R2:=kM (R0.trans R) (h':=h') (Go.toks+us.length) sb (aD _) q1 q2;exact k _ _ Gn (.inl l) R2 (aD _) q1 q2 I.fresh_sys ⟨_,hd',hr⟩ (Ok.shift R2 h2)
end
end
section
variable{w:World}{Gm:Heap}{mg mb:Str->Option Value}
theorem RepS.keyAt{B:Addr->Option Obj}{ρ:List Addr}:∀ {kvs:List (Str×Value)} {l:List (Str×D)},RepS w B ρ kvs l->∀ {i:Nat} {k:Str} {x:Value},kvs[i]?=some (k,x)->∀ h:i<l.length,(l[i]).1=k:=by
 intro kvs l r;show ∀ (i:Nat) (k:Str) (x:Value),kvs[i]?=some (k,x)->∀ h:i<l.length,(l[i]).1=k;refine RepS.ind ?_ ?_ r
 ·intro i k x e;exact du e
 ·intro _ _ _ _ _ a b ih;intro i k x e h
  induction i using Nat.casesOn with
  | zero=>cases e;rfl
  | succ i=>simp only[List.getElem?_cons_succ]at e;exact ih _ _ _ e (by simpa using h)
inductive ItAt(w:World)(G:Gh)(h:Heap)(I:Addr):List D->Prop
 | list {ax:Addr} {vs:List Value} {ds:List D} (i:Nat):BSeq G.B "list" ax vs->RepL w G.B G.ρ vs ds->i<=vs.length->h.IsListIter I ax i->ItAt w G h I (ds.drop i)
 | tuple {ax:Addr} {vs:List Value} {ds:List D} (i:Nat):BSeq G.B "tuple" ax vs->RepL w G.B G.ρ vs ds->i<=vs.length->h.IsTupleIter I ax i->ItAt w G h I (ds.drop i)
 | range {a:Int} {n i:Nat}:i<=n->IsRangeIter h I (a+i*1) ((n:Int) - i) 1->ItAt w G h I (((List.range n).map λ(k:Nat)=>D.int (a+k)).drop i)
 | keys {d:Addr} {o:Obj} {kvs:List (Str×Value)} {l:List (Str×D)} {ep:Nat} (i:Nat):G.B d=some o->(∀ h':Heap,h'.get? d=some o->h'.DictAt (sk w) d kvs ep)->RepS w G.B G.ρ kvs l->i<=kvs.length->h.IsKeyIter I d i kvs.length ep->ItAt w G h I ((l.map λx=>D.str x.1).drop i)
theorem ItAt.obj{G:Gh}{h:Heap}{I:Addr}{ds:List D}(x:ItAt w G h I ds):∃ o,h.get? I=some o/\∃ vs,o.data=.fields vs:=by
 induction x with
 | list i a b c e=>refine bk e λo ho _ hd=>?_;exact⟨o,ho,_,hd⟩
 | tuple i a b c e=>refine bk e λo ho _ hd=>?_;exact⟨o,ho,_,hd⟩
 | range a e=>exact⟨_,e,_,rfl⟩
 | keys i a b c e f=>refine bk f λo ho _ hd=>?_;exact⟨o,ho,_,hd⟩
theorem ItAt.move{G G':Gh}{h h':Heap}{I:Addr}{ds:List D}(x:ItAt w G h I ds)(hB:∀ b o,G.B b=some o->G'.B b=some o)(hρ:∃ more,G'.ρ=G.ρ++more)(e:∀ o,h.get? I=some o->h'.get? I=some o):ItAt w G' h' I ds:=by
 induction x with
 | list i a b c f=>exact .list i (let ⟨o,n,q,r⟩:=a;⟨o,n,hB _ _ q,r⟩) (b.mono hB hρ) c (let ⟨o,ho,r⟩:=f;⟨o,e _ ho,r⟩)
 | tuple i a b c f=>exact .tuple i (let ⟨o,n,q,r⟩:=a;⟨o,n,hB _ _ q,r⟩) (b.mono hB hρ) c (let ⟨o,ho,r⟩:=f;⟨o,e _ ho,r⟩)
 | range a f=>exact .range a (e _ f)
 | keys i a b c d f=>exact .keys i (hB _ _ a) b (c.mono hB hρ) d (let ⟨o,ho,r⟩:=f;⟨o,e _ ho,r⟩)
theorem ItAt.rn{G G':Gh}{s s':Shared}{xt:Bool}{Id:List Addr}{I:Addr}{ds:List D}(x:ItAt w G s.heap I ds)(R:Rn w Gm xt Id G s G' s')(h1:I∉G.ρ)(h2:I∉Id):ItAt w G' s'.heap I ds:=by refine zY x.obj λo ho vs hd=>?_;refine x.move R.B (let ⟨m,e,_⟩:=R.ρ;⟨m,e⟩) λo' ho'=>?_;refine am (R.keep I o' ho' h1 h2) λsl q z=>?_;replace ho':=(ho) ▸ ho';cases ho';rw[z (.inr ⟨vs,hd⟩)]at q;exact q
section
variable{A:Around}{E:Value->Shared->Prop}{G:Gh}{s:Shared}
theorem qg(m:Rm A)(I:Inv w Gm G s.heap){it:Addr}{ds:List D}(x:ItAt w G s.heap it ds)(hB:G.B it=none)(hρ:it∉G.ρ){Q:Option Value->Shared->Prop}
  (h0:ds=[]->∀ h' tk,(∀ b o,b∉[it]->s.heap.get? b=some o->h'.get? b=some o)->Q none { s with heap:=h',toks:=tk })
  (h1:∀ d ds' v h' tk,ds=d::ds'->Rep w G.B G.ρ v d->(∀ b o,b∉[it]->s.heap.get? b=some o->h'.get? b=some o)->ItAt w G h' it ds'->Q (some v) { s with heap:=h',toks:=tk }):wpAny (model pw w) A (pyNext (.ref it)) Q E s:=by
 induction x with
 | @list ax vs dl i a b c f=>
  have ne:ax≠it:=λe=>by refine aJ a λo n q _=>?_;rw[e,hB]at q;cases q
  have W:=Walks.list (prog:=pw) (w:=w) m.h it ax ne vs.toArray;have st:(s.heap.IsListIter it ax i/\s.heap.IsList ax vs.toArray):=⟨f,a.list I.stays⟩;rcases Nat.lt_or_ge i vs.length with hi | hi
  ·refine W.item i s Q E (by simpa using hi) st λv h' tk hP hst hk=>?_;have hP:vs[i]?=some v:=by simpa using hP
   have hd:i<dl.length:=by rw[<-b.length];exact hi
   refine am (b.get (List.getElem?_eq_getElem hd)) λv' e rv=>?_;obtain rfl:v'=v:=by rw[hP]at e;cases e;rfl
   exact h1 _ (dl.drop (i+1)) v' h' tk (List.drop_eq_getElem_cons hd) rv hk (.list (i+1) a b hi hst.1)
  ·obtain rfl:i=vs.length:=Nat.le_antisymm c hi;exact W.done s Q E st λh' tk hk=>h0 (by rw[b.length];simp) h' tk hk
 | @tuple ax vs dl i a b c f=>
  have ne:ax≠it:=λe=>by refine aJ a λo n q _=>?_;rw[e,hB]at q;cases q
  have W:=Walks.tuple (prog:=pw) (w:=w) m.h it ax ne vs.toArray;have st:(s.heap.IsTupleIter it ax i/\s.heap.IsTuple ax vs.toArray):=⟨f,a.tup I.stays⟩;rcases Nat.lt_or_ge i vs.length with hi | hi
  ·refine W.item i s Q E (by simpa using hi) st λv h' tk hP hst hk=>?_;have hP:vs[i]?=some v:=by simpa using hP
   have hd:i<dl.length:=by rw[<-b.length];exact hi
   refine am (b.get (List.getElem?_eq_getElem hd)) λv' e rv=>?_;obtain rfl:v'=v:=by rw[hP]at e;cases e;rfl
   exact h1 _ (dl.drop (i+1)) v' h' tk (List.drop_eq_getElem_cons hd) rv hk (.tuple (i+1) a b hi hst.1)
  ·obtain rfl:i=vs.length:=Nat.le_antisymm c hi;exact W.done s Q E st λh' tk hk=>h0 (by rw[b.length];simp) h' tk hk
 | @range a n i c f=>
  have W:=Walks.range (prog:=pw) (w:=w) m.h it a 1 n;refine PW (Nat.lt_or_ge i n) (λhi=>?_) λhi=>?_
  ·refine W.item i s Q E hi f λv h' tk hP hst hk=>?_;obtain⟨t,y1⟩:=hP;subst y1;have hd:i<((List.range n).map λ(k:Nat)=>D.int (a+k)).length:=by simpa using hi
   refine h1 _ _ _ h' tk (List.drop_eq_getElem_cons hd) ?_ hk (.range hi hst);simp only[List.getElem_map,List.getElem_range,Int.mul_one];exact .int _ _
  ·obtain rfl:i=n:=Nat.le_antisymm c hi;exact W.done s Q E f λh' tk hk=>h0 (by simp) h' tk hk
 | @keys d o kvs l ep i a b c f e=>
  have ne:d≠it:=λe=>by rw[e,hB]at a;exact nomatch a
  have W:=Walks.dictKeys (prog:=pw) (w:=w) (knd:=sk w) m.h it d ne kvs ep;have st:(s.heap.IsKeyIter it d i kvs.length ep/\s.heap.DictAt (sk w) d kvs ep):=⟨e,b _ (I.stays _ _ a)⟩;have len:=c.length;refine PW (Nat.lt_or_ge i kvs.length) (λhi=>?_) λhi=>?_
  ·refine W.item i s Q E hi st λv h' tk hP hst hk=>?_;refine aJ hP λk x e1 e2=>?_;have hd:i<(l.map λx=>D.str x.1).length:=by simp only[List.length_map,<-len];exact hi
   obtain⟨t,y2⟩:=Value.isStrOf_shape e2;rw[y2];refine h1 _ _ _ h' tk (List.drop_eq_getElem_cons hd) ?_ hk (.keys (i+1) a b c hi hst.1);have ek:=c.keyAt e1;simp only[List.getElem_map];have:l[i]'(by simpa using hd)=(l[i]'(by simpa using hd)):=rfl;simp only[ek (by simpa using hd)];exact .str k t
  ·obtain rfl:i=kvs.length:=Nat.le_antisymm f hi;exact W.done s Q E st λh' tk hk=>h0 (by rw[len];simp) h' tk hk
theorem qh(m:Rm A)(I:Inv w Gm G s.heap){it:Addr}(x:ItAt w G s.heap it [])(hB:G.B it=none)(hρ:it∉G.ρ){Q:Option Value->Shared->Prop}
  (h0:∀ h' tk,(∀ b o,b∉[it]->s.heap.get? b=some o->h'.get? b=some o)->Q none { s with heap:=h',toks:=tk }):wpAny (model pw w) A (pyNext (.ref it)) Q E s:=
 qg m I x hB hρ (λ_=>h0) λ_ _ _ _ _ e=>nomatch e
theorem mV(m:Rm A)(I:Inv w Gm G s.heap){it:Addr}{d:D}{ds:List D}(x:ItAt w G s.heap it (d::ds))(hB:G.B it=none)(hρ:it∉G.ρ){Q:Option Value->Shared->Prop}
  (h1:∀ v h' tk,Rep w G.B G.ρ v d->(∀ b o,b∉[it]->s.heap.get? b=some o->h'.get? b=some o)->ItAt w G h' it ds->Q (some v) { s with heap:=h',toks:=tk }):wpAny (model pw w) A (pyNext (.ref it)) Q E s:=
 qg m I x hB hρ (λe=>nomatch e) λ_ _ v h' tk e rv hk hit=>by cases e;exact h1 v h' tk rv hk hit
theorem sX{i:Int}(h:-100000<=i)(h':i<=200000):Builtin.Range.rangeFitsLong i=true:=Bool.and_eq_true_iff.mpr ⟨decide_eq_true (Int.le_trans (by decide) h),decide_eq_true (Int.lt_of_le_of_lt h' (by decide))⟩
theorem kO(a b:Int):Builtin.Range.rangeSize a b 1=(((b - a).toNat:Nat):Int):=by
 refine PX (PY (show(1:Int) > 0 by decide)) (PW (Int.lt_or_le a b) (λh=>(PY h).trans ?_) λh=>(PZ (Int.not_lt.mpr h)).trans ?_)
 ·rw[Int.ediv_one,Int.sub_add_cancel];exact(Int.toNat_of_nonneg (Int.sub_nonneg_of_le (Int.le_of_lt h))).symm
 ·rw[Int.toNat_eq_zero.mpr (Int.sub_nonpos_of_le h)];rfl
theorem qi{a b:Int}(h1:-100000<=a)(h2:a<=100000)(h3:-100000<=b)(h4:b<=100000):Builtin.Range.small a b 1=true/\Builtin.Range.rangeSize a b 1=(((b - a).toNat:Nat):Int):=by refine⟨?_,kO a b⟩;unfold Builtin.Range.small;have fa:=sX h1 (Int.le_trans h2 (by decide));have fb:=sX h3 (Int.le_trans h4 (by decide));rw[kO,sX (Int.le_trans (by decide) (Int.natCast_nonneg _)) (Int.le_trans (Int.ofNat_le.mpr (Int.toNat_le.mpr (Int.sub_le_sub h4 h1))) (by decide)),fa,fb,PY (by decide),show b+(1 - 1)=b from Int.add_zero b,fb,Bool.or_true];rfl
set_option tactic.hygienic true in
theorem yp{α β:Type}{P:Gh->β->α->Prop}{Q:β->Shared->Prop}{xt:Bool}{Id:List Addr}{L:Addr}{src:D}{v:Value}{f:List D->M α}(I:Inv w Gm G s.heap)(rv:Rep w G.B G.ρ v src)(h:Ok w Gm xt P Id L G s (bnd (aZ src) f G.σ) Q E)
  {Gs:Value->Shared->Prop} (k:∀ it Go items,Rn w Gm true [] G s G Go->s.heap.get? it=none->G.B it=none->it∉G.ρ->ItAt w G Go.heap it items->Ok w Gm xt P Id L G Go (f items G.σ) Q E->Gs (.ref it) Go):wpAny (model pw w) A (pyIter v) Gs E s:=by
 have un:=I.fresh_un;have sh:∀ {items:List D} {o:Obj},Ok w Gm xt P Id L G s (f items G.σ) Q E->Ok w Gm xt P Id L G { s with heap:=s.heap.push o } (f items G.σ) Q E:=λh=>h.shift (bM I _ s.toks)
 induction src using D.casesOn <;> try exact(h:False).elim
 ·rename_i ds;refine ar rv.inv λa vs z1 hb hr=>?_;rw[z1];refine wpAny_pyIter_tuple (hb.tup I.stays) (k _ _ ds (bM I _ s.toks) (aD _) un.1 un.2 ?_ (sh h));exact .tuple (ds:=ds) 0 hb hr (Nat.zero_le _) ⟨_,Heap.get?_push_size _ rfl,rfl,rfl⟩
 ·rename_i ds;refine ar rv.inv λa vs z2 hb hr=>?_;rw[z2];refine wpAny_pyIter_list (hb.list I.stays) (k _ _ ds (bM I _ s.toks) (aD _) un.1 un.2 ?_ (sh h));exact .list (ds:=ds) 0 hb hr (Nat.zero_le _) ⟨_,Heap.get?_push_size _ rfl,rfl,rfl⟩
 ·rename_i l;refine aH rv.inv λa kvs z3 ns hb hr=>?_;rw[z3];refine iq hb λo es ep ho hx hd r=>?_;refine wpAny_pyIter_dict (knd:=sk w) (by simpa using ns) ⟨o,es,I.stays _ _ ho,hx,hd,r⟩ (k _ _ (l.map λx:Str×D=>D.str x.1) (bM I _ s.toks) (aD _) un.1 un.2 ?_ (sh h));exact .keys 0 ho (λh' e=>⟨o,es,e,hx,hd,r⟩) hr (Nat.zero_le _) ⟨_,Heap.get?_push_size _ rfl,rfl,rfl⟩
 ·rename_i a b;refine sr rv.inv λra t u v z4 hb=>?_;rw[z4];have h':Ok w Gm xt P Id L G s (bnd (if -100000<=a/\a<=100000 ∧ -100000<=b/\b<=100000 then ret (range a b) else stuck) f G.σ) Q E:=h
  split at h'
  ·rename_i hc;refine cO hc λc1 c2 c3 c4=>?_;refine PV (λe1 e2=>?_) (qi c1 c2 c3 c4);refine wpAny_pyIter_range (I.stays _ _ hb) e1 (k _ _ (range a b) (bM I _ s.toks) (aD _) un.1 un.2 ?_ (sh h'));refine .range (i:=0) (n:=(b - a).toNat) (Nat.zero_le _) ?_;rw[e2];have:(s.heap.push { cls:=Value.type "range_iterator",data:=Data.fields #[rawInt a,rawInt (((b - a).toNat:Nat):Int),rawInt 1] }).get? s.heap.objs.size=some _:=Heap.get?_push_size _ rfl
   simpa using this
  ·exact(h':False).elim
end
end
section
variable{w:World}{Gm:Heap}{mg mb:Str->Option Value}
theorem j7{xt:Bool}{Id own':List Addr}{G Gn GB:Gh}{s Go Gv:Shared}(R:Rn w Gm xt Id G s Gn Go)(R':Rn w Gm xt own' Gn Go GB Gv)(hf:∀ b∈own',b∈Id\/s.heap.get? b=none):Rn w Gm xt Id G s GB Gv:=by
 have T:=(R.weak (own':=Id++own') λb hb=>List.mem_append_left _ hb).trans (R'.weak (own':=Id++own') λb hb=>List.mem_append_right _ hb);refine⟨T.same,T.B,T.newB,T.ρ,T.inv,λb o e h1 h2=>T.keep b o e h1 λq=>?_,T.there⟩;refine PW (List.mem_append.mp q) (λq=>?_) λq=>?_
 ·exact h2 q
 ·refine PW (hf b q) (λz=>?_) λz=>?_
  ·exact h2 z
  ·replace z:=(e) ▸ z;exact DN z
section
variable{H_:Nat}{A:Around}{env:Env}{L:Addr}{sc:Sc}{fr:af}{G:Gh}{s:Shared}{E:Value->Shared->Prop}{r:Rc}
theorem mW(S:bt w Gm H_ r)(I:Inv w Gm G s.heap)(F:Fm w H_ A G s.heap env L sc fr){e:Expr}{Gs:Value->Shared->Prop}(hs:r.ev sc fr e G.σ≠.stuck)
  (k:∀ v Go Gn d,r.ev sc fr e G.σ=.ok d Gn.σ->Rn w Gm true [] G s Gn Go->Fm w H_ A Gn Go.heap env L sc fr->Rep w Gn.B Gn.ρ v d->Gs v Go)
  (kE:∀ x s' G',r.ev sc fr e G.σ=.exc G'.σ->Rn w Gm false [] G s G' s'->ExcAt w s.heap G' s'.heap L x->E x s'):wpAny (model pw w) A (eval e env) Gs E s:=by
 refine S.ev I F ?_
 induction hm:r.ev sc fr e G.σ with
 | ok d σ'=>intro v s' G' e x p;subst e;exact k v s' G' d hm x (F.on x) p
 | exc σ'=>intro x s' G' e y p;subst e;exact kE x s' G' hm y p
 | stuck=>exact absurd hm hs
theorem wj{src:D}{σ:St}(h:aZ src σ≠.stuck):∃ l,aZ src σ=.ok l σ:=by
 induction src using D.casesOn <;> try exact absurd rfl h
 ·exact⟨_,rfl⟩
 ·exact⟨_,rfl⟩
 ·exact⟨_,rfl⟩
 ·unfold aZ at h ⊢;dsimp only at h ⊢
  split at h
  ·rename_i hc;exact⟨_,by rw[PY hc];rfl⟩
  ·exact absurd rfl h
theorem oh(I:Inv w Gm G s.heap){src:D}{v:Value}(rv:Rep w G.B G.ρ v src)(hs:aZ src G.σ≠.stuck){Gs:Value->Shared->Prop}
  (k:∀ it Go items,aZ src G.σ=.ok items G.σ->Rn w Gm true [] G s G Go->s.heap.get? it=none->G.B it=none->it∉G.ρ->ItAt w G Go.heap it items->Gs (.ref it) Go):wpAny (model pw w) A (pyIter v) Gs E s:=by
 refine PU (wj hs) λl hl=>?_;have h:Ok w Gm true (λ_ (v d:List D)=>v=d) [] 0 G s (bnd (aZ src) ret G.σ) (λv _=>v=l) E:=by unfold bnd;rw[hl];intro v s' G' _ _ p;exact p
 refine yp I rv h λit Go items R h1 h2 h3 h4 h5=>k it Go items ?_ R h1 h2 h3 h4;have:=Ok.now R.inv h5 (v:=items) rfl;exact this ▸ hl
theorem mX(m:Rm A)(I:Inv w Gm G s.heap){it:Addr}{ds:List D}(x:ItAt w G s.heap it ds)(hB:G.B it=none){Q:Value->Shared->Prop}(h:Q (.ref it) s):wpAny (model pw w) A (pyIter (.ref it)) Q E s:=by
 induction x with
 | @list ax vs dl i a b c f=>
  have ne:ax≠it:=λe=>by refine aJ a λo n q _=>?_;rw[e,hB]at q;cases q
  exact(Walks.list (prog:=pw) (w:=w) m.h it ax ne vs.toArray).self i s Q E ⟨f,a.list I.stays⟩ h
 | @tuple ax vs dl i a b c f=>
  have ne:ax≠it:=λe=>by refine aJ a λo n q _=>?_;rw[e,hB]at q;cases q
  exact(Walks.tuple (prog:=pw) (w:=w) m.h it ax ne vs.toArray).self i s Q E ⟨f,a.tup I.stays⟩ h
 | @range a n i c f=>exact(Walks.range (prog:=pw) (w:=w) m.h it a 1 n).self i s Q E f h
 | @keys d o kvs l ep i a b c f e=>
  have ne:d≠it:=λe=>by rw[e,hB]at a;exact nomatch a
  exact(Walks.dictKeys (prog:=pw) (w:=w) (knd:=sk w) m.h it d ne kvs ep).self i s Q E ⟨e,b _ (I.stays _ _ a)⟩ h
theorem g8(f:(Str×NameKind)->List (Str×Addr)->Sem (ForInStep (List (Str×Addr))))
  (hf:∀ x cs,f x cs=if (x.2==NameKind.free)=true then (cellOf env x.1 >>= λc=>pure (.yield ((x.1,c)::cs))) else pure (.yield cs)) :
  ∀ (names:Sc) (acc:List (Str×Addr)),(∀ x∈names,x.2=.free->∃ c,env.cells.lookup x.1=some c)->(∀ x c,(x,c)∈acc->env.cells.lookup x=some c) →
   ∃ cl,forIn names acc f=pure cl/\(∀ x c,(x,c)∈cl->env.cells.lookup x=some c)/\(∀ x∈names,x.2=.free->∃ c,(x.1,c)∈cl)/\∀ p∈acc,p∈cl
 | [],acc,_,ha=>⟨acc,rfl,ha,cP,λ_ h=>h⟩
 | (n,k)::r,acc,hn,ha=>by
  rw[List.forIn_cons,hf]
  by_cases hk:k=.free
  ·subst hk;obtain⟨c,hc⟩:=hn (n,.free) (.head _) rfl;have e:cellOf env n=pure c:=by unfold cellOf;rw[hc]
   refine dj (g8 f hf r ((n,c)::acc) (λx hx=>hn x (.tail _ hx)) (λx d h=>by
    rcases P9 h with q | q
    ·cases q;exact hc
    ·exact ha x d q)) λcl h1 h2 h3 h4=>?_
   refine⟨cl, ?_,h2,λx hx hk=>?_,λp hp=>h4 p (.tail _ hp)⟩
   ·dsimp only;rw[PY (by rfl),e,pure_bind,pure_bind];exact h1
   ·rcases P9 hx with rfl | hx
    ·exact⟨c,h4 _ (.head _)⟩
    ·exact h3 x hx hk
  ·refine dj (g8 f hf r acc (λx hx=>hn x (.tail _ hx)) ha) λcl h1 h2 h3 h4=>?_;refine⟨cl, ?_,h2,λx hx hk'=>?_,h4⟩
   ·rw[PZ (by simpa using hk),pure_bind];exact h1
   ·rcases P9 hx with rfl | hx
    ·exact absurd hk' hk
    ·exact h3 x hx hk'
theorem fZ{scope:Scope}(h:bL sc scope=true):scope.kind=.function/\(∀ x∈scope.names,x.2≠.cell)/\(∀ x∈scope.names,x.2=.local->scope.names.lookup x.1=some .local)/\∀ x∈scope.names,x.2=.free->sc.lookup x.1=some .cell\/sc.lookup x.1=some .free:=by
 unfold bL at h;refine PV (λh1 h2=>?_) (P8 h);refine⟨of_decide_eq_true h1,λx hx=>?_,λx hx hk=>?_,λx hx hk=>?_⟩
 ·have:=List.all_eq_true.mp h2 x hx;simp only[Bool.and_eq_true,bne_iff_ne,ne_eq]at this;exact this.1.1
 ·have:=List.all_eq_true.mp h2 x hx;simp only[Bool.and_eq_true,Bool.or_eq_true,bne_iff_ne,ne_eq,beq_iff_eq]at this;exact this.1.2.resolve_left λn=>n hk
 ·have:=List.all_eq_true.mp h2 x hx;simp only[Bool.and_eq_true,Bool.or_eq_true,bne_iff_ne,ne_eq,beq_iff_eq]at this;exact this.2.elim (λz=>z.elim (λn=>absurd hk n) .inl) .inr
theorem qj(F:Fm w H_ A G s.heap env L sc fr){scope:Scope}(hsc:bL sc scope=true) :
  ∃ cl,closureFor scope env=pure cl/\(∀ x c,(x,c)∈cl->env.cells.lookup x=some c)/\∀ x,scope.names.lookup x=some .free->∃ c,cl.lookup x=some c:=by
 refine cO (fZ hsc) λp1 p2 p3 p4=>?_;refine dj (g8 (env:=env) (λx cs=>if (x.2==NameKind.free)=true then (cellOf env x.1 >>= λc=>pure (.yield ((x.1,c)::cs))) else pure (.yield cs)) (λ_ _=>rfl) scope.names []
  (λx hx hk=>let ⟨c,v,e,_⟩:=F.cel0 x.1 (p4 x hx hk);⟨c,e⟩) (λ_ _ h=>(nomatch h))) λcl h1 h2 h3 _=>?_
 refine⟨cl, ?_,h2,λx hx=>?_⟩
 ·unfold closureFor;dsimp only;simp only[show(λ(x:Str×NameKind) (__s:List (Str×Addr))=>match x with | (name,kind)=>if (kind==NameKind.free)=true then (do let __do_lift <-cellOf env name;pure (ForInStep.yield ((name,__do_lift)::__s))) else pure (ForInStep.yield __s))=(λx cs=>if (x.2==NameKind.free)=true then (cellOf env x.1 >>= λc=>pure (.yield ((x.1,c)::cs))) else pure (.yield cs)) from rfl,h1];rfl
 ·refine PU (h3 _ (aX hx) rfl) λc hc=>?_
  induction q:cl.lookup x with
  | some c'=>exact⟨c',rfl⟩
  | none=>
   exfalso
   have:∀ l:List (Str×Addr),(x,c)∈l->l.lookup x≠none:=λl=>by
    induction l with
    | nil=>intro h;exact nomatch h
    | cons p l ih=>
     intro h;obtain⟨y,d⟩:=p;dsimp only[List.lookup_cons]
     induction e:x==y with
     | true=>simp
     | false=>
      refine PW (P9 h) (λh=>?_) λh=>?_
      ·cases h;simp at e
      ·exact ih h
   exact this cl hc q
theorem eX{x:Str}:∀ {names:Sc},(names.map λ(n,k)=>if (k==NameKind.free&&env.scope.kind==.function&&env.kindOf n==some .cell)=true then (n,NameKind.cell) else (n,k)).lookup x=names.lookup x ∨
  (names.lookup x=some .free/\(names.map λ(n,k)=>if (k==NameKind.free&&env.scope.kind==.function&&env.kindOf n==some .cell)=true then (n,NameKind.cell) else (n,k)).lookup x=some .cell)
 | []=>.inl rfl
 | (n,k)::r=>by
  rw[List.map_cons];dsimp only;rcases P_ ((k==NameKind.free&&env.scope.kind==.function&&env.kindOf n==some .cell)=true) with hc | hc
  ·rw[PY hc];rw[List.lookup_cons,List.lookup_cons]
   induction e:x==n with
   | true=>simp[Bool.and_eq_true,beq_iff_eq]at hc;obtain⟨⟨rfl,_⟩,_⟩:=hc;exact .inr ⟨rfl,rfl⟩
   | false=>exact eX
  ·rw[PZ hc];rw[List.lookup_cons,List.lookup_cons]
   induction e:x==n with
   | true=>exact .inl rfl
   | false=>exact eX
theorem cb{cs:Sc}{x:Str}{d:D}:∀ {fr:af},aa (aU cs fr) x=some d->cs.lookup x=some .free/\aa fr x=some d
 | [],h=>by exact du h
 | (y,e)::r,h=>by
  unfold aU at h;rw[List.filter_cons]at h
  split at h
  ·rename_i hc;unfold aa at h ⊢
   by_cases q:y=x
   ·subst q;rw[PY rfl]at h ⊢;exact⟨eq_of_beq hc,h⟩
   ·rw[PZ q]at h ⊢;exact cb h
  ·rename_i hc;refine PV (λh1 h2=>?_) (cb h);refine⟨h1, ?_⟩;dsimp only[aa];refine PX (PZ (λq=>by subst q;exact hc (by simpa using h1))) ?_;exact h2
theorem Fm.comp{h:Heap}(F:Fm w H_ A G h env L sc fr){scope:Scope}(hsc:bL sc scope=true){cl:List (Str×Addr)}{C:Addr}{m:Str->Option Value}(h1:∀ x c,(x,c)∈cl->env.cells.lookup x=some c)(h2:∀ x,scope.names.lookup x=some .free->∃ c,cl.lookup x=some c)
  (hC:h.Ns C m) (hB:G.B C=none) (hρ:C∉G.ρ) (hcl:C∉cl.map (·.2)):Fm w H_ A G h (compEnvC scope cl C env) L scope.names (aU scope.names fr):=by
 refine cO (fZ hsc) λp1 p2 p3 p4=>?_;have lk:∀ {x c},cl.lookup x=some c->env.cells.lookup x=some c:=λe=>h1 _ _ (aX e);have hf:∀ {x},(scope.names.lookup x=some .cell\/scope.names.lookup x=some .free)->scope.names.lookup x=some .free:=λh=>h.elim (λq=>absurd rfl (p2 _ (aX q))) id;have inc:∀ c∈cl.map (·.2),c∈env.cells.map (·.2):=λc hc=>by refine am (List.mem_map.mp hc) λz1 hm z2=>?_;obtain⟨x,c'⟩:=z1;obtain rfl:=z2;exact dw (h1 _ _ hm)
 refine⟨F.handled,F.depth,F.units,F.stk,F.frame,p1,F.globals,F.builtins,λx=>?_,⟨m,hC,λx d k1 k2=>?_⟩,λx d k1 k2=>?_,λx k1=>?_,λb hb=>?_,hcl,λc hc=>F.ex c (inc c hc),λx y c e1 e2=>F.inj x y c (lk e1) (lk e2)⟩
 ·exact eX
 ·refine PV (λz _=>?_) (cb k2);replace z:=(k1) ▸ z;exact nomatch z
 ·refine PV (λz1 z2=>?_) (cb k2);obtain⟨c,hc⟩:=h2 x z1;refine ar (F.cel x d (p4 _ (aX z1) rfl) z2) λc' v e q rv=>?_;have:=(lk hc).symm.trans e;cases this;exact⟨c,v,hc,q,rv⟩
 ·have z1:=hf k1;obtain⟨c,hc⟩:=h2 x z1;refine aJ (F.cel0 x (p4 _ (aX z1) rfl)) λc' v e q=>?_;have:=(lk hc).symm.trans e;cases this;exact⟨c,v,hc,q⟩
 ·rcases P9 hb with rfl | hb
  ·exact⟨hB,hρ⟩
  ·exact F.apart b (.tail _ (inc b hb))
end
end
section
variable{w:World}{Gm:Heap}{mg mb:Str->Option Value}
theorem gR{elt iter:Expr}{gens:List Comprehension}{scope:Scope}{pos px:Pos}{i:Nat}{x:Str}{it acc:Value}{env:Env}(h:gens[i]?=some ⟨.Name x px,iter,[],0⟩)(h':gens[i+1]?=none) :
  compTurn (.ListComp elt gens scope pos) i it acc env=(standAt iter.pos >>= λ_=>pyNext it >>= λr=>match r with
   | none=>pure (.done .next)
   | some v=>assign (.Name x px) env v >>= λ_=>
    (eval elt env >>= λx=>call (.builtin "list.append") [acc,x] >>= λ_=>pure ()) >>= λ_=>
     again (.compLoop (.ListComp elt gens scope pos) i it acc env)):=by
 unfold compTurn;dsimp only;rw[h,h'];rfl
theorem kP{elt iter iter':Expr}{gens:List Comprehension}{scope:Scope}{pos px:Pos}{i:Nat}{x:Str}{it acc:Value}{env:Env}{t':Expr}{fs:List Expr}(h:gens[i]?=some ⟨.Name x px,iter,[],0⟩)(h':gens[i+1]?=some ⟨t',iter',fs,0⟩) :
  compTurn (.ListComp elt gens scope pos) i it acc env=(standAt iter.pos >>= λ_=>pyNext it >>= λr=>match r with
   | none=>pure (.done .next)
   | some v=>assign (.Name x px) env v >>= λ_=>
    (eval iter' env >>= λx=>standAt iter'.pos >>= λ_=>foldedSetIterable iter' env x >>= λx=>(holding [x] (pyIter x) >>= λj=>runOwn (.compStart (.ListComp elt gens scope pos) (i+1) j acc env) env >>= λ_=>
     again (.compLoop (.ListComp elt gens scope pos) i it acc env)))):=by
 unfold compTurn;dsimp only;rw[h,h'];rfl
noncomputable def kQ(x:Value)(h:Heap):Prop:=∃ e oe vs T,x=.ref e/\h.get? e=some oe/\oe.data=.fields vs/\vs[1]?=some (.ref T)
theorem eY{xt:Bool}{Id:List Addr}{G Gn:Gh}{s Go:Shared}(R:Rn w Gm xt Id G s Gn Go){d:Addr}{h':Heap}(t:Nat)(hk:∀ b o,b∉[d]->Go.heap.get? b=some o->h'.get? b=some o)(hd:s.heap.get? d=none)(hB:Gn.B d=none)(hρ:d∉Gn.ρ):Rn w Gm xt Id G s Gn { Go with heap:=h',toks:=t }:=by
 refine gD R.same λhh tk e=>?_;have hk':∀ {b o},b≠d->Go.heap.get? b=some o->h'.get? b=some o:=λn e=>hk _ _ (z_ n) e;have st:∀ b o,Gn.B b=some o->h'.get? b=some o:=λb o q=>hk' (λz=>by rw[z]at q;replace q:=hB ▸ q;injection q) (R.inv.stays b o q);refine⟨⟨h',t,by rw[e]⟩,R.B,R.newB,R.ρ,⟨st,R.inv.base,R.inv.len,λi a c h1 h2=>?_,R.inv.apart,R.inv.nodup,R.inv.glo,R.inv.sys⟩,λb o q n1 n2=>?_,λb o q=>?_⟩
 ·have x:=R.inv.cell i a c h1 h2;refine am x.obj λoa ha _=>?_;exact x.move (λ_ _ e=>e) ⟨[],by simp⟩ ((hk' (λz=>hρ (z ▸ List.mem_of_getElem? h1)) ha).trans ha.symm) st
 ·refine am (R.keep b o q n1 n2) λsl z1 z2=>?_;exact⟨sl,hk' (λz=>by rw[z]at q;replace q:=hd ▸ q;injection q) z1,z2⟩
 ·refine am (R.there b o q) λo' z1 z2=>?_;exact⟨o',hk' (λz=>by rw[z]at q;replace q:=hd ▸ q;injection q) z1,z2⟩
section
variable{H_:Nat}{A:Around}{env:Env}{L:Addr}{sc:Sc}{fr:af}{G G':Gh}{s s':Shared}{E:Value->Shared->Prop}{r:Rc}{Id:List Addr}
theorem Fm.kept{h h':Heap}(F:Fm w H_ A G h env L sc fr){it:Addr}{oi:Obj}{ws:Array Value}(hi:h.get? it=some oi)(hd:oi.data=.fields ws)(hk:∀ b o,b∉[it]->h.get? b=some o->h'.get? b=some o)(hn:it∉env.cells.map (·.2)):Fm w H_ A G h' env L sc fr:=by
 have k:∀ b o,h.get? b=some o->aV o->h'.get? b=some o:=λb o e n=>hk b o (λq=>by have q:b=it:=List.mem_singleton.mp q;subst q;replace e:=(hi) ▸ e;cases e;exact n ws hd) e
 refine ar F.stk λGH outer f1 f2 f3=>?_;refine F.sl (λb o e n=>⟨o.slots,k b o e n⟩) (λl hl=>?_) λc hc=>?_
 ·replace hl:=(f1) ▸ hl;cases hl;exact λen he=>let ⟨a,L,o,b,c,d,e⟩:=f3 en he;⟨a,L,o,b,k _ _ c d,d,e⟩
 ·obtain⟨o,e⟩:=F.ex c hc;exact⟨o,hk c o (λq=>hn (by have q:c=it:=List.mem_singleton.mp q;simp only[<-q];exact hc)) e⟩
theorem Fm.less{h:Heap}{fr':af}(F:Fm w H_ A G h env L sc fr')(k:∀ y e,aa fr y=some e->aa fr' y=some e):Fm w H_ A G h env L sc fr:=
 ⟨F.handled,F.depth,F.units,F.stk,F.frame,F.kind,F.globals,F.builtins,F.names,let ⟨m,a,b⟩:=F.loc;⟨m,a,λx d h1 h2=>b x d h1 (k _ _ h2)⟩,λx d h1 h2=>F.cel x d h1 (k _ _ h2),F.cel0,F.apart,F.lc,F.ex,F.inj⟩
theorem AJ{x:Value}{fr':af}(F:Fm w H_ A G s.heap env L sc fr)(R:Rn w Gm false Id G s G' s')(F':Fm w H_ A G' s'.heap env L sc fr')(X:ExcAt w s.heap G' s'.heap L x)
  (k:∀ s'',Rn w Gm false Id G s G' s''->Fm w H_ A G' s''.heap env L sc fr'->ExcAt w s.heap G' s''.heap L x->kQ x s''.heap->E x s''):notedBy (model pw w) A env E x s':=by
 refine ar F'.stk λGH outer f1 f2 f3=>?_;unfold notedBy;rw[eR (env:=GH) (env':=env) (F.frame.trans f2.symm)];refine iK f1 f2 R f3 X λs'' ks R' S' X' ⟨e,oe,vs,T,oT,ts,n1,n2,n3,n4,_⟩=>k s'' R' (F'.sl ks (λl hl=>?_) λc hc=>?_) X' ⟨e,oe,vs,T,n1,n2,n3,n4⟩
 ·replace hl:=(f1) ▸ hl;cases hl;exact S'
 ·obtain⟨o,e⟩:=F.ex c hc;refine am (R'.there c o e) λo' q _=>?_;exact⟨o',q⟩
theorem yq{x:Value}{fr':af}(F:Fm w H_ A G s.heap env L sc fr)(R:Rn w Gm false Id G s G' s')(F':Fm w H_ A G' s'.heap env L sc fr')(X:ExcAt w s.heap G' s'.heap L x){Q:Unit->Shared->Prop}
  (k:∀ s'',Rn w Gm false Id G s G' s''->Fm w H_ A G' s''.heap env L sc fr'->ExcAt w s.heap G' s''.heap L x->Q () s''):wpAny (model pw w) A (setFlight x env.frame) Q E s':=by
 refine ar F'.stk λGH outer f1 f2 f3=>?_;refine eQ (.inr F.frame) R f3 X λs'' ks R' S' X' _=>k s'' R' (F'.sl ks (λl hl=>?_) λc hc=>?_) X'
 ·replace hl:=(f1) ▸ hl;cases hl;exact S'
 ·obtain⟨o,e⟩:=F.ex c hc;refine am (R'.there c o e) λo' q _=>?_;exact⟨o',q⟩
theorem AK{x:Value}{fr':af}(F:Fm w H_ A G s.heap env L sc fr)(R:Rn w Gm false Id G s G' s')(F':Fm w H_ A G' s'.heap env L sc fr')(X:ExcAt w s.heap G' s'.heap L x)(N:kQ x s'.heap)
  (k:∀ s'',Rn w Gm false Id G s G' s''->Fm w H_ A G' s''.heap env L sc fr'->ExcAt w s.heap G' s''.heap L x->E x s''):cameBackBy (model pw w) A env E x s':=by
 refine bq N λe oe vs T z2=>?_;refine cO z2 λz1 n1 n2 n3=>?_;obtain rfl:=z1;dsimp only[cameBackBy];refine wpAny_bind (wpAny_field n1 n2 n3 ?_);exact yq F R F' X λs'' R' F'' X'=>k s'' R' F'' X'
end
end
section
variable{w:World}{Gm:Heap}{mg mb:Str->Option Value}
theorem mi{elt iter:Expr}{gens:List Comprehension}{scope:Scope}{pos px:Pos}{i:Nat}{x:Str}{it acc:Value}{env:Env}(h:gens[i]?=some ⟨.Name x px,iter,[],0⟩) :
  ∃ k:Value->Sem Fin,compTurn (.ListComp elt gens scope pos) i it acc env=(standAt iter.pos >>= λ_=>pyNext it >>= λr=>match r with
   | none=>pure (.done .next)
   | some v=>k v):=by
 unfold compTurn;dsimp only;exact h ▸ (⟨_,rfl⟩)
structure CompSt(w:World)(H_:Nat)(A:Around)(G:Gh)(h:Heap)(env:Env)(L:Addr)(cs:Sc)(fr:af)(l:Addr)(acc:List D):Prop where
 F:Fm w H_ A G h env L cs fr
 lst:∃ vs n,h.get? l=some { cls:=.type "list",data:=.seq (List.toArray vs) n }/\RepL w G.B G.ρ vs acc
 hB:G.B l=none
 hρ:l∉G.ρ
 ne:l∉ownOf env
theorem f0{e:Expr}{f:Str}(h:df e=some f):∃ p,e=.Name f p:=by refine jd (· = some f) h (λx p z h=>⟨p, ?_⟩) du;refine PX z ?_;rw[P7 h]
theorem dQ{cs:Sc}{g:Comprehension}{x:Str}(h:ca cs g=some x):∃ px i,g=⟨.Name x px,i,[],0⟩/\cs.lookup x=some .local/\ki i=false:=by
 obtain⟨t,i,ifs,n⟩:=g;unfold ca at h;dsimp only at h
 induction q:df t <;> rw[q]at h
 case none=>exact du h
 obtain⟨⟨c1,c2,c3,c4⟩,e⟩:=kz h;obtain⟨px,rfl⟩:=f0 q;rw[List.isEmpty_iff.mp c1,c2,<-e];exact⟨px,i,rfl,c3,c4⟩
theorem sY(i:Expr)(env:Env)(x:Value):foldedSetIterable i env x=if ki i=true then foldedSetIterable i env x else pure x:=by induction i using Expr.casesOn <;> rfl
theorem eZ{i:Expr}{env:Env}{x:Value}(h:ki i=false):foldedSetIterable i env x=pure x:=(sY i env x).trans (PZ λq=>fD (h.symm.trans q))
section
variable{H_:Nat}{A:Around}{env:Env}{L:Addr}{cs:Sc}{fr:af}{G G':Gh}{s s':Shared}{E:Value->Shared->Prop}{r:Rc}{Id:List Addr}{l:Addr}{acc:List D}
theorem CompSt.obj{h:Heap}(C:CompSt w H_ A G h env L cs fr l acc):∃ o,h.get? l=some o/\aV o:=let ⟨vs,n,e,_⟩:=C.lst;⟨_,e,λvs q=>by injection q⟩
theorem CV(R:Rn w Gm true Id G s G' s')(hρ:l∉G.ρ)(n1:l∉Id)(h:∃ vs n,s.heap.get? l=some { cls:=.type "list",data:=.seq (List.toArray vs) n }/\RepL w G.B G.ρ vs acc):∃ vs n,s'.heap.get? l=some { cls:=.type "list",data:=.seq (List.toArray vs) n }/\RepL w G'.B G'.ρ vs acc:=by refine aJ h λvs n e a=>?_;refine am (R.keep l _ e hρ n1) λsl q z=>?_;rw[z (.inl rfl)]at q;exact⟨vs,n,q,R.repL a⟩
theorem CompSt.rn(C:CompSt w H_ A G s.heap env L cs fr l acc)(R:Rn w Gm true Id G s G' s'){fr':af}(F':Fm w H_ A G' s'.heap env L cs fr')(n1:l∉Id):CompSt w H_ A G' s'.heap env L cs fr' l acc:=by refine am C.obj λo e _=>?_;obtain⟨u1,u2⟩:=bK R e C.hB C.hρ;exact⟨F',CV R C.hρ n1 C.lst,u1,u2,C.ne⟩
theorem CompSt.kept{h h':Heap}(C:CompSt w H_ A G h env L cs fr l acc){it:Addr}{oi:Obj}{ws:Array Value}(hi:h.get? it=some oi)(hd:oi.data=.fields ws)(hk:∀ b o,b∉[it]->h.get? b=some o->h'.get? b=some o)(hn:it∉env.cells.map (·.2)):CompSt w H_ A G h' env L cs fr l acc:=by refine aJ C.lst λvs n e a=>?_;refine⟨C.F.kept hi hd hk hn,⟨vs,n,hk _ _ (λq=>?_) e,a⟩,C.hB,C.hρ,C.ne⟩;have q:l=it:=List.mem_singleton.mp q;subst q;replace e:=PX (Eq.symm hi) e;cases e;injection hd
theorem mj{x:Value}{vs:List Value}{n:Nat}(hl:s.heap.get? l=some { cls:=.type "list",data:=.seq vs.toArray n })(hsz:vs.length<=1000000){Q:Value->Shared->Prop}
  (h:∀ h' n',h'.get? l=some { cls:=.type "list",data:=.seq (vs++[x]).toArray n' }->Heap.SameBut l s.heap h'->Q .none { s with heap:=h' }):wpAny (model pw w) A (call (.builtin "list.append") [.ref l,x]) Q E s:=by
 refine wpAny_list_append_plain (items:=vs.toArray) ⟨n,hl⟩ (λh' hp hs=>?_) (by simp only[List.size_toArray,bB];omega);obtain⟨n',hp⟩:=hp;exact h h' n' (by refine PX hp ?_;simp) hs
theorem iL{elt:Expr}{gens:List Comprehension}{scope:Scope}{pos:Pos}{i:Nat}{it:Addr}{acc:Value}{g:Comprehension}{R:Result->Shared->Prop}(hg:gens[i]?=some g)(ha:g.is_async=0)
  (hi:∀ {Q:Value->Shared->Prop} {E:Value->Shared->Prop},Q (.ref it) s->wpAny (model pw w) A (pyIter (.ref it)) Q E s)
  (h:codeAny (model pw w) A (.compLoop (.ListComp elt gens scope pos) i (.ref it) acc env) R s):codeAny (model pw w) A (.compStart (.ListComp elt gens scope pos) i (.ref it) acc env) R s:=by
 refine codeAny_of_tree ?_;show wpAny _ _ ((compStart (.ListComp elt gens scope pos) i (.ref it) acc env).onRaise (λx=>do noteFrame x env;standAt theWindowsPlace)) _ _ s;refine wpAny_notedAt ?_;have e:compStart (.ListComp elt gens scope pos) i (.ref it) acc env=(do
   if (<-ask).params.followText "comprehension-iter-twice" then return <-again (.compLoop (.ListComp elt gens scope pos) i (.ref it) acc env)
   rule "comprehension.iter-twice"
   standAt g.iter.pos
   again (.compLoop (.ListComp elt gens scope pos) i (<-pyIter (.ref it)) acc env)):=by
  unfold compStart;have hc:(clausesOf (.ListComp elt gens scope pos))[i]?=some g:=hg;rw[hc];simp only[Option.elim,ha];rfl
 rw[e];refine wpAny_bind (wpAny_askSetting (wpAny_ite ?_))
 split
 ·exact wpAny_bind (wpAny_pure (wpAny_pure ⟨rfl,h⟩))
 ·exact wpAny_bind (wpAny_rule (wpAny_bind (wpAny_standAt (wpAny_bind (hi (wpAny_pure ⟨rfl,h⟩))))))
theorem ba{α β:Type}{m:M α}{f:α->M β}{σ:St}(h:bnd m f σ≠.stuck):m σ≠.stuck:=λe=>by unfold bnd at h;rw[e]at h;exact h rfl
theorem bg{α β:Type}{m:M α}{f:α->M β}{σ σ':St}{a:α}(e:m σ=.ok a σ'):bnd m f σ=f a σ':=by unfold bnd;rw[e]
theorem dp{α β:Type}{m:M α}{f:α->M β}{σ σ':St}(e:m σ=.exc σ'):bnd m f σ=.exc σ':=by unfold bnd;rw[e]
theorem aR{α β γ:Type}(m:M α)(g:α->M β)(f:β->M γ):bnd (bnd m g) f=bnd m (λa=>bnd (g a) f):=by funext σ;unfold bnd;induction m σ <;> rfl
theorem gv{α β:Type}{o:Option α}{f:α->M β}{σ:St}(h:o=none):bnd (ac o) f σ=.stuck:=by rw[h];rfl
theorem f7{α β:Type}{o:Option α}{f:α->M β}{σ:St}{a:α}(h:o=some a):bnd (ac o) f σ=f a σ:=by rw[h];rfl
noncomputable def AL(r:Rc)(elt:Expr)(cs:Sc)(gs:List Comprehension)(fr:af)(x:Str):D->List D->M (List D):=λd acc=>gY r elt cs gs (aj fr x d) acc
theorem AM{elt:Expr}{x:Str}{d dv:D}{ds:List D}{σ σ':St}(e:r.ev cs (aj fr x d) elt σ=.ok dv σ')(h:aM (AL r elt cs [] fr x) (d::ds) acc σ≠.stuck) :
  ao acc.length=true/\aM (AL r elt cs [] fr x) (d::ds) acc σ=aM (AL r elt cs [] fr x) ds (acc++[dv]) σ':=by
 have q:=(congrFun (aR (r.ev cs (aj fr x d) elt) (λv=>if ao acc.length=true then ret (acc++[v]) else stuck) λacc'=>aM (AL r elt cs [] fr x) ds acc') σ).trans (bg e);refine PW (P_ (ao acc.length=true)) (λz=>⟨z,q.trans ?_⟩) λz=>absurd (q.trans ?_) h
 ·rw[PY z];rfl
 ·rw[PZ z];rfl
theorem yr{elt:Expr}{x:Str}{d:D}{ds:List D}{σ σ':St}(e:r.ev cs (aj fr x d) elt σ=.exc σ'):aM (AL r elt cs [] fr x) (d::ds) acc σ=.exc σ':=
 (congrFun (aR (r.ev cs (aj fr x d) elt) (λv=>if ao acc.length=true then ret (acc++[v]) else stuck) λacc'=>aM (AL r elt cs [] fr x) ds acc') σ).trans (dp e)
theorem AN{elt:Expr}{gs:List Comprehension}{y:Str}{py:Pos}{je:Expr}{σ:St}(hy:ca cs ⟨.Name y py,je,[],0⟩=some y)(h:gY r elt cs (⟨.Name y py,je,[],0⟩::gs) fr acc σ≠.stuck) :
  aa fr y=none/\gY r elt cs (⟨.Name y py,je,[],0⟩::gs) fr acc σ=bnd (r.ev cs fr je) (λsrc=>bnd (aZ src) λitems=>aM (AL r elt cs gs fr y) items acc) σ:=by
 have q:gY r elt cs (⟨.Name y py,je,[],0⟩::gs) fr acc σ=_:=f7 hy
 induction z:aa fr y with
 | none=>exact⟨rfl,q.trans (by rw[z];rfl)⟩
 | some a=>exact absurd (q.trans (by rw[z];rfl)) h
theorem yt{elt:Expr}{g:Comprehension}{gs:List Comprehension}{σ:St}(h:gY r elt cs (g::gs) fr acc σ≠.stuck):∃ y,ca cs g=some y:=by
 induction q:ca cs g with
 | some y=>exact⟨y,rfl⟩
 | none=>exact absurd (gv q) h
noncomputable def CK(w:World)(Gm:Heap)(H_:Nat)(A:Around)(env:Env)(L:Addr)(cs:Sc)(l:Addr)(Gq:Gh)(Gp:Shared)(fr:af)(RR:Result->Shared->Prop)(t:R (List D)):Prop:=match t with
 | .ok acc' σ'=>∀ s' G',G'.σ=σ'->Rn w Gm true [l,env.locals] Gq Gp G' s'->CompSt w H_ A G' s'.heap env L cs fr l acc'->RR (.ok .next) s'
 | .exc σ'=>∀ s' G' e fr',G'.σ=σ'->Rn w Gm false [l,env.locals] Gq Gp G' s'->Fm w H_ A G' s'.heap env L cs fr'->ExcAt w Gp.heap G' s'.heap L e->kQ e s'.heap->RR (.error e) s'
 | .stuck=>False
section
variable{Gq:Gh}{Gp:Shared}{RR:Result->Shared->Prop}{t t':R (List D)}
theorem CK.ne(K:CK w Gm H_ A env L cs l Gq Gp fr RR t):t≠.stuck:=λh=>by simp only[h]at K;exact K
theorem CK.mk(hn:t≠.stuck)(k1:∀ acc' s' G',t=.ok acc' G'.σ->Rn w Gm true [l,env.locals] Gq Gp G' s'->CompSt w H_ A G' s'.heap env L cs fr l acc'->RR (.ok .next) s')
  (k2:∀ s' G' e fr',t=.exc G'.σ->Rn w Gm false [l,env.locals] Gq Gp G' s'->Fm w H_ A G' s'.heap env L cs fr'->ExcAt w Gp.heap G' s'.heap L e->kQ e s'.heap->RR (.error e) s'):CK w Gm H_ A env L cs l Gq Gp fr RR t:=by
 induction t with
 | ok a σ'=>exact λs' G' e=>k1 a s' G' (e ▸ rfl)
 | exc σ'=>exact λs' G' x fr' e=>k2 s' G' x fr' (e ▸ rfl)
 | stuck=>exact hn rfl
theorem CK.to(K:CK w Gm H_ A env L cs l Gq Gp fr RR t)(e:t=t'):CK w Gm H_ A env L cs l Gq Gp fr RR t':=e ▸ K
theorem CK.exc{GB:Gh}{Gv:Shared}{GR fr':af}{x:Value}{σ':St}(K:CK w Gm H_ A env L cs l Gq Gp fr RR t)(h:t=.exc σ')(hσ:G'.σ=σ')(Gw:Rn w Gm true [l,env.locals] Gq Gp GB Gv)(GM:Fm w H_ A GB Gv.heap env L cs GR)
  (GD:Rn w Gm false Id GB Gv G' s') (hs:∀ b∈Id,b∈[l,env.locals]) (F':Fm w H_ A G' s'.heap env L cs fr') (X:ExcAt w Gv.heap G' s'.heap L x):notedBy (model pw w) A env (λe s'=>RR (.error e) s') x s':=
 AJ GM GD F' X λs'' R'' F'' X'' N=>(K.to h) s'' G' x _ hσ (Gw.slack.trans (R''.weak hs)) F'' (X''.back λb q=>Gw.fresh b q) N
end
theorem RepL.snoc{B:Addr->Option Obj}{ρ:List Addr}{vs:List Value}{ds:List D}{v:Value}{d:D}(h:RepL w B ρ vs ds)(r:Rep w B ρ v d):RepL w B ρ (vs++[v]) (ds++[d]):=
 RepL.ind (.cons r .nil) (λa _ b=>.cons a b) h
noncomputable def FS(M:Model)(A:Around)(RR:Result->Shared->Prop)(xr:Fin)(s':Shared):Prop:=match xr with
 | .done f=>RR (.ok f) s'
 | .again c'=>c'.quiet=true/\codeAny M A c' RR s'
section
variable{Gq:Gh}{Gp:Shared}{RR:Result->Shared->Prop}{it:Addr}{cm:Sem Fin}{p:Pos}
theorem qk {kk:Value->Sem Fin} (hm:cm=(standAt p >>= λ_=>pyNext (.ref it) >>= λr=>match r with
   | none=>pure (.done .next)
   | some v=>kk v)) (R:Rn w Gm true [l,env.locals] Gq Gp G s) (C:CompSt w H_ A G s.heap env L cs fr l acc) (hit:ItAt w G s.heap it []) (h0:Gp.heap.get? it=none) (hB:G.B it=none) (hρ:it∉G.ρ) (hio:it∉ownOf env)
  (K:CK w Gm H_ A env L cs l Gq Gp fr RR (.ok acc G.σ)):wpAny (model pw w) A cm (FS (model pw w) A RR) E s:=by
 rw[hm];refine zY hit.obj λoi ho ws hod=>?_;refine wpAny_bind (wpAny_standAt (wpAny_bind (qh C.F.rm R.inv hit hB hρ λh' tk hk=>?_)));exact wpAny_pure (K _ G rfl (eY R tk hk h0 hB hρ) (C.kept ho hod hk λq=>hio (.tail _ q)))
theorem mY {kk:Sem Fin} {x:Str} {px:Pos} {d:D} {ds:List D} {Q:Fin->Shared->Prop} (hm:cm=(standAt p >>= λ_=>pyNext (.ref it) >>= λr=>match r with
   | none=>pure (.done .next)
   | some v=>assign (.Name x px) env v >>= λ_=>kk)) (hx:cs.lookup x=some .local) (R:Rn w Gm true [l,env.locals] Gq Gp G s) (C:CompSt w H_ A G s.heap env L cs fr l acc) (hit:ItAt w G s.heap it (d::ds)) (h0:Gp.heap.get? it=none) (hB:G.B it=none) (hρ:it∉G.ρ) (hio:it∉ownOf env)
  (k:∀ Gv,Rn w Gm true [l,env.locals] Gq Gp G Gv->CompSt w H_ A G Gv.heap env L cs (aj fr x d) l acc->ItAt w G Gv.heap it ds->it≠l->wpAny (model pw w) A kk Q E Gv):wpAny (model pw w) A cm Q E s:=by
 rw[hm];refine zY hit.obj λoi ho ws hod=>?_;refine wpAny_bind (wpAny_standAt (wpAny_bind (mV C.F.rm R.inv hit hB hρ λv h' tk rv hk hit'=>?_)));have GF:=eY R tk hk h0 hB hρ;have Hz:CompSt w H_ A G h' env L cs fr l acc:=C.kept ho hod hk λq=>hio (.tail _ q);refine wpAny_bind (wpAny_assign_Name (jD (xt:=true) (s:={ s with heap:=h',toks:=tk }) Hz.F GF.inv rv hx λGv Gw GM=>?_));refine k Gv (GF.trans (Gw.weak (own':=[l,env.locals]) λb hb=>.tail _ hb)) (Hz.rn Gw GM (z_ λq=>C.ne (q ▸ .head _))) (hit'.rn Gw hρ (z_ λq=>hio (q ▸ .head _))) λq=>?_;refine aJ C.lst λus n e _=>?_;replace e:=P7 (ho.symm.trans ((congrArg s.heap.get? q).trans e));replace hod:=e ▸ hod;injection hod
end
theorem kR{x:Str}{d:D}(h:aa fr x=none):∀ y e,aa fr y=some e->aa (aj fr x d) y=some e:=λy e hy=>by rw[bn,PZ (λq=>by rw[<-q,h]at hy;exact du hy)];exact hy
theorem wk(S:bt w Gm H_ r){elt:Expr}{gens:List Comprehension}{scope:Scope}{pos:Pos}:∀ (gs:List Comprehension) {g:Comprehension} {i:Nat} {x:Str},gens.drop i=g::gs->ca cs g=some x →
  ∀ (items:List D) ⦃fr:af⦄ ⦃acc:List D⦄ ⦃Gq G:Gh⦄ ⦃Gp s:Shared⦄ ⦃it:Addr⦄ ⦃RR:Result->Shared->Prop⦄,Rn w Gm true [l,env.locals] Gq Gp G s->CompSt w H_ A G s.heap env L cs fr l acc->aa fr x=none →
  ItAt w G s.heap it items->Gp.heap.get? it=none->G.B it=none->it∉G.ρ->it∉ownOf env->CK w Gm H_ A env L cs l Gq Gp fr RR (aM (AL r elt cs gs fr x) items acc G.σ) →
  codeAny (model pw w) A (.compLoop (.ListComp elt gens scope pos) i (.ref it) (.ref l) env) RR s:=by
 intro gs
 induction gs with
 | nil=>
  intro g i x hd hg items;refine ar (dQ hg) λpx ie zg hx hset=>?_;obtain rfl:=zg;have hgi:gens[i]?=some ⟨.Name x px,ie,[],0⟩:=by rw[<-List.head?_drop,hd];rfl
  have hgn:gens[i+1]?=none:=by rw[<-List.head?_drop,<-List.drop_drop,hd];rfl
  induction items with
  | nil=>intro fr acc Gq G Gp s it RR R C hfx hit h0 hB hρ hio K;exact codeAny_of_tree (wpAny_noted (qk (gR hgi hgn) R C hit h0 hB hρ hio K))
  | cons d ds ih=>intro fr acc Gq G Gp s it RR R C hfx hit h0 hB hρ hio K;refine codeAny_of_tree (wpAny_noted (mY (gR hgi hgn) hx R C hit h0 hB hρ hio λGv Gw G5 Hi hil=>?_));refine wpAny_bind (wpAny_bind (mW S Gw.inv G5.F (ba (ba K.ne)) (λvv GC GI dv G0 GD GX Hs=>?_) λx' s' G' G0 GD X=>K.exc (yr G0) rfl Gw G5.F GD cP (G5.F.rn GD λ_ _ q=>xv q) X));refine PV (λhlen eq=>?_) (AM G0 K.ne);have Hj:=G5.rn GD GX xv;refine aJ Hj.lst λus n hl hr=>?_;refine wpAny_bind (mj hl (PQ (PT hr.length) (aW hlen)) λh4 n4 hl4 hs4=>wpAny_pure (wpAny_pure ⟨rfl, ?_⟩));have GV:Rn w Gm true [l] GI GC GI { GC with heap:=h4 }:=sH GD.inv GC.toks hs4 (.head _) Hj.hB Hj.hρ λo ho'=>⟨_,hl4,λ_ vs q=>by injection q⟩;have Ha:Fm w H_ A GI h4 env L cs (aj fr x d):=GX.rn GV λb hb q=>C.ne (List.mem_singleton.mp q ▸ hb);refine am Hi.obj λHH Ht _=>?_;refine PV (λu1 u2=>?_) (bK GD Ht hB hρ);exact ih ((Gw.trans (GD.weak cP)).trans (GV.weak λb hb=>List.mem_singleton.mp hb ▸ .head _)) ⟨Ha.less (kR hfx),⟨us++[vv],n4,hl4,hr.snoc Hs⟩,Hj.hB,Hj.hρ,C.ne⟩ hfx ((Hi.rn GD hρ xv).rn GV u2 (z_ hil)) h0 u1 u2 hio (K.to eq)
 | cons g' gs ihg=>
  intro g i x hd hg items;refine ar (dQ hg) λpx ie zg hx hset=>?_;obtain rfl:=zg;have hgi:gens[i]?=some ⟨.Name x px,ie,[],0⟩:=by rw[<-List.head?_drop,hd];rfl
  have hdn:gens.drop (i+1)=g'::gs:=by refine PX (Eq.symm List.drop_drop) ?_;exact congrArg _ hd
  have hgn:gens[i+1]?=some g':=by rw[<-List.head?_drop,hdn];rfl
  induction items with
  | nil=>intro fr acc Gq G Gp s it RR R C hfx hit h0 hB hρ hio K;refine PU (mi (elt:=elt) (scope:=scope) (pos:=pos) (it:=.ref it) (acc:=.ref l) (env:=env) hgi) λkk hkk=>?_;exact codeAny_of_tree (wpAny_noted (qk hkk R C hit h0 hB hρ hio K))
  | cons d ds ih=>
   intro fr acc Gq G Gp s it RR R C hfx hit h0 hB hρ hio K;refine PU (yt (ba K.ne)) λy hy=>?_;refine ar (dQ hy) λpy je zg' hyl hyset=>?_;obtain rfl:=zg';refine PV (λhyn hin=>?_) (AN hy (ba K.ne));refine codeAny_of_tree (wpAny_noted (mY (kP hgi hgn) hx R C hit h0 hB hρ hio λGv Gw G5 Hi hil=>?_));have hne:=ba K.ne;replace hne:=λq=>hne (hin.trans q);refine wpAny_bind (mW S Gw.inv G5.F (ba hne) (λvv GC GI dv G0 GD GX Hs=>?_) λx' s' G' G0 GD X=>K.exc (dp (hin.trans (dp G0))) rfl Gw G5.F GD cP (G5.F.rn GD λ_ _ q=>xv q) X);replace hin:=hin.trans (bg G0);replace hne:=λq=>hne ((bg G0).trans q);refine wpAny_bind (wpAny_standAt (wpAny_bind ?_));rw[eZ hyset];refine wpAny_pure (wpAny_bind (wpAny_holding (oh GD.inv Hs (ba hne) λit2 G3 items2 HA GV k1 k2 k3 hit2=>?_)));replace hin:=hin.trans (bg HA);replace hne:=λq=>hne ((bg HA).trans q);have Ha:Fm w H_ A GI G3.heap env L cs (aj fr x d):=GX.on GV;have G8:ItAt w GI GC.heap it ds:=Hi.rn GD hρ xv;refine am Hi.obj λHH Ht _=>?_;refine PV (λu1 u2=>?_) (bK GD Ht hB hρ);have own2:it2∉ownOf env:=λq=>PU ((P9 q).elim (λq=>q ▸ GX.there) λq=>GX.ex _ q) λo e=>du (k1.symm.trans e);refine wpAny_bind (wpAny_runOwn (iL (g:=⟨.Name y py,je,[],0⟩) hgn rfl (λq=>mX Ha.rm GV.inv hit2 k2 q) ?_));refine ihg (g:=⟨.Name y py,je,[],0⟩) hdn hy items2 (GV.weak cP) ((G5.rn GD GX xv).rn GV Ha xv) hyn hit2 k1 k2 k3 own2 (CK.mk hne (λHB GN GQ Hb GJ GY=>?_) λGN GQ e He Hb GJ Hf Hk Hl=>?_)
   ·refine wpAny_pure ⟨rfl, ?_⟩;have HI:ItAt w GQ GN.heap it ds:=G8.rn GJ u2 λq=>vO q hil λq=>hio (q ▸ .head _);refine am G8.obj λH3 HJ _=>?_;refine PV (λv1 v2=>?_) (bK GJ HJ u1 u2);exact ih ((Gw.trans (GD.weak cP)).trans GJ) ⟨GY.F.less (kR hfx),GY.lst,GY.hB,GY.hρ,GY.ne⟩ hfx HI h0 v1 v2 hio (K.to (bg (hin.trans Hb)))
   ·exact AK GX GJ Hf Hk Hl λHL Hg Hu HM=>K.exc (dp (hin.trans Hb)) rfl (Gw.trans (GD.weak cP)) GX Hg (λ_ q=>q) Hu HM
end
end
section
variable{w:World}{Gm:Heap}{mg mb:Str->Option Value}
section
variable{H_:Nat}{A:Around}{env:Env}{L:Addr}{sc:Sc}{fr:af}{G G':Gh}{s s':Shared}{E:Value->Shared->Prop}{r:Rc}{Id:List Addr}{l:Addr}{acc:List D}
noncomputable def CompEnd(M:Model)(A:Around)(E:Value->Shared->Prop)(use:Option (Value->Sem Unit))(Q:Value->Shared->Prop)(acc:Value)(cenv:Env)(r:Result)(s':Shared):Prop:=
 match r,use with
 | .ok _,none=>∃ m,s'.heap.Ns cenv.locals m/\∀ h',Heap.SameBut cenv.locals s'.heap h'->Q acc { s' with heap:=h' }
 | .ok _,some u=>wpAny M A (u acc) (λ_ s''=>∃ m,s''.heap.Ns cenv.locals m/\∀ h',Heap.SameBut cenv.locals s''.heap h'->Q .none { s'' with heap:=h' }) E s'
 | .error x,_=>∃ m,s'.heap.Ns cenv.locals m/\∀ h',Heap.SameBut cenv.locals s'.heap h'->wpAny M A (passOn "comprehension.variables-let-go" x cenv:Sem Value) Q E { s' with heap:=h' }
theorem yu{M:Model}{e:Expr}{scope:Scope}{pos:Pos}{first:Sem Value}{g:Comprehension}{gs:List Comprehension}{cl:List (Str×Addr)}{use:Option (Value->Sem Unit)}{Q:Value->Shared->Prop}
  (hcl:clausesOf e=g::gs) (hset:ki g.iter=false) (hclos:closureFor scope env=pure cl) (hkind:scope.kind=.function) (hnames:∀ x∈scope.names,x.2=.local->scope.names.lookup x.1=some .local)
  (h:wpAny M A first (λx Go=>wpAny M A (pyIter x) (λit Gv=>wpAny M A (newList []) (λacc GC=>wpAny M A (newFunctionEnv scope env.globals cl [] env.qual none .none (some env)) (λcenv G3=>
   codeAny M A (.compStart e 0 it acc { cenv with scope:=relabel scope env }) (CompEnd M A E use Q acc { cenv with scope:=relabel scope env }) G3) E GC) E Gv) E Go) E s) :
  wpAny M A (comprehension e scope env pos (newList []) false first use) Q E s:=by
 have up:∀ {α:Type} {m:Sem α} {P P':α->Shared->Prop} {s:Shared},wpAny M A m P E s->(∀ a s',P a s'->P' a s')->wpAny M A m P' E s:=λh k=>wpAny_mono h k λ_ _ x=>x;unfold comprehension;rw[hclos,hcl];refine wpAny_bind (up h λx Go Gu=>wpAny_bind (wpAny_standAt (wpAny_bind (wpAny_of_eq (eZ hset) (wpAny_bind (wpAny_holding (up Gu λit Gv Gy=>wpAny_standIf (wpAny_bind (up Gy λacc GC GG=>wpAny_bind (wpAny_pure (wpAny_bind (up GG λcenv G3 G4=>?_))))))))))));dsimp only;have loc:∀ x∈scope.names,x.2=.local->Env.kindOf { cenv with scope:=relabel scope env } x.1=some .local:=λx hx hk=>lookup_relabel_local (hnames x hx hk);have sub:∀ {p:Str×NameKind->Bool} {x},x∈(scope.names.filter p).reverse->x∈scope.names:=λhx=>(List.mem_filter.mp (List.mem_reverse.mp hx)).1;refine wpAny_holding (wpAny_bind (wpAny_attempt (wpAny_holding (wpAny_run (codeAny_mono G4 λr s' hr=>?_)))))
 induction r with
 | ok f=>
  cases use with
  | none=>refine am hr λm hn hr=>?_;exact wpAny_bind (wpAny_holding (wpAny_comp_letGo (cenv:={ cenv with scope:=relabel scope env }) hkind _ s' m (λx hx=>loc x (sub hx)) hn λh' m' _ hs'=>wpAny_pure (hr h' hs')))
  | some u=>refine wpAny_bind (wpAny_rule (wpAny_bind (wpAny_holding (up hr λ_ s'' hr'=>?_))));refine am hr' λm hn hr'=>?_;exact wpAny_bind (wpAny_comp_letGo (cenv:={ cenv with scope:=relabel scope env }) hkind _ s'' m (λx hx=>loc x ((List.mem_append.mp hx).elim (λq=>sub (List.mem_of_mem_drop q)) λq=>sub (List.mem_of_mem_take q))) hn λh' m' _ hs'=>wpAny_pure (hr' h' hs'))
 | error x=>
  have hr':∃ m,s'.heap.Ns cenv.locals m/\∀ h',Heap.SameBut cenv.locals s'.heap h'->wpAny M A (passOn "comprehension.variables-let-go" x { cenv with scope:=relabel scope env }:Sem Value) Q E { s' with heap:=h' }:=by cases use <;> exact hr
  refine am hr' λm hn hr=>?_;exact wpAny_bind (wpAny_holding (wpAny_comp_letGo (cenv:={ cenv with scope:=relabel scope env }) hkind _ s' m (λx hx=>loc x (sub hx)) hn λh' m' _ hs'=>hr h' hs'))
theorem ExcAt.kept{h h' h'':Heap}{x:Value}(X:ExcAt w h G' h' L x)(k:∀ b o vs,h'.get? b=some o->o.data=.fields vs->h''.get? b=some o):ExcAt w h G' h'' L x:=by
 refine eO X λe oe vs z1=>?_;refine gD z1 λC a0 z2=>?_;refine bp z2 λr1 r2 r3 r4 z3=>?_;refine bp z3 λr5 r6 r7 r8 r9=>?_;refine⟨e,oe,vs,C,a0,r1,r2,r3,k _ _ _ r4 r7,r5,r6,r7,r8, ?_⟩;rcases r9 with q | ⟨T,oT,ts,q1,q2,q3,q4,q5,q6,q7⟩
 ·exact .inl q
 ·exact .inr ⟨T,oT,ts,q1,q2,q3,q4,k _ _ _ q5 q6,q6,q7⟩
noncomputable def CW(M:Model)(A:Around)(E:Value->Shared->Prop)(use:Option (Value->Sem Unit))(Q:Value->Shared->Prop)(v:Value)(C:Addr)(s':Shared):Prop:=match use with
 | none=>∀ h',Heap.SameBut C s'.heap h'->Q v { s' with heap:=h' }
 | some u=>wpAny M A (u v) (λ_ s''=>∃ m,s''.heap.Ns C m/\∀ h',Heap.SameBut C s''.heap h'->Q .none { s'' with heap:=h' }) E s'
theorem CompEnd.ok{M:Model}{use:Option (Value->Sem Unit)}{Q:Value->Shared->Prop}{v:Value}{cenv:Env}{f:Flow}(hn:∃ m,s'.heap.Ns cenv.locals m)(h:CW M A E use Q v cenv.locals s'):CompEnd M A E use Q v cenv (.ok f) s':=by
 induction use with
 | none=>exact PU hn λm hm=>⟨m,hm,h⟩
 | some u=>exact h
theorem CompEnd.exc{M:Model}{use:Option (Value->Sem Unit)}{Q:Value->Shared->Prop}{v x:Value}{cenv:Env}(h:∃ m,s'.heap.Ns cenv.locals m/\∀ h',Heap.SameBut cenv.locals s'.heap h'->wpAny M A (passOn "comprehension.variables-let-go" x cenv:Sem Value) Q E { s' with heap:=h' }):CompEnd M A E use Q v cenv (.error x) s':=by induction use <;> exact h
theorem wl{Gn GQ:Gh}{Go GN:Shared}{C l:Addr}{e:Value}{cs:Sc}{He:af}{scope:Scope}{cl:List (Str×Addr)}{Q:Value->Shared->Prop}(GF:Rn w Gm true [] G s Gn Go)(Gx:Fm w H_ A Gn Go.heap env L sc fr)(hl:Go.heap.get? l=none)(hC:Go.heap.get? C=none)
  (GJ:Rn w Gm false [l,C] Gn Go GQ GN) (Hf:Fm w H_ A GQ GN.heap (compEnvC scope cl C env) L cs He) (Hk:ExcAt w Go.heap GQ GN.heap L e) (Hl:kQ e GN.heap) (kE:∀ s',Rn w Gm false [] G s GQ s'->ExcAt w s.heap GQ s'.heap L e->E e s') :
  ∃ m,GN.heap.Ns C m/\∀ h',Heap.SameBut C GN.heap h'->wpAny (model pw w) A (passOn "comprehension.variables-let-go" e (compEnvC scope cl C env):Sem Value) Q E { GN with heap:=h' }:=by
 refine am Hf.loc λm5 n5 _=>?_;refine PV (λap1 ap2=>?_) (Hf.apart _ (.head _));refine⟨m5,n5,λh' hs'=>?_⟩;have ne:∀ b o vs,GN.heap.get? b=some o->o.data=.fields vs->h'.get? b=some o:=λb o vs e ed=>(hs'.2 b (λq=>am (pY n5) λo' e' no'=>no' vs (P7 (e.symm.trans (q ▸ e')) ▸ ed))).trans e;have Hg:Rn w Gm false [l,C] Gn Go GQ { GN with heap:=h' }:=eY GJ GN.toks (λb o hb e=>(hs'.2 b (λq=>hb (q ▸ .head _))).trans e) hC ap1 ap2;refine bq Hl λea oe ws T z8=>?_;refine cO z8 λz7 n1 n2 n3=>?_;obtain rfl:=z7;have Hu:Fm w H_ A GQ h' env L sc fr:=Gx.rn Hg λb hb q=>PU ((P9 hb).elim (λq=>q ▸ Gx.there) λq=>Gx.ex _ q) λo eo=>vO q (λq=>du (hl.symm.trans (q ▸ eo))) λq=>du (hC.symm.trans (q ▸ eo));unfold PySem.passOn;refine wpAny_bind (wpAny_field (ne _ _ _ n1 n2) n2 n3 ?_);dsimp only[PZ (show ¬ (Value.ref T==Value.none)=true from Bool.false_ne_true)];have fr:∀ {a},Go.heap.get? a=none->s.heap.get? a=none:=λq=>GF.fresh _ q;exact wpAny_bind (yq Gx Hg Hu (Hk.kept ne) λs'' R'' _ X''=>wpAny_throw (kE s'' (j7 GF.slack R'' λb hb=>.inr (vO hb (λq=>q ▸ fr hl) λq=>q ▸ fr hC)) (X''.back λb q=>GF.fresh b q)))
theorem wn{elt:Expr}{g:Comprehension}{gs:List Comprehension}{cs:Sc}{σ:St}(h:eg r sc fr elt (g::gs) cs σ≠.stuck):∃ y,ca cs g=some y:=by
 induction q:ca cs g with
 | some y=>exact⟨y,rfl⟩
 | none=>exact absurd (gv q) h
theorem om(S:bt w Gm H_ r)(I:Inv w Gm G s.heap)(F:Fm w H_ A G s.heap env L sc fr){elt:Expr}{gens:List Comprehension}{scope:Scope}{pos pos':Pos}(hsc:bL sc scope=true)(hne:eg r sc fr elt gens scope.names G.σ≠.stuck)
  {use:Option (Value->Sem Unit)} {Q:Value->Shared->Prop}
  (kN:∀ C l s' G' acc,eg r sc fr elt gens scope.names G.σ=.ok acc G'.σ->Rn w Gm true [] G s G' s'->s.heap.get? l=none->s.heap.get? C=none->C≠l->l≠sysModules->G'.B l=none->l∉G'.ρ->G'.B C=none->C∉G'.ρ →
   (∃ vs n,s'.heap.get? l=some { cls:=.type "list",data:=.seq (List.toArray vs) n }/\RepL w G'.B G'.ρ vs acc)->(∃ m,s'.heap.Ns C m)->CW (model pw w) A E use Q (.ref l) C s')
  (kE:∀ s' G' x,eg r sc fr elt gens scope.names G.σ=.exc G'.σ->Rn w Gm false [] G s G' s'->ExcAt w s.heap G' s'.heap L x->E x s') :
  wpAny (model pw w) A (comprehension (.ListComp elt gens scope pos) scope env pos' (newList []) (firstAsync gens) (firstIter gens env) use) Q E s:=by
 induction gens using List.casesOn with
 | nil=>exact absurd rfl hne
 | cons g gs=>
 refine PU (wn hne) λx hg=>?_;refine ar (dQ hg) λpx ie z4 hx hset=>?_;obtain rfl:=z4;refine cO (fZ hsc) λp1 p2 p3 p4=>?_;refine bk (qj F hsc) λcl hclos c1 c2=>?_;have hc:eg r sc fr elt (⟨.Name x px,ie,[],0⟩::gs) scope.names G.σ=bnd (r.ev sc fr ie) (λsrc=>bnd (aZ src) λitems=>aM (AL r elt scope.names gs (aU scope.names fr) x) items []) G.σ:=f7 hg;have hn:=λq=>hne (hc.trans q);refine yu (g:=⟨.Name x px,ie,[],0⟩) (gs:=gs) rfl hset hclos p1 p3 (mW S I F (ba hn) (λv Go Gn d GP GF Gx rv=>?_) λx s' G' GP GF X=>kE s' G' x (hc.trans (dp GP)) GF X);replace hc:=hc.trans (bg GP);replace hn:=λq=>hne (hc.trans q);refine oh GF.inv rv (ba hn) λit Gv items Hr Gw i1 i2 i3 hit=>?_;replace hc:=hc.trans (bg Hr);replace hn:=λq=>hne (hc.trans q);have GL:=Gw.inv;refine wpAny_newObj_type ?_;generalize hl0:Gv.heap.objs.size=l0;have ul:Gn.B l0=none/\l0∉Gn.ρ:=hl0 ▸ GL.fresh_un;have ls:l0≠sysModules:=hl0 ▸ GL.fresh_sys;have GD:Rn w Gm true [] Gn Gv Gn { Gv with heap:=Gv.heap.push { cls:=.type "list",dict:=none,data:=.seq ([]:List Value).toArray } }:=bM GL _ Gv.toks;have lnew:Gv.heap.get? l0=none:=hl0 ▸ aD _;have lat3:({ Gv with heap:=Gv.heap.push { cls:=.type "list",dict:=none,data:=.seq ([]:List Value).toArray } }:Shared).heap.get? l0=some { cls:=.type "list",dict:=none,data:=.seq ([]:List Value).toArray }:=hl0 ▸ Heap.get?_push_size _ rfl;clear hl0;generalize ({ Gv with heap:=Gv.heap.push { cls:=.type "list",dict:=none,data:=.seq ([]:List Value).toArray } }:Shared)=GC at GD lat3;have uC:=GD.inv.fresh_un;have Cnew:=aD GC.heap;refine wpAny_newFunctionEnv p2 cP (λh4 hns hsb=>?_) p1;generalize GC.heap.objs.size=C0 at *
 have GV:Rn w Gm true [] Gn GC Gn { GC with heap:=h4,toks:=GC.toks+([]:List (Str×Value)).length }:=
  kM (bM (xt:=true) (Id:=[]) GD.inv _ GC.toks) _ hsb Cnew uC.1 uC.2
 replace hns:({ GC with heap:=h4,toks:=GC.toks+([]:List (Str×Value)).length }:Shared).heap.Ns C0 _:=hns;generalize ({ GC with heap:=h4,toks:=GC.toks+([]:List (Str×Value)).length }:Shared)=G3 at GV hns;clear hsb;have hlC:l0≠C0:=λq=>du (Cnew.symm.trans (q ▸ lat3));have lat4:G3.heap.get? l0=some { cls:=.type "list",dict:=none,data:=.seq ([]:List Value).toArray }:=by refine am (GV.keep l0 _ lat3 ul.2 xv) λsl q z=>?_;simp only[z (.inl rfl)]at q;exact q
 have HC:=(Gw.trans GD).trans GV;have Ha:Fm w H_ A Gn G3.heap env L sc fr:=Gx.on HC;have clx:∀ c∈cl.map (·.2),∃ o,Go.heap.get? c=some o:=λc hc=>by refine am (List.mem_map.mp hc) λz5 hm z6=>?_;exact z6 ▸ Gx.ex _ (dw (c1 _ _ hm))
 have i1':Go.heap.get? l0=none:=Gw.fresh _ lnew;have i1C:Go.heap.get? C0=none:=Gw.fresh _ (GD.fresh _ Cnew);have ncl:∀ c,Go.heap.get? c=none->c∉cl.map (·.2):=λc hc q=>PU (clx c q) λo e=>du (hc.symm.trans e);have hitC:it≠C0:=λq=>by refine am hit.obj λo e _=>?_;refine am (GD.there it o e) λo' e' _=>?_;exact du (Cnew.symm.trans (q ▸ e'))
 have FC:Fm w H_ A Gn G3.heap (compEnvC scope cl C0 env) L scope.names (aU scope.names fr):=Ha.comp hsc c1 c2 hns uC.1 uC.2 (ncl _ i1C);have HD:ItAt w Gn G3.heap it items:=(hit.rn GD i3 xv).rn GV i3 xv;have hfx:aa (aU scope.names fr) x=none:=by
  induction q:aa (aU scope.names fr) x with
  | none=>rfl
  | some d'=>exact nomatch (P7 (hx.symm.trans (cb q).1))
 have Id:∀ {b:Addr},b≠C0->Go.heap.get? b=none->b∉ownOf (compEnvC scope cl C0 env):=λn h q=>(P9 q).elim n (ncl _ h);refine iL (g:=⟨.Name x px,ie,[],0⟩) rfl rfl (λq=>mX Ha.rm GV.inv HD i2 q) (wk (cs:=scope.names) S gs (g:=⟨.Name x px,ie,[],0⟩) (i:=0) rfl hg items
  (HC.weak cP) ⟨FC,⟨[],0,lat4,.nil⟩,ul.1,ul.2,Id hlC i1'⟩ hfx HD i1 i2 i3 (Id hitC i1) (CK.mk hn (λHB GN GQ Hb GJ GY=>?_) λGN GQ e He Hb GJ Hf Hk Hl=>?_))
 ·have ns:∃ m,GN.heap.Ns C0 m:=am GY.F.loc λm5 n5 _=>⟨m5,n5⟩;have apC:=GY.F.apart _ (.head _);exact CompEnd.ok ns (kN C0 l0 GN GQ HB (hc.trans Hb) (j7 GF GJ λb hb=>.inr (vO hb (λq=>q ▸ GF.fresh _ i1') λq=>q ▸ GF.fresh _ i1C)) (GF.fresh _ i1') (GF.fresh _ i1C) (λq=>hlC q.symm) ls GY.hB GY.hρ apC.1 apC.2 GY.lst ns)
 ·exact CompEnd.exc (wl GF Gx i1' i1C GJ Hf Hk Hl λs' R' X'=>kE s' GQ _ (hc.trans Hb) R' X')
end
end
section
variable{w:World}{Gm:Heap}{mg mb:Str->Option Value}
section
variable{H_:Nat}{A:Around}{env:Env}{L:Addr}{sc:Sc}{fr:af}{G G':Gh}{s s':Shared}{E:Value->Shared->Prop}{r:Rc}{Id:List Addr}{xt:Bool}
theorem Ok.eqn{α β γ:Type}{P:Gh->β->α->Prop}{Q:β->Shared->Prop}{m:M γ}{f:γ->M α}(h:Ok w Gm xt P Id L G s (bnd m f G.σ) Q E):Ok w Gm xt (λG' (v:γ×St) d=>v=(d,G'.σ)) Id L G s (bnd m ret G.σ) (λv _=>m G.σ=.ok v.1 v.2) E:=by
 unfold bnd at h ⊢
 induction hm:m G.σ with
 | ok d σ'=>intro v s' G' e _ p;subst p;subst e;rfl
 | exc σ'=>replace h:=(hm) ▸ h;exact h
 | stuck=>rw[hm]at h;exact h
theorem Ok.at'{α β γ:Type}{P:Gh->β->α->Prop}{Q:β->Shared->Prop}{m:M γ}{f:γ->M α}{d:γ}{Gn:Gh}(h:Ok w Gm xt P Id L G s (bnd m f G.σ) Q E)(e:m G.σ=.ok d Gn.σ):Ok w Gm xt P Id L G s (f d Gn.σ) Q E:=by rw[bg e]at h;exact h
theorem Ok.exc'{α β γ:Type}{P:Gh->β->α->Prop}{Q:β->Shared->Prop}{m:M γ}{f:γ->M α}{σ':St}(h:Ok w Gm xt P Id L G s (bnd m f G.σ) Q E)(e:m G.σ=.exc σ'):Ok w Gm xt P Id L G s (.exc σ') Q E:=by rw[dp e]at h;exact h
theorem Ok.ne{α β γ:Type}{P:Gh->β->α->Prop}{Q:β->Shared->Prop}{m:M γ}{f:γ->M α}(h:Ok w Gm xt P Id L G s (bnd m f G.σ) Q E):m G.σ≠.stuck:=λe=>by unfold bnd at h;replace h:=(e) ▸ h;exact h
theorem yv(S:bt w Gm H_ r){ks:List (Option Expr)}{vs:List Expr}{pos:Pos}{Q:Value->Shared->Prop}(I:Inv w Gm G s.heap)(F:Fm w H_ A G s.heap env L sc fr)
  (h:Ok w Gm true (rep w) [] L G s (bnd (pI r sc fr ks vs) (λq0=>match q0 with | .inl l=>ret (.sdict l) | .inr l=>ret (.idict l)) G.σ) Q E):wpAny (model pw w) A (eval (.Dict ks vs pos) env) Q E s:=by
 refine qf S I F h.eqn λd Go Gn x R h1 h2 h3 h4 h5 h6=>?_;have e:=Ok.now (v:=(x,Gn.σ)) R.inv h6 rfl;have h:=h.at' e
 induction x with
 | inl l=>
  refine am h5 λkvs hd hr=>?_;refine uK hd λo es ep ho hx=>?_;obtain⟨R',eB⟩:=gq R h1 h2 h3 ho;exact h _ Go (Gn.add d o) rfl R' (.sdict h4 ⟨o,es,ep,eB,hx⟩ (hr.mono (λb o' q=>by show(if b=d then some o else Gn.B b)=some o';rw[PZ (λz=>by rw[z,h2]at q;cases q)];exact q) ⟨[],by simp[Gh.add]⟩))
 | inr l=>
  refine am h5 λkvs hd hr=>?_;refine uK hd λo es ep ho hx=>?_;obtain⟨R',eB⟩:=gq R h1 h2 h3 ho;have hr':RepI w (Gn.add d o).B (Gn.add d o).ρ kvs l:=by
   have sub:∀ b o',Gn.B b=some o'->(Gn.add d o).B b=some o':=λb o' q=>by show(if b=d then some o else Gn.B b)=some o';rw[PZ (λz=>by rw[z,h2]at q;cases q)];exact q
   have go:∀ {kvs:List (Int×Value)} {l:List (Int×D)},RepI w Gn.B Gn.ρ kvs l->RepI w (Gn.add d o).B (Gn.add d o).ρ kvs l:=λ{kvs}=>by
    induction kvs with
    | nil=>intro l h;cases h;exact .nil
    | cons p ps ih=>intro l h;cases h with | cons a b=>exact .cons (a.mono sub ⟨[],by simp[Gh.add]⟩) (ih b)
   exact go hr
  exact h _ Go (Gn.add d o) rfl R' (.idict h4 ⟨o,es,ep,eB,hx⟩ hr')
theorem oo(S:bt w Gm H_ r){elt:Expr}{gens:List Comprehension}{scope:Scope}{pos:Pos}{Q:Value->Shared->Prop}(I:Inv w Gm G s.heap)(F:Fm w H_ A G s.heap env L sc fr)(hsc:bL sc scope=true)
  (h:Ok w Gm true (rep w) [] L G s (bnd (eg r sc fr elt gens scope.names) (λl=>ret (.list l)) G.σ) Q E):wpAny (model pw w) A (eval (.ListComp elt gens scope pos) env) Q E s:=by
 simp only[eval_ListComp];refine om S I F hsc h.ne (use:=none) (λC l s' G' acc e R h1 h2 h3 h4 h5 h6 h7 h8 ⟨vs,n,hl,hr⟩ hns=>?_) λs' G' x e R X=>?_
 ·intro h' hs';have R':Rn w Gm true [] G s G' { s' with heap:=h' }:=eY R s'.toks (λb o hb e=>(hs'.2 b (λq=>hb (q ▸ .head _))).trans e) h2 h7 h8;have hl':h'.get? l=some { cls:=.type "list",data:=.seq (List.toArray vs) n }:=(hs'.2 l λq=>h3 q.symm).trans hl;refine PV (λR'' eB=>?_) (gq R' h1 h5 h6 hl');exact h.at' e _ _ (G'.add l _) rfl R'' (.list ⟨_,n,eB,rfl,rfl⟩ (hr.mono (λb o' q=>by show(if b=l then some _ else G'.B b)=some o';refine PX (PZ (λz=>by rw[z]at q;replace q:=h5 ▸ q;injection q)) ?_;exact q) ⟨[],by simp[Gh.add]⟩))
 ·exact h.exc' e x s' G' rfl R X
theorem AO{Q:Value->Shared->Prop}{m:M Bool}(I:Inv w Gm G s.heap)(h:Ok w Gm true (rep w) [] L G s (bnd m (λb=>ret (.bool b)) G.σ) Q E):Ok w Gm true iG [] L G s (m G.σ) (λb s'=>Q (.bool b) s') E:=by
 unfold bnd at h
 induction hm:m G.σ with
 | ok d σ'=>replace h:=(hm) ▸ h;intro v s' G' e R p;exact p ▸ (h _ s' G' e R (.bool _))
 | exc σ'=>rw[hm]at h;exact h
 | stuck=>replace h:=(hm) ▸ h;exact h
end
end
section
variable{w:World}{Gm:Heap}{mg mb:Str->Option Value}
section
variable{H_:Nat}{A:Around}{env:Env}{L:Addr}{sc:Sc}{fr:af}{G:Gh}{s:Shared}{E:Value->Shared->Prop}{r:Rc}
set_option tactic.hygienic true in
theorem AP{call:Str->List D->M D}(X:Cx w Gm mg mb)(C:nX w Gm H_ call)(S:bt w Gm H_ r):D7 w Gm H_ (sA call jf r).ev:=by
 intro A env L sc fr e G s Q E I F h
 induction e using Expr.casesOn <;> try exact(h:False).elim
 case BoolOp op vs pos=>rw[arm_eval_BoolOp];exact p0 S I F h
 case BinOp l op b pos=>
  exact wpAny_BinOp (bC S I F h λv Go Gn d R Gz Gx rv Gu=>bC S Gz Gx Gu λu Gv GB HG Gw GL GM ru Gy=>CI GL (Gw.rep rv) ru Gy)
 case UnaryOp op x pos=>
  induction op <;> try exact(h:False).elim
  ·refine UnaryOp_ (bC S I F h λv Go Gn d R Gz Gx rv Gu=>not_of (kt (xt:=true) (Id:=[]) (Lf:=L) Gz rv ?_));exact Ok.bind (G9:=[]) (Hh:=iG) (λ_ q=>q) Gu λb Gv GB b' Gw e Gy=>by induction e;exact Ok.now Gw.inv Gy (Rep.bool _)
  ·exact UnaryOp_ (bC S I F h λv Go Gn d R Gz Gx rv Gu=>CH Gz rv Gu)
 case IfExp t a b pos=>
  refine IfExp_ (j4 S I F h λc Go Gn R Gz Gx Gu=>?_)
  induction c
  ·exact S.ev Gz Gx Gu
  ·exact S.ev Gz Gx Gu
 case Dict ks vs pos=>exact yv S I F h
 case ListComp elt gens scope pos=>
  refine PV (λhsc h=>?_) (Ok.ite h);exact oo S I F hsc h
 case Compare l ops es pos=>
  refine PV (λhc h=>?_) (Ok.ite h);rw[arm_eval_Compare,markedEach_of_false _ _ _ hc.1];exact th (bC S I F h λv Go Gn d R Gz Gx rv Gu=>mQ S hc.2 Gz Gx rv (AO Gz Gu))
 case Call f args kws pos=>
  induction kws using List.casesOn with
  | cons k ks=>exact Ok.onAttr (λm=>m G.σ) h (λ_ _ _ _ h=>(h:False).elim) λ_ h=>(h:False).elim
  | nil=>
   refine Ok.onAttr (λm=>m G.σ) h (λo m apos z h9=>?_) λq h=>?_
   ·clear h;subst z;have h:=h9;refine PV (λhc h=>?_) (Ok.ite h);simp only[Bool.and_eq_true,decide_eq_true_eq]at hc;exact og X C S I F hc.2.1.1.1 hc.2.1.1.2 hc.2.1.2 hc.2.2 h
   ·refine PV (λhc h=>?_) (Ok.ite h);exact yi X C S I F q (P8 hc).2 h
 case Constant c k pos=>exact wd I h
 case Attribute o a pos=>
  refine PV (λhp h=>?_) (Ok.ite (c:=bU o) h);exact yd X S I F hp h
 case Subscript v i pos=>
  refine Ok.onSlice (λm=>m G.σ) h (λlo hi st p z h9=>?_) λq h=>?_
  ·clear h;subst z;have h:=h9;refine PV (λhc h8=>?_) (Ok.ite h);obtain⟨h1,h2⟩:=P8 hc
   induction st with
   | some e=>exact fD h2
   | none=>exact wc S I F h1 h8
  ·exact AE S I F q h
 case Name x pos=>exact AC (xt:=true) (Id:=[]) X I F h
 case List es pos=>exact ye S I F h
 case Tuple es k pos=>exact we S I F h
set_option tactic.hygienic true in
theorem yw{call:Str->List D->M D}(X:Cx w Gm mg mb)(C:nX w Gm H_ call)(S:bt w Gm H_ r):D8 w Gm H_ (sA call jf r).tst:=by
 intro A env L sc fr e G s Q E I F h;have go:isTrue e env (eval e env)=(do let v <-eval e env;standAt e.pos;holding [v] (truthy v))->Ok w Gm true iG [] L G s (bnd (r.ev sc fr e) cz G.σ) Q E->wpAny (model pw w) A (isTrue e env (eval e env)) Q E s:=λhe h=>
  isTrue_plain (bC S I F h λv Gv GB d Gw GL GM rv Gy=>kt GL rv Gy) he
 induction e using Expr.casesOn <;> try exact go rfl h
 case BoolOp op vs pos=>exact wpAny_isTrue_BoolOp (nZ S I F h)
 case UnaryOp op x pos=>
  induction op <;> try exact go rfl h
  refine isTrue_not (j4 S I F h λc Go Gn R Gz Gx Gu=>?_);exact Ok.now Gz Gu rfl
 case IfExp t a b pos=>
  refine isTrue_IfExp (j4 S I F h λc Go Gn R Gz Gx Gu=>?_)
  induction c
  ·exact S.tst Gz Gx Gu
  ·exact S.tst Gz Gx Gu
 case Compare l ops es pos=>
  refine PV (λhc h=>?_) (Ok.ite h);simp only[arm_isTrue_Compare,markedEach_of_false _ _ _ hc.1];exact th (bC S I F h λv Go Gn d R Gz Gx rv Gu=>p_ S hc.2 Gz Gx rv Gu)
theorem j8{call:Str->List D->M D}(X:Cx w Gm mg mb)(C:nX w Gm H_ call):∀ n,bt w Gm H_ (E0 call jf n)
 | 0=>⟨λ_ _ h=>(h:False).elim,λ_ _ h=>(h:False).elim⟩
 | n+1=>⟨AP X C (j8 X C n),yw X C (j8 X C n)⟩
end
end
section
variable{w:World}{Gm:Heap}{mg mb:Str->Option Value}{xt:Bool}
theorem Rn.ev{G G':Gh}{s s':Shared}{Id:List Addr}(R:Rn w Gm true [] G s G' s'):Rn w Gm xt Id G s G' s':=
 ⟨R.same,R.B,R.newB,R.ρ,R.inv,λb o e h _=>let ⟨sl,q,z⟩:=R.keep b o e h (λq=>(nomatch q));⟨sl,q,λ_=>z (.inl rfl)⟩,R.there⟩
structure Bs(w:World)(Gm:Heap)(H_:Nat)(xt:Bool)(A:Around)(env:Env)(L:Addr)(sc:Sc)(Gq:Gh)(Gp:Shared)(G:Gh)(s:Shared)(fr:af):Prop where
 F₀:∃ Hv,Fm w H_ A Gq Gp.heap env L sc Hv
 R:Rn w Gm xt (ownOf env) Gq Gp G s
 F:Fm w H_ A G s.heap env L sc fr
noncomputable def kS(w:World)(Gm:Heap)(H_:Nat)(xt:Bool)(x:Sx):Prop:=∀ {A:Around} {env:Env} {L:Addr} {sc:Sc} {st:Stmt} {fr:af} {k:K'} {Gq G:Gh} {Gp s:Shared} {α β:Type} {P:Gh->β->α->Prop} {f:Flow'->M α} {Q:β->Shared->Prop} {E:Value->Shared->Prop} {Gs:Flow->Shared->Prop},
 Bs w Gm H_ xt A env L sc Gq Gp G s fr->Ok w Gm xt P (ownOf env) L Gq Gp (bnd (x sc st fr k) f G.σ) Q E →
 (∀ s' G' fr',Rn w Gm xt (ownOf env) G s G' s'->Bs w Gm H_ xt A env L sc Gq Gp G' s' fr'->Ok w Gm xt P (ownOf env) L Gq Gp (bnd (k fr') f G'.σ) Q E->Gs .next s') →
 (∀ v d s' G',Rn w Gm xt (ownOf env) Gq Gp G' s'->Rep w G'.B G'.ρ v d->Ok w Gm xt P (ownOf env) L Gq Gp (f (.ret d) G'.σ) Q E->Gs (.ret v) s') →
 wpAny (model pw w) A (exec st env) Gs E s
section
variable{H_:Nat}{A:Around}{env:Env}{L:Addr}{sc:Sc}{fr:af}{Gq G:Gh}{Gp s:Shared}{E:Value->Shared->Prop}{r:Rc}{x:Sx}{α β:Type}{P:Gh->β->α->Prop}{f:Flow'->M α}{Q:β->Shared->Prop}{Gs:Flow->Shared->Prop}{k:K'}
theorem Bs.I(B:Bs w Gm H_ xt A env L sc Gq Gp G s fr):Inv w Gm G s.heap:=B.R.inv
theorem Bs.on{Gn:Gh}{Go:Shared}(B:Bs w Gm H_ xt A env L sc Gq Gp G s fr)(R:Rn w Gm true [] G s Gn Go):Bs w Gm H_ xt A env L sc Gq Gp Gn Go fr:=⟨B.F₀,B.R.trans R.ev,B.F.on R⟩
theorem Bs.excd{γ:Type}{m:M γ}{f:γ->M α}(B:Bs w Gm H_ xt A env L sc Gq Gp G s fr)(h:Ok w Gm xt P (ownOf env) L Gq Gp (bnd m f G.σ) Q E){y:Value}{s':Shared}{G':Gh}(e:m G.σ=.exc G'.σ)(R:Rn w Gm false (ownOf env) G s G' s')(X:ExcAt w s.heap G' s'.heap L y):E y s':=by rw[dp e]at h;exact h y s' G' rfl (B.R.slack.trans R) (X.back λb q=>B.R.fresh b q)
theorem sZ(SR:bt w Gm H_ r)(B:Bs w Gm H_ xt A env L sc Gq Gp G s fr){e:Expr}{f:D->M α}(h:Ok w Gm xt P (ownOf env) L Gq Gp (bnd (r.ev sc fr e) f G.σ) Q E){Gs:Value->Shared->Prop}
  (k:∀ v Go Gn d,Rn w Gm true [] G s Gn Go->Bs w Gm H_ xt A env L sc Gq Gp Gn Go fr->Rep w Gn.B Gn.ρ v d->Ok w Gm xt P (ownOf env) L Gq Gp (f d Gn.σ) Q E->Gs v Go):wpAny (model pw w) A (eval e env) Gs E s:=by
 refine mW SR B.I B.F (ba (f:=f) λq=>by rw[q]at h;exact h) (λv Go Gn d e R F rv=>?_) λy s' G' e R X=>B.excd h e (R.weak cP) X;rw[bg e]at h;exact k v Go Gn d R (B.on R) rv h
theorem Cb(SR:bt w Gm H_ r)(B:Bs w Gm H_ xt A env L sc Gq Gp G s fr){e:Expr}{f:Bool->M α}(h:Ok w Gm xt P (ownOf env) L Gq Gp (bnd (r.tst sc fr e) f G.σ) Q E){Gs:Bool->Shared->Prop}
  (k:∀ c Go Gn,Rn w Gm true [] G s Gn Go->Bs w Gm H_ xt A env L sc Gq Gp Gn Go fr->Ok w Gm xt P (ownOf env) L Gq Gp (f c Gn.σ) Q E->Gs c Go):wpAny (model pw w) A (isTrue e env (eval e env)) Gs E s:=by
 refine SR.tst B.I B.F ?_
 induction hm:r.tst sc fr e G.σ with
 | ok d σ'=>intro v s' G' e R p;rw[p];subst e;rw[bg hm]at h;exact k _ s' G' R (B.on R) h
 | exc σ'=>intro y s' G' e R X;subst e;exact B.excd h hm (R.weak cP) X
 | stuck=>unfold bnd at h;replace h:=(hm) ▸ h;exact h
theorem e7(SX:kS w Gm H_ xt x):∀ {ss:List Stmt} {fr:af} {k:K'} {G:Gh} {s:Shared} {Gs:Flow->Shared->Prop},Bs w Gm H_ xt A env L sc Gq Gp G s fr->Ok w Gm xt P (ownOf env) L Gq Gp (bnd (gZ x sc ss fr k) f G.σ) Q E →
  (∀ s' G' fr',Rn w Gm xt (ownOf env) G s G' s'->Bs w Gm H_ xt A env L sc Gq Gp G' s' fr'->Ok w Gm xt P (ownOf env) L Gq Gp (bnd (k fr') f G'.σ) Q E->Gs .next s') →
  (∀ v d s' G',Rn w Gm xt (ownOf env) Gq Gp G' s'->Rep w G'.B G'.ρ v d->Ok w Gm xt P (ownOf env) L Gq Gp (f (.ret d) G'.σ) Q E->Gs (.ret v) s') →
  wpAny (model pw w) A (execs ss env) Gs E s
 | [],fr,k,G,s,Gs,B,h,hN,hR=>wpAny_execs_nil (hN s G fr (.refl B.I) B h)
 | st::ss,fr,k,G,s,Gs,B,h,hN,hR=>wpAny_execs_cons (SX (k:=λfr'=>gZ x sc ss fr' k) B h (λs' G' fr' R B' h'=>e7 SX B' h' (λs2 G2 bT R2 B2 h2=>hN s2 G2 bT (R.trans R2) B2 h2) hR) hR)
theorem yx{pos:Pos}(B:Bs w Gm H_ xt A env L sc Gq Gp G s fr)(h:Ok w Gm xt P (ownOf env) L Gq Gp (bnd (k fr) f G.σ) Q E)
  (hN:∀ s' G' fr',Rn w Gm xt (ownOf env) G s G' s'->Bs w Gm H_ xt A env L sc Gq Gp G' s' fr'->Ok w Gm xt P (ownOf env) L Gq Gp (bnd (k fr') f G'.σ) Q E->Gs .next s'):wpAny (model pw w) A (exec (.Pass pos) env) Gs E s:=by
 simp only[arm_exec_Pass];exact wpAny_bind (wpAny_standAt (wpAny_pure (hN s G fr (.refl B.I) B h)))
theorem kT(SR:bt w Gm H_ r){e:Option Expr}{pos:Pos}(B:Bs w Gm H_ xt A env L sc Gq Gp G s fr)(h:Ok w Gm xt P (ownOf env) L Gq Gp (bnd (bnd (DJ r sc fr e) λv=>ret (Flow'.ret v)) f G.σ) Q E)
  (hR:∀ v d s' G',Rn w Gm xt (ownOf env) Gq Gp G' s'->Rep w G'.B G'.ρ v d->Ok w Gm xt P (ownOf env) L Gq Gp (f (.ret d) G'.σ) Q E->Gs (.ret v) s'):wpAny (model pw w) A (exec (.Return e pos) env) Gs E s:=by
 rw[aR]at h
 induction e with
 | none=>simp only[exec_Return_none];exact wpAny_bind (wpAny_standAt (wpAny_pure (hR _ .none s G B.R .none h)))
 | some e=>simp only[exec_Return_some];exact wpAny_bind (wpAny_standAt (wpAny_bind (sZ SR B h λv Go Gn d R GK rv Gu=>wpAny_pure (hR v d Go Gn GK.R rv Gu))))
theorem yy(SR:bt w Gm H_ r){e:Expr}{pos:Pos}(hc:kj e=true)(B:Bs w Gm H_ xt A env L sc Gq Gp G s fr)(h:Ok w Gm xt P (ownOf env) L Gq Gp (bnd (bnd (r.ev sc fr e) λ_=>k fr) f G.σ) Q E)
  (hN:∀ s' G' fr',Rn w Gm xt (ownOf env) G s G' s'->Bs w Gm H_ xt A env L sc Gq Gp G' s' fr'->Ok w Gm xt P (ownOf env) L Gq Gp (bnd (k fr') f G'.σ) Q E->Gs .next s'):wpAny (model pw w) A (exec (.Expr e pos) env) Gs E s:=by
 rw[aR]at h;have hi:interactive env=false:=by unfold interactive;exact B.F.kind ▸ rfl
 have hs:swapsWith e none pos.line env=pure false:=Expr.Call.elim (motive_1:=λe=>swapsWith e none pos.line env=pure false) e (eq_of_beq hc) λ_ _ _ _=>rfl;exact wpAny_Expr_any (sZ SR B h λv Go Gn d R GK rv Gu=>hN Go Gn fr R.ev GK Gu) hi hs
theorem CX(SR:bt w Gm H_ r)(SX:kS w Gm H_ xt x){t:Expr}{a b:List Stmt}{pos:Pos}(B:Bs w Gm H_ xt A env L sc Gq Gp G s fr)(h:Ok w Gm xt P (ownOf env) L Gq Gp (bnd (bnd (r.tst sc fr t) λc=>if c then gZ x sc a fr k else gZ x sc b fr k) f G.σ) Q E)
  (hN:∀ s' G' fr',Rn w Gm xt (ownOf env) G s G' s'->Bs w Gm H_ xt A env L sc Gq Gp G' s' fr'->Ok w Gm xt P (ownOf env) L Gq Gp (bnd (k fr') f G'.σ) Q E->Gs .next s')
  (hR:∀ v d s' G',Rn w Gm xt (ownOf env) Gq Gp G' s'->Rep w G'.B G'.ρ v d->Ok w Gm xt P (ownOf env) L Gq Gp (f (.ret d) G'.σ) Q E->Gs (.ret v) s'):wpAny (model pw w) A (exec (.If t a b pos) env) Gs E s:=by
 rw[aR]at h;simp only[arm_exec_If];refine wpAny_bind (wpAny_standAt (wpAny_bind (Cb SR B h λc Go Gn R GK Gu=>?_)))
 induction c
 ·exact e7 SX GK Gu (λs2 G2 bT R2 B2 h2=>hN s2 G2 bT (R.ev.trans R2) B2 h2) hR
 ·exact e7 SX GK Gu (λs2 G2 bT R2 B2 h2=>hN s2 G2 bT (R.ev.trans R2) B2 h2) hR
theorem AQ{o:Option NameKind}(h:(match o with | some .local | some .cell=>true | _=>false)=true):o=some .local\/o=some .cell:=by
 induction o using Option.casesOn with
 | none=>exact fD h
 | some k=>induction k using NameKind.casesOn <;> first | exact .inl rfl | exact .inr rfl | exact fD h
theorem yz{y:Str}(hv:gM sc y=true):sc.lookup y=some .local\/sc.lookup y=some .cell:=by exact AQ hv
theorem eh{A':Around}(F:Fm w H_ A G s.heap env L sc fr)(I:Inv w Gm G s.heap){y:Str}{v:Value}{d:D}(rv:Rep w G.B G.ρ v d)(hv:gM sc y=true){Gs:Unit->Shared->Prop}
  (k:∀ s',Rn w Gm xt (ownOf env) G s G s'->Fm w H_ A G s'.heap env L sc (aj fr y d)->Gs () s'):wpAny (model pw w) A' (storeName env y v) Gs E s:=by
 refine PW (yz hv) (λhk=>?_) λhk=>?_
 ·exact jD F I rv hk λs' R F'=>k s' (R.weak λb hb=>by have q:b=env.locals:=List.mem_singleton.mp hb;simp only[q];exact .head _) F'
 ·exact sS F I rv hk λs' R F'=>k s' (R.weak λb hb=>.tail _ hb) F'
theorem ei{y:Str}{d:D}{σ:St}{f:af->M α}(h:bnd (aY sc fr y d) f σ≠.stuck):gM sc y=true/\aY sc fr y d=ret (aj fr y d):=by
 unfold aY at h ⊢;rcases P_ (gM sc y=true) with hv | hv
 ·exact⟨hv,by exact(PY hv)⟩
 ·rw[PZ hv]at h;exact absurd rfl h
theorem Ok.nst{t:R α}{Id:List Addr}(h:Ok w Gm xt P Id L Gq Gp t Q E):t≠.stuck:=λe=>by subst e;exact h
theorem j9{A':Around}{E':Value->Shared->Prop}(B:Bs w Gm H_ xt A env L sc Gq Gp G s fr){y:Str}{v:Value}{d:D}{f:af->M α}(rv:Rep w G.B G.ρ v d)(h:Ok w Gm xt P (ownOf env) L Gq Gp (bnd (aY sc fr y d) f G.σ) Q E){Gs:Unit->Shared->Prop}
  (k:∀ s' fr',Rn w Gm xt (ownOf env) G s G s'->Bs w Gm H_ xt A env L sc Gq Gp G s' fr'->Ok w Gm xt P (ownOf env) L Gq Gp (f fr' G.σ) Q E->Gs () s'):wpAny (model pw w) A' (storeName env y v) Gs E' s:=by
 refine PV (λhv hs=>?_) (ei h.nst);rw[hs]at h;exact eh B.F B.I rv hv λs' R F'=>k s' _ R ⟨B.F₀,B.R.trans R,F'⟩ h
theorem E7{op:Operator}{a b:Int}{va vb:Value}{Id:List Addr}{Lf:Addr}{Q:Value->Shared->Prop}(ho:xM op=true)(I:Inv w Gm G s.heap)(ra:Rep w G.B G.ρ va (.int a))(rb:Rep w G.B G.ρ vb (.int b))
  (h:Ok w Gm xt (rep w) Id Lf G s (ag op (.int a) (.int b) G.σ) Q E):wpAny (model pw w) A (inplaceOp op va vb) Q E s:=by
 refine PU ra.int' λta zz1=>?_;rw[zz1];refine PU rb.int' λtb zz1=>?_;obtain rfl:=zz1
 induction op with
 | Add=>exact PySem.AutoIntOps.iadd_0 (h.int I _ _)
 | Sub=>exact PySem.AutoIntOps.isub_0 (h.int I _ _)
 | Mult=>refine PV (λhc h=>?_) (Ok.ite h);obtain⟨h1,h2⟩:=P8 hc;exact PySem.AutoIntOps.imul_0 (h.int I _ _) (pL h1 h2)
 | FloorDiv=>obtain⟨⟨h1,h2,h3⟩,h⟩:=Ok.ite h;exact PySem.AutoIntOps.ifloordiv_1 (by simpa using h1) (by rw[fQ h3];decide) (h.int I _ _)
 | _=>exact fD ho
end
end
section
variable{w:World}{Gm:Heap}{mg mb:Str->Option Value}{xt:Bool}
section
variable{H_:Nat}{A:Around}{env:Env}{L:Addr}{sc:Sc}{fr:af}{Gq G G':Gh}{Gp s s':Shared}{E:Value->Shared->Prop}{r:Rc}{x:Sx}{α β:Type}{P:Gh->β->α->Prop}{Q:β->Shared->Prop}{Id:List Addr}
theorem Ok.ofEq{γ:Type}{m:M γ}(hs:m G.σ≠.stuck)(kE:∀ x s' G',m G.σ=.exc G'.σ->Rn w Gm false Id G s G' s'->ExcAt w s.heap G' s'.heap L x->E x s') :
  Ok w Gm xt (λG' (v:γ×St) d=>v=(d,G'.σ)) Id L G s (bnd m ret G.σ) (λv _=>m G.σ=.ok v.1 v.2) E:=by
 unfold bnd
 induction hm:m G.σ with
 | ok d σ'=>intro v s' G' e _ p;subst p;subst e;rfl
 | exc σ'=>intro x s' G' e R X;subst e;exact kE x s' G' hm R X
 | stuck=>exact absurd hm hs
noncomputable def Cc(pool:Bool)(l:List D):M D:=if pool then bnd (d_ (.list l)) λi=>ret (.ref i) else ret (.list l)
theorem mZ(pool:Bool){acc:List D}{l:Addr}(R:Rn w Gm true Id G s G' s')(h1:s.heap.get? l=none)(h2:G'.B l=none)(h3:l∉G'.ρ)(h4:l≠sysModules)(hl:∃ vs n,s'.heap.get? l=some { cls:=.type "list",data:=.seq (List.toArray vs) n }/\RepL w G'.B G'.ρ vs acc) :
  ∃ G'' d,Cc pool acc G'.σ=.ok d G''.σ/\Rn w Gm true Id G s G'' s'/\Rep w G''.B G''.ρ (.ref l) d/\∀ c,c≠l->(G'.B c=none->G''.B c=none)/\(c∉G'.ρ->c∉G''.ρ):=by
 refine aJ hl λvs n hl hr=>?_
 induction pool with
 | true=>
  have C:CellAt w G' s'.heap l (.list acc):=⟨vs,n,hl,hr⟩;refine⟨G'.more l (.list acc),.ref G'.σ.length,rfl,mU R h1 h2 h3 h4 C,.ref ?_,λc hc=>⟨λe=>e,λe q=>?_⟩⟩
  ·show(G'.ρ++[l])[G'.σ.length]?=some l;rw[<-R.inv.len,List.getElem?_append_right (Nat.le_refl _),Nat.sub_self];rfl
  ·rcases List.mem_append.mp q with q | q
   ·exact e q
   ·exact hc (List.mem_singleton.mp q)
 | false=>
  obtain⟨R'',eB⟩:=gq R h1 h2 h3 hl;refine⟨G'.add l _,.list acc,rfl,R'',.list ⟨_,n,eB,rfl,rfl⟩ (hr.mono (λb o' q=>?_) ⟨[],by simp[Gh.add]⟩),λc hc=>⟨λe=>?_,λe=>e⟩⟩
  ·show(if b=l then some _ else G'.B b)=some o';refine PX (PZ (λz=>by rw[z]at q;replace q:=h2 ▸ q;exact du q)) ?_;exact q
  ·show(if c=l then some _ else G'.B c)=none;refine PX (PZ hc) ?_;exact e
theorem kU{pool:Bool}{elt:Expr}{gens:List Comprehension}{scope:Scope}{pos:Pos}:zW r sc fr pool (.ListComp elt gens scope pos)=if bL sc scope=true then bnd (eg r sc fr elt gens scope.names) (Cc pool) else stuck:=by
 show(if (!bL sc scope)=true then stuck else if pool=true then bnd (eg r sc fr elt gens scope.names) (λl=>bnd (d_ (.list l)) λi=>ret (D.ref i)) else bnd (eg r sc fr elt gens scope.names) λl=>ret (D.list l))=_
 induction bL sc scope <;> induction pool <;> rfl
theorem yA{pool:Bool}{ks:List (Option Expr)}{vs:List Expr}{pos:Pos}:zW r sc fr pool (.Dict ks vs pos)=bnd (pI r sc fr ks vs) (λq0=>match q0 with | .inl l=>bnd (d_ (.sdict l)) λi=>ret (.ref i) | .inr _=>stuck):=rfl
theorem wo{pool:Bool}(e:Expr):(∃ ks vs p,e=.Dict ks vs p)\/(∃ a b c p,e=.ListComp a b c p)\/zW r sc fr pool e=stuck\/zW r sc fr pool e=r.ev sc fr e:=
 if h:e.ctorIdx=6 then .inl (Expr.Dict.elim (motive_1:=λe=>∃ ks vs p,e=.Dict ks vs p) e h λks vs p=>⟨ks,vs,p,rfl⟩) else
 if h2:e.ctorIdx=8 then .inr (.inl (Expr.ListComp.elim (motive_1:=λe=>∃ a b c p,e=.ListComp a b c p) e h2 λa b c p=>⟨a,b,c,p,rfl⟩)) else
 .inr (.inr (if h3:e.ctorIdx=9\/e.ctorIdx=10 then .inl ((dif_neg h).trans ((dif_neg h2).trans (PY h3))) else .inr ((dif_neg h).trans ((dif_neg h2).trans (PZ h3)))))
theorem CY(SR:bt w Gm H_ r)(I:Inv w Gm G s.heap)(F:Fm w H_ A G s.heap env L sc fr){pool:Bool}{e:Expr}{Gs:Value->Shared->Prop}(hs:zW r sc fr pool e G.σ≠.stuck)
  (k:∀ v Go Gn d,zW r sc fr pool e G.σ=.ok d Gn.σ->Rn w Gm true [] G s Gn Go->Fm w H_ A Gn Go.heap env L sc fr->Rep w Gn.B Gn.ρ v d->Gs v Go)
  (kE:∀ x s' G',zW r sc fr pool e G.σ=.exc G'.σ->Rn w Gm false [] G s G' s'->ExcAt w s.heap G' s'.heap L x->E x s'):wpAny (model pw w) A (eval e env) Gs E s:=by
 rcases wo (r:=r) (sc:=sc) (fr:=fr) (pool:=pool) e with⟨ks,vs,pos,rfl⟩ | ⟨elt,gens,scope,pos,rfl⟩ | he | he
 ·rw[yA]at hs k kE;refine qf SR I F (Ok.ofEq (Id:=[]) (L:=L) (ba hs) λx s' G' e R X=>kE x s' G' (dp e) R X) λd Go Gn x R h1 h2 h3 h4 h5 h6=>?_;have e:=Ok.now (v:=(x,Gn.σ)) R.inv h6 rfl;rw[bg e]at hs k
  induction x with
  | inr l=>exact absurd rfl hs
  | inl l=>have R':=mU R h1 h2 h3 h4 (c:=.sdict l) h5;refine k _ Go (Gn.more d (.sdict l)) (.ref Gn.σ.length) rfl R' (F.on R') (.ref ?_);show(Gn.ρ++[d])[Gn.σ.length]?=some d;rw[<-R.inv.len,List.getElem?_append_right (Nat.le_refl _),Nat.sub_self];rfl
 ·rw[kU]at hs k kE
  by_cases hsc:bL sc scope=true
  ·rw[PY hsc]at hs k kE;simp only[eval_ListComp];refine om SR I F hsc (ba hs) (use:=none) (λC l s' G' acc e R h1 h2 h3 h4 h5 h6 h7 h8 hl hns=>?_) λs' G' x e R X=>kE x s' G' (dp e) R X;intro h' hs';have R':Rn w Gm true [] G s G' { s' with heap:=h' }:=eY R s'.toks (λb o hb e=>(hs'.2 b (λq=>hb (q ▸ .head _))).trans e) h2 h7 h8;refine aJ hl λvs n hl hr=>?_;refine aH (mZ pool R' h1 h5 h6 h4 ⟨vs,n,(hs'.2 l λq=>h3 q.symm).trans hl,hr⟩) λG'' d e' R'' rv _=>?_;exact k _ _ G'' d ((bg e).trans e') R'' (F.on R'') rv
  ·rw[PZ hsc]at hs;exact absurd rfl hs
 ·exact absurd (congrFun he _) hs
 ·rw[he]at hs k kE;exact mW SR I F hs k kE
theorem Fm.but{h':Heap}{fr':af}(F₀:Fm w H_ A G s.heap env L sc fr)(F:Fm w H_ A G' s'.heap env L sc fr'){C:Addr}(hC:s.heap.get? C=none)(hk:∀ b,b≠C->h'.get? b=s'.heap.get? b):Fm w H_ A G' h' env L sc fr':=by
 refine ar F₀.stk λGH outer f1 f2 f3=>?_;refine ar F.stk λHN HO g1 g2 g3=>?_;refine am F.loc λm hn hm=>?_;have nl:env.locals≠C:=λq=>by obtain⟨o,e⟩:=F₀.there;rw[q,hC]at e;exact nomatch e
 have nc:∀ c∈env.cells.map (·.2),c≠C:=λc hc q=>by obtain⟨o,e⟩:=F₀.ex c hc;rw[q,hC]at e;exact nomatch e
 have cl:∀ {y c v},env.cells.lookup y=some c->s'.heap.IsCell c v->h'.IsCell c v:=λe ⟨o,ho,hd⟩=>⟨o,(hk _ (nc _ (dw e))).trans ho,hd⟩;refine⟨F.handled,F.depth,F.units,⟨HN,HO,g1,g2,λen he=>?_⟩,F.frame,F.kind,F.globals,F.builtins,F.names,⟨m,let ⟨o,es,ep,ho,r⟩:=hn;⟨o,es,ep,(hk _ nl).trans ho,r⟩,hm⟩,λy d h1 h2=>?_,λy h1=>?_,F.apart,F.lc,λc hc=>?_,F.inj⟩
 ·refine pF (g3 en he) λhk' L' o a z1=>?_;refine cO z1 λb c d e=>?_;refine sq (f3 en (by replace g1:=(f1) ▸ g1;cases g1;exact he)) λ_ L'' o'' a' b' _=>?_;have:L''=L':=P7 (a'.symm.trans a);subst this;exact⟨hk',L'',o,a,(hk _ λq=>by rw[q]at b';replace b':=hC ▸ b';injection b').trans b,c,d,e⟩
 ·refine ar (F.cel y d h1 h2) λc v e q r=>?_;exact⟨c,v,e,cl e q,r⟩
 ·refine aJ (F.cel0 y h1) λc v e q=>?_;exact⟨c,v,e,cl e q⟩
 ·obtain⟨o,e⟩:=F.ex c hc;exact⟨o,(hk c (nc c hc)).trans e⟩
theorem g9{h h':Heap}(e:Heap.ExtBut h.objs.size h h'):∀ b o,h.get? b=some o->h'.get? b=some o:=λb o q=>e b o (Nat.ne_of_lt (Heap.lt_size q)) q
theorem m_{A':Around}{f:af->M α}{Gs:Unit->Shared->Prop}(ts:List Expr):∀ {ds:List D} {vs:List Value} {fr:af} {s:Shared},Bs w Gm H_ xt A env L sc Gq Gp G s fr->RepL w G.B G.ρ vs ds->Ok w Gm xt P (ownOf env) L Gq Gp (bnd (bc sc fr ts ds) f G.σ) Q E →
  (∀ s' fr',Rn w Gm xt (ownOf env) G s G s'->Bs w Gm H_ xt A env L sc Gq Gp G s' fr'->Ok w Gm xt P (ownOf env) L Gq Gp (f fr' G.σ) Q E->Gs () s')->wpAny (model pw w) A' (assignInOrder ((assignEach ts env).map (·.2)) vs) Gs E s:=by
 induction ts with
 | nil=>
  intro ds vs fr s B hl h k
  induction ds using List.casesOn with
  | nil=>cases hl;exact wpAny_pure (k s fr (.refl B.I) B h)
  | cons d ds=>exact(h:False).elim
 | cons t ts ih=>
  intro ds vs fr s B hl h k
  induction ds using List.casesOn with
  | nil=>exact(h:False).elim
  | cons d ds=>
  refine Ok.onName (λm=>bnd m f G.σ) h (λy py z h9=>?_) False.elim;clear h;subst z;have h:=h9;cases hl with
  | @cons v _ vs _ rv rl=>
  rw[aR]at h;show wpAny _ A' (do holding vs (assign (.Name y py) env v);assignInOrder ((assignEach ts env).map (·.2)) vs) _ _ s;exact wpAny_bind (wpAny_holding (wpAny_assign_Name (j9 B rv h λs' fr' R B' h'=>ih B' (R.repL rl) h' λs2 bT R2 B2 h2=>k s2 bT (R.trans R2) B2 h2)))
theorem e8(env:Env){sc:Sc}:∀ {ts:List Expr} {ds:List D} {fr:af} {σ:St},bc sc fr ts ds σ≠.stuck->(assignEach ts env).length=ds.length/\(assignEach ts env).findIdx? (·.1)=none
 | [],[],fr,σ,h=>⟨rfl,rfl⟩
 | t::ts,d::ds,fr,σ,h=>by
  refine jd (λm:M af=>m σ≠.stuck) h (λy py z h9=>?_) (absurd rfl);clear h;subst z;have h:=h9;have:∃ fr' σ',bc sc fr' ts ds σ'≠.stuck:=by
   dsimp only[bnd]at h
   induction q:aY sc fr y d σ with
   | ok a σ'=>rw[q]at h;exact⟨a,σ',h⟩
   | exc σ'=>
    unfold aY at q
    split at q <;> injection q
   | stuck=>rw[q]at h;exact absurd rfl h
  refine gD this λfr' σ' h'=>?_;obtain⟨e1,e2⟩:=e8 env h';refine⟨congrArg (· + 1) e1, ?_⟩;refine PX (List.findIdx?_cons) ?_;simp[e2]
 | [],d::ds,fr,σ,h=>absurd rfl h
 | t::ts,[],fr,σ,h=>absurd rfl h
theorem AR{ts:List Expr}{n:Nat}{pos:Pos}{d:D}{v:Value}{f:af->M α}(B:Bs w Gm H_ xt A env L sc Gq Gp G s fr)(rv:Rep w G.B G.ρ v d)(h:Ok w Gm xt P (ownOf env) L Gq Gp (bnd (asTup d (bc sc fr ts)) f G.σ) Q E){Gs:Unit->Shared->Prop}
  (k:∀ s' fr',Rn w Gm xt (ownOf env) G s G s'->Bs w Gm H_ xt A env L sc Gq Gp G s' fr'->Ok w Gm xt P (ownOf env) L Gq Gp (f fr' G.σ) Q E->Gs () s'):wpAny (model pw w) A (assign (.Tuple ts n pos) env v) Gs E s:=by
 induction d using D.casesOn <;> try exact(h:False).elim
 refine ar rv.inv λ_ _ z2 hb hl=>?_;obtain rfl:=z2;obtain⟨e1,e2⟩:=e8 env (ba h.nst);refine wpAny_assign_Tuple B.F.handled (hb.tup B.I.stays) (by refine PX e1 (PX (Eq.symm hl.length) ?_);simp) e2 λh' he=>?_;have R:Rn w Gm true [] G s G { s with heap:=h' }:=dC B.I s.toks (g9 he);exact m_ ts (B.on R) hl h λs2 bT R2 B2 h2=>k s2 bT (R.ev.trans R2) B2 h2
theorem s8(X:Cx w Gm mg mb)(SR:bt w Gm H_ r){t:Expr}{d:D}{v:Value}{f:af->M α}(B:Bs w Gm H_ xt A env L sc Gq Gp G s fr)(rv:Rep w G.B G.ρ v d)(h:Ok w Gm xt P (ownOf env) L Gq Gp (bnd (gk r sc fr d t) f G.σ) Q E){Gs:Unit->Shared->Prop}
  (k:∀ s' G' fr',Rn w Gm xt (ownOf env) G s G' s'->Bs w Gm H_ xt A env L sc Gq Gp G' s' fr'->Ok w Gm xt P (ownOf env) L Gq Gp (f fr' G'.σ) Q E->Gs () s'):wpAny (model pw w) A (assign t env v) Gs E s:=by
 refine Ok.onName (λm=>bnd m f G.σ) h (λy py z h9=>?_) λh1=>Ok.onTup (λm=>bnd m f G.σ) h1 (λts n pos z h9=>?_) λh2=>Ok.onAttr (λm=>bnd m f G.σ) h2 (λo a pos z h9=>?_) λ_ h3=>Ok.onSub (λm=>bnd m f G.σ) h3 (λo i pos z h9=>?_) False.elim
 ·clear h;subst z;exact wpAny_assign_Name (j9 B rv h9 λs' fr' R B' h'=>k s' G fr' R B' h')
 ·clear h;subst z;exact AR B rv h9 λs' fr' R B' h'=>k s' G fr' R B' h'
 rotate_left
 ·clear h1 h2 h3 h;subst z;have h:=h9;dsimp only[arm_assign_Subscript];simp only[aR]at h;refine wpAny_bind (wpAny_holding (sZ SR B h λov Go Gn od GF GK ro Gu=>wpAny_bind (wpAny_holding (sZ SR GK Gu λiv Gv GB id Gw GZ ri Gy=>wpAny_bind (wpAny_standAt (wpAny_bind (wpAny_holding ?_)))))));refine CJ (xt:=true) (Id:=[]) (Lf:=L) GZ.F.rm GZ.I (Gw.rep ro) ri ((GF.trans Gw).rep rv) ?_;have go:∀ vs,Ok w Gm true E5 [] L GB Gv (cM od id d GB.σ) (λ_ s'=>wpAny (model pw w) A (release vs []) Gs E s') E:=λvs=>by
   induction hm:cM od id d GB.σ with
   | ok u σ'=>intro _ s' G' e R' _;subst e;rw[bg hm]at Gy;exact wpAny_release (k s' G' fr ((GF.trans Gw).trans R').ev (GZ.on R') Gy)
   | exc σ'=>intro y s' G' e R' X';subst e;exact GZ.excd Gy hm (R'.weak cP) X'
   | stuck=>exact absurd hm (ba Gy.nst)
  exact go _
 ·clear h1 h2 h;subst z;have h:=h9;simp only[arm_assign_Attribute];simp only[aR]at h;refine wpAny_bind (wpAny_holding (sZ SR B h λov Gv GB od Gw GZ ro Gy=>wpAny_bind (wpAny_standAt (wpAny_bind (wpAny_holding ?_)))));refine sN (xt:=true) (Id:=[]) (Lf:=L) X GZ.I ro (Gw.rep rv) ?_
  induction hm:ef od a d GB.σ with
  | ok u σ'=>intro _ s' G' e R' _;subst e;rw[bg hm]at Gy;exact wpAny_release (k s' G' fr (Gw.trans R').ev (GZ.on R') Gy)
  | exc σ'=>intro y s' G' e R' X';subst e;exact GZ.excd Gy hm (R'.weak cP) X'
  | stuck=>exact absurd hm (ba Gy.nst)
end
end
section
variable{w:World}{Gm:Heap}{mg mb:Str->Option Value}{xt:Bool}
noncomputable def FT(value t:Expr)(env:Env):Prop:=(∃ elt gens scope pos y py,value=.ListComp elt gens scope pos/\t=.Name y py/\env.kindOf y=some .local)\/(∃ a b c d,value=.SetComp a b c d)\/∃ a b c d e,value=.DictComp a b c d e
noncomputable def Fw(value t:Expr)(line:Nat)(env:Env):Prop:=∃ b,swapsWith value (some t) line env=pure b/\(b=true->FT value t env)
theorem EH{value t:Expr}{line:Nat}{env:Env}(h:swapsWith value (some t) line env=pure false):Fw value t line env:=⟨false,h,nofun⟩
set_option tactic.hygienic true in
theorem s9{value t:Expr}{line:Nat}{env:Env}:Fw value t line env:=by
 induction value using Expr.casesOn <;> try exact EH rfl
 case ListComp elt gens scope pos=>
  induction t using Expr.casesOn <;> try exact EH rfl
  rename_i y py;refine⟨_,rfl,λh=>.inl ⟨_,_,_,_,_,_,rfl,rfl, ?_⟩⟩;simp only[Bool.and_eq_true,beq_iff_eq]at h;exact h.1.1.2
 case SetComp a b c d=>
  induction t using Expr.casesOn <;> try exact EH rfl
  exact⟨_,rfl,λ_=>.inr (.inl ⟨_,_,_,_,rfl⟩)⟩
 case DictComp a b c d e=>
  induction t using Expr.casesOn <;> try exact EH rfl
  exact⟨_,rfl,λ_=>.inr (.inr ⟨_,_,_,_,_,rfl⟩)⟩
noncomputable def CZ(t e:Expr):Prop:=∃ ts k p vs k' p',t=.Tuple ts k p/\e=.Tuple vs k' p'
noncomputable def Ec(t e:Expr):Prop:=∃ ts p vs k' p',t=.List ts p/\e=.Tuple vs k' p'
noncomputable def Fx(t e:Expr)(env:Env):Prop:=CZ t e\/Ec t e\/swappedStores [t] e env=pure none
theorem sn{t e:Expr}{env:Env}(h:swappedStores [t] e env=pure none):Fx t e env:=.inr (.inr h)
set_option tactic.hygienic true in
theorem sw1{t e:Expr}{env:Env}:Fx t e env:=by
 induction t using Expr.casesOn <;> try exact sn rfl
 case Tuple ts k p=>induction e using Expr.casesOn <;> first | exact sn rfl | exact .inl ⟨_,_,_,_,_,_,rfl,rfl⟩
 case List ts p=>induction e using Expr.casesOn <;> first | exact sn rfl | exact .inr (.inl ⟨_,_,_,_,_,rfl,rfl⟩)
theorem oq{t e:Expr}{env:Env}(h:¬ CZ t e)(h':¬ Ec t e):swappedStores [t] e env=pure none:=sw1.elim (absurd · h) λq=>q.elim (absurd · h') id
theorem AS{F:Expr->Option Str}{n m:Expr}{x y:Str}(h1:F n=some x\/F n=none)(h2:F m=some y\/F m=none):List.filterMap F [n,m]=[x,y]\/(List.filterMap F [n,m]).length≠2:=
 h1.elim (λe1=>h2.elim (λe2=>.inl (by refine PX (List.filterMap_cons_some e1) ?_;exact congrArg _ (List.filterMap_cons_some e2))) λe2=>.inr (by rw[List.filterMap_cons_some e1,List.filterMap_cons_none e2];exact nofun))
  λe1=>h2.elim (λe2=>.inr (by rw[List.filterMap_cons_none e1,List.filterMap_cons_some e2];exact nofun)) λe2=>.inr (by rw[List.filterMap_cons_none e1,List.filterMap_cons_none e2];exact nofun)
noncomputable def E8(c1 c2:Bool)(N:List Str)(c3 c4:Bool):Sem (Option (List Str)):=if c1 then pure none else if c2 then pure none else if (N.length !=2||N.eraseDups.length !=N.length) then pure none else if c3 then pure none else if c4 then unsupported "assign.tuple-of-constant-expressions:order-of-the-stores" else pure (some N)
theorem C1{c1 c2 c3:Bool}{N:List Str}{x y:Str}(h:N=[x,y]\/N.length≠2):E8 c1 c2 N c3 false=pure none\/E8 c1 c2 N c3 false=pure (some [x,y]):=by
 induction c1 with
 | true=>exact .inl rfl
 | false=>
 induction c2 with
 | true=>exact .inl rfl
 | false=>
 refine h.elim (λq=>?_) λq=>.inl (PY (Bool.or_eq_true_iff.mpr (.inl (bne_iff_ne.mpr q))));rw[q];refine PW (P_ (([x,y].length !=2||[x,y].eraseDups.length !=[x,y].length)=true)) (λz=>.inl (PY z)) λz=>?_
 induction c3 with
 | true=>exact .inl (PZ z)
 | false=>exact .inr (PZ z)
theorem yB{α:Type}{c:Bool}{x:α}:(if c=true then some x else none)=some x\/(if c=true then some x else none)=none:=by
 induction c with
 | true=>exact .inl rfl
 | false=>exact .inr rfl
theorem ot{x y:Str}{px py:Pos}{a b:Expr}{k k':Nat}{p p':Pos}{env:Env}(hxy:(x==y)=false)(hc:[a,b].all (PySem.constantsAlone 8)=false) :
  swappedStores [.Tuple [.Name x px,.Name y py] k p] (.Tuple [a,b] k' p') env=pure none\/swappedStores [.Tuple [.Name x px,.Name y py] k p] (.Tuple [a,b] k' p') env=pure (some [x,y]):=by
 have e:∃ (c1 c2 c3:Bool) (F:Expr->Option Str),(F (.Name x px)=some x\/F (.Name x px)=none)/\(F (.Name y py)=some y\/F (.Name y py)=none)/\swappedStores [.Tuple [.Name x px,.Name y py] k p] (.Tuple [a,b] k' p') env=E8 c1 c2 (List.filterMap F [.Name x px,.Name y py]) c3 ([a,b].all (PySem.constantsAlone 8)):=
  ⟨_,_,_,fun | .Name id pos=>if (env.kindOf id==some .local&&pos.line==px.line)=true then some id else none | _=>none,yB,yB,rfl⟩
 refine eO e λc1 c2 c3 q=>?_;refine bk q λF h1 h2 e=>?_;simp only[e,hc];exact C1 (AS h1 h2)
theorem wp{ts vs:List Expr}{k k':Nat}{p p':Pos}(h:sC (.Tuple ts k p) (.Tuple vs k' p')=true):∃ x px y py a b,ts=[.Name x px,.Name y py]/\vs=[a,b]/\(x==y)=false/\[a,b].all (PySem.constantsAlone 8)=false:=by
 have h:sB ts vs=true:=h;cases ts with
 | nil=>exact fD h
 | cons t ts=>
  cases ts with
  | nil=>exact fD h
  | cons u ts=>
   induction ts using List.casesOn with
   | cons=>exact fD h
   | nil=>
    cases vs with
    | nil=>exact fD h
    | cons a vs=>
     cases vs with
     | nil=>exact fD h
     | cons b vs=>
      induction vs using List.casesOn with
      | cons=>exact fD h
      | nil=>
       unfold sB at h;dsimp only at h
       induction q1:df t <;> replace h:=q1 ▸ h
       case none=>exact fD h
       induction q2:df u <;> simp only[q2]at h
       case none=>exact nomatch h
       obtain⟨_,rfl⟩:=f0 q1;obtain⟨_,rfl⟩:=f0 q2;have h:=(Bool.and_eq_true_iff.1 h);exact⟨_,_,_,_,_,_,rfl,rfl,(Bool.not_eq_true' _).mp h.1,(Bool.not_eq_true' _).mp h.2⟩
section
variable{H_:Nat}{A:Around}{env:Env}{L:Addr}{sc:Sc}{fr:af}{Gq G G':Gh}{Gp s s':Shared}{E:Value->Shared->Prop}{r:Rc}{α β:Type}{P:Gh->β->α->Prop}{Q:β->Shared->Prop}{k:K'}{f:Flow'->M α}{Gs:Flow->Shared->Prop}
theorem yC(F:Fm w H_ A G s.heap env L sc fr){y:Str}(h:env.kindOf y=some .local):sc.lookup y=some .local:=by
 rcases F.names y with q | ⟨q,z⟩
 ·refine PX (Eq.symm (q)) ?_;exact h
 ·replace z:=(h) ▸ z;exact absurd z (by decide)
theorem ql(SR:bt w Gm H_ r){pool:Bool}{elt:Expr}{gens:List Comprehension}{scope:Scope}{cpos py pos:Pos}{y:Str}(B:Bs w Gm H_ xt A env L sc Gq Gp G s fr)(hy:env.kindOf y=some .local)
  (hsw:swapsWith (.ListComp elt gens scope cpos) (some (.Name y py)) pos.line env=pure true)
  (h:Ok w Gm xt P (ownOf env) L Gq Gp (bnd (zW r sc fr pool (.ListComp elt gens scope cpos)) (λv=>bnd (aY sc fr y v) λfr'=>bnd (k fr') f) G.σ) Q E)
  (hN:∀ s' G' fr',Rn w Gm xt (ownOf env) G s G' s'->Bs w Gm H_ xt A env L sc Gq Gp G' s' fr'->Ok w Gm xt P (ownOf env) L Gq Gp (bnd (k fr') f G'.σ) Q E->Gs .next s'):wpAny (model pw w) A (exec (.Assign [.Name y py] (.ListComp elt gens scope cpos) pos) env) Gs E s:=by
 have F:=B.F;have hl:=yC F hy;have hv:gM sc y=true:=by unfold gM;rw[hl]
 have hst:∀ v,aY sc fr y v=ret (aj fr y v):=λv=>by unfold aY;exact(PY hv)
 have hsc:bL sc scope=true:=by
  cases q:bL sc scope with
  | true=>rfl
  | false=>rw[kU,q]at h;exact(h:False).elim
 rw[kU,PY hsc,aR]at h;simp only[arm_exec_Assign];have hsw':swapsWithSole [.Name y py] (.ListComp elt gens scope cpos) pos.line env=pure true:=by unfold swapsWithSole;exact hsw
 rw[hsw'];refine wpAny_bind (wpAny_standAt (wpAny_bind (wpAny_pure ?_)));rw[PY rfl];refine wpAny_bind ?_;rw[show ∀ u,evalThenUse (.ListComp elt gens scope cpos) env u=(comprehension (.ListComp elt gens scope cpos) scope env (firstIterPos gens cpos) (newList []) (firstAsync gens) (firstIter gens env) (some u) >>= λ_=>pure ()) from λu=>by first | rfl | (unfold evalThenUse;rfl)];have kn:∀ C l s' G' acc,eg r sc fr elt gens scope.names G.σ=.ok acc G'.σ->Rn w Gm true [] G s G' s'->s.heap.get? l=none->s.heap.get? C=none->C≠l->l≠sysModules->G'.B l=none->l∉G'.ρ->G'.B C=none->C∉G'.ρ →
   (∃ vs n,s'.heap.get? l=some { cls:=.type "list",data:=.seq (List.toArray vs) n }/\RepL w G'.B G'.ρ vs acc)->(∃ m,s'.heap.Ns C m)->CW (model pw w) A E (some λv=>assignAll v ((assignEach [.Name y py] env).map (·.2))) (λ_ s'=>Gs .next s') (.ref l) C s':=by
  intro C l s' G' acc e R h1 h2 h3 h4 h5 h6 h7 h8 hl' hns;refine PU hns λm hns=>?_;show wpAny (model pw w) A (assignAll (.ref l) ((assignEach [.Name y py] env).map (·.2))) (λ_ s''=>∃ m,s''.heap.Ns C m/\∀ h',Heap.SameBut C s''.heap h'->Gs .next { s'' with heap:=h' }) E s';rw[bg e]at h;refine aH (mZ pool R h1 h5 h6 h4 hl') λG'' d e' R'' rv hC=>?_;rw[bg e']at h;rw[hst]at h;have B'':=B.on R'';have Cl:C∉ownOf env:=λq=>PU ((P9 q).elim (λq=>q ▸ F.there) λq=>F.ex _ q) λo e=>du (h2.symm.trans e);refine PV (λc1 c2=>?_) (hC C h3);refine wpAny_assign_Name (eh (xt:=xt) B''.F B''.I rv hv λs2 R2 F2=>?_);refine⟨m,kI (λo ho=>let ⟨sl,q,_⟩:=R2.keep C o ho (c2 h8) Cl;⟨sl,q⟩) hns,λh'' hs''=>?_⟩;have R4:Rn w Gm xt (ownOf env) Gq Gp G'' { s2 with heap:=h'' }:=eY (B''.R.trans R2) s2.toks (λb o hb e=>(hs''.2 b (λq=>hb (q ▸ .head _))).trans e) (B.R.fresh _ h2) (c1 h7) (c2 h8);have R5:Rn w Gm xt (ownOf env) G s G'' { s2 with heap:=h'' }:=eY (R''.ev.trans R2) s2.toks (λb o hb e=>(hs''.2 b (λq=>hb (q ▸ .head _))).trans e) h2 (c1 h7) (c2 h8);exact hN _ G'' _ R5 ⟨B.F₀,R4,F.but F2 h2 λb hb=>hs''.2 b hb⟩ h
 have K:=om (pos:=cpos) (pos':=firstIterPos gens cpos) SR B.I F hsc (ba h.nst) kn λs' G' x e R X=>B.excd h e (R.weak cP) X;exact wpAny_bind (wm K λ_ s' q=>wpAny_pure (wpAny_pure q))
theorem s_{a:Addr}{v1 v2:Value}{y z:Str}{stores:List (Value->Sem Unit)}(hh:A.handled=none)(ht:IsTup s.heap a [v1,v2].toArray)
  (h:∀ h',Heap.ExtBut s.heap.objs.size s.heap h'->wpAny (model pw w) A (storeName env z v2) (λ_ s2=>wpAny (model pw w) A (storeName env y v1) (λ_ s3=>Gs .next s3) E s2) E { s with heap:=h' }) :
  wpAny (model pw w) A (assignStores env (.ref a) (some [y,z]) stores) Gs E s:=by
 refine wpAny_bind (wpAny_rule ?_);have e:([y,z]:List Str).length=[v1,v2].toArray.size:=rfl;rw[e];refine wpAny_bind (wpAny_unpackItems_tuple hh ht λh' he=>?_);refine wpAny_bind ?_;dsimp only[assignInOrder];refine wpAny_bind (wpAny_holding (wpAny_bindName (wm (h h' he) λ_ s2 h2=>?_)));delta assignInOrder;exact wpAny_bind (wpAny_holding (wpAny_bindName (wm h2 λ_ s3 h3=>wpAny_pure (wpAny_pure h3))))
theorem AT{y z:Str}{py pz:Pos}{ds:List D}{f:af->M α}{σ:St}(h:bnd (bc sc fr [.Name y py,.Name z pz] ds) f σ≠.stuck):∃ d1 d2,ds=[d1,d2]/\gM sc y=true/\gM sc z=true/\bc sc fr [.Name y py,.Name z pz] ds=ret (aj (aj fr y d1) z d2):=by
 match ds,h with
 | [],h=>exact absurd rfl h
 | d1::ds,h=>
  have e1:bc sc fr [.Name y py,.Name z pz] (d1::ds)=bnd (aY sc fr y d1) λfr'=>bc sc fr' [.Name z pz] ds:=rfl;rw[e1]at h ⊢;rw[aR]at h;refine PV (λvy sy=>?_) (ei h);rw[sy]at h ⊢;have h:bnd (bc sc (aj fr y d1) [.Name z pz] ds) f σ≠.stuck:=h
  match ds,h with
  | [],h=>exact absurd rfl h
  | d2::ds,h=>
   have e2:bc sc (aj fr y d1) [.Name z pz] (d2::ds)=bnd (aY sc (aj fr y d1) z d2) λfr'=>bc sc fr' [] ds:=rfl;rw[e2,aR]at h;refine PV (λvz sz=>?_) (ei h);replace h:=(sz) ▸ h
   match ds,h with
   | [],h=>exact⟨d1,d2,rfl,vy,vz,by show bnd (ret (aj fr y d1)) (λfr'=>bc sc fr' [.Name z pz] [d2])=_;show bc sc (aj fr y d1) [.Name z pz] [d2]=_;refine PX e2 ?_;rw[sz];rfl⟩
   | _::_,h=>exact absurd rfl h
theorem AU{r:Rc}{sc:Sc}{fr:af}{d:D}{t:Expr}{σ:St}{env:Env}(h:gk r sc fr d t σ≠.stuck):assignEach [t] env=[(false,assign t env)]:=by
 induction t using Expr.casesOn with
 | Starred=>exact absurd rfl h
 | _=>rfl
theorem qm(X:Cx w Gm mg mb)(SR:bt w Gm H_ r){t e:Expr}{pos:Pos}(B:Bs w Gm H_ xt A env L sc Gq Gp G s fr)
  (h:Ok w Gm xt P (ownOf env) L Gq Gp (bnd (if sC t e=true then bnd (zW r sc fr (xL t) e) λv=>bnd (gk r sc fr v t) λfr'=>k fr' else stuck) f G.σ) Q E)
  (hN:∀ s' G' fr',Rn w Gm xt (ownOf env) G s G' s'->Bs w Gm H_ xt A env L sc Gq Gp G' s' fr'->Ok w Gm xt P (ownOf env) L Gq Gp (bnd (k fr') f G'.σ) Q E->Gs .next s'):wpAny (model pw w) A (exec (.Assign [t] e pos) env) Gs E s:=by
 have hp:=(Ok.iteB h).1;replace h:=(Ok.iteB h).2;simp only[aR]at h;refine am (s9 (value:=e) (t:=t) (line:=pos.line) (env:=env)) λb hb hb'=>?_
 induction b with
 | true=>
  rcases hb' rfl with⟨elt,gens,scope,cpos,y,py,rfl,rfl,hy⟩ | ⟨a,b,c,d,rfl⟩ | ⟨a,b,c,d,e,rfl⟩
  ·exact ql SR B hy hb h hN
  ·exact(h:False).elim
  ·exact(h:False).elim
 | false=>
  simp only[arm_exec_Assign];have hb2:swapsWithSole [t] e pos.line env=pure false:=by unfold swapsWithSole;exact hb
  rw[hb2];refine wpAny_bind (wpAny_standAt (wpAny_bind (wpAny_pure ?_)));rw[PZ (by decide)];refine wpAny_bind (CY SR B.I B.F (ba h.nst) (λv Go Gn d GP R Gx rv=>?_) λx s' G' GP R X'=>B.excd h GP (R.weak cP) X');replace h:=(bg GP) ▸ h;have GK:=B.on R;have plain:swappedStores [t] e env=pure none->wpAny (model pw w) A (do let sw <-swappedStores [t] e env;assignStores env v sw ((assignEach [t] env).map (·.2))) Gs E Go:=λhs=>by refine wpAny_bind (wpAny_of_eq hs ?_);have noStar:assignEach [t] env=[(false,assign t env)]:=AU (ba h.nst);rw[noStar];show wpAny _ A (do assign t env v;pure Flow.next) _ _ _;exact wpAny_bind (s8 X SR GK rv h λs2 G2 bT R2 B2 h2=>wpAny_pure (hN s2 G2 bT (R.ev.trans R2) B2 h2))
  by_cases hq:CZ t e
  ·refine bq hq λts kk p vs z3=>?_;refine aJ z3 λk' p' z1 z2=>?_;obtain rfl:=z1;obtain rfl:=z2;refine bq (wp hp) λy py z pz z6=>?_;refine aH z6 λa b z4 z5 hxy hc=>?_;obtain rfl:=z4;obtain rfl:=z5;rcases ot (px:=py) (py:=pz) (k:=kk) (k':=k') (p:=p) (p':=p') (env:=env) hxy hc with hs | hs
   ·exact plain hs
   ·refine wpAny_bind (wpAny_of_eq hs ?_);refine pH (λm=>Ok w Gm xt P (ownOf env) L Gq Gp (bnd m (λfr'=>bnd (k fr') f) Gn.σ) Q E) h (λds z0 h0=>?_) False.elim;clear h plain;subst z0;have h:=h0;refine ar rv.inv λ_ _ z7 hb hl=>?_;rw[z7];refine aH (AT h.nst) λd1 d2 z8 vy vz eu=>?_;obtain rfl:=z8;replace h:=(eu) ▸ h;refine ar (B9 hl) λv1 v2 z9 r1 r2=>?_;obtain rfl:=z9;refine s_ Gx.handled (hb.tup R.inv.stays) λh' he=>?_;have R2:Rn w Gm true [] Gn Go Gn { Go with heap:=h' }:=dC R.inv Go.toks (g9 he);have B2:=GK.on R2;refine eh (xt:=xt) B2.F B2.I r2 vz λs3 R3 F3=>eh (xt:=xt) F3 R3.inv r1 vy λs4 R4 F4=>?_;refine hN s4 Gn (aj (aj fr y d1) z d2) (((R.trans R2).ev.trans R3).trans R4) ⟨B.F₀,(B2.R.trans R3).trans R4,F4.less λu e hu=>?_⟩ h;rw[bn,bn]at hu ⊢
    by_cases q1:y=u
    ·subst q1;rw[PZ (λq=>by subst q;simp at hxy)]at hu;rw[PY rfl]at hu ⊢;exact hu
    ·rw[PZ q1]at hu ⊢;exact hu
  ·exact plain (oq hq λ⟨ts,p,vs,k',p',e1,e2⟩=>by subst e1;exact(h:False).elim)
end
end
section
variable{w:World}{Gm:Heap}{mg mb:Str->Option Value}{xt:Bool}
section
variable{H_:Nat}{A:Around}{env:Env}{L:Addr}{sc:Sc}{fr:af}{Gq G G':Gh}{Gp s s':Shared}{E E':Value->Shared->Prop}{r:Rc}{x:Sx}{α β:Type}{P:Gh->β->α->Prop}{Q:β->Shared->Prop}{k:K'}{f:Flow'->M α}{Gs:Flow->Shared->Prop}{Id:List Addr}
theorem C2{y:Value}(F:Fm w H_ A G s.heap env L sc fr)(R:Rn w Gm false Id G s G' s')(X:ExcAt w s.heap G' s'.heap L y)
  (k:∀ s'',Rn w Gm false Id G s G' s''->ExcAt w s.heap G' s''.heap L y->kQ y s''.heap->E y s''):notedBy (model pw w) A env E y s':=by
 refine ar F.stk λGH outer f1 f2 f3=>?_;unfold notedBy;exact(eR (env:=GH) (env':=env) (F.frame.trans f2.symm)) ▸ (iK f1 f2 R (f3.rn R) X λs'' ks R' S' X' ⟨e,oe,vs,T,oT,ts,n1,n2,n3,n4,_⟩=>k s'' R' X' ⟨e,oe,vs,T,n1,n2,n3,n4⟩)
theorem C3{y:Value}(F:Fm w H_ A G s.heap env L sc fr)(R:Rn w Gm false Id G s G' s')(X:ExcAt w s.heap G' s'.heap L y)(N:kQ y s'.heap)
  (k:∀ s'',Rn w Gm false Id G s G' s''->ExcAt w s.heap G' s''.heap L y->E y s''):cameBackBy (model pw w) A env E y s':=by
 refine bq N λe oe vs T z2=>?_;refine cO z2 λz1 n1 n2 n3=>?_;obtain rfl:=z1;refine ar F.stk λGH outer f1 f2 f3=>?_;dsimp only[cameBackBy];refine wpAny_bind (wpAny_field n1 n2 n3 ?_);exact eQ (.inr F.frame) R (f3.rn R) X λs'' ks R' S' X' _=>k s'' R' X'
abbrev ej(w:World)(A:Around)(env:Env)(E:Value->Shared->Prop):Value->Shared->Prop:=notedBy (model pw w) A env λe s'=>cameBackBy (model pw w) A env E e s'
theorem Ok.both{t:R α}(F:Fm w H_ A G s.heap env L sc fr)(h:Ok w Gm xt P Id L G s t Q E):Ok w Gm xt P Id L G s t Q (λy s'=>E y s'/\ej w A env E y s'):=by
 induction t with
 | ok d σ'=>exact h
 | stuck=>exact h
 | exc σ'=>intro y s' G' e R X;exact⟨h y s' G' e R X,C2 F R X λs2 R2 X2 N2=>C3 F R2 X2 N2 λs3 R3 X3=>h y s3 G' e R3 X3⟩
theorem Ok.monoE{t:R α}(h:Ok w Gm xt P Id L G s t Q E)(k:∀ y s',E y s'->E' y s'):Ok w Gm xt P Id L G s t Q E':=by
 induction t with
 | ok d σ'=>exact h
 | stuck=>exact h
 | exc σ'=>exact λy s' G' e R X=>k _ _ (h y s' G' e R X)
theorem EI{γ:Type}{m:Sem γ}{Q Q':γ->Shared->Prop}{E E':Value->Shared->Prop}(h:wpAny (model pw w) A m Q E s)(k:∀ a s',Q a s'->Q' a s')(kE:∀ a s',E a s'->E' a s'):wpAny (model pw w) A m Q' E' s:=wpAny_mono h k kE
theorem AV(SR:bt w Gm H_ r){y:Str}{npos pos:Pos}{op:Operator}{e:Expr}(B:Bs w Gm H_ xt A env L sc Gq Gp G s fr)
  (h:Ok w Gm xt P (ownOf env) L Gq Gp (bnd (if sc.lookup y=some .local/\xM op=true then bnd (ac (aa fr y)) λold=>bnd (r.ev sc fr e) λv=>uR op old v λn=>bnd (aY sc fr y n) λfr'=>k fr' else stuck) f G.σ) Q E)
  (hN:∀ s' G' fr',Rn w Gm xt (ownOf env) G s G' s'->Bs w Gm H_ xt A env L sc Gq Gp G' s' fr'->Ok w Gm xt P (ownOf env) L Gq Gp (bnd (k fr') f G'.σ) Q E->Gs .next s'):wpAny (model pw w) A (exec (.AugAssign (.Name y npos) op e pos) env) Gs E s:=by
 have F:=B.F;refine PV (λhc h=>?_) (Ok.iteB h);rw[aR]at h;refine am (cj h) λold ho h=>?_;rw[aR]at h;refine am F.loc λm hns hm=>?_;refine am (hm y old hc.1 ho) λva e1 ra=>?_;have kk:env.kindOf y=some .local:=by
  rcases F.names y with q | ⟨q,_⟩
  ·refine PX q ?_;exact hc.1
  ·replace q:=hc.1 ▸ q;exact absurd q (by decide)
 refine wpAny_AugAssign_Name (wpAny_loadName_local F.kind kk hns e1 (sZ SR B h λvb Go Gn d R GK rb Gu=>?_));refine kg (λm=>Ok w Gm xt P (ownOf env) L Gq Gp (bnd m f Gn.σ) Q E) Gu (λa z Gy=>?_) False.elim;clear Gu;subst z;refine kg (λm=>Ok w Gm xt P (ownOf env) L Gq Gp (bnd m f Gn.σ) Q E) Gy (λb z Gu=>?_) False.elim;clear Gy;subst z;simp only[aR]at Gu;refine E7 (xt:=true) (Id:=[]) (Lf:=L) hc.2 GK.I (R.rep ra) rb ?_
 induction hm2:ag op (.int a) (.int b) Gn.σ with
 | ok n σ'=>intro v s' G' e R' rv;subst e;rw[bg hm2]at Gu;exact j9 (GK.on R') rv Gu λs' fr' R2 B' h'=>hN s' G' fr' ((R.trans R').ev.trans R2) B' h'
 | exc σ'=>intro z s' G' e R' X';subst e;exact GK.excd Gu hm2 (R'.weak cP) X'
 | stuck=>exact absurd hm2 (ba Gu.nst)
theorem wq(SR:bt w Gm H_ r)(SX:kS w Gm H_ xt x){t:Expr}{b:List Stmt}{pos:Pos}(n:Nat)(B:Bs w Gm H_ xt A env L sc Gq Gp G s fr)
  (h:Ok w Gm xt P (ownOf env) L Gq Gp (bnd (az (gZ x sc b) (λfr=>r.tst sc fr t) n fr k) f G.σ) Q E)
  (hN:∀ s' G' fr',Rn w Gm xt (ownOf env) G s G' s'->Bs w Gm H_ xt A env L sc Gq Gp G' s' fr'->Ok w Gm xt P (ownOf env) L Gq Gp (bnd (k fr') f G'.σ) Q E->Gs .next s')
  (hR:∀ v d s' G',Rn w Gm xt (ownOf env) Gq Gp G' s'->Rep w G'.B G'.ρ v d->Ok w Gm xt P (ownOf env) L Gq Gp (f (.ret d) G'.σ) Q E->Gs (.ret v) s'):wpAny (model pw w) A (exec (.While t b [] pos) env) Gs E s:=by
 refine PU B.F₀ λHv F₀=>?_;refine wpAny_While (codeAny_whileLoop (λm s'=>∃ G' fr',Rn w Gm xt (ownOf env) G s G' s'/\Bs w Gm H_ xt A env L sc Gq Gp G' s' fr'/\Ok w Gm xt P (ownOf env) L Gq Gp (bnd (az (gZ x sc b) (λfr=>r.tst sc fr t) m fr' k) f G'.σ) Q E) ?_ n ⟨G,fr,.refl B.I,B,h⟩)
 rintro m Go ⟨Gn,GR,GF,GK,Gu⟩
 induction m using Nat.casesOn with
 | zero=>exact(Gu:False).elim
 | succ m=>
  have Gu:Ok w Gm xt P (ownOf env) L Gq Gp (bnd (bnd (r.tst sc GR t) λb'=>if b' then gZ x sc b GR λfr'=>az (gZ x sc b) (λfr=>r.tst sc fr t) m fr' k else k GR) f Gn.σ) Q E:=Gu;rw[aR]at Gu;refine EI (Cb SR GK (Gu.both F₀) λc Gv GB Gw GZ Gy=>?_) (λa s' q=>q) λa s' q=>q.2
  induction c with
  | true=>
   refine EI (e7 SX GZ Gy (Gs:=λfl GC=>match fl with | .next | .cont=>∃ m',m'<m+1/\∃ G' fr',Rn w Gm xt (ownOf env) G s G' GC/\Bs w Gm H_ xt A env L sc Gq Gp G' GC fr'/\Ok w Gm xt P (ownOf env) L Gq Gp (bnd (az (gZ x sc b) (λfr=>r.tst sc fr t) m' fr' k) f G'.σ) Q E | .brk=>Gs .next GC | .ret v=>Gs (.ret v) GC) (λGC GI G6 GD HP G4=>?_) λv d GC GI GD rv G4=>?_) (λa s' q=>q) λa s' q=>q.2
   ·exact⟨m,Nat.lt_succ_self m,GI,G6,(GF.trans Gw.ev).trans GD,HP,G4.monoE λy s' q=>q.1⟩
   ·exact hR v d GC GI GD rv (G4.monoE λy s' q=>q.1)
  | false=>exact wpAny_execs_nil (hN Gv GB GR (GF.trans Gw.ev) GZ (Gy.monoE λy s' q=>q.1))
theorem Bs.unown(B:Bs w Gm H_ xt A env L sc Gq Gp G s fr){it:Addr}(h:s.heap.get? it=none):it∉ownOf env:=λq=>PU ((P9 q).elim (λq=>q ▸ B.F.there) λq=>B.F.ex _ q) λo e=>du (h.symm.trans e)
structure LS(w:World)(Gm:Heap)(H_:Nat)(xt:Bool)(A:Around)(env:Env)(L:Addr)(sc:Sc)(Gq:Gh)(Gp:Shared)(G:Gh)(s:Shared)(it:Addr)(J:Gh->Heap->Prop)(G':Gh)(s':Shared)(fr':af):Prop where
 R:Rn w Gm xt (ownOf env) G s G' s'
 B:Bs w Gm H_ xt A env L sc Gq Gp G' s' fr'
 j:J G' s'.heap
 j1:G'.B it=none
 j2:it∉G'.ρ
 i1:s.heap.get? it=none
section
variable{it:Addr}{J J':Gh->Heap->Prop}{Gn GB:Gh}{Go Gv:Shared}{GR G7:af}
theorem LS.un(S:LS w Gm H_ xt A env L sc Gq Gp G s it J Gn Go GR)(B:Bs w Gm H_ xt A env L sc Gq Gp G s fr):it∉ownOf env:=B.unown S.i1
theorem LS.but(S:LS w Gm H_ xt A env L sc Gq Gp G s it J Gn Go GR)(B:Bs w Gm H_ xt A env L sc Gq Gp G s fr){h':Heap}{tk:Nat}{oi:Obj}{ws:Array Value}(ho:Go.heap.get? it=some oi)(hd:oi.data=.fields ws)(hk:∀ b o,b∉[it]->Go.heap.get? b=some o->h'.get? b=some o)(j:J' Gn h') :
  LS w Gm H_ xt A env L sc Gq Gp G s it J' Gn { Go with heap:=h',toks:=tk } GR:=
 ⟨eY S.R tk hk S.i1 S.j1 S.j2,⟨B.F₀,eY S.B.R tk hk (B.R.fresh _ S.i1) S.j1 S.j2,S.B.F.kept ho hd hk λq=>S.un B (.tail _ q)⟩,j,S.j1,S.j2,S.i1⟩
theorem LS.to(S:LS w Gm H_ xt A env L sc Gq Gp G s it J Gn Go GR)(R:Rn w Gm xt (ownOf env) Gn Go GB Gv)(B:Bs w Gm H_ xt A env L sc Gq Gp GB Gv G7)(ho:∃ o,Go.heap.get? it=some o)(j:J' GB Gv.heap):LS w Gm H_ xt A env L sc Gq Gp G s it J' GB Gv G7:=
 PU ho λo e=>PV (λu1 u2=>⟨S.R.trans R,B,j,u1,u2,S.i1⟩) (bK R e S.j1 S.j2)
theorem AW(SX:kS w Gm H_ xt x){T:Type}{μ:T->Nat}{J:T->Gh->Heap->Prop}{GO:T->K'}{target:Expr}{b:List Stmt}{I:Nat->Shared->Prop}(B:Bs w Gm H_ xt A env L sc Gq Gp G s fr)
  (mk:∀ {t G' s' fr'},LS w Gm H_ xt A env L sc Gq Gp G s it (J t) G' s' fr'->Ok w Gm xt P (ownOf env) L Gq Gp (bnd (GO t fr') f G'.σ) Q E->I (μ t) s')
  (el:∀ {m s'},I m s'->∃ t G' fr',m=μ t/\LS w Gm H_ xt A env L sc Gq Gp G s it (J t) G' s' fr'/\Ok w Gm xt P (ownOf env) L Gq Gp (bnd (GO t fr') f G'.σ) Q E)
  (hj:∀ {t G' s' G'' s''},Rn w Gm xt (ownOf env) G' s' G'' s''->it∉G'.ρ->J t G' s'.heap->J t G'' s''.heap/\∃ o,s'.heap.get? it=some o)
  (step:∀ t G' s' fr',LS w Gm H_ xt A env L sc Gq Gp G s it (J t) G' s' fr'->Ok w Gm xt P (ownOf env) L Gq Gp (bnd (GO t fr') f G'.σ) Q (λy s'=>E y s'/\ej w A env E y s')->wpAny (model pw w) A (pyNext (.ref it)) (λr Go=>match r with
   | none=>Gs .next Go
   | some v=>wpAny (model pw w) A (letOwnedTupleGo target (.ref it) v) (λ_ Hw=>wpAny (model pw w) A (assign target env v) (λ_ Gv=>∃ t' GB G7,μ t'<μ t/\LS w Gm H_ xt A env L sc Gq Gp G s it (J t') GB Gv G7/\Ok w Gm xt P (ownOf env) L Gq Gp (bnd (gZ x sc b G7 (GO t')) f GB.σ) Q (λy s'=>E y s'/\ej w A env E y s')) (ej w A env E) Hw) (ej w A env E) Go) (ej w A env E) s')
  (hR:∀ v d s' G',Rn w Gm xt (ownOf env) Gq Gp G' s'->Rep w G'.B G'.ρ v d->Ok w Gm xt P (ownOf env) L Gq Gp (f (.ret d) G'.σ) Q E->Gs (.ret v) s') (m:Nat) (h:I m Gv) :
  codeAny (model pw w) A (.forLoop target (.ref it) b [] env) (λr s'=>match r with | .ok f=>Gs f s' | .error e=>cameBackBy (model pw w) A env E e s') Gv:=by
 refine PU B.F₀ λHv F₀=>?_;refine codeAny_forLoop_any I (λm Go hI=>?_) m h;refine bA (el hI) λt Gn GR e HQ Gu=>?_;refine wm (step t Gn Go GR HQ (Gu.both F₀)) λr Gv q=>?_
 induction r with
 | none=>exact wpAny_execs_nil q
 | some v=>refine wm q λ_ GC q=>wm q λ_ G3 q=>?_;refine bA q λt' GB G7 lt Hm Gy=>?_;refine EI (e7 SX Hm.B Gy (Gs:=λfl GC=>match fl with | .next | .cont=>∃ m',m'<m/\I m' GC | .brk=>Gs .next GC | .ret v=>Gs (.ret v) GC) (λGN GQ He GJ Hx Hc=>?_) λv d GN GQ GJ rv Hc=>hR v d GN GQ GJ rv (Hc.monoE λy s' q=>q.1)) (λa s' q=>q) λa s' q=>q.2;refine PV (λj o=>?_) (hj GJ Hm.j2 Hm.j);exact⟨μ t',e ▸ lt,mk (Hm.to GJ Hx o j) (Hc.monoE λy s' q=>q.1)⟩
theorem yD(SX:kS w Gm H_ xt x){T:Type}{μ:T->Nat}{J:T->Gh->Heap->Prop}{GO:T->K'}{target:Expr}{b:List Stmt}(B:Bs w Gm H_ xt A env L sc Gq Gp G s fr)
  (hj:∀ {t G' s' G'' s''},Rn w Gm xt (ownOf env) G' s' G'' s''->it∉G'.ρ->J t G' s'.heap->J t G'' s''.heap/\∃ o,s'.heap.get? it=some o)
  (step:∀ t G' s' fr',LS w Gm H_ xt A env L sc Gq Gp G s it (J t) G' s' fr'->Ok w Gm xt P (ownOf env) L Gq Gp (bnd (GO t fr') f G'.σ) Q (λy s'=>E y s'/\ej w A env E y s')->wpAny (model pw w) A (pyNext (.ref it)) (λr Go=>match r with
   | none=>Gs .next Go
   | some v=>wpAny (model pw w) A (letOwnedTupleGo target (.ref it) v) (λ_ Hw=>wpAny (model pw w) A (assign target env v) (λ_ Gv=>∃ t' GB G7,μ t'<μ t/\LS w Gm H_ xt A env L sc Gq Gp G s it (J t') GB Gv G7/\Ok w Gm xt P (ownOf env) L Gq Gp (bnd (gZ x sc b G7 (GO t')) f GB.σ) Q (λy s'=>E y s'/\ej w A env E y s')) (ej w A env E) Hw) (ej w A env E) Go) (ej w A env E) s')
  (hR:∀ v d s' G',Rn w Gm xt (ownOf env) Gq Gp G' s'->Rep w G'.B G'.ρ v d->Ok w Gm xt P (ownOf env) L Gq Gp (f (.ret d) G'.σ) Q E->Gs (.ret v) s') {t:T} (S:LS w Gm H_ xt A env L sc Gq Gp G s it (J t) Gn Gv GR) (h:Ok w Gm xt P (ownOf env) L Gq Gp (bnd (GO t GR) f Gn.σ) Q E) :
  codeAny (model pw w) A (.forLoop target (.ref it) b [] env) (λr s'=>match r with | .ok f=>Gs f s' | .error e=>cameBackBy (model pw w) A env E e s') Gv:=
 AW (J:=J) (GO:=GO) (μ:=μ) SX B (λ{t G' s' fr'} S h=>⟨t,G',fr',rfl,S,h⟩) id hj step hR (μ t) ⟨t,Gn,GR,rfl,S,h⟩
end
theorem AX(X:Cx w Gm mg mb)(SR:bt w Gm H_ r)(SX:kS w Gm H_ xt x){y:Str}{py:Pos}{ie:Expr}{b:List Stmt}{pos:Pos}(hset:ki ie=false)(B:Bs w Gm H_ xt A env L sc Gq Gp G s fr){src:D}{v:Value}(rv:Rep w G.B G.ρ v src)
  (h:Ok w Gm xt P (ownOf env) L Gq Gp (bnd (aZ src) (λitems=>bnd (aG (gZ x sc b) (λfr d=>aY sc fr y d) items fr k) f) G.σ) Q E)
  (hN:∀ s' G' fr',Rn w Gm xt (ownOf env) G s G' s'->Bs w Gm H_ xt A env L sc Gq Gp G' s' fr'->Ok w Gm xt P (ownOf env) L Gq Gp (bnd (k fr') f G'.σ) Q E->Gs .next s')
  (hR:∀ v d s' G',Rn w Gm xt (ownOf env) Gq Gp G' s'->Rep w G'.B G'.ρ v d->Ok w Gm xt P (ownOf env) L Gq Gp (f (.ret d) G'.σ) Q E->Gs (.ret v) s'):wpAny (model pw w) A (pyIter v) (λit Gv=>codeAny (model pw w) A (.forLoop (.Name y py) it b [] env) (λr s'=>match r with | .ok f=>Gs f s' | .error e=>cameBackBy (model pw w) A env E e s') Gv) E s:=by
 refine oh B.I rv (ba h.nst) λit Gv items e Gw i1 i2 i3 hit=>?_;rw[bg e]at h;have iown:=B.unown i1;refine yD SX (μ:=List.length) (J:=λitems G' h=>ItAt w G' h it items) (GO:=λitems fr'=>aG (gZ x sc b) (λfr d=>aY sc fr y d) items fr' k) B (λ{t G' s' G'' s''} R n j=>⟨j.rn R n iown,am j.obj λo e _=>⟨o,e⟩⟩) (λHR GI GC G6 S GG=>?_) hR ⟨Gw.ev,B.on Gw,hit,i2,i3,i1⟩ h;refine zY S.j.obj λoi ho ws hod=>?_
 induction HR using List.casesOn with
 | nil=>exact qh S.B.F.rm S.B.I S.j S.j1 S.j2 λh' tk hk=>hN _ GI G6 (S.but B ho hod hk (J':=λ_ _=>True) trivial).R (S.but B ho hod hk (J':=λ_ _=>True) trivial).B (GG.monoE λy s' q=>q.1)
 | cons d ds=>refine mV S.B.F.rm S.B.I S.j S.j1 S.j2 λv h' tk rv hk hit'=>wpAny_pure ?_;have GS:=S.but B ho hod hk (tk:=tk) (J':=λG' h=>ItAt w G' h it ds) hit';have G4:Ok w Gm xt P (ownOf env) L Gq Gp (bnd (aY sc G6 y d) (λfr'=>bnd (gZ x sc b fr' λfr''=>aG (gZ x sc b) (λfr d=>aY sc fr y d) ds fr'' k) f) GI.σ) Q (λy s'=>E y s'/\ej w A env E y s'):=congrFun (aR (aY sc G6 y d) (λfr'=>gZ x sc b fr' λfr''=>aG (gZ x sc b) (λfr d=>aY sc fr y d) ds fr'' k) f) GI.σ ▸ GG;exact wpAny_assign_Name (j9 GS.B rv G4 λGN He GJ Hx Hc=>⟨ds,GI,He,Nat.lt_succ_self _,GS.to GJ Hx (am GS.j.obj λo e _=>⟨o,e⟩) (GS.j.rn GJ GS.j2 iown),Hc⟩)
end
end
section
variable{w:World}{Gm:Heap}{mg mb:Str->Option Value}{xt:Bool}
theorem RepS.get{B:Addr->Option Obj}{ρ:List Addr}:∀ {kvs:List (Str×Value)} {l:List (Str×D)},RepS w B ρ kvs l->∀ {i:Nat} {k:Str} {v:Value},kvs[i]?=some (k,v)->∃ d,l[i]?=some (k,d)/\Rep w B ρ v d:=by
 intro kvs l r;show ∀ (i:Nat) (k:Str) (v:Value),kvs[i]?=some (k,v)->∃ d,l[i]?=some (k,d)/\Rep w B ρ v d;refine RepS.ind ?_ ?_ r
 ·intro i k v e;exact du e
 ·intro _ _ _ _ _ a b ih;intro i k v e
  induction i using Nat.casesOn with
  | zero=>cases e;exact⟨_,rfl,a⟩
  | succ i=>exact ih _ _ _ (by simpa using e)
structure ItmAt(w:World)(G:Gh)(h:Heap)(it d:Addr)(o:Obj)(kvs:List (Str×Value))(l:List (Str×D))(ep i:Nat):Prop where
 B:G.B d=some o
 at':∀ h':Heap,h'.get? d=some o->h'.DictAt (sk w) d kvs ep
 rep:RepS w G.B G.ρ kvs l
 le:i<=kvs.length
 it:∃ ok ov,IsItemIter h it d i kvs.length ep ok ov
section
variable{H_:Nat}{A:Around}{env:Env}{L:Addr}{sc:Sc}{fr:af}{Gq G G':Gh}{Gp s s':Shared}{E E':Value->Shared->Prop}{r:Rc}{x:Sx}{α β:Type}{P:Gh->β->α->Prop}{Q:β->Shared->Prop}{k:K'}{f:Flow'->M α}{Gs:Flow->Shared->Prop}{Id:List Addr}
theorem ItmAt.rn{it d:Addr}{o:Obj}{kvs:List (Str×Value)}{l:List (Str×D)}{ep i:Nat}(x:ItmAt w G s.heap it d o kvs l ep i)(R:Rn w Gm xt Id G s G' s')(h1:it∉G.ρ)(h2:it∉Id):ItmAt w G' s'.heap it d o kvs l ep i:=by refine gD x.it λok ov hi=>?_;refine⟨R.B _ _ x.B,x.at',x.rep.mono R.B (let ⟨m,e,_⟩:=R.ρ;⟨m,e⟩),x.le,ok,ov, ?_⟩;refine am (R.keep it _ hi h1 h2) λsl q z=>?_;rw[z (.inr ⟨_,rfl⟩)]at q;exact q
theorem qo{B:Addr->Option Obj}{ρ:List Addr}{v:Value}{l:List (Str×D)}(rv:Rep w B ρ v (.items l)) :
  ∃ rr a kvs od ep,v=.ref rr/\B rr=some { cls:=.type "dict_items",data:=.fields #[.ref a] }/\B a=some od/\(∀ h':Heap,h'.get? a=some od->h'.DictAt (sk w) a kvs ep)/\RepS w B ρ kvs l:=by
 refine ar rv.inv λrr a e hB rd=>?_;refine aH rd.inv λb kvs e' ns z1 hr=>?_;obtain⟨od,es,ep,hod,hx,hdd,hks,hps,hnd⟩:=z1;have e':a=b:=by injection e'
 rw[<-e']at hod;refine⟨rr,a,kvs,od,ep,e,hB,hod,λh' g=>?_,hr⟩;rw[e']at g ⊢;exact⟨od,es,g,hx,hdd,hks,hps,hnd⟩
noncomputable def qp(sc:Sc)(ts:List Expr)(fr:af)(d:D):M af:=asTup d (bc sc fr ts)
abbrev qq(x:Str×D):D:=.tup [.str x.1,x.2]
theorem wt{α:Type}{l:List α}{i:Nat}{a:α}(h:l[i]?=some a):l.drop i=a::l.drop (i+1):=PU (List.getElem?_eq_some_iff.mp h) λhi e=>(List.drop_eq_getElem_cons hi).trans (congrArg (· :: l.drop (i+1)) e)
theorem yE(SX:kS w Gm H_ xt x){ts:List Expr}{tk':Nat}{tpos:Pos}{b:List Stmt}(B:Bs w Gm H_ xt A env L sc Gq Gp G s fr){l:List (Str×D)}{it a:Addr}{od:Obj}{kvs:List (Str×Value)}{ep:Nat}{Gv:Shared}
  (Gw:Rn w Gm true [] G s G Gv) (J:ItmAt w G Gv.heap it a od kvs l ep 0) (i1:s.heap.get? it=none) (i2:G.B it=none) (i3:it∉G.ρ)
  (h:Ok w Gm xt P (ownOf env) L Gq Gp (bnd (aG (gZ x sc b) (qp sc ts) (l.map qq) fr k) f G.σ) Q E)
  (hN:∀ s' G' fr',Rn w Gm xt (ownOf env) G s G' s'->Bs w Gm H_ xt A env L sc Gq Gp G' s' fr'->Ok w Gm xt P (ownOf env) L Gq Gp (bnd (k fr') f G'.σ) Q E->Gs .next s')
  (hR:∀ v d s' G',Rn w Gm xt (ownOf env) Gq Gp G' s'->Rep w G'.B G'.ρ v d->Ok w Gm xt P (ownOf env) L Gq Gp (f (.ret d) G'.σ) Q E->Gs (.ret v) s'):codeAny (model pw w) A (.forLoop (.Tuple ts tk' tpos) (.ref it) b [] env) (λr s'=>match r with | .ok f=>Gs f s' | .error e=>cameBackBy (model pw w) A env E e s') Gv:=by
 have iown:=B.unown i1;refine yD SX (μ:=λi=>kvs.length - i) (J:=λi G' h=>ItmAt w G' h it a od kvs l ep i) (GO:=λi fr'=>aG (gZ x sc b) (qp sc ts) ((l.drop i).map qq) fr' k) B (λ{t G' s' G'' s''} R n j=>⟨j.rn R n iown,gD j.it λ_ _ e=>⟨_,e⟩⟩) (λi GI GC G6 S GG=>?_) hR (t:=0) ⟨Gw.ev,B.on Gw,J,i2,i3,i1⟩ h;refine gD S.j.it λok ov G8=>?_;have len:=S.j.rep.length;have dict:=S.j.at' _ (S.B.I.stays _ _ S.j.B);refine PW (Nat.lt_or_ge i kvs.length) (λhi=>?_) λhi=>?_
 ·have hv:=List.getElem?_eq_getElem hi;generalize kvs[i]=kv at hv;refine am (S.j.rep.get hv) λd hl rvv=>?_;have S':=wt hl;refine wpAny_pyNext_items_item (knd:=sk w) G8 dict hv λkey Gu hkey heo HS H4 HT=>?_;refine wpAny_letOwnedTupleGo_items heo λGy HU Hn=>?_;replace Hn:Heap.SameBut it Gu Gy:=Hn;have hTi:GC.heap.objs.size≠it:=λq=>by have:=Heap.lt_size G8;rw[q]at this;exact absurd this (Nat.lt_irrefl _)
  have HV:Gy.IsTuple GC.heap.objs.size #[key,kv.2]:=⟨_,(Hn.2 _ hTi).trans HS,rfl,_,rfl⟩;have GS:=S.but B (tk:=GC.toks) G8 rfl (λb o hb e=>(Hn.2 b (λq=>hb (q ▸ .head _))).trans (HT b o (λq=>hb (q ▸ .head _)) e)) (J':=λG' h=>ItmAt w G' h it a od kvs l ep (i+1)) ⟨S.j.B,S.j.at',S.j.rep,hi,key,kv.2,HU⟩;refine PU (Value.isStrOf_shape hkey) λt zz1=>?_;obtain rfl:=zz1;have G4:Ok w Gm xt P (ownOf env) L Gq Gp (bnd (bc sc G6 ts [.str kv.1,d]) (λfr'=>bnd (gZ x sc b fr' λfr''=>aG (gZ x sc b) (qp sc ts) ((l.drop (i+1)).map qq) fr'' k) f) GI.σ) Q (λy s'=>E y s'/\ej w A env E y s'):=by rw[S']at GG;exact congrFun (aR (bc sc G6 ts [.str kv.1,d]) (λfr'=>gZ x sc b fr' λfr''=>aG (gZ x sc b) (qp sc ts) ((l.drop (i+1)).map qq) fr'' k) f) GI.σ ▸ GG
  refine PV (λe1 e2=>?_) (e8 env (ba G4.nst));refine wpAny_assign_Tuple GS.B.F.handled HV (by exact e1) e2 λHc HW=>?_;have GJ:Rn w Gm true [] GI { GC with heap:=Gy } GI { GC with heap:=Hc }:=dC GS.B.I GC.toks (g9 HW);refine EI (m_ ts (GS.B.on GJ) (.cons (.str kv.1 t) (.cons rvv .nil)) G4 λHL HX Hg HY HZ=>?_) (λa s' q=>q) λa s' q=>q.2;have R:=GJ.ev.trans Hg;exact⟨i+1,GI,HX,Nat.sub_succ_lt_self _ _ hi,GS.to R HY (gD GS.j.it λ_ _ e=>⟨_,e⟩) (GS.j.rn R GS.j2 iown),HZ⟩
 ·have hd:l.drop i=[]:=List.drop_eq_nil_of_le (len ▸ hi);rw[hd]at GG;refine wpAny_pyNext_items_end (knd:=sk w) S.B.F.handled G8 dict (List.getElem?_eq_none hi) λh' he=>?_;have GS:=S.but B (tk:=GC.toks) G8 rfl (λb o hb e=>he b o (λq=>hb (q ▸ .head _)) e) (J':=λ_ _=>True) trivial;exact hN _ GI G6 GS.R GS.B (GG.monoE λy s' q=>q.1)
theorem wu(SX:kS w Gm H_ xt x){ts:List Expr}{tk':Nat}{tpos:Pos}{b:List Stmt}(B:Bs w Gm H_ xt A env L sc Gq Gp G s fr){l:List (Str×D)}{v:Value}(rv:Rep w G.B G.ρ v (.items l))
  (h:Ok w Gm xt P (ownOf env) L Gq Gp (bnd (aG (gZ x sc b) (qp sc ts) (l.map qq) fr k) f G.σ) Q E)
  (hN:∀ s' G' fr',Rn w Gm xt (ownOf env) G s G' s'->Bs w Gm H_ xt A env L sc Gq Gp G' s' fr'->Ok w Gm xt P (ownOf env) L Gq Gp (bnd (k fr') f G'.σ) Q E->Gs .next s')
  (hR:∀ v d s' G',Rn w Gm xt (ownOf env) Gq Gp G' s'->Rep w G'.B G'.ρ v d->Ok w Gm xt P (ownOf env) L Gq Gp (f (.ret d) G'.σ) Q E->Gs (.ret v) s'):wpAny (model pw w) A (pyIter v) (λit Gv=>codeAny (model pw w) A (.forLoop (.Tuple ts tk' tpos) it b [] env) (λr s'=>match r with | .ok f=>Gs f s' | .error e=>cameBackBy (model pw w) A env E e s') Gv) E s:=by
 refine eO (qo rv) λrr a kvs z2=>?_;refine dM z2 λod ep e hB hod hat hr=>?_;rw[e];have I:=B.I;refine wpAny_pyIter_items (knd:=sk w) (kvs:=kvs) (ep:=ep) ⟨_,I.stays _ _ hB,rfl,rfl⟩ (hat _ (I.stays _ _ hod)) ?_;exact yE SX B (bM I _ s.toks) ⟨hod,hat,hr,Nat.zero_le _,.none,.none,Heap.get?_push_size _ rfl⟩ (aD _) I.fresh_un.1 I.fresh_un.2 h hN hR
end
end
section
variable{w:World}{Gm:Heap}{mg mb:Str->Option Value}{xt:Bool}
inductive RepB(w:World)(B:Addr->Option Obj)(ρ:List Addr):List (Str×Value)->List (Str×D)->Prop
 | nil:RepB w B ρ [] []
 | cons {x:Str} {v:Value} {d:D} {vs:List (Str×Value)} {ds:List (Str×D)}:Rep w B ρ v d->RepB w B ρ vs ds->RepB w B ρ ((x,v)::vs) ((x,d)::ds)
section
variable{B:Addr->Option Obj}{ρ:List Addr}
theorem RepB.zip:∀ {ns:List Str} {vs:List Value} {ds:List D},RepL w B ρ vs ds->RepB w B ρ (ns.zip vs) (ns.zip ds)
 | [],_,_,_=>.nil
 | _::_,_,_,.nil=>.nil
 | n::ns,_,_,.cons a b=>.cons a (RepB.zip b)
set_option tactic.hygienic true in
theorem RepB.look:∀ {vs:List (Str×Value)} {ds:List (Str×D)},RepB w B ρ vs ds->∀ x,(ds.lookup x=none->vs.lookup x=none)/\∀ d,ds.lookup x=some d->∃ v,vs.lookup x=some v/\Rep w B ρ v d:=by
 intro vs ds r
 induction r with
 | nil=>exact λx=>⟨λ_=>rfl,λd h=>nomatch h⟩
 | cons a b ih=>
  rename_i y v d vs ds;intro x;dsimp only[List.lookup_cons,List.lookup_cons]
  induction x==y with
  | true=>exact⟨(λh=>nomatch h),λd h=>by cases h;exact⟨_,rfl,a⟩⟩
  | false=>exact ih x
theorem RepB.look_none{vs:List (Str×Value)}{ds:List (Str×D)}(r:RepB w B ρ vs ds)(x:Str):(vs.lookup x).isNone=(ds.lookup x).isNone:=by
 refine PV (λh1 h2=>?_) (r.look x)
 induction q:ds.lookup x with
 | none=>exact congrArg _ (h1 q)
 | some d=>refine am (h2 d q) λv e _=>?_;exact congrArg _ e
theorem RepB.app:∀ {vs:List (Str×Value)} {ds:List (Str×D)} {us:List (Str×Value)} {es:List (Str×D)},RepB w B ρ vs ds->RepB w B ρ us es->RepB w B ρ (vs++us) (ds++es):=by
 intro vs ds us es q r
 induction q with
 | nil=>exact r
 | cons a b ih=>exact .cons a ih
theorem RepB.fold:∀ {us:List (Str×Value)} {es:List (Str×D)},RepB w B ρ us es->∀ {vs:List (Str×Value)} {ds:List (Str×D)},RepB w B ρ vs ds →
  RepB w B ρ (us.foldl (λs p=>if (s.lookup p.1).isNone then s++[p] else s) vs) (es.foldl (λs p=>if (s.lookup p.1).isNone then s++[p] else s) ds):=by
 intro us es q
 induction q with
 | nil=>exact λr=>r
 | cons a b ih=>
  intro vs ds r;simp only[List.foldl_cons,List.foldl_cons];refine ih ?_;rw[r.look_none]
  split
  ·exact r.app (.cons a .nil)
  ·exact r
theorem RepB.names{vs:List (Str×Value)}{ds:List (Str×D)}(r:RepB w B ρ vs ds):∀ ns:List Str,RepB w B ρ (ns.filterMap λn=>(vs.lookup n).map (n,·)) (ns.filterMap λn=>(ds.lookup n).map (n,·))
 | []=>.nil
 | n::ns=>by
  rw[List.filterMap_cons,List.filterMap_cons];refine PV (λh1 h2=>?_) (r.look n)
  induction q:ds.lookup n with
  | none=>exact(h1 q) ▸ (r.names ns)
  | some d=>refine am (h2 d q) λv e a=>?_;exact e ▸ (.cons a (r.names ns))
theorem wv{ps:List Str}{vs dv:List Value}{as dd:List D}{bs:List (Str×D)}(ra:RepL w B ρ vs as)(rd:RepL w B ρ dv dd)(h:fh ps as dd=some bs):∃ bv,fh ps vs dv=some bv/\RepB w B ρ bv bs:=by
 unfold fh at h ⊢;rw[ra.length,rd.length]
 by_cases h1:as.length<=ps.length
 ·rw[PY h1]at h ⊢;dsimp only at h ⊢;have rdd:=rd.drop (dd.length - ps.length);rw[rdd.length];have rz:RepB w B ρ (ps.zip vs) (ps.zip as):=.zip ra;have e:(List.filter (λn=>((ps.zip vs).lookup n).isNone) (List.take (ps.length - (List.drop (dd.length - ps.length) dd).length) ps))=(List.filter (λn=>((ps.zip as).lookup n).isNone) (List.take (ps.length - (List.drop (dd.length - ps.length) dd).length) ps)):=by congr 1;funext n;exact rz.look_none n
  rw[e]
  split at h
  ·rename_i hc;rw[PY hc];cases h;exact⟨_,rfl,(RepB.fold (.zip rdd) rz).names ps⟩
  ·exact nomatch h
 ·replace h:=(PZ h1) ▸ h;exact nomatch h
theorem qr{α:Type}{ps:List Str}{as dv:List α}{bs:List (Str×α)}(h:fh ps as dv=some bs):∀ x∈bs,x.1∈ps:=by
 unfold fh at h
 split at h
 ·dsimp only at h
  split at h
  ·cases h;intro x hx;refine am (List.mem_filterMap.mp hx) λn hn e=>?_;refine am (Option.map_eq_some_iff.mp e) λv _ z1=>?_;rw[<-z1];exact hn
  ·exact du h
 ·exact du h
set_option tactic.hygienic true in
theorem qs{kindOf:Str->Option NameKind}:∀ {bv:List (Str×Value)} {bs:List (Str×D)},RepB w B ρ bv bs->∀ {m:Str->Option Value} {fr:af},(∀ x d,kindOf x=some .local->aa fr x=some d->∃ v,m x=some v/\Rep w B ρ v d) →
  ∀ x d,kindOf x=some .local->aa (bs.foldl (λfr p=>aj fr p.1 p.2) fr) x=some d->∃ v,bindL kindOf bv m x=some v/\Rep w B ρ v d:=by
 intro bv bs r
 induction r with
 | nil=>exact λh=>h
 | cons a b ih=>
  rename_i y v d vs ds;intro m fr h;simp only[List.foldl_cons];dsimp only[bindL];refine ih λx d hk hl=>?_;rw[bn]at hl;rcases P_ (y=x) with q | q
  ·subst q;replace hl:=(PY rfl) ▸ hl;cases hl;rw[PY hk];exact⟨v,PY rfl,a⟩
  ·rw[PZ q]at hl;refine am (h x d hk hl) λu e r=>?_;refine⟨u, ?_,r⟩
   split
   ·exact(PZ λz=>q z.symm).trans e
   ·exact e
set_option tactic.hygienic true in
theorem tc{kindOf:Str->Option NameKind}:∀ {bv:List (Str×Value)} {bs:List (Str×D)},RepB w B ρ bv bs->∀ {m:Str->Option Value} {fr:af},(∀ x d,kindOf x≠some .local->aa fr x=some d->∃ v,m x=some v/\Rep w B ρ v d) →
  ∀ x d,kindOf x≠some .local->aa (bs.foldl (λfr p=>aj fr p.1 p.2) fr) x=some d->∃ v,bindC kindOf bv m x=some v/\Rep w B ρ v d:=by
 intro bv bs r
 induction r with
 | nil=>exact λh=>h
 | cons a b ih=>
  rename_i y v d vs ds;intro m fr h;rw[List.foldl_cons];refine ih λx d hk hl=>?_;rw[bn]at hl
  by_cases q:y=x
  ·subst q;rw[PY rfl]at hl;cases hl;rw[PZ hk];exact⟨v,PY rfl,a⟩
  ·rw[PZ q]at hl;refine am (h x d hk hl) λu e r=>?_;refine⟨u, ?_,r⟩
   split
   ·exact e
   ·exact(PZ λz=>q z.symm).trans e
end
theorem td{B:Addr->Option Obj}{ρ:List Addr}:∀ {vs:List Value} {ds:List D},sP vs ds=true->RepL w B ρ vs ds:=λ{vs}=>by
 induction vs with
 | nil=>
  intro ds h
  induction ds using List.casesOn with
  | nil=>exact .nil
  | cons=>exact fD h
 | cons v vs ih=>
  intro ds h
  induction v with
  | int i t=>
   induction ds using List.casesOn with
   | nil=>exact fD h
   | cons d ds=>
    induction d using D.casesOn with
    | int j=>refine PV (λh1 h2=>?_) (P8 h);exact .cons (beq_iff_eq.mp h1 ▸ .int i t) (ih h2)
    | _=>exact fD h
  | _=>induction ds using List.casesOn <;> exact fD h
theorem qt{A:Around}{R:Result->Shared->Prop}{s:Shared}{a:Addr}{o:Obj}{fd:FuncData}{body:List Stmt}{vs:List Value}{bs:List (Str×Value)}
  (hroom:A.depth<recursionLimit) (ho:s.heap.get? a=some o) (hdata:o.data=.func fd) (hlim:s.heap.NoLimit) (hcd:s.heap.CodeRec fd.code fd.qualname) (hbody:fd.body=.stmts body)
  (hbind:BindsTo s fd ⟨vs,[]⟩ bs) (hclo:fd.closure=[]) (hkind:∀ x∈bs,fd.scope.names.lookup x.1=some .local\/(fd.scope.names.lookup x.1=some .cell/\((cellsFrom (s.heap.objs.size+1) fd.scope.names []).lookup x.1).isSome=true))
  (hco:fd.scope.isCoroutine=false) (hgen:fd.scope.isGenerator=false) (hk:fd.scope.kind=.function)
  (h:∀ Go,InCallC s (callEnvC fd s.heap.objs.size a).locals (bindL (callEnvC fd s.heap.objs.size a).kindOf bs λ_=>none) (callEnvC fd s.heap.objs.size a).cells (bindC (callEnvC fd s.heap.objs.size a).kindOf bs λ_=>none) Go →
   wpAny (model pw w) (A.deeper (callEnvC fd s.heap.objs.size a)) (execs body (callEnvC fd s.heap.objs.size a)) (λf s'=>R (.ok (.ret (match f with | .ret v=>v | _=>.none))) s')
    (λe s'=>wpAny (model pw w) (A.deeper (callEnvC fd s.heap.objs.size a)) (leaving (callEnvC fd s.heap.objs.size a) e) (λ_ s''=>R (.error e) s'') (λe' s''=>R (.error e') s'') s') Go) :
  codeAny (model pw w) A (.call (.ref a) ⟨vs,[]⟩) R s:=by
 refine codeAny_call_function hroom ho hdata hco hgen hbody hcd (hbind _ _ _ _ ?_);rw[hclo];refine wpAny_newFunctionEnv_cells hk hkind λenv he s' x=>?_;subst he;exact⟨hlim.keeps x.toInCall.keep,codeAny_func (h s' x)⟩
end
section
variable{w:World}{Gm:Heap}{mg mb:Str->Option Value}{xt:Bool}
theorem na{K:Frag}{q:Str}{fd:FuncData}(h:mP K q fd=true):fd.globals=mainGlobals/\fd.closure=[]/\fd.builtins=builtinsNs/\codeIn K fd.code fd.qualname=true/\fd.scope.isCoroutine=false/\fd.scope.isGenerator=false/\fd.scope.kind=.function ∧
  sQ K fd.defaults fd.params.defaults=true/\(∀ x∈fd.scope.names,x.2≠.free)/\((cellsFrom 0 fd.scope.names []).map (·.1)).Nodup/\∀ a∈fd.params.args,fd.scope.names.lookup a.arg=some .local\/fd.scope.names.lookup a.arg=some .cell:=by
 unfold mP at h;simp only[Bool.and_eq_true,Bool.not_eq_true',beq_iff_eq,List.all_eq_true,List.isEmpty_iff,Bool.or_eq_true,bne_iff_ne,ne_eq,decide_eq_true_eq]at h;obtain⟨⟨⟨⟨⟨⟨⟨⟨⟨⟨h1,h2⟩,h3⟩,h4⟩,h5⟩,h6⟩,h7⟩,h8⟩,h9⟩,h10⟩,h11⟩:=h;exact⟨h1,h2,h3,h4,h5,h6,h7,h8,h9,h10,λa ha=>(h11 a ha).imp id λz=>z.1⟩
theorem f8:∀ (names:List (Str×NameKind)) (n m:Nat) (acc acc':List (Str×Addr)),acc.map (·.1)=acc'.map (·.1)->(cellsFrom n names acc).map (·.1)=(cellsFrom m names acc').map (·.1)
 | [],_,_,_,_,h=>h
 | (x,k)::r,n,m,acc,acc',h=>by
  dsimp only[cellsFrom]
  split
  ·exact f8 r _ _ _ _ (by simp only[List.map_cons,List.map_cons,h])
  ·exact f8 r _ _ _ _ h
theorem ww{l:List (Str×Addr)}(ap:l.Pairwise λx y=>x.2≠y.2){x y:Str}{c:Addr}(h1:l.lookup x=some c)(h2:l.lookup y=some c):x=y:=name_of_addr ap (aX h1) (aX h2)
theorem kW:∀ {l:List (Str×Addr)},(l.map (·.1)).Nodup->∀ {x:Str} {c:Addr},(x,c)∈l->l.lookup x=some c
 | (y,d)::l,hn,x,c,hm=>by
  rw[List.map_cons,List.nodup_cons]at hn;refine PX List.lookup_cons ?_;refine PW (P9 hm) (λe=>?_) λhm2=>?_
  ·cases e;rw[beq_self_eq_true]
  ·have:(x==y)=false:=by rw[beq_eq_false_iff_ne];intro e;subst e;exact hn.1 (List.mem_map.mpr ⟨_,hm2,rfl⟩)
   exact this ▸ (kW hn.2 hm2)
theorem qu{P:Params}{B:Addr->Option Obj}{ρ:List Addr}{h:Heap}{fd:FuncData}{dd:List D}(X:(KH P).In h)(e:sQ (KH P) fd.defaults fd.params.defaults=true)(hd:kr fd.params.defaults=some dd) :
  ∃ dv,RepL w B ρ dv dd/\((fd.defaults=.none/\dv=[])\/∃ T o items n,fd.defaults=.ref T/\h.get? T=some o/\o.data=.seq items n/\items.toList=dv):=by
 induction q:fd.defaults with
 | none=>rw[q]at e;have e:fd.params.defaults.isEmpty=true:=e;rw[List.isEmpty_iff.mp e]at hd;exact⟨[],P7 hd ▸ .nil,.inl ⟨rfl,rfl⟩⟩
 | ref T=>rw[q]at e;refine am (nV e) λo ho e=>?_;refine am (nV e) λvs hv e=>?_;refine am (nV e) λl hl e=>?_;refine aJ (Ay hv) λa n h1 h2=>?_;rw[hd]at hl;exact⟨vs,P7 hl ▸ td e,.inr ⟨T,o,a,n,rfl,X _ _ ho,h1,h2⟩⟩
 | _=>rw[q]at e;exact fD e
theorem qw{a:Arguments}{as:List D}{σ:St}{t:R af}{P:Prop}(h:iD a as σ=t)(hs:t≠.stuck)
  (k:∀ ps dd bs,a=⟨[],ps,none,[],[],none,a.defaults⟩->kr a.defaults=some dd->fh (ps.map (·.arg)) as dd=some bs->R.ok (bs.foldl (λfr p=>aj fr p.1 p.2) []) σ=t->P):P:=by
 induction a using Arguments.casesOn with
 | mk po ps va ko kd kw ds=>
 induction po using List.casesOn with
 | cons _ _=>exact absurd h.symm hs
 | nil=>
 induction va using Option.casesOn with
 | some _=>exact absurd h.symm hs
 | none=>
 induction ko using List.casesOn with
 | cons _ _=>exact absurd h.symm hs
 | nil=>
 induction kd using List.casesOn with
 | cons _ _=>exact absurd h.symm hs
 | nil=>
 induction kw using Option.casesOn with
 | some _=>exact absurd h.symm hs
 | none=>
 induction e1:kr ds with
 | none=>exact absurd (h.symm.trans (gv e1)) hs
 | some dd=>
 induction e2:fh (ps.map (·.arg)) as dd with
 | none=>exact absurd (h.symm.trans ((f7 e1).trans (gv e2))) hs
 | some bs=>exact k ps dd bs rfl e1 e2 (((f7 e1).trans (f7 e2)).symm.trans h)
theorem kX{a:Arguments}{as:List D}{fr:af}{σ σ':St}(h:iD a as σ=.ok fr σ'):σ'=σ/\∃ ps dd bs,a=⟨[],ps,none,[],[],none,a.defaults⟩/\kr a.defaults=some dd/\fh (ps.map (·.arg)) as dd=some bs/\fr=bs.foldl (λfr p=>aj fr p.1 p.2) []/\a.args=ps:=
 qw h (λq=>by injection q) λps dd bs e1 e2 e3 e=>by injection e with x y;exact⟨y.symm,ps,dd,bs,e1,e2,e3,x.symm,congrArg Arguments.args e1⟩
theorem nf{a:Arguments}{as:List D}{σ σ':St}:iD a as σ≠.exc σ':=λh=>
 qw h (λq=>by injection q) λ_ _ _ _ _ _ e=>by injection e
section
variable{H_:Nat}{A:Around}{L:Addr}{G:Gh}{s:Shared}
theorem qy(X:Cx w Gm mg mb){x:Str}{a:Addr}{fd:FuncData}{t:Arguments×List Stmt×Scope}(hf:D6 (KH w.params) x a fd t)(I:Inv w Gm G s.heap)(hh':A.handled=none)(hdp:A.depth+4*(H_+1)+4<recursionLimit)(hun:A.units+20*(H_+1)+200<cLine){outer:List Env}(f1:A.frames=some outer)(f3:StkL G s.heap outer){as:List D}{vs:List Value}(ra:RepL w G.B G.ρ vs as){fr:af}{σ σ':St}(hb:iD t.1 as σ=.ok fr σ'){R:Result->Shared->Prop}
  (h:∀ env L' Go,Rn w Gm true [] G s G Go->Fm w H_ (A.deeper env) G Go.heap env L' t.2.2.names fr->s.heap.get? L'=none->(∀ b∈ownOf env,s.heap.get? b=none) →
   wpAny (model pw w) (A.deeper env) (execs t.2.1 env) (λf s'=>R (.ok (.ret (match f with | .ret v=>v | _=>.none))) s')
    (λe s'=>wpAny (model pw w) (A.deeper env) (leaving env e) (λ_ s''=>R (.error e) s'') (λe' s''=>R (.error e') s'') s') Go):codeAny (model pw w) A (.call (.ref a) ⟨vs,[]⟩) R s:=by
 have K:=I.K X;have T:=I.T X;obtain⟨_,⟨oc,od,sl,hobj⟩,hp,hbody,hsc,hchk⟩:=hf;refine bp (na hchk) λc1 c2 c3 c4 z1=>?_;refine uL z1 λc5 c6 c7 c8 c9 IT Ji=>?_;refine DL (kX hb) λz2 ps dd bs z4=>?_;refine bp z4 λep ed eb z3 eargs=>?_;obtain rfl:=z2;obtain rfl:=z3;rw[hp]at c8 Ji;refine am (qu (w:=w) (B:=G.B) (ρ:=G.ρ) (fd:={ fd with params:=t.1 }) K c8 ed) λdv rd hdv=>?_;refine am (wv ra rd eb) λbv ebv rb=>?_;have names:=qr ebv;have kinds:∀ x∈bv,fd.scope.names.lookup x.1=some .local\/fd.scope.names.lookup x.1=some .cell:=λx hx=>by refine am (List.mem_map.mp (names x hx)) λp hp e=>?_;exact(Eq.symm e) ▸ (Ji p (by exact eargs ▸ hp))
 refine qt (by lia) (K _ _ hobj) rfl T.nolimit (codeRec_of K c4) hbody (pX (hp.trans ep) hdv ebv) c2 (λx hx=>(kinds x hx).imp id λq=>⟨q,cellsFrom_some _ _ _ (.inl q)⟩) c5 c6 c7 λGo J=>?_;refine gD J.toInCall.same λhh tk es=>?_;have R:Rn w Gm true [] G s G Go:=by simp only[es];exact dC I tk λb o e=>by have:=J.toInCall.keep b o e;rw[es]at this;exact this
 have lnew:s.heap.get? s.heap.objs.size=none:=aD _;have un:=I.fresh_un;have nsn:=pY J.toInCall.ns;have cellx:∀ c∈(cellsFrom (s.heap.objs.size+1) fd.scope.names []).map (·.2),∃ n,(n,c)∈cellsFrom (s.heap.objs.size+1) fd.scope.names []:=λc hc=>let ⟨⟨n,c'⟩,hm,e⟩:=List.mem_map.mp hc;⟨n,e ▸ hm⟩
 have nd:((cellsFrom (s.heap.objs.size+1) fd.scope.names []).map (·.1)).Nodup:=by rw[f8 _ _ 0 _ [] rfl];exact IT
 have cnew:∀ c∈(cellsFrom (s.heap.objs.size+1) fd.scope.names []).map (·.2),s.heap.get? c=none/\s.heap.objs.size<c:=λc hc=>by refine PU (cellx c hc) λn hm=>?_;have:=J.above n c hm;refine⟨Heap.get?_none_of_le (Nat.le_of_lt this),this⟩
 have noB:∀ c,s.heap.get? c=none->G.B c=none/\c∉G.ρ:=λc hc=>by
  refine⟨?_,λq=>?_⟩
  ·induction q:G.B c with
   | none=>rfl
   | some o=>have:=I.stays _ _ q;replace this:=(hc) ▸ this;injection this
  ·refine am (I.obj q) λo e _=>?_;replace e:=(hc) ▸ e;injection e
 have sc':t.2.2.names=fd.scope.names:=by rw[hsc]
 refine h (callEnvC fd s.heap.objs.size a) s.heap.objs.size Go R ⟨hh', ?_, ?_,⟨callEnvC fd s.heap.objs.size a,outer,Around.frames_deeper f1,rfl,λen he=>?_⟩,rfl,c7,c1,c3,λx=>.inl ?_,⟨_,J.toInCall.ns,λx d hk hl=>?_⟩,λx d hk hl=>?_,λx hk=>?_,λb hb=>?_,λq=>?_,λc hc=>?_,λx y c h1 h2=>ww J.apart h1 h2⟩ lnew λb hb=>?_
 ·show A.depth+1+4*H_+6<recursionLimit;lia
 ·show A.units+3+20*H_+210<cLine;lia
 ·rcases P9 he with rfl | he
  ·refine⟨by simp only[show(callEnvC fd s.heap.objs.size a).scope.kind=fd.scope.kind from rfl,c7];decide,s.heap.objs.size, ?_⟩;refine am nsn λo ho hn=>?_;exact⟨o,rfl,ho,hn,un.1,un.2⟩
  ·exact(f3.rn R.slack) en he
 ·rw[sc'];rfl
 ·rw[sc']at hk;exact qs (kindOf:=(callEnvC fd s.heap.objs.size a).kindOf) rb (m:=λ_=>none) (fr:=[]) (λ_ _ _ h=>nomatch h) x d hk hl
 ·rw[sc']at hk;have hkc:fd.scope.names.lookup x=some .cell:=hk.resolve_right λq=>c9 _ (aX q) rfl;refine am (tc (kindOf:=(callEnvC fd s.heap.objs.size a).kindOf) rb (m:=λ_=>none) (fr:=[]) (λ_ _ _ h=>nomatch h) x d (by simp only[show(callEnvC fd s.heap.objs.size a).kindOf x=fd.scope.names.lookup x from rfl,hkc];decide) hl) λv ev rv=>?_;refine PU (Option.isSome_iff_exists.mp (cellsFrom_some fd.scope.names (s.heap.objs.size+1) [] (.inl hkc))) λc hc=>?_;exact⟨c,v,hc,ev ▸ J.cell x c hc,rv⟩
 ·rw[sc']at hk;have hkc:fd.scope.names.lookup x=some .cell:=hk.resolve_right λq=>c9 _ (aX q) rfl;refine PU (Option.isSome_iff_exists.mp (cellsFrom_some fd.scope.names (s.heap.objs.size+1) [] (.inl hkc))) λc hc=>?_;exact⟨c,_,hc,J.cell x c hc⟩
 ·rcases P9 hb with rfl | hb
  ·exact un
  ·exact noB b (cnew b hb).1
 ·exact absurd (cnew _ q).2 (Nat.lt_irrefl _)
 ·refine PU (cellx c hc) λn hm=>?_;refine am (J.cell n c (kW nd hm)) λo e _=>?_;exact⟨o,e⟩
 ·rcases P9 hb with rfl | hb
  ·exact lnew
  ·exact(cnew b hb).1
end
end
section
variable{w:World}{Gm:Heap}{mg mb:Str->Option Value}{xt:Bool}
abbrev gS:List Value:=[.ref 38,.type "Exception",.type "BaseException",.type "object"]
abbrev jF:Obj:=excClassObj (nm "RunFault") (nm "RunFault") 51 50 [.ref 38] gS true [] [] false none none (some (.ref 42)) none (some (.str (nm "RunFault") 225)) (some (.str (nm "RunFault") 233)) (some (.bool true)) "Exception.__new__"
theorem g_(P:Params):(KH P).lookup 51=some jF:=by kernel_rfl
theorem uZ(P:Params):nsIn (KH P) mainGlobals bF=some (some (.ref 51)):=by kernel_rfl
theorem u0(P:Params):findIn (KH P) (.ref 51) "__init__" = some (some (.ref 35))/\typeIn (KH P) (.ref 35)=some (.type "function"):=⟨by kernel_rfl,by kernel_rfl⟩
theorem u5(P:Params):specialIn (KH P) (.ref 51) "__call__" = some (some (.builtin "type.__call__"))/\instIn (KH P) (.ref 51) (.type "type")=some true:=⟨by kernel_rfl,by kernel_rfl⟩
theorem yF(P:Params):findIn (KH P) (.ref 51) "__setattr__" = some (some (.builtin "object.__setattr__"))/\findIn (KH P) (.ref 51) (nm "text")=some none:=⟨by kernel_rfl,by kernel_rfl⟩
theorem u6(P:Params):nsIn (KH P) mainGlobals (nm "Exception")=some none/\bootBuiltins (nm "Exception")=some (.type "Exception"):=⟨by kernel_rfl,by kernel_rfl⟩
theorem AY(P:Params):keepIn (KH P) (.ref 51)=true:=by kernel_rfl
section
variable{M:Model}{A:Around}{E:Value->Shared->Prop}{h:Heap}{g:Array GenState}{d:Drawn}{t:Nat}{os:OsState}
theorem C4{rest:List Value}{Q:Unit->Shared->Prop}(hC:h.get? 51=some jF)(hq:Q () ⟨h,g,d,t,os⟩):wpAny M A (checkBuiltinCall "Exception.__new__" ⟨.ref 51::rest,[]⟩) Q E ⟨h,g,d,t,os⟩:=by
 have Fn:=PySem.F.excBase_Exception;have hcont:(Value.ref 51::gS).contains (.type "Exception")=true:=by decide
 have hstar:=Fn.noStar;simp only[checkBuiltinCall,Fn.newKind,Fn.newSplit,Fn.newRow]
 repeat (first | refine wpAny_loadPart_at hC ?_ | (refine wpAny_isSubtype_exc hC ?_;rw[hcont]) | refine wpAny_staticBase_exc hC ?_ | refine wpAny_madeBy_exc hC ?_ | simp only[bne_self_eq_false,Bool.false_eq_true,if_false] | wp_step)
 exact hq
end
section
variable{prog:Program}{w:World}{A:Around}{R:Result->Shared->Prop}{h:Heap}{g:Array GenState}{d:Drawn}{t:Nat}{os:OsState}
abbrev bN(a:Addr):Obj:={ cls:=.ref 51,data:=.fields #[.ref a,.none,.none,.none,.bool false,.none] }
theorem C5{rest:List Value}(hC:h.get? 51=some jF)(hrest:rest.length<=sizeLine)
  (hq:R (.ok (.ret (.ref (h.objs.size+1)))) ⟨(h.push { cls:=.type "tuple",data:=.seq rest.toArray }).push (bN h.objs.size),g,d,t,os⟩) :
  codeAny (model prog w) A (.builtin "Exception.__new__" ⟨.ref 51::rest,[]⟩) R ⟨h,g,d,t,os⟩:=by
 have Fn:=PySem.F.excBase_Exception;have hends:=Fn.ends;have hcB:(Value.ref 51::gS).contains (.type "Exception")=true:=by decide
 have hcA:(Value.ref 51::gS).contains (.type "AttributeError")=false:=by decide
 have hcN:(Value.ref 51::gS).contains (.type "NameError")=false:=by decide
 refine codeAny_builtinAt Fn.entry ?_;unfold Builtin.«BaseException.__new__»;refine PySem.wpAt_bind ?_;show PySem.wpAt _ _ _ (stack >>= _) _ _ _;refine PySem.wpAt_bind (PySem.wpAt_stack λp below=>PySem.wpAt_of_wpAny ?_)
 wp_walk
 refine PySem.wpAt_of_wpAny ?_;rw[Fn.owner]
 repeat (first | with_reducible refine wpAny_madeHere_exc Fn.canon hC ?_ | with_reducible refine wpAny_loadPart_at hC ?_ | (with_reducible refine wpAny_isSubtype_exc hC ?_;first | rw[hcB] | rw[hcA] | rw[hcN]) | wp_step)
 show R _ _;rw[Heap.size_push];exact hq
theorem AZ{P:Params}{txt:Value}(K:(KH P).In h)
  (hq:codeAny (model prog w) (A.under (.builtin "type.__call__" ⟨[.ref 51,txt],[]⟩)) (.call (.ref 35) ⟨[.ref (h.objs.size+1),txt],[]⟩) (InitBack (h.objs.size+1) R) ⟨(h.push { cls:=.type "tuple",data:=.seq [txt].toArray }).push (bN h.objs.size),g,d,t,os⟩) :
  codeAny (model prog w) A (.call (.ref 51) ⟨[txt],[]⟩) R ⟨h,g,d,t,os⟩:=by
 have hC:h.get? 51=some jF:=K _ _ (g_ P);have call:Looks (model prog w) h (specialOf (.ref 51) "__call__") (some (.builtin "type.__call__")):=looks_specialIn K (u5 P).1;have typ:Looks (model prog w) h (isInstance (.ref 51) (.type "type")) true:=looks_instIn K (u5 P).2;have made:Looks (model prog w) h (Bind.madeBy (.ref 51)) (some "Exception.__new__"):=λA Q E s k q=>by obtain⟨h',g',d',t',os'⟩:=s;exact wpAny_madeBy_exc (k _ _ hC) q
 have hm:Looks (model prog w) h (mroOf (.ref 51)) (.ref 51::gS):=λA Q E s k q=>by obtain⟨h',g',d',t',os'⟩:=s;exact wpAny_mroOf_exc (k _ _ hC) q
 have Fn:=PySem.F.excBase_Exception;refine codeAny_of_tree ?_;show wpAny _ _ (callAny (.ref 51) _) _ _ _;refine nd_load hC ?_;show wpAny _ _ (callAny.viaDunder (.ref 51) _) _ _ _;unfold callAny.viaDunder;refine wpAny_bind (call.at ?_);dsimp only;rw[tc_bind];refine wpAny_bind (wpAny_pure (wpAny_bind (wpAny_pure ?_)));refine wpAny_pure (a:=Fin.again (.call (.builtin "type.__call__") ⟨.ref 51::[txt],[]⟩)) (And.intro rfl ?_);refine codeAny_call_builtin_at (Code.quiet_builtin _ (by decide +kernel)) entry_typeCall (check_slot tc_kind tc_split typ (tc_args _ _ _) ?_);unfold Builtin.«type.__call__»
 repeat (first | simp only[List.isEmpty,Bool.false_eq_true,if_false] | with_reducible refine wpAny_call ?_ | lk)
 refine codeAny_call_builtin_code (Code.quiet_builtin _ Fn.quiet) (C4 hC ?_);refine C5 hC (by rw[bB];simp) ?_;have k:∀ b o,h.get? b=some o->((h.push { cls:=.type "tuple",data:=.seq [txt].toArray }).push (bN h.objs.size)).get? b=some o:=λb o e=>Heap.get?_push_of_some _ (Heap.get?_push_of_some _ e);have hx:((h.push { cls:=.type "tuple",data:=.seq [txt].toArray }).push (bN h.objs.size)).get? (h.objs.size+1)=some (bN h.objs.size):=by heap_get
 have t1:Looks (model prog w) ((h.push { cls:=.type "tuple",data:=.seq [txt].toArray }).push (bN h.objs.size)) (typeOf (.ref (h.objs.size+1))) (.ref 51):=(Looks.ld hx).andThen .now;have s1:Looks (model prog w) ((h.push { cls:=.type "tuple",data:=.seq [txt].toArray }).push (bN h.objs.size)) (isSubtype (.ref 51) (.ref 51)) true:=λA Q E s kk q=>by obtain⟨h',g',d',t',os'⟩:=s;exact wpAny_isSubtype_exc (kk _ _ (k _ _ hC)) q
 have i1:Looks (model prog w) ((h.push { cls:=.type "tuple",data:=.seq [txt].toArray }).push (bN h.objs.size)) (typeLookup (.ref 51) "__init__") (some (.ref 35)):=looks_findIn (K.keeps k) (u0 P).1;have b1:Looks (model prog w) ((h.push { cls:=.type "tuple",data:=.seq [txt].toArray }).push (bN h.objs.size)) (bindSpecial (.ref 35) (.ref (h.objs.size+1))) (.ref 35,[.ref (h.objs.size+1)]):=bind_fn (K.keeps k) (.ref (h.objs.size+1)) (u0 P).2;unfold isInstance callSpecial? specialOf
 repeat (first | with_reducible refine wpAny_call ?_ | lk)
 refine codeAny_mono hq λr s' z=>?_;rcases r with e | (v | _ | _ | _) <;> first | exact z | exact z.elim | skip
 obtain⟨rfl,z⟩:=z;exact wpAny_pure (wpAny_pure z)
end
end
section
variable{w:World}{Gm:Heap}{mg mb:Str->Option Value}{xt:Bool}
noncomputable def jN:Arguments×List Stmt×Scope:=(fG 2 1).getD ir
theorem wx(P:Params):(kF P 35).map (λfd=>(fd.params,fd.body,fd.scope))=some (jN.1,FuncBody.stmts jN.2.1,jN.2.2):=by kernel_rfl
theorem A6(P:Params):(kF P 35).any (mP (KH P) (nm "F77Error.__init__"))=true:=by kernel_rfl
theorem te:jN.1=⟨[],jN.1.args,none,[],[],none,[]⟩/\jN.1.args.map (·.arg)=[nm "self",nm "text"]:=⟨by kernel_rfl,by kernel_rfl⟩
theorem wy:jN.2.2.names.lookup (nm "self")=some .local/\jN.2.2.names.lookup (nm "text")=some .local/\jN.2.2.names.lookup (nm "Exception")=some .globalImplicit:=⟨by kernel_rfl,by kernel_rfl,by kernel_rfl⟩
theorem yG(P:Params):findCls (KH P) (.type "Exception") (.type "type") (nm "__init__")=some (.val (.builtin "Exception.__init__")):=by kernel_rfl
theorem C6:∃ p1 p2 p3 p4 p5 p6 p7 p8 p9 p10,jN.2.1=[.Expr (.Call (.Attribute (.Name (nm "Exception") p1) (nm "__init__") p2) [.Name (nm "self") p3,.Name (nm "text") p4] [] p5) p6,.Assign [.Attribute (.Name (nm "self") p7) (nm "text") p8] (.Name (nm "text") p9) p10]/\(p2.endLine==p5.line)=true:=
 ⟨⟨8,8,8,17⟩,⟨8,8,8,26⟩,⟨8,27,8,31⟩,⟨8,33,8,37⟩,⟨8,8,8,38⟩,⟨8,8,8,38⟩,⟨9,8,9,12⟩,⟨9,8,9,17⟩,⟨9,20,9,24⟩,⟨9,8,9,24⟩,by kernel_rfl,by kernel_rfl⟩
section
variable{M:Model}{A:Around}{E:Value->Shared->Prop}{h:Heap}{g:Array GenState}{d:Drawn}{t:Nat}{os:OsState}
theorem qz{e:Addr}{oe:Obj}{rest:List Value}{Q:Unit->Shared->Prop}(hC:h.get? 51=some jF)(he:h.get? e=some oe)(hcls:oe.cls=.ref 51)(hq:Q () ⟨h,g,d,t,os⟩) :
  wpAny M A (checkBuiltinCall "Exception.__init__" ⟨.ref e::rest,[]⟩) Q E ⟨h,g,d,t,os⟩:=by
 have F:=PySem.F.excBase_Exception;have hcB:(Value.ref 51::gS).contains (.type "Exception")=true:=by decide
 have hshort:=F.noStar;simp only[checkBuiltinCall,F.initKind,F.initSplit,F.initRow]
 repeat (first | (with_reducible refine wpAny_loadPart_at he ?_;rw[hcls]) | with_reducible refine wpAny_loadPart_at hC ?_ | (with_reducible refine wpAny_isSubtype_exc hC ?_;rw[hcB]) | wp_step)
 refine wpAny_onRaise ?_;rw[show ∀ (a b:String) (n:Nat),Bind.check ⟨.positional,"*","Exception",.self,[⟨"args",.varPos,false⟩]⟩ a b n (List.map (λx=>x.fst) ({ pos:=Value.ref e::rest }:Args).kw)=pure () from
  λa b n=>check_star_args _ _ _ _ _ _]
 exact wpAny_pure hq
end
section
variable{prog:Program}{A:Around}{E:Value->Shared->Prop}{h:Heap}{g:Array GenState}{d:Drawn}{t:Nat}{os:OsState}
theorem ou{e a:Addr}{v:Value}{Q:Value->Shared->Prop}(hC:h.get? 51=some jF)(he:h.get? e=some (bN a))
  (hq:∀ h',(∀ b o,b≠e->h.get? b=some o->h'.get? b=some o)->h'.get? e=some (bN h.objs.size)->Q .none ⟨h',g,d,t,os⟩):wpAny (model prog w) A (call (.builtin "Exception.__init__") [.ref e,v]) Q E ⟨h,g,d,t,os⟩:=by
 have F:=PySem.F.excBase_Exception;refine wpAny_call (codeAny_call_builtin F.init.plain F.initEntry (qz hC he rfl ?_))
 wp_walk
 have he':(h.push { cls:=.type "tuple",data:=.seq #[v] }).get? e=some (bN a):=Heap.get?_push_of_some _ he;refine hq _ (λb o hb e1=>(Heap.get?_update_other _ _ (Ne.symm hb)).trans (Heap.get?_push_of_some _ e1)) ?_;exact(Heap.get?_update_self _ he' rfl)
theorem tf{P:Params}{e a:Addr}{name:Str}{v:Value}{Q:Unit->Shared->Prop}(K:(KH P).In h)(hn:findIn (KH P) (.ref 51) name=some none)(he:h.get? e=some (bN a))
  (hq:∀ h' tk dx,(∀ b o,b≠e->h.get? b=some o->h'.get? b=some o)->h'.get? e=some { bN a with dict:=some dx }->Q () ⟨h',g,d,tk,os⟩):wpAny (model prog w) A (setAttr (.ref e) name v) Q E ⟨h,g,d,t,os⟩:=by
 have hC:h.get? 51=some jF:=K _ _ (g_ P);have SF:=PySem.F.store_object;have SE:=PySem.F.store_Exception;have I:InstAt h e (bN a) 51 none:=⟨he,rfl,rfl,trivial⟩;have Do:Looks (model prog w) h (isSubtype (.ref 51) (.type "object")) true:=λA Q E s k q=>by obtain⟨h',g',d',t',os'⟩:=s;exact wpAny_isSubtype_exc (k _ _ hC) q
 have hm:Looks (model prog w) h (mroOf (.ref 51)) (.ref 51::gS):=λA Q E s k q=>by obtain⟨h',g',d',t',os'⟩:=s;exact wpAny_mroOf_exc (k _ _ hC) q
 have sub:Looks (model prog w) h (isInstance (.ref e) (.type "object")) true:=I.type.andThen Do;refine W.set_plain (s:=⟨h,g,d,t,os⟩) K I (yF P).1 ?_;refine codeAny_call_builtin SF.slot.plain SF.entry (@check_slot (model prog w) _ _ ⟨h,g,d,t+1,os⟩ "object.__setattr__" "object" "__setattr__" (.ref e) [.str name t,v] [] _ SF.kind SF.split sub (SF.args (.ref e) (.str name t) v) ?_);rw[osa_eq,refuse_eq];refine wpAny_bind (wpAny_bind (I.type.at (wpAny_bind (hm.at ?_))));rw[refuseLoop_ref,refuseLoop_ref,SE.passes];refine wpAny_pure (wpAny_bind (I.type.at (wpAny_bind ((looks_findIn K hn).at (wpAny_bind (wpAny_pure ?_))))));show wpAny _ _ (PySem.Builtin.ObjectAttr.storeInOwnDict (.ref e) (.ref 51) (.str name t) name v false) _ _ _;delta PySem.Builtin.ObjectAttr.storeInOwnDict PySem.Builtin.ObjectAttr.ownDictForStores;refine wpAny_bind (wpAny_pure ?_);rw[PZ (by decide)];have hcd:clsIn (KH P) 51=some { name:=nm "RunFault",bases:=[.ref 38],mro:=.ref 51::gS,ns:=50,qualname:=nm "RunFault",hasDict:=true,slotNames:=[],subclasses:=[],abstract:=false,collection:=none,hasDel:=false }:=by unfold clsIn;rw[g_ P]
 have Ho:(h.push { cls:=.type "dict",data:=.dict #[] }).get? e=some (bN a):=Heap.get?_push_of_some _ he;have hes:e≠h.objs.size:=Nat.ne_of_lt (Heap.lt_size he);dsimp only;refine wpAny_bind ?_;refine wpAny_bind (wpAny_loadPart he (wpAny_bind ((looks_clsIn K hcd).at ?_)));dsimp only;rw[PZ (by decide),PZ (by decide)];refine wpAny_bind (wpAny_alloc' (wpAny_bind (wpAny_update' Ho (wpAny_pure ?_))));have hgd:((h.push { cls:=.type "dict",data:=.dict #[] }).update e λo=>{ o with dict:=some h.objs.size }).get? h.objs.size=some { cls:=.type "dict",data:=.dict #[] }:=(Heap.get?_update_ne _ _ _ _ hes.symm).trans (Heap.get?_push_size _ rfl);have hge:((h.push { cls:=.type "dict",data:=.dict #[] }).update e λo=>{ o with dict:=some h.objs.size }).get? e=some { bN a with dict:=some h.objs.size }:=Heap.get?_update_self _ Ho rfl;have hnd:((h.push { cls:=.type "dict",data:=.dict #[] }).update e λo=>{ o with dict:=some h.objs.size }).Ns h.objs.size (λ_=>none):=⟨_,#[],_,hgd,rfl,λe he=>absurd he (by simp),λ_=>rfl⟩;delta PySem.Builtin.ObjectAttr.storeInDict PySem.Builtin.ObjectAttr.newKeyGuard;refine wpAny_bind (wpAny_pure (wpAny_bind (wpAny_nsSet1 (Heap.Ns1.of_empty hnd) λh' hn' hs=>?_)));refine bA (hn'.count (Within.cons name v Within.nil)) λoD esD epD hoD hdD hcD=>?_;refine wpAny_bind (wpAny_lookBehind hoD (by rw[hdD];exact pastItsLine_dict (PQ hcD (by simp only[List.length_cons,List.length_nil,bB];omega))) (wpAny_pure ?_));refine hq h' _ h.objs.size (λb o hb eb=>(hs.2 b (Nat.ne_of_lt (Heap.lt_size eb))).trans ((Heap.get?_update_ne _ _ _ _ hb).trans (Heap.get?_push_of_some _ eb))) ?_;exact(hs.2 e hes).trans hge
end
end
section
variable{w:World}{Gm:Heap}{mg mb:Str->Option Value}{xt:Bool}
section
variable{A:Around}{s:Shared}{R:Result->Shared->Prop}
set_option tactic.hygienic true in
theorem yH{e a:Addr}{txt:Value}(K:(KH w.params).In s.heap)(T:TopRead qv (looseW qv B3) mg mb s.heap)(hKe:(KH w.params).lookup e=none)(he:s.heap.get? e=some (bN a))(hroom:A.depth<recursionLimit)
  (hq:∀ h' tk a' dx,(∀ b o,b≠e->s.heap.get? b=some o->h'.get? b=some o)->h'.get? e=some { bN a' with dict:=some dx }->R (.ok (.ret .none)) { s with heap:=h',toks:=tk }) :
  codeAny (model pw w) A (.call (.ref 35) ⟨[.ref e,txt],[]⟩) R s:=by
 have hp:=wx w.params;refine am (Option.map_eq_some_iff.mp hp) λfd hfd hp=>?_;simp only[Prod.mk.injEq]at hp;refine jb hp λhp1 hp2 hp3=>?_;have hchk:=A6 w.params;rw[hfd]at hchk;have hchk:mP (KH w.params) (nm "F77Error.__init__") fd=true:=hchk;refine eO (kG hfd) λoc od sl hobj=>?_;refine bp (na hchk) λc1 c2 c3 c4 z1=>?_;refine uL z1 λc5 c6 c7 c8 c9 IT Ji=>?_;refine PV (λq1 q2=>?_) te;refine jb wy λn1 n2 n3=>?_;have hd0:fd.params.defaults=[]:=by rw[hp1,q1]
 refine am (qu (w:=w) (B:=λ_=>none) (ρ:=[]) (fd:=fd) K c8 (dd:=[]) (by rw[hd0];rfl)) λdv rd hdv=>?_;obtain rfl:=List.eq_nil_of_length_eq_zero rd.length;have eb:fh (jN.1.args.map (·.arg)) [.ref e,txt] []=some [(nm "self",.ref e),(nm "text",txt)]:=by rw[q2];kernel_rfl
 have kOf:∀ x,(callEnvC fd s.heap.objs.size 35).kindOf x=jN.2.2.names.lookup x:=λx=>by rw[<-hp3];rfl
 have kk1:=(kOf (nm "self")).trans n1;have kk2:=(kOf (nm "text")).trans n2;have kk3:=(kOf (nm "Exception")).trans n3;refine qt hroom (K _ _ hobj) rfl T.nolimit (codeRec_of K c4) hp2 (pX (hp1.trans q1) hdv eb) c2 (λx hx=>?_) c5 c6 c7 λGo J=>?_
 ·exact hp3 ▸ vO hx (λq=>q ▸ .inl n1) λq=>q ▸ .inl n2
 refine gD J.toInCall.same λhh1 tk es=>?_;subst es;generalize hL:s.heap.objs.size=L at *
 generalize henv:callEnvC fd L 35=env at *
 have hk:env.scope.kind=.function:=by rw[<-henv];exact c7
 have hgl:env.globals=mainGlobals:=by rw[<-henv];exact c1
 have hbu:env.builtins=builtinsNs:=by rw[<-henv];exact c3
 have hlo:env.locals=L:=by rw[<-henv];rfl
 have m1:bindL env.kindOf [(nm "self",Value.ref e),(nm "text",txt)] (λ_=>none) (nm "self")=some (.ref e):=by dsimp only[bindL,bindL,bindL];rw[PY kk1,PY kk2];rw[PZ (by decide +kernel),PY rfl]
 have m2:bindL env.kindOf [(nm "self",Value.ref e),(nm "text",txt)] (λ_=>none) (nm "text")=some txt:=by dsimp only[bindL,bindL,bindL];rw[PY kk1,PY kk2];rw[PY rfl]
 generalize bindL env.kindOf [(nm "self",Value.ref e),(nm "text",txt)] (λ_=>none)=m at *
 refine bq C6 λp1 p2 p3 p4 z2=>?_;refine bq z2 λp5 p6 p7 p8 z3=>?_;refine aJ z3 λp9 p10 hb hl=>?_;rw[hb];have Hp:=T.keeps J.toInCall.keep;have Hy:=K.keeps J.toInCall.keep;have H0:Fr s.heap env.locals hh1 m:=⟨J.toInCall.ns,J.toInCall.keep,J.toInCall.fresh⟩;have hi:interactive env=false:=by unfold interactive;rw[hk];rfl
 refine wpAny_execs_cons (wpAny_Expr_any ?_ hi rfl);rw[arm_eval_Call];refine th (g7 rfl (Name_function_global hk kk3 (loadGlobal_builtin (by rw[hgl];exact Hp.g) (mg_none_of Hy Hp.g (u6 w.params).1) (by rw[hbu];exact Hp.b) ((Hp.builtins _ (by decide +kernel)).trans (u6 w.params).2) ?_) (by decide +kernel)));refine th (wpAny_standAt ?_);have hf:methodCallForm (([.Name (nm "self") p3,.Name (nm "text") p4]:List Expr).length+([]:List Keyword).length) (backTo p5 (starEach [.Name (nm "self") p3,.Name (nm "text") p4] env)) (backToKw p5 (keywordEach [] env))=true:=by unfold methodCallForm;rw[ji (by rfl)];rfl
 unfold methodCall;rw[hf];refine th (wpAny_holding (method_type H0 K (T:="Exception") (kitMeta_of (by decide +kernel)) (by decide +kernel) (yG w.params) rfl ?_));have hpos:methodCallPos true (.Name (nm "Exception") p1) env p2 p5=pure p5:=by unfold methodCallPos;rw[hl];rfl
 dsimp only;rw[hpos];refine th (wpAny_pure ?_);have HF:=J.tok (tk+1);have Ho:hh1.get? e=some (bN a):=J.toInCall.keep _ _ he;have heL:e≠L:=λq=>du ((aD s.heap).symm.trans ((congrArg s.heap.get? (hL.trans q.symm)).trans he));refine callWith_of (P:=λhp=>∃ k,(k=Keeper.frame\/k=Keeper.machine\/k=Keeper.boundFrame)/\Looks (model pw w) hp (keeperOf (.builtin "Exception.__init__")) k) (by rw[eW rfl];rfl) (λ_ z=>z) ?_;have kkw:(backToKw p5 (keywordEach [] env))=[]:=rfl;rw[kkw];have aw:∀ {Q:List Value->Shared->Prop} {E:Value->Shared->Prop},Q [.ref e,txt] { s with heap:=hh1,toks:=tk+1 }->wpAny (model pw w) (A.deeper env) (spliced (backTo p5 (starEach [.Name (nm "self") p3,.Name (nm "text") p4] env))) Q E { s with heap:=hh1,toks:=tk+1 }:=λq=>
  args_cons (NameLC HF hk kk1 m1 (args_cons (NameLC HF hk kk2 m2 (args_nil q) (by decide +kernel)) rfl) (by decide +kernel)) rfl
 refine evalArgs_plain (aw ⟨⟨.machine,.inr (.inl rfl),Looks.of_pure rfl⟩, ?_⟩);refine ou (Hy _ _ (g_ w.params)) Ho λh' hk' he'=>?_;have Kh':(KH w.params).In h':=λb o q=>hk' b o (λz=>by rw[z,hKe]at q;cases q) (Hy b o q);have kL:h'.get? L=hh1.get? L:=by refine am (pY J.toInCall.ns) λo ho _=>?_;rw[hlo]at ho;exact(hk' L o heL.symm ho).trans ho.symm
 have ns':h'.Ns env.locals m:=by refine uK J.toInCall.ns λo es ep ho r=>?_;rw[hlo]at ho ⊢;exact⟨o,es,ep,kL.trans ho,r⟩
 refine wpAny_execs_cons ?_;rw[arm_exec_Assign];have hsw:swapsWithSole [.Attribute (.Name (nm "self") p7) (nm "text") p8] (.Name (nm "text") p9) p10.line env=pure false:=rfl;rw[hsw];refine wpAny_bind (wpAny_standAt (wpAny_bind (wpAny_pure ?_)));rw[PZ (by decide)];refine wpAny_bind (wpAny_Name (wpAny_loadName_local hk kk2 ns' m2 ?_) (by decide +kernel));have hss:swappedStores [.Attribute (.Name (nm "self") p7) (nm "text") p8] (.Name (nm "text") p9) env=pure none:=rfl;rw[hss];refine wpAny_bind (wpAny_pure ?_);show wpAny _ _ (do assign (.Attribute (.Name (nm "self") p7) (nm "text") p8) env txt;pure Flow.next) _ _ _;refine wpAny_bind ?_;rw[arm_assign_Attribute];refine wpAny_bind (wpAny_holding (wpAny_Name (wpAny_loadName_local hk kk1 ns' m1 ?_) (by decide +kernel)));refine wpAny_bind (wpAny_standAt (wpAny_bind (wpAny_holding ?_)));refine tf Kh' (yF w.params).2 he' λh'' tk2 dx hk'' he''=>wpAny_release (wpAny_pure (wpAny_execs_nil ?_));exact hq h'' tk2 hh1.objs.size dx (λb o hb q=>hk'' b o hb (hk' b o hb (J.toInCall.keep b o q))) he''
end
end
section
variable{w:World}{Gm:Heap}{mg mb:Str->Option Value}{xt:Bool}
section
variable{M:Model}{A:Around}{E:Value->Shared->Prop}{s:Shared}{env:Env}
theorem yI{x:Sem Value}{Q:Flow->Shared->Prop}(hh:A.handled=none)
  (h:wpAny M A x (λv Go=>∃ e a dx,v=.ref e/\Go.heap.get? 51=some jF/\Go.heap.get? e=some { bN a with dict:=some dx }/\E (.ref e) Go) E s):wpAny M A (raiseStmt env (some x) none) Q E s:=by
 have hcB:(Value.ref 51::gS).contains (.type "BaseException")=true:=rfl;refine wpAny_bind (wpAny_mono h (λv Go Gu=>?_) λ_ _ x=>x);refine iq Gu λe a dx z1 hC he hE=>?_;obtain rfl:=z1;obtain⟨hp,g,d,tk,os⟩:=Go
 repeat (first | with_reducible refine wpAny_loadPart_at he ?_ | with_reducible refine wpAny_loadPart_at hC ?_ | (with_reducible refine wpAny_isSubtype_exc hC ?_;dsimp only[hcB]) | wp_step)
 exact wpAny_raiseNew_none hh hE
end
section
variable{H_:Nat}{A:Around}{env:Env}{L:Addr}{sc:Sc}{fr:af}{Gq G:Gh}{Gp s:Shared}{E:Value->Shared->Prop}{α β:Type}{P:Gh->β->α->Prop}{Q:β->Shared->Prop}{f:Flow'->M α}{Gs:Flow->Shared->Prop}
theorem wz(X:Cx w Gm mg mb){x txt:Str}{np kp cpos pos:Pos}{k:Nat}(B:Bs w Gm H_ xt A env L sc Gq Gp G s fr)(h:Ok w Gm xt P (ownOf env) L Gq Gp (bnd (if x=bF/\sc.lookup x=some .globalImplicit then aP else stuck) f G.σ) Q E) :
  wpAny (model pw w) A (exec (.Raise (some (.Call (.Name x np) [.Constant (.str txt) k kp] [] cpos)) none pos) env) Gs E s:=by
 have I:=B.I;have F:=B.F;have hc:x=bF/\sc.lookup x=some .globalImplicit:=by
  refine PW (P_ (x=bF/\sc.lookup x=some .globalImplicit)) (λhc=>?_) λhc=>?_
  ·exact hc
  ·replace h:=(PZ hc) ▸ h;exact(h:False).elim
 replace h:=(PY hc) ▸ h;obtain⟨rfl,hx⟩:=hc;have K:=I.K X;have T:=I.T X;have kk:env.kindOf bF=some .globalImplicit:=by
  rcases F.names bF with q | ⟨q,_⟩
  ·refine PX q ?_;exact hx
  ·replace q:=(hx) ▸ q;exact absurd q (by decide)
 simp only[arm_exec_Raise];refine wpAny_bind (wpAny_standAt (yI F.handled ?_));refine th (Call_ (Name_function_global F.kind kk (loadGlobal_global (by exact F.globals ▸ T.g) (mg_of K T.g (uZ w.params)) ?_) (by decide +kernel)) (by rfl));refine callWith_of (P:=λhp=>∃ k,(k=Keeper.frame\/k=Keeper.machine\/k=Keeper.boundFrame)/\Looks (model pw w) hp (keeperOf (.ref 51)) k) (by rw[eW rfl];rfl) (λ_ z=>z) ?_;have aw:∀ {Q:List Value->Shared->Prop} {E:Value->Shared->Prop},Q [.str txt s.toks] { s with toks:=s.toks+1 }->wpAny (model pw w) A (spliced (backTo cpos (starEach [.Constant (.str txt) k kp] env))) Q E s:=λq=>args_cons (Constant_str (args_nil q)) rfl;refine evalArgs_plain (aw ⟨keeps_K (AY w.params) _ K,wpAny_call ?_⟩);obtain⟨hh,g,d,t,os⟩:=s;refine cO (qa (A:=A) (C:=51) (vs:=[.str txt t])) λu1 u2 u3 u4=>?_;refine AZ (P:=w.params) K ?_;have kp':∀ b o,hh.get? b=some o->((hh.push { cls:=.type "tuple",data:=.seq [Value.str txt t].toArray }).push (bN hh.objs.size)).get? b=some o:=λb o e=>Heap.get?_push_of_some _ (Heap.get?_push_of_some _ e);have hx1:((hh.push { cls:=.type "tuple",data:=.seq [Value.str txt t].toArray }).push (bN hh.objs.size)).get? (hh.objs.size+1)=some (bN hh.objs.size):=by heap_get
 have enew:hh.get? (hh.objs.size+1)=none:=Heap.get?_none_of_le (Nat.le_succ _);have hKe:(KH w.params).lookup (hh.objs.size+1)=none:=by
  induction q:(KH w.params).lookup (hh.objs.size+1) with
  | none=>rfl
  | some o=>have:=K _ _ q;simp only[show(⟨hh,g,d,t,os⟩ : Shared).heap=hh from rfl]at this;rw[enew]at this;exact nomatch this
 have eB:G.B (hh.objs.size+1)=none:=by
  induction q:G.B (hh.objs.size+1) with
  | none=>rfl
  | some o=>have:=I.stays _ _ q;simp only[show(⟨hh,g,d,t,os⟩ : Shared).heap=hh from rfl]at this;rw[enew]at this;exact nomatch this
 refine yH (K.keeps kp') (T.keeps kp') hKe hx1 (PS (show _<=A.depth+1 from u3) (by have:=F.depth;omega)) λh' tk a' dx hk' he'=>?_;refine⟨rfl,wpAny_bind (wpAny_standAt (wpAny_pure ⟨_,a',dx,rfl, ?_,he', ?_⟩))⟩
 ·exact hk' _ _ (λq=>by replace hKe:=(Eq.symm q) ▸ hKe;rw[g_]at hKe;injection hKe) (kp' _ _ (K _ _ (g_ w.params)))
 ·have R:Rn w Gm false (ownOf env) G ⟨hh,g,d,t,os⟩ G ⟨h',g,d,tk,os⟩:=dC I tk λb o e=>hk' b o (λq=>by replace e:=(q) ▸ e;replace e:=(enew) ▸ e;injection e) (kp' b o e);refine h _ _ G rfl (B.R.slack.trans R) (ExcAt.back (Gu:=hh) ⟨hh.objs.size+1,_,_,51,.ref a',rfl,enew,eB,he',uZ w.params,rfl,rfl,rfl,.inl rfl⟩ λb q=>B.R.fresh b q)
end
end
section
variable{w:World}{Gm:Heap}{mg mb:Str->Option Value}{xt:Bool}
theorem yJ{α:Type}(m:M D)(f:D->M Flow')(h:M Flow')(g:Flow'->M α)(σ:St):bnd (vU m f h) g σ=match m σ with
   | .ok v σ'=>bnd (f v) g σ'
   | .exc σ'=>bnd h g σ'
   | .stuck=>.stuck:=by
 unfold vU bnd;dsimp only
 induction m σ <;> rfl
section
variable{H_:Nat}{A A':Around}{env:Env}{L:Addr}{sc:Sc}{fr:af}{Gq G G':Gh}{Gp s s':Shared}{E:Value->Shared->Prop}{r:Rc}{α β:Type}{P:Gh->β->α->Prop}{Q:β->Shared->Prop}{f:Flow'->M α}{Gs:Flow->Shared->Prop}{k:K'}{Id:List Addr}
theorem Fm.slots{fr':af}{s'':Shared}(F:Fm w H_ A G s.heap env L sc fr)(R:Rn w Gm false Id G s G' s'')(F':Fm w H_ A G' s'.heap env L sc fr')(ks:∀ b o,s'.heap.get? b=some o->aV o->∃ sl,s''.heap.get? b=some { o with slots:=sl })
  (S:∀ l,A.frames=some l->StkL G' s''.heap l):Fm w H_ A G' s''.heap env L sc fr':=F'.sl ks S λc hc=>by
 refine PU (F.ex c hc) λo e=>?_;refine am (R.there c o e) λo' q _=>?_;exact⟨o',q⟩
theorem C7{x:Value}{fr':af}(F:Fm w H_ A G s.heap env L sc fr)(R:Rn w Gm false Id G s G' s')(F':Fm w H_ A G' s'.heap env L sc fr')(X:ExcAt w s.heap G' s'.heap L x){Q:Unit->Shared->Prop}
  (k:∀ s'',Rn w Gm false Id G s G' s''->Fm w H_ A G' s''.heap env L sc fr'->ExcAt w s.heap G' s''.heap L x->Q () s''):wpAny (model pw w) A (noteFrame x env) Q E s':=by
 refine ar F'.stk λGH outer f1 f2 f3=>?_;exact(eR (env:=GH) (env':=env) (F.frame.trans f2.symm)) ▸ (iK f1 f2 R f3 X λs'' ks R' S' X' _=>k s'' R' (F.slots R' F' ks λl hl=>by replace hl:=(f1) ▸ hl;cases hl;exact S') X')
theorem yK{x:Value}{fr':af}(F:Fm w H_ A G s.heap env L sc fr)(R:Rn w Gm false Id G s G' s')(F':Fm w H_ A G' s'.heap env L sc fr')(X:ExcAt w s.heap G' s'.heap L x){Q:Unit->Shared->Prop}
  (k:∀ s'',Rn w Gm false Id G s G' s''->Fm w H_ A G' s''.heap env L sc fr'->ExcAt w s.heap G' s''.heap L x->Q () s''):wpAny (model pw w) A' (setFlight x none) Q E s':=by
 refine ar F'.stk λGH outer f1 f2 f3=>?_;exact eQ (.inl rfl) R f3 X λs'' ks R' S' X' _=>k s'' R' (F.slots R' F' ks λl hl=>by replace hl:=PX (Eq.symm f1) hl;cases hl;exact S') X'
theorem jk{A':Around}{y:Str}{py cpos pos:Pos}{ck:Nat}(hy:gM sc y=true)(F:Fm w H_ A G s.heap env L sc fr)(I:Inv w Gm G s.heap)
  (k:∀ s',Rn w Gm xt (ownOf env) G s G s'->Fm w H_ A G s'.heap env L sc (aj fr y .none)->Gs .next s'):wpAny (model pw w) A' (exec (.Assign [.Name y py] (.Constant .none ck cpos) pos) env) Gs E s:=by
 simp only[arm_exec_Assign];have hsw:swapsWithSole [.Name y py] (.Constant .none ck cpos) pos.line env=pure false:=rfl;rw[hsw];refine wpAny_bind (wpAny_standAt (wpAny_bind (wpAny_pure ?_)));rw[PZ (by decide)];refine wpAny_bind (Constant_none ?_);have hss:swappedStores [.Name y py] (.Constant .none ck cpos) env=pure none:=rfl;rw[hss];refine wpAny_bind (wpAny_pure ?_);exact wpAny_bind (wpAny_assign_Name (eh F I .none hy λs' R F'=>wpAny_pure (k s' R F')))
theorem A7{e:Expr}{z:Str}{pz:Pos}{l:Nat}{env:Env}(hc:kj e=true):swapsWithSole [.Name z pz] e l env=pure false/\swappedStores [.Name z pz] e env=pure none:=
 Expr.Call.elim (motive_1:=λe=>swapsWithSole [.Name z pz] e l env=pure false/\swappedStores [.Name z pz] e env=pure none) e (eq_of_beq hc) λ_ _ _ _=>⟨rfl,rfl⟩
theorem A8(X:Cx w Gm mg mb)(SR:bt w Gm H_ r){z y x:Str}{e:Expr}{pz py np cp ap ap' hp pos:Pos}{ck:Nat}(B:Bs w Gm H_ false A env L sc Gq Gp G s fr)
  (hc:x=bF/\sc.lookup x=some .globalImplicit/\kj e=true) (h:Ok w Gm false P (ownOf env) L Gq Gp (bnd (vU (r.ev sc fr e) (λv=>bnd (aY sc fr z v) k) (bnd (aY sc fr y .none) k)) f G.σ) Q E)
  (hN:∀ s' G' fr',Rn w Gm false (ownOf env) G s G' s'->Bs w Gm H_ false A env L sc Gq Gp G' s' fr'->Ok w Gm false P (ownOf env) L Gq Gp (bnd (k fr') f G'.σ) Q E->Gs .next s') :
  wpAny (model pw w) A (exec (.Try [.Assign [.Name z pz] e ap'] [.ExceptHandler (some (.Name x np)) none [.Assign [.Name y py] (.Constant .none ck cp) ap] hp] [] [] pos) env) Gs E s:=by
 have F:=B.F;have I:=B.I;obtain⟨rfl,hx,hcall⟩:=hc;rw[yJ]at h;refine wpAny_Try_except ?_;refine wpAny_execs_cons ?_;dsimp only[arm_exec_Assign];refine PV (λhsw hss=>?_) (A7 (z:=z) (pz:=pz) (l:=ap'.line) (env:=env) hcall);rw[hsw];refine wpAny_bind (wpAny_standAt (wpAny_bind (wpAny_pure ?_)));rw[PZ (by decide)];refine wpAny_bind (mW SR I F (λq=>by rw[q]at h;exact h) (λv Go Gn d GP R Gx rv=>?_) λy' s' G' GP R X'=>?_)
 ·rw[hss];refine wpAny_bind (wpAny_pure ?_);rw[GP]at h;have h:Ok w Gm false P (ownOf env) L Gq Gp (bnd (bnd (aY sc fr z d) k) f Gn.σ) Q E:=h;rw[aR]at h;refine PV (λhv hst=>?_) (ei h.nst);replace h:=(hst) ▸ h;have GK:=B.on R;exact wpAny_bind (wpAny_assign_Name (eh Gx R.inv rv hv λs2 R2 F2=>wpAny_pure (wpAny_execs_nil (wpAny_execs_nil (hN s2 Gn _ (R.ev.trans R2) ⟨B.F₀,GK.R.trans R2,F2⟩ h)))))
 ·rw[GP]at h;have h:Ok w Gm false P (ownOf env) L Gq Gp (bnd (bnd (aY sc fr y .none) k) f G'.σ) Q E:=h;rw[aR]at h;refine PV (λhv hst=>?_) (ei h.nst);replace h:=(hst) ▸ h;refine C7 F R (F.rn R λ_ _=>xv) X' λs2 R2 F2 X2=>yK F R2 F2 X2 λs3 R3 F3 X3=>?_;have I3:=R3.inv;have K3:=I3.K X;have T3:=I3.T X;obtain⟨ea,oe,vs,C,a0,rfl,x2,x3,x4,x5,x6,_⟩:=id X3;have hC:C=51:=by unfold sG jz at x5;rw[uZ]at x5;cases x5;rfl
  subst hC;have kk:env.kindOf bF=some .globalImplicit:=by
   rcases F3.names bF with q | ⟨q,_⟩
   ·refine PX q ?_;exact hx
   ·replace q:=(hx) ▸ q;exact absurd q (by decide)
  refine wpAny_handleBy_cons (codeAny_handlers_test (Name_function_global F3.kind kk (loadGlobal_global (by exact F3.globals ▸ T3.g) (mg_of K3 T3.g (uZ w.params)) ?_) (by decide +kernel))) (by intro q;injection q);obtain⟨hh,g,d,t,os⟩:=s3;refine wpAny_excMatches_sub_self (K3 _ _ (g_ w.params)) x4 x6 (rfl) ?_;refine codeAny_handlers_suite (yK F R3 F3 X3 λs4 R4 F4 X4=>wpAny_execs_cons (jk (xt:=false) hv F4 R4.inv λs5 R5 F5=>wpAny_execs_nil ?_));have R45:=(R4.weak (own':=ownOf env) cP).trans R5;exact hN s5 G' _ R45 ⟨B.F₀,B.R.trans R45,F5⟩ h
end
end
section
variable{w:World}{Gm:Heap}{mg mb:Str->Option Value}
theorem no{α:Type}{a:α}{P:Prop}(h:none=some a):P:=nomatch h
theorem A9{as:List Expr}(h:sD as=true):∃ txt k kp,as=[.Constant (.str txt) k kp]:=by
 rcases as with _ | ⟨a,_ | _⟩
 ·exact fD h
 ·refine km (· = true) h (λc k kp z h=>?_) fD;subst z;exact Const.str.elim (motive:=λc=>∃ txt k' kp',[Expr.Constant c k kp]=[.Constant (.str txt) k' kp']) c (eq_of_beq h) λtxt=>⟨txt,k,kp,rfl⟩
 ·exact fD h
theorem wA{e:Expr}{f:Str}(h:jY e=some f):∃ np txt k kp cpos,e=.Call (.Name f np) [.Constant (.str txt) k kp] [] cpos:=by refine vT (· = some f) h (λg as ks cp z h=>?_) no;subst z;refine PW (P_ (sD as=true/\ks.isEmpty=true)) (λc=>?_) λc=>no ((PZ c).symm.trans h);obtain⟨p,y1⟩:=f0 ((PY c).symm.trans h);refine eO (A9 c.1) λtxt k kp z1=>?_;exact⟨p,txt,k,kp,cp,by simp only[y1,z1,List.isEmpty_iff.mp c.2]⟩
theorem qA{α:Type}{e:Expr}{g:Str->α}{a:α}(h:(df e).map g=some a):∃ z p,e=.Name z p/\g z=a:=by
 induction q:df e with
 | none=>rw[q]at h;exact no h
 | some z=>rw[q]at h;obtain⟨p,rfl⟩:=f0 q;exact⟨z,p,rfl,P7 h⟩
theorem kY{b:List Stmt}{z:Str}{e:Expr}(h:dB b=some (z,e)):∃ p q,b=[.Assign [.Name z p] e q]:=by
 rcases b with _ | ⟨s,_ | _⟩
 ·exact no h
 ·refine pJ (· = some (z,e)) h (λts e' q z h=>?_) no;rw[z];rcases ts with _ | ⟨t,_ | _⟩
  ·exact no h
  ·refine aJ (qA h) λz' p z2 e=>?_;cases e;exact⟨p,q,by rw[z2]⟩
  ·exact no h
 ·exact no h
theorem yL{hs:List ExceptHandler}{f:Str}{b:List Stmt}(h:nN hs=some (f,b)):∃ np hp,hs=[.ExceptHandler (some (.Name f np)) none b hp]:=by
 rcases hs with _ | ⟨⟨_ | e,_ | _,b',hp⟩,_ | _⟩ <;> try exact no h
 refine aJ (qA h) λz' p z3 e=>?_;cases e;exact⟨p,hp,by rw[z3]⟩
theorem yM{e:Expr}(h:uQ e=true):∃ k p,e=.Constant .none k p:=by refine km (· = true) h (λc k p z h=>?_) fD;subst z;exact Const.none.elim (motive:=λc=>∃ k' p',Expr.Constant c k p=.Constant .none k' p') c (eq_of_beq h) ⟨k,p,rfl⟩
theorem A_{H_:Nat}{tr:Bool}{r:Rc}{x:Sx}(X:Cx w Gm mg mb)(SR:bt w Gm H_ r)(SX:kS w Gm H_ (!tr) x):kS w Gm H_ (!tr) (xO tr r x):=by
 intro A env L sc st fr k Gq G Gp s α β P f Q E Gs B h hN hR
 induction st using Stmt.casesOn with
 | Pass=>exact yx B h hN
 | Return o=>
  induction o with
  | none=>exact kT SR (e:=none) B h hR
  | some=>exact kT SR B h hR
 | Expr e=>exact PV (λhc h=>yy SR hc B h hN) (Ok.iteB h)
 | Assign ts=>
  rcases ts with _ | ⟨t,_ | _⟩
  ·exact(h:False).elim
  ·exact qm X SR B h hN
  ·exact(h:False).elim
 | AugAssign t op e p=>refine Ok.onName (λm=>bnd m f G.σ) h (λy py z h1=>?_) False.elim;clear h;subst z;exact AV SR B h1 hN
 | If=>exact CX SR SX B h hN hR
 | While t b o=>
  induction o using List.casesOn with
  | cons=>exact(h:False).elim
  | nil=>exact wq SR SX _ B h hN hR
 | For t i b o pos=>
  induction o using List.casesOn with
  | cons=>exact(h:False).elim
  | nil=>
   refine PV (λhset h1=>?_) (Ok.iteB h);rw[aR]at h1;refine wpAny_For (sZ SR B h1 λv Go Gn src R GK rv Gu=>?_) λz=>eZ hset;clear h h1;refine Ok.onTup (λm=>bnd m f Gn.σ) Gu (λts n tp z h2=>?_) λh3=>Ok.onName (λm=>bnd m f Gn.σ) h3 (λy py z h2=>?_) False.elim
   ·clear Gu;subst z;refine Ai (λm=>Ok w Gm (!tr) P (ownOf env) L Gq Gp (bnd m f Gn.σ) Q E) h2 (λl z h3=>?_) False.elim;clear h2;subst z;exact wu SX GK rv h3 (λs2 G2 bT R2 B2 h2=>hN s2 G2 bT (R.ev.trans R2) B2 h2) hR
   ·clear Gu h3;subst z;rw[aR]at h2;exact AX (pos:=pos) X SR SX hset GK rv h2 (λs2 G2 bT R2 B2 h2=>hN s2 G2 bT (R.ev.trans R2) B2 h2) hR
 | Raise o c=>
  rcases o with _ | e
  ·exact(h:False).elim
  rcases c with _ | c
  case some=>exact(h:False).elim
  replace h:Ok w Gm (!tr) P (ownOf env) L Gq Gp (bnd (xN sc (jY e)) f G.σ) Q E:=h;rcases q:jY e with _ | y <;> rw[q]at h
  ·exact(h:False).elim
  ·refine xu (wA q) λ_ _ _ _ _ z4=>?_;exact z4 ▸ (wz X B h)
 | Try b hs o fb=>
  rcases o with _ | _
  case cons=>exact(h:False).elim
  rcases fb with _ | _
  case cons=>exact(h:False).elim
  replace h:Ok w Gm (!tr) P (ownOf env) L Gq Gp (bnd (D2 tr r sc fr k (dB b) (nN hs)) f G.σ) Q E:=h;rcases q:dB b with _ | ⟨z,e⟩ <;> rw[q]at h
  ·exact(h:False).elim
  rcases q2:nN hs with _ | ⟨H1,b2⟩ <;> rw[q2]at h
  ·exact(h:False).elim
  refine gD (kY q) λ_ _ z5=>?_;rw[z5];refine gD (yL q2) λ_ _ z6=>?_;subst z6;replace h:Ok w Gm (!tr) P (ownOf env) L Gq Gp (bnd (D1 tr r sc fr k z e H1 (dB b2)) f G.σ) Q E:=h;rcases q3:dB b2 with _ | ⟨y,v⟩ <;> replace h:=q3 ▸ h
  ·exact(h:False).elim
  refine gD (kY q3) λ_ _ z7=>?_;rw[z7];refine PV (λhc h=>?_) (Ok.iteB h);refine gD (yM hc.1) λ_ _ z8=>?_;rw[z8];refine PV (λht hc2=>?_) hc.2;obtain rfl:=ht;exact A8 X SR B hc2 h hN
 | _=>exact(h:False).elim
theorem ow{H_:Nat}{tr:Bool}{r:Rc}(X:Cx w Gm mg mb)(SR:bt w Gm H_ r):∀ n,kS w Gm H_ (!tr) (E3 tr r n)
 | 0=>λ_ h=>(h:False).elim
 | n+1=>A_ X SR (ow X SR n)
theorem wB{x:Str}(h:fnAddr.lookup x=none):vW x=none:=by unfold vW;rw[<-sO,eS,h];rfl
theorem wC{d:Nat}{x:Str}{as:List D}{σ:St}(h:fnAddr.lookup x=none):run d x as σ=.stuck:=by
 induction d using Nat.casesOn with
 | zero=>rfl
 | succ d=>show bnd (ac (vW x)) _ σ=_;exact(wB h) ▸ rfl
abbrev Cd:Flow'->M D:=λq0=>match q0 with
 | .ret d=>ret d
 | .next _=>ret .none
theorem u7{A:Around}{L L':Addr}{G:Gh}{s Go:Shared}{env:Env}{Q:Value->Shared->Prop}{E:Value->Shared->Prop}{t:R D}{H_:Nat}{sc:Sc}{fr:af}{xt:Bool}(h:Ok w Gm xt (rep w) [] L G s t Q E)(GF:Rn w Gm true [] G s G Go)(F:Fm w H_ (A.deeper env) G Go.heap env L' sc fr){outer:List Env}(hA:A.frames=some outer)(hnew:∀ b∈ownOf env,s.heap.get? b=none) :
  Ok w Gm xt (rep w) (ownOf env) L' G Go t Q (λe s'=>wpAny (model pw w) (A.deeper env) (leaving env e) (λ_ s''=>pZ Q E (.error e) s'') (λe' s''=>pZ Q E (.error e') s'') s'):=by
 have hf:∀ b∈ownOf env,b∈([]:List Addr)\/s.heap.get? b=none:=λb hb=>.inr (hnew b hb)
 induction t with
 | ok d σ'=>exact λv s' G' e R p=>h v s' G' e (j7 GF.ev R hf) p
 | stuck=>exact h
 | exc σ'=>intro x s' G' e R X;have hfr:=Around.frames_deeper (env:=env) hA;refine ar F.stk λGH H5 f1 f2 f3=>?_;replace f1:=(hfr) ▸ f1;cases f1;exact v_ hfr F.frame R (f3.rn R) X λs'' _ R'' _ X''=>h x s'' G' e (j7 GF.slack R'' hf) ((X'' L).back λb q=>GF.fresh b q)
theorem u8(X:Cx w Gm mg mb):∀ d,nX w Gm d (run d)
 | 0=>⟨λ_ _ _ _ _ h=>(h:False).elim,λ_ _ _ _=>rfl⟩
 | d+1=>⟨λ{A L x a ij as vs G s Q E} hx I Am ra hf h=>by
  have ih:=u8 X d;refine am (cj h) λt ht h=>?_;refine gD (Ca ht w.params) λa' fd hfn=>?_;refine PU hfn.row λij' hrow=>?_;replace hrow:=(hf) ▸ hrow;cases hrow;have htr:(x==nm "law")=false:=by simpa using hx
  replace h:=(htr) ▸ h;obtain⟨fr,σ',hb⟩ : ∃ fr σ',iD t.1 as G.σ=.ok fr σ':=by
   induction q:iD t.1 as G.σ with
   | ok fr σ'=>exact⟨fr,σ',rfl⟩
   | exc σ'=>exact absurd q nf
   | stuck=>exact absurd q (ba h.nst)
  refine PV (λzz0 _=>?_) (kX hb);obtain rfl:=zz0;rw[bg hb]at h;refine ar Am.stk λGH outer f1 f2 f3=>?_;refine qy X hfn I Am.handled Am.depth Am.units f1 f3 ra hb λenv L' Go GF F hnew Id=>?_;refine e7 (xt:=true) (f:=Cd) (E:=λe s'=>wpAny (model pw w) (A.deeper env) (leaving env e) (λ_ s''=>pZ Q E (.error e) s'') (λe' s''=>pZ Q E (.error e') s'') s') (Q:=Q) (P:=rep w) (ow (tr:=false) X (j8 X ih vV) vV) ⟨⟨fr,F⟩,.refl GF.inv,F⟩ (u7 h GF F f1 Id) (λs' G' fr' _ B' h'=>?_) λv dd s' G' R' rv h'=>?_
  ·exact h' .none s' G' rfl B'.R .none
  ·exact h' v s' G' rfl R' rv,λx as σ hx=>wC hx⟩
theorem Ba(X:Cx w Gm mg mb){d:Nat}{A:Around}{a:Addr}{ij:Nat×Nat}{as:List D}{vs:List Value}{G:Gh}{s:Shared}{Q:Value->Shared->Prop}{E:Value->Shared->Prop}(I:Inv w Gm G s.heap)(hh':A.handled=none)(hdp:A.depth+4*(d+1)+4<recursionLimit)(hun:A.units+20*(d+1)+200<cLine)
  (f1:A.frames=some []) (ra:RepL w G.B G.ρ vs as) (hf:fnAddr.lookup (nm "law")=some (a,ij)) (h:Ok w Gm false (rep w) [] 0 G s (run (d+1) (nm "law") as G.σ) Q E):codeAny (model pw w) A (.call (.ref a) ⟨vs,[]⟩) (pZ Q E) s:=by
 have ih:=u8 X d;refine am (cj h) λt ht h=>?_;refine gD (Ca ht w.params) λa' fd hfn=>?_;refine PU hfn.row λij' hrow=>?_;rw[hf]at hrow;cases hrow;rw[beq_self_eq_true]at h;obtain⟨fr,σ',hb⟩ : ∃ fr σ',iD t.1 as G.σ=.ok fr σ':=by
  induction q:iD t.1 as G.σ with
  | ok fr σ'=>exact⟨fr,σ',rfl⟩
  | exc σ'=>exact absurd q nf
  | stuck=>exact absurd q (ba h.nst)
 obtain⟨rfl,_⟩:=kX hb;rw[bg hb]at h;refine qy X hfn I hh' hdp hun f1 (λ_ q=>nomatch q) ra hb λenv L' Go GF F hnew Id=>?_;refine e7 (xt:=false) (f:=Cd) (E:=λe s'=>wpAny (model pw w) (A.deeper env) (leaving env e) (λ_ s''=>pZ Q E (.error e) s'') (λe' s''=>pZ Q E (.error e') s'') s') (Q:=Q) (P:=rep w) (ow (tr:=true) X (j8 X ih vV) vV) ⟨⟨fr,F⟩,.refl GF.inv,F⟩ (u7 h GF F f1 Id) (λs' G' fr' _ B' h'=>?_) λv dd s' G' R' rv h'=>?_
 ·exact h' .none s' G' rfl B'.R .none
 ·exact h' v s' G' rfl R' rv
end
section
noncomputable def tg(d:Nat)(ns:List Int):R D:=run d (nm "law") [.list (ns.map .int)] []
theorem kZ:∀ {xs:List WData} {sh:WShape},sh=.int->WShape.hasItems [] xs sh=true->∃ ns:List Int,xs=ns.map .int
 | [],_,_,_=>⟨[],rfl⟩
 | x::xs,_,rfl,h=>by
  refine PV (λh1 h2=>?_) (P8 h);refine PU (kZ rfl h2) λns zz1=>?_;rw[zz1]
  induction x using WData.casesOn <;> first | exact⟨_::ns,rfl⟩ | exact fD h1
theorem C8{args:List WData}(h:rw'.row.toRowW.claim.pre args=true):∃ ns:List Int,args=[.list (ns.map .int)]/\ns.length<=63:=by
 refine PV (λh1 h2=>?_) (P8 h);have h1:WShape.hasAll [] args [.list .int]=true:=h1
 induction args using List.casesOn with
 | nil=>exact fD h1
 | cons x r=>
  refine PV (λh3 h4=>?_) (P8 (h1:(WShape.has [] x (.list .int)&&WShape.hasAll [] r [])=true))
  induction r using List.casesOn with
  | cons y r=>exact fD h4
  | nil=>
   obtain⟨xs,rfl⟩ : ∃ xs,x=.list xs:=by induction x using WData.casesOn <;> first | exact⟨_,rfl⟩ | exact fD h3
   have h5:WShape.hasItems [] xs .int=true:=(Bool.or_false _).symm.trans h3;refine PU (kZ rfl h5) λns zz1=>?_;obtain rfl:=zz1;refine⟨ns,rfl, ?_⟩;have h6:WTm.holds [] (.and (.not (.lt (.lit (.int 63)) (.len (.arg 0)))) (.lit (.bool true))) { args:=[.list (ns.map .int)] }=true:=h2;unfold WTm.holds at h6
   by_cases hn:ns.length<=63
   ·exact hn
   ·exfalso
    have e0:Num.less? (.int 63) (.int (ns.length:Int))=some (decide ((63:Int)<ns.length)):=rfl;have hn':(63:Int)<ns.length:=by omega
    simp[WTm.value,less?,e0,hn']at h6
theorem Bb{as bs:List WData}:rw'.row.toRowW.claim.post as (.bool true) bs=true:=by
 show(WShape.has [] (.bool true) .bool&&WTm.holds [] (.eq .res (.lit (.bool true))) { args:=as,res:=some (.bool true),after:=bs })=true;have e1:WShape.has [] (.bool true) .bool=true:=by decide +kernel
 have e2:same (.bool true) (.bool true)=true:=by decide +kernel
 refine Bool.and_eq_true_iff.mpr ⟨e1, ?_⟩;unfold WTm.holds;simp[WTm.value,e2]
theorem Fy{a b:Nat}{g:Prop}(h:a=b)(k:Nat.beq a b=false):g:=fD (k.symm.trans (h ▸ Nat.beq_refl a))
section
variable{R:WRecords}{cl:Str->Option Addr}{h:Heap}
noncomputable def Ed(R:WRecords)(cl:Str->Option Addr)(h:Heap)(vs:List Value)(l:List WData):Prop:=l.casesOn (vs=[]) λd ds=>∃ v vs' as bs,vs=v::vs'/\ReadsW R cl h v d as/\ReadsAllW R cl h vs' ds bs
theorem gw{vs:List Value}{l:List WData}{as:List Addr}(r:ReadsAllW R cl h vs l as):Ed R cl h vs l:=ReadsAllW.casesOn (motive_2:=λvs l _ _=>Ed R cl h vs l) r rfl λa b=>⟨_,_,_,_,rfl,a,b⟩
theorem wD{v:Value}{n:Int}{as:List Addr}(r:ReadsW R cl h v (.int n) as):∃ t,v=.int n t:=by
 generalize e:WData.int n=x at r
 induction r using ReadsW.casesOn with
 | int i t=>exact⟨t,congrArg (λi=>Value.int i t) (WData.int.inj e).symm⟩
 | _=>exact Fy (congrArg WData.ctorIdx e) rfl
theorem ti{v:Value}{xs:List WData}{as:List Addr}(r:ReadsW R cl h v (.list xs) as):∃ al ol vs n,v=.ref al/\h.get? al=some ol/\ol.cls=.type "list" ∧ ol.data=.seq vs n/\∃ bs,ReadsAllW R cl h vs.toList xs bs:=by
 generalize e:WData.list xs=x at r
 induction r using ReadsW.casesOn with
 | list h1 h2 h3 h4=>exact⟨_,_,_,_,rfl,h1,h2,h3,_,WData.list.inj e ▸ h4⟩
 | _=>exact Fy (congrArg WData.ctorIdx e) rfl
theorem tj{w:World}{B:Addr->Option Obj}{ρ:List Addr}(ns:List Int):∀ {vs:List Value} {as:List Addr},ReadsAllW R cl h vs (ns.map .int) as->RepL w B ρ vs (ns.map .int):=by
 induction ns with
 | nil=>intro vs as r;rw[show vs=[] from gw r];exact .nil
 | cons n ns ih=>intro vs as r;refine bq (gw r) λv vs' as' bs q=>?_;refine jb q λe a b=>?_;refine PU (wD a) λt ev=>?_;rw[e,ev];exact .cons (.int _ t) (ih b)
theorem wE{w:World}{B:Addr->Option Obj}{ρ:List Addr}{ns:List Int}{vals:List Value}{as:List Addr}(r:ReadsAllW R cl h vals [.list (ns.map .int)] as) :
  ∃ al ol vs n,vals=[.ref al]/\h.get? al=some ol/\ol.cls=.type "list" ∧ ol.data=.seq vs n/\RepL w B ρ vs.toList (ns.map .int):=by
 refine bq (gw r) λv vs' as' bs q=>?_;refine jb q λe a b=>?_;refine bq (ti a) λal ol vs n q=>?_;refine bp q λev h1 h2 h3 h4=>?_;refine PU h4 λcs h4=>?_;exact⟨al,ol,vs,n,by simp only[e,ev,show vs'=[] from gw b],h1,h2,h3,tj ns h4⟩
end
theorem wG(d:Nat)(hd:d<=150)(P:∀ ns:List Int,ns.length<=63->∃ σ,tg (d+1) ns=.ok (.bool true) σ):rw'.Holds:=by
 refine head ?_;intro w Gp Go mg mb Gr Y a o pm cd doc dV kV ho hdat hcr hdf hmg hgens args vals as hpre hlay hrd hwell hsys;refine am (C8 hpre) λns z1 hns=>?_;obtain rfl:=z1;obtain⟨σ,hrun⟩:=P ns hns;have X:Cx w Go.heap mg mb:=⟨Y,topRead_of Gr.T⟩;have ha:fnAddr.lookup (nm "law")=some (814,125,0):=by kernel_rfl
 have hma:mg (nm "law")=some (.ref 814):=by refine aJ (uW (x:=nm "law") (i:=125) (by kernel_rfl) w.params) λa' ij' e1 e2=>?_;replace e1:=(ha) ▸ e1;cases e1;exact mg_of Y Gr.T.g e2
 have hglo:∃ o,Go.heap.get? mainGlobals=some o:=by refine uK Gr.T.g λo es ep ho _=>?_;exact⟨o,ho⟩
 obtain rfl:a=814:=by have:mg (nm "law")=some (.ref a):=hmg;replace this:=(hma) ▸ this;cases this;rfl
 let G:Gh:=⟨λb=>Go.heap.get? b,[],[]⟩
 have I:Inv w Go.heap G Go.heap:=⟨λ_ _ e=>e,λ_ _ e=>e,rfl,λi a c e=>by simp[G]at e,λa e=>by simp[G]at e,.nil,hglo,λa e=>by simp[G]at e⟩;refine bq (wE (w:=w) (B:=G.B) (ρ:=G.ρ) hrd) λal ol vs' n z3=>?_;refine bp z3 λz2 ho' hc hd' ra=>?_;rw[z2];have rep1:RepL w G.B G.ρ [.ref al] [.list (ns.map .int)]:=.cons (.list (vs:=vs'.toList) ⟨ol,n,ho',hc,by exact hd'⟩ ra) .nil;refine enter_call (codeAny_mono (Ba (Q:=λv s'=>v=.bool true/\(∃ h tk,s'={ Go with heap:=h,toks:=tk })/\∀ b o,Go.heap.get? b=some o->s'.heap.get? b=some o) (E:=λ_ _=>False) X (d:=d) (A:=callerA) (a:=814) (ij:=(125,0)) (as:=[.list (ns.map .int)]) (G:=G) I rfl ?_ ?_ rfl rep1 ha ?_) ?_)
 ·show 1+claimMargin+4*(d+1)+4<recursionLimit;have e1:claimMargin=300:=rfl;have e2:recursionLimit=1000:=rfl;lia
 ·show 4+20*(d+1)+200<cLine;have e1:cLine=9900:=rfl;lia
 ·have hrun:run (d+1) (nm "law") [.list (ns.map .int)] []=.ok (.bool true) σ:=hrun;show Ok w Go.heap false (rep w) [] 0 G Go (run (d+1) (nm "law") [.list (ns.map .int)] []) _ _;rw[hrun];intro v s' G' hσ R rv;exact⟨rv.inv,R.same,λb o e=>R.inv.stays _ _ (R.B _ _ e)⟩
 ·intro r s' q
  induction r with
  | error e=>exact q.elim
  | ok f=>
   induction f with
   | ret v=>refine jb q λz4 z5 hk=>?_;rw[z4];obtain⟨h,tk,rfl⟩:=z5;exact⟨.inl ⟨.bool true,.bool true,[],rfl,λcls=>rfl,ReadsW.bool true,Bb,λ_=>⟨.nil,nofun⟩⟩,.of_keep hk,rfl,.of_eq hgens⟩
   | _=>exact q.elim
end
section
noncomputable def ah:List (M D)->M (List D)
 | []=>ret []
 | m::ms=>bnd m λa=>bnd (ah ms) λl=>ret (a::l)
noncomputable def dk(ms:List (M D)):M D:=bnd (ah ms) λl=>if ao l.length then ret (.list l) else stuck
noncomputable def aI(ms:List (M D)):M D:=bnd (ah ms) λl=>if ao l.length then ret (.tup l) else stuck
noncomputable def ox:List (M D×M D)->M (List D×List D)
 | []=>ret ([],[])
 | (k,v)::r=>bnd k λkd=>bnd v λvd=>bnd (ox r) λ(a,b)=>ret (kd::a,vd::b)
noncomputable def Cf(ps:List (M D×M D)):M (List (Str×D) ⊕ List (Int×D)):=bnd (ox ps) λ(a,b)=>match a with
 | .int _::_=>bnd (ac (fO [] a b)) λl=>ret (.inr l)
 | _=>bnd (ac (fN [] a b)) λl=>ret (.inl l)
noncomputable def fj(ps:List (M D×M D)):M D:=bnd (Cf ps) λq0=>match q0 with
 | .inl l=>ret (.sdict l)
 | .inr l=>ret (.idict l)
noncomputable def fk(ps:List (M D×M D)):M D:=bnd (Cf ps) λq0=>match q0 with
 | .inl l=>bnd (d_ (.sdict l)) λi=>ret (.ref i)
 | .inr _=>stuck
noncomputable def wH(fr:af):List Str->List D->M af
 | [],[]=>ret fr
 | x::xs,d::ds=>bnd (ret (aj fr x d)) λfr'=>wH fr' xs ds
 | _,_=>stuck
noncomputable def dg(fr:af)(xs:List Str)(v:D):M af:=asTup v (wH fr xs)
noncomputable def bj(op:BoolOp)(b:Bool)(x:M Bool):M Bool:=match op,b with
 | .And,false=>ret false
 | .Or,true=>ret true
 | _,_=>x
noncomputable def Bc(op:BoolOp)(b:Bool)(v:D)(x:M D):M D:=match op,b with
 | .And,false | .Or,true=>ret v
 | _,_=>x
noncomputable def dL(src:D)(f:List D->M Flow'):M Flow':=bnd (aZ src) f
noncomputable def tl(call:Str->List D->M D)(H6:D):M Flow':=bnd (ae .Eq H6 (.int 5)) λc1=>if c1 then ret (.ret (.int 0)) else bnd (bnd (ae .Eq H6 (.int 2)) λb3=>bj .Or b3 (bnd (ae .Eq H6 (.int 3)) λb4=>bj .Or b4 (ret false))) λc2=>if c2 then ret (.ret (.int 2)) else ret (.ret (.int 1))
theorem tm(d:Nat)(H6:D):run (d+1) (nm "units_of") [H6]=aq (tl (run d) H6):=by kernel_rfl
noncomputable def ml(call:Str->List D->M D)(Ix Ii:D):M Flow':=bnd (bnd (subD Ii (.int 0)) λt2=>ae .Eq t2 (.int 5)) λc1=>if c1 then bnd (bnd (ah [aB Ix (nm "characters"),subD Ii (.int 1),subD Ii (.int 2)]) λl3=>call (nm "load_text") l3) λt4=>ret (.ret t4) else bnd (bnd (ah [aB Ix (nm "numeric"),subD Ii (.int 0),subD Ii (.int 1)]) λl5=>call (nm "load_number") l5) λt6=>ret (.ret t6)
theorem gU(d:Nat)(Ix Ii:D):run (d+1) (nm "Memory.load") [Ix,Ii]=aq (ml (run d) Ix Ii):=by kernel_rfl
noncomputable def k_(call:Str->List D->M D)(Ix Ii Ij:D):M Flow':=bnd (bnd (subD Ii (.int 0)) λt2=>ae .Eq t2 (.int 5)) λc1=>if c1 then bnd (bnd (ah [aB Ix (nm "characters"),subD Ii (.int 1),bnd (ah [ret Ij,subD Ii (.int 2)]) λl3=>call (nm "pad") l3]) λl4=>call (nm "store_text") l4) λt5=>ret (.next [(nm "self",Ix),(nm "place",Ii),(nm "value",Ij)]) else bnd (bnd (ah [aB Ix (nm "numeric"),subD Ii (.int 0),subD Ii (.int 1),ret Ij]) λl6=>call (nm "store_number") l6) λt7=>ret (.next [(nm "self",Ix),(nm "place",Ii),(nm "value",Ij)])
theorem f9(d:Nat)(Ix Ii Ij:D):run (d+1) (nm "Memory.store") [Ix,Ii,Ij]=aq (k_ (run d) Ix Ii Ij):=by kernel_rfl
noncomputable def oy(call:Str->List D->M D)(Ig Ia I0:D):M Flow':=bnd (bnd (ae .Lt Ia (.int 0)) λb2=>bj .Or b2 (bnd (bnd (ag .Add Ia I0) λt4=>bnd (au (nm "len") [Ig]) λt5=>ae .Gt t4 t5) λb3=>bj .Or b3 (ret false))) λc1=>if c1 then aP else ret (.next [(nm "cells",Ig),(nm "address",Ia),(nm "count",I0)])
theorem oz(d:Nat)(Ig Ia I0:D):run (d+1) (nm "need_units") [Ig,Ia,I0]=aq (oy (run d) Ig Ia I0):=by kernel_rfl
noncomputable def qB(call:Str->List D->M D)(Ig Ia Kb:D):M Flow':=bnd (subD Ig Ia) λt1=>bnd (bnd (ae .Is t1 .none) λb3=>bj .Or b3 (bnd (bnd (subD t1 (.int 0)) λt5=>ae .NotEq t5 Kb) λb4=>bj .Or b4 (ret false))) λc2=>if c2 then aP else bnd (subD t1 (.int 1)) λt6=>ret (.ret t6)
theorem qC(d:Nat)(Ig Ia Kb:D):run (d+1) (nm "read_cell") [Ig,Ia,Kb]=aq (qB (run d) Ig Ia Kb):=by kernel_rfl
noncomputable def mm(call:Str->List D->M D)(Ig H6 Ia:D):M Flow':=bnd (bnd (ah [ret Ig,ret Ia,call (nm "units_of") [H6]]) λl1=>call (nm "need_units") l1) λt2=>bnd (ae .Eq H6 (.int 3)) λc3=>if c3 then bnd (aI [call (nm "read_cell") [Ig,Ia,(.int 1)],bnd (ah [ret Ig,ag .Add Ia (.int 1),ret (.int 1)]) λl4=>call (nm "read_cell") l4]) λt5=>ret (.ret t5) else bnd (call (nm "read_cell") [Ig,Ia,H6]) λt6=>bnd (ae .Eq H6 (.int 2)) λc7=>if c7 then bnd (bnd (ah [ret Ig,ag .Add Ia (.int 1),ret (.int 6)]) λl8=>call (nm "read_cell") l8) λt9=>ret (.ret t6) else ret (.ret t6)
theorem mo(d:Nat)(Ig H6 Ia:D):run (d+1) (nm "load_number") [Ig,H6,Ia]=aq (mm (run d) Ig H6 Ia):=by kernel_rfl
noncomputable def lf(call:Str->List D->M D)(Ig H6 Ia Ij:D):M Flow':=bnd (bnd (ah [ret Ig,ret Ia,call (nm "units_of") [H6]]) λl1=>call (nm "need_units") l1) λt2=>bnd (ae .Eq H6 (.int 3)) λc3=>if c3 then bnd (aI [ret (.int 1),subD Ij (.int 0)]) λt4=>bnd (bnd (cM Ig Ia t4) λ_=>ret ([(nm "cells",Ig),(nm "kind",H6),(nm "address",Ia),(nm "value",Ij)])) λKZ=>bnd (aI [ret (.int 1),bnd (ac (aa KZ (nm "value"))) λt6=>subD t6 (.int 1)]) λt7=>bnd (bnd (ac (aa KZ (nm "cells"))) λt9=>bnd (bnd (ac (aa KZ (nm "address"))) λIL=>ag .Add IL (.int 1)) λIS=>bnd (cM t9 IS t7) λ_=>ret KZ) λJM=>ret (.ret .none) else bnd (bnd (cM Ig Ia (.tup [H6,Ij])) λ_=>ret ([(nm "cells",Ig),(nm "kind",H6),(nm "address",Ia),(nm "value",Ij)])) λIH=>bnd (bnd (ac (aa IH (nm "kind"))) λI8=>ae .Eq I8 (.int 2)) λKJ=>if KJ then bnd (aI [ret (.int 6),ac (aa IH (nm "value"))]) λIu=>bnd (bnd (ac (aa IH (nm "cells"))) λIK=>bnd (bnd (ac (aa IH (nm "address"))) λI1=>ag .Add I1 (.int 1)) λI2=>bnd (cM IK I2 Iu) λ_=>ret IH) λMt=>ret (.next Mt) else ret (.next IH)
theorem lg(d:Nat)(Ig H6 Ia Ij:D):run (d+1) (nm "store_number") [Ig,H6,Ia,Ij]=aq (lf (run d) Ig H6 Ia Ij):=by kernel_rfl
noncomputable def qD(call:Str->List D->M D)(Ig Ia Ip:D):M Flow':=bnd (call (nm "need_units") [Ig,Ia,Ip]) λt1=>bnd (bnd (ag .Add Ia Ip) λt2=>bu Ig Ia t2) λt3=>bnd (ae .In .none t3) λc4=>if c4 then aP else bnd (bnd (a_ (.str (nm "")) (nm "join")) λk5=>be call (.str (nm "")) k5 [t3]) λt6=>ret (.ret t6)
theorem qE(d:Nat)(Ig Ia Ip:D):run (d+1) (nm "load_text") [Ig,Ia,Ip]=aq (qD (run d) Ig Ia Ip):=by kernel_rfl
noncomputable def dq(call:Str->List D->M D)(IQ:af)(k5:K'):M Flow':=bnd (bnd (ac (aa IQ (nm "text"))) λt9=>bnd (ac (aa IQ (nm "k"))) λIL=>subD t9 IL) λIS=>bnd (bnd (ac (aa IQ (nm "cells"))) λIP=>bnd (bnd (ac (aa IQ (nm "address"))) λI8=>bnd (ac (aa IQ (nm "k"))) λIu=>ag .Add I8 Iu) λIR=>bnd (cM IP IR IS) λ_=>ret IQ) λIH=>k5 IH
noncomputable def iO(call:Str->List D->M D)(Ig Ia IC:D):M Flow':=bnd (bnd (ah [ret Ig,ret Ia,au (nm "len") [IC]]) λl1=>call (nm "need_units") l1) λt2=>bnd (bnd (ah [au (nm "len") [IC]]) λKL=>au (nm "range") KL) λI1=>dL I1 λl6=>aG (dq call) (λJj d8=>ret (aj Jj (nm "k") d8)) l6 [(nm "cells",Ig),(nm "address",Ia),(nm "text",IC)] λJY=>ret (.next JY)
theorem oA(d:Nat)(Ig Ia IC:D):run (d+1) (nm "store_text") [Ig,Ia,IC]=aq (iO (run d) Ig Ia IC):=by kernel_rfl
noncomputable def Ee(call:Str->List D->M D)(IC Ip:D):M Flow':=bnd (bnd (bu IC .none Ip) λt1=>bnd (bnd (bnd (au (nm "len") [IC]) λt2=>ag .Sub Ip t2) λt3=>ag .Mult (.str (nm " ")) t3) λt4=>ag .Add t1 t4) λt5=>ret (.ret t5)
theorem Ef(d:Nat)(IC Ip:D):run (d+1) (nm "pad") [IC,Ip]=aq (Ee (run d) IC Ip):=by kernel_rfl
noncomputable def f_(call:Str->List D->M D)(H6 Ip:D):M Flow':=bnd (ae .Eq H6 (.int 5)) λc1=>if c1 then ret (.ret Ip) else bnd (call (nm "units_of") [H6]) λt2=>ret (.ret t2)
theorem jG(d:Nat)(H6 Ip:D):run (d+1) (nm "unit_size") [H6,Ip]=aq (f_ (run d) H6 Ip):=by kernel_rfl
noncomputable def bG(call:Str->List D->M D)(KI:af)(k11:K'):M Flow':=bnd (bnd (ac (aa KI (nm "dims"))) λIu=>bnd (ac (aa KI (nm "k"))) λIR=>subD Iu IR) λIK=>bnd (dg KI [(nm "low"),(nm "high")] IK) λII=>bnd (bnd (bnd (bnd (ac (aa II (nm "subscripts"))) λJB=>bnd (ac (aa II (nm "k"))) λJC=>subD JB JC) λJr=>bnd (ac (aa II (nm "low"))) λJs=>ae .Lt Jr Js) λb20=>bj .Or b20 (bnd (bnd (bnd (ac (aa II (nm "high"))) λJN=>ae .IsNot JN .none) λb26=>bj .And b26 (bnd (bnd (bnd (ac (aa II (nm "subscripts"))) λJt=>bnd (ac (aa II (nm "k"))) λJu=>subD Jt Ju) λKM=>bnd (ac (aa II (nm "high"))) λJO=>ae .Gt KM JO) λb28=>bj .And b28 (ret true))) λb25=>bj .Or b25 (ret false))) λMu=>if Mu then aP else bnd (ac (aa II (nm "offset"))) λJZ=>bnd (bnd (bnd (bnd (ac (aa II (nm "subscripts"))) λJD=>bnd (ac (aa II (nm "k"))) λJ0=>subD JD J0) λJ1=>bnd (ac (aa II (nm "low"))) λKN=>ag .Sub J1 KN) λIN=>bnd (ac (aa II (nm "stride"))) λKr=>ag .Mult IN Kr) λKc=>uR .Add JZ Kc λn41=>bnd (ret (aj II (nm "offset") n41)) λKd=>bnd (bnd (ac (aa Kd (nm "high"))) λJE=>ae .IsNot JE .none) λMv=>if Mv then bnd (ac (aa Kd (nm "stride"))) λKe=>bnd (bnd (bnd (ac (aa Kd (nm "high"))) λKf=>bnd (ac (aa Kd (nm "low"))) λJ2=>ag .Sub Kf J2) λKq=>ag .Add Kq (.int 1)) λKs=>uR .Mult Ke Ks λn50=>bnd (ret (aj Kd (nm "stride") n50)) λMw=>k11 Mw else k11 Kd
noncomputable def di(call:Str->List D->M D)(Ii IF:D):M Flow':=bnd (dg [(nm "place",Ii),(nm "subscripts",IF)] [(nm "kind"),(nm "address"),(nm "length"),(nm "dims")] Ii) λJK=>bnd (bnd (bnd (ah [ac (aa JK (nm "subscripts"))]) λl3=>au (nm "len") l3) λt4=>bnd (bnd (ah [ac (aa JK (nm "dims"))]) λl5=>au (nm "len") l5) λt6=>ae .NotEq t4 t6) λc2=>if c2 then aP else bnd (ret (aj JK (nm "offset") (.int 0))) λJj=>bnd (ret (aj Jj (nm "stride") (.int 1))) λJM=>bnd (bnd (ah [bnd (ah [ac (aa JM (nm "dims"))]) λMx=>au (nm "len") Mx]) λOZ=>au (nm "range") OZ) λKO=>dL KO λLM=>aG (bG call) (λIo My=>ret (aj Io (nm "k") My)) LM JM λIU=>bnd (aI [ac (aa IU (nm "kind")),bnd (ac (aa IU (nm "address"))) λKg=>bnd (bnd (ac (aa IU (nm "offset"))) λJ3=>bnd (bnd (ah [ac (aa IU (nm "kind")),ac (aa IU (nm "length"))]) λMz=>call (nm "unit_size") Mz) λLN=>ag .Mult J3 LN) λKt=>ag .Add Kg Kt,ac (aa IU (nm "length")),ret ((.tup []))]) λK7=>ret (.ret K7)
theorem fw(d:Nat)(Ii IF:D):run (d+1) (nm "element_place") [Ii,IF]=aq (di (run d) Ii IF):=by kernel_rfl
noncomputable def jH(call:Str->List D->M D)(Ii Ku Kv:D):M Flow':=bnd (bnd (ae .Is Ku .none) λc1=>if c1 then ret (.int 1) else ret Ku) λt2=>bnd (bnd (ae .Is Kv .none) λc3=>if c3 then subD Ii (.int 2) else ret Kv) λt4=>bnd (bnd (ae .Lt t2 (.int 1)) λb6=>bj .Or b6 (bnd (ae .Lt t4 t2) λb7=>bj .Or b7 (bnd (bnd (subD Ii (.int 2)) λt9=>ae .Gt t4 t9) λb8=>bj .Or b8 (ret false)))) λc5=>if c5 then aP else bnd (aI [ret (.int 5),bnd (bnd (subD Ii (.int 1)) λIL=>ag .Add IL t2) λIS=>ag .Sub IS (.int 1),bnd (ag .Sub t4 t2) λIO=>ag .Add IO (.int 1),ret ((.tup []))]) λIP=>ret (.ret IP)
theorem qF(d:Nat)(Ii Ku Kv:D):run (d+1) (nm "sub_place") [Ii,Ku,Kv]=aq (jH (run d) Ii Ku Kv):=by kernel_rfl
noncomputable def wI(call:Str->List D->M D)(IB H8:D):M Flow':=bnd (bnd (ag .Sub H8 (.int 1)) λt1=>ag .LShift (.int 1) t1) λt2=>bnd (bnd (bnd (dm t2) λt5=>ae .Lt IB t5) λb4=>bj .Or b4 (bnd (ae .GtE IB t2) λb6=>bj .Or b6 (ret false))) λc3=>if c3 then aP else ret (.ret IB)
theorem wJ(d:Nat)(IB H8:D):run (d+1) (nm "fit_int") [IB,H8]=aq (wI (run d) IB H8):=by kernel_rfl
noncomputable def wK(call:Str->List D->M D)(Ih Ik H8:D):M Flow':=bnd (bnd (ah [ag .Add Ih Ik,ret H8]) λl1=>call (nm "fit_int") l1) λt2=>ret (.ret t2)
theorem wL(d:Nat)(Ih Ik H8:D):run (d+1) (nm "int_add") [Ih,Ik,H8]=aq (wK (run d) Ih Ik H8):=by kernel_rfl
noncomputable def wM(call:Str->List D->M D)(Ih Ik H8:D):M Flow':=bnd (bnd (ah [ag .Sub Ih Ik,ret H8]) λl1=>call (nm "fit_int") l1) λt2=>ret (.ret t2)
theorem wN(d:Nat)(Ih Ik H8:D):run (d+1) (nm "int_sub") [Ih,Ik,H8]=aq (wM (run d) Ih Ik H8):=by kernel_rfl
noncomputable def wO(call:Str->List D->M D)(Ih Ik H8:D):M Flow':=bnd (bnd (ah [ag .Mult Ih Ik,ret H8]) λl1=>call (nm "fit_int") l1) λt2=>ret (.ret t2)
theorem wP(d:Nat)(Ih Ik H8:D):run (d+1) (nm "int_mul") [Ih,Ik,H8]=aq (wO (run d) Ih Ik H8):=by kernel_rfl
noncomputable def lh(call:Str->List D->M D)(Ih Ik:D):M Flow':=bnd (bnd (au (nm "abs") [Ih]) λt1=>bnd (au (nm "abs") [Ik]) λt2=>ag .FloorDiv t1 t2) λt3=>bnd (bnd (bnd (bnd (ae .Lt Ih (.int 0)) λb5=>ret (.bool b5)) λt6=>bnd (bnd (ae .Lt Ik (.int 0)) λb7=>ret (.bool b7)) λt8=>ae .Eq t6 t8) λc4=>if c4 then ret t3 else dm t3) λt9=>ret (.ret t9)
theorem li(d:Nat)(Ih Ik:D):run (d+1) (nm "cut_quotient") [Ih,Ik]=aq (lh (run d) Ih Ik):=by kernel_rfl
noncomputable def wQ(call:Str->List D->M D)(Ih Ik H8:D):M Flow':=bnd (ae .Eq Ik (.int 0)) λc1=>if c1 then aP else bnd (bnd (ah [call (nm "cut_quotient") [Ih,Ik],ret H8]) λl2=>call (nm "fit_int") l2) λt3=>ret (.ret t3)
theorem wR(d:Nat)(Ih Ik H8:D):run (d+1) (nm "int_div") [Ih,Ik,H8]=aq (wQ (run d) Ih Ik H8):=by kernel_rfl
noncomputable def jO(call:Str->List D->M D)(Ih IB:D):M Flow':=bnd (ae .Eq Ih (.int 0)) λc1=>if c1 then aP else bnd (bnd (ae .Eq Ih (.int 1)) λb3=>bj .Or b3 (bnd (bnd (ae .Eq Ih (.int (-1))) λb5=>bj .And b5 (bnd (bnd (ag .Mod IB (.int 2)) λt7=>ae .Eq t7 (.int 0)) λb6=>bj .And b6 (ret true))) λb4=>bj .Or b4 (ret false))) λc2=>if c2 then ret (.ret (.int 1)) else bnd (bnd (ae .Eq Ih (.int (-1))) λc8=>if c8 then ret ((.int (-1))) else ret (.int 0)) λt9=>ret (.ret t9)
theorem jP(d:Nat)(Ih IB:D):run (d+1) (nm "inverse_power") [Ih,IB]=aq (jO (run d) Ih IB):=by kernel_rfl
noncomputable def dR(call:Str->List D->M D)(Io:af)(k15:K'):M Flow':=bnd (bnd (ah [bnd (ac (aa Io (nm "found"))) λI2=>bnd (ac (aa Io (nm "x"))) λI9=>ag .Mult I2 I9,ac (aa Io (nm "width"))]) λO0=>call (nm "fit_int") O0) λJC=>bnd (ret (aj Io (nm "found") JC)) λJn=>k15 Jn
noncomputable def qG(call:Str->List D->M D)(Ih IB H8:D):M Flow':=bnd (ae .Lt IB (.int 0)) λc1=>if c1 then bnd (bnd (ah [call (nm "inverse_power") [Ih,IB],ret H8]) λl2=>call (nm "fit_int") l2) λt3=>ret (.ret t3) else bnd (bnd (ae .Eq Ih (.int 0)) λb5=>bj .Or b5 (bnd (ae .Eq Ih (.int 1)) λb6=>bj .Or b6 (bnd (ae .Eq Ih (.int (-1))) λb7=>bj .Or b7 (ret false)))) λc4=>if c4 then bnd (bnd (ah [bnd (bnd (ae .Lt IB (.int 2)) λc8=>if c8 then ret IB else bnd (ag .Mod IB (.int 2)) λt9=>ag .Sub (.int 2) t9) λIL=>ag .Pow Ih IL,ret H8]) λKP=>call (nm "fit_int") KP) λIO=>ret (.ret IO) else bnd (bnd (ah [bnd (ah [ret IB,ag .Add H8 (.int 1)]) λO1=>au (nm "min") O1]) λLO=>au (nm "range") LO) λJL=>dL JL λMA=>aG (dR call) (λMB O2=>ret (aj MB (nm "turn") O2)) MA [(nm "x",Ih),(nm "n",IB),(nm "width",H8),(nm "found",(.int 1))] λIV=>bnd (ac (aa IV (nm "found"))) λJN=>ret (.ret JN)
theorem qH(d:Nat)(Ih IB H8:D):run (d+1) (nm "int_power") [Ih,IB,H8]=aq (qG (run d) Ih IB H8):=by kernel_rfl
noncomputable def tt(call:Str->List D->M D)(Ih Ik:D):M Flow':=bnd (ae .Eq Ih Ik) λc1=>if c1 then ret (.ret (.int 0)) else bnd (bnd (ae .Lt Ih Ik) λc2=>if c2 then ret ((.int (-1))) else ret (.int 1)) λt3=>ret (.ret t3)
theorem lj(d:Nat)(Ih Ik:D):run (d+1) (nm "order_of") [Ih,Ik]=aq (tt (run d) Ih Ik):=by kernel_rfl
noncomputable def Bd(call:Str->List D->M D)(Im IG:D):M Flow':=bnd (ae .Eq Im (.str (nm "eq"))) λc1=>if c1 then bnd (bnd (ae .Eq IG (.int 0)) λb2=>ret (.bool b2)) λt3=>ret (.ret t3) else bnd (ae .Eq Im (.str (nm "ne"))) λc4=>if c4 then bnd (bnd (ae .NotEq IG (.int 0)) λb5=>ret (.bool b5)) λt6=>ret (.ret t6) else bnd (ae .Eq Im (.str (nm "lt"))) λc7=>if c7 then bnd (bnd (ae .Lt IG (.int 0)) λb8=>ret (.bool b8)) λt9=>ret (.ret t9) else bnd (ae .Eq Im (.str (nm "le"))) λIT=>if IT then bnd (bnd (ae .LtE IG (.int 0)) λb11=>ret (.bool b11)) λIO=>ret (.ret IO) else bnd (ae .Eq Im (.str (nm "gt"))) λKJ=>if KJ then bnd (bnd (ae .Gt IG (.int 0)) λb14=>ret (.bool b14)) λIu=>ret (.ret Iu) else bnd (ae .Eq Im (.str (nm "ge"))) λKh=>if Kh then bnd (bnd (ae .GtE IG (.int 0)) λb17=>ret (.bool b17)) λI1=>ret (.ret I1) else aP
theorem Bf(d:Nat)(Im IG:D):run (d+1) (nm "holds") [Im,IG]=aq (Bd (run d) Im IG):=by kernel_rfl
noncomputable def iP(call:Str->List D->M D)(Im H6 Ih Ik Ib:D):M Flow':=bnd (ae .Eq Im (.str (nm "add"))) λc1=>if c1 then bnd (bnd (ah [ret Ih,ret Ik,aB Ib (nm "width")]) λl2=>call (nm "int_add") l2) λt3=>ret (.ret t3) else bnd (ae .Eq Im (.str (nm "sub"))) λc4=>if c4 then bnd (bnd (ah [ret Ih,ret Ik,aB Ib (nm "width")]) λl5=>call (nm "int_sub") l5) λt6=>ret (.ret t6) else bnd (ae .Eq Im (.str (nm "mul"))) λc7=>if c7 then bnd (bnd (ah [ret Ih,ret Ik,aB Ib (nm "width")]) λl8=>call (nm "int_mul") l8) λt9=>ret (.ret t9) else bnd (ae .Eq Im (.str (nm "div"))) λIT=>if IT then bnd (bnd (ah [ret Ih,ret Ik,aB Ib (nm "width")]) λKP=>call (nm "int_div") KP) λIO=>ret (.ret IO) else bnd (bnd (ae .Eq Im (.str (nm "pow"))) λb14=>bj .Or b14 (bnd (ae .Eq Im (.str (nm "powi"))) λb15=>bj .Or b15 (ret false))) λKJ=>if KJ then bnd (bnd (ah [ret Ih,ret Ik,aB Ib (nm "width")]) λMA=>call (nm "int_power") MA) λIK=>ret (.ret IK) else bnd (bnd (ah [ret Im,call (nm "order_of") [Ih,Ik]]) λMC=>call (nm "holds") MC) λI2=>ret (.ret I2)
theorem iQ(d:Nat)(Im H6 Ih Ik Ib:D):run (d+1) (nm "int_binary") [Im,H6,Ih,Ik,Ib]=aq (iP (run d) Im H6 Ih Ik Ib):=by kernel_rfl
noncomputable def ll(call:Str->List D->M D)(Im H6 Ih Ik Ib:D):M Flow':=bnd (ae .Eq Im (.str (nm "and"))) λc1=>if c1 then bnd (bnd (cz Ih) λb2=>Bc .And b2 Ih (ret Ik)) λt3=>ret (.ret t3) else bnd (ae .Eq Im (.str (nm "or"))) λc4=>if c4 then bnd (bnd (cz Ih) λb5=>Bc .Or b5 Ih (ret Ik)) λt6=>ret (.ret t6) else bnd (ae .Eq Im (.str (nm "eqv"))) λc7=>if c7 then bnd (bnd (ae .Eq Ih Ik) λb8=>ret (.bool b8)) λt9=>ret (.ret t9) else bnd (ae .Eq Im (.str (nm "neqv"))) λIT=>if IT then bnd (bnd (ae .NotEq Ih Ik) λb11=>ret (.bool b11)) λIO=>ret (.ret IO) else aP
theorem lm(d:Nat)(Im H6 Ih Ik Ib:D):run (d+1) (nm "logic_binary") [Im,H6,Ih,Ik,Ib]=aq (ll (run d) Im H6 Ih Ik Ib):=by kernel_rfl
noncomputable def cF(call:Str->List D->M D)(bT:af)(k5:K'):M Flow':=bnd (ac (aa bT (nm "n"))) λt6=>uR .FloorDiv t6 (.int 1000000000) λn7=>bnd (ret (aj bT (nm "n") n7)) λJM=>bnd (ac (aa JM (nm "count"))) λt9=>uR .Add t9 (.int 9) λn10=>bnd (ret (aj JM (nm "count") n10)) λJo=>k5 Jo
noncomputable def cG(call:Str->List D->M D)(JY:af):M Bool:=bnd (ac (aa JY (nm "n"))) λIO=>ae .GtE IO (.int 1000000000)
noncomputable def cn(call:Str->List D->M D)(Io:af)(k16:K'):M Flow':=bnd (ac (aa Io (nm "n"))) λIK=>uR .FloorDiv IK (.int 10) λn18=>bnd (ret (aj Io (nm "n") n18)) λKw=>bnd (ac (aa Kw (nm "count"))) λI9=>uR .Add I9 (.int 1) λn21=>bnd (ret (aj Kw (nm "count") n21)) λJ4=>k16 J4
noncomputable def cq(call:Str->List D->M D)(Iy:af):M Bool:=bnd (ac (aa Iy (nm "n"))) λJr=>ae .Gt Jr (.int 0)
noncomputable def ga(call:Str->List D->M D)(IB:D):M Flow':=bnd (au (nm "abs") [IB]) λt1=>az (cF call) (cG call) cC [(nm "n",t1),(nm "count",(.int 0))] λIQ=>az (cn call) (cq call) cC IQ λIV=>bnd (ac (aa IV (nm "count"))) λJs=>ret (.ret Js)
theorem ln(d:Nat)(IB:D):run (d+1) (nm "count_digits") [IB]=aq (ga (run d) IB):=by kernel_rfl
noncomputable def dY(call:Str->List D->M D)(bT:af)(k5:K'):M Flow':=bnd (ac (aa bT (nm "m"))) λt6=>uR .FloorDiv t6 (.int 10) λn7=>bnd (ret (aj bT (nm "m") n7)) λJM=>bnd (ac (aa JM (nm "e"))) λt9=>uR .Add t9 (.int 1) λn10=>bnd (ret (aj JM (nm "e") n10)) λJo=>k5 Jo
noncomputable def dZ(call:Str->List D->M D)(JY:af):M Bool:=bnd (bnd (ac (aa JY (nm "m"))) λIO=>ag .Mod IO (.int 10)) λIP=>ae .Eq IP (.int 0)
noncomputable def gV(call:Str->List D->M D)(JF Jv:D):M Flow':=bnd (ae .Eq JF (.int 0)) λc1=>if c1 then ret (.ret (.tup [.int 0,.int 0])) else az (dY call) (dZ call) cC [(nm "m",JF),(nm "e",Jv)] λIQ=>bnd (aI [ac (aa IQ (nm "m")),ac (aa IQ (nm "e"))]) λI8=>ret (.ret I8)
theorem mq(d:Nat)(JF Jv:D):run (d+1) (nm "strip_zeros") [JF,Jv]=aq (gV (run d) JF Jv):=by kernel_rfl
noncomputable def gb(call:Str->List D->M D)(JF Jv Ic:D):M Flow':=bnd (bnd (call (nm "count_digits") [JF]) λt1=>ag .Sub t1 Ic) λt2=>bnd (ae .Gt t2 (.int 0)) λc3=>if c3 then bnd (ag .Pow (.int 10) t2) λt4=>bnd (bnd (ah [au (nm "abs") [JF],ret t4]) λl5=>au (nm "divmod") l5) λt6=>bnd (dg [(nm "m",JF),(nm "e",Jv),(nm "digits",Ic),(nm "drop",t2),(nm "power",t4)] [(nm "kept"),(nm "rest")] t6) λJj=>bnd (bnd (bnd (bnd (ac (aa Jj (nm "rest"))) λIL=>ag .Mult (.int 2) IL) λIS=>bnd (ac (aa Jj (nm "power"))) λIO=>ae .Gt IS IO) λb9=>bj .Or b9 (bnd (bnd (bnd (bnd (ac (aa Jj (nm "rest"))) λIu=>ag .Mult (.int 2) Iu) λIR=>bnd (ac (aa Jj (nm "power"))) λIK=>ae .Eq IR IK) λb14=>bj .And b14 (bnd (bnd (bnd (ac (aa Jj (nm "kept"))) λI2=>ag .Mod I2 (.int 2)) λI9=>ae .Eq I9 (.int 1)) λb18=>bj .And b18 (ret true))) λb13=>bj .Or b13 (ret false))) λc8=>if c8 then bnd (ac (aa Jj (nm "kept"))) λJB=>uR .Add JB (.int 1) λn22=>bnd (ret (aj Jj (nm "kept") n22)) λJn=>bnd (bnd (bnd (ac (aa Jn (nm "m"))) λJw=>ae .Gt Jw (.int 0)) λKx=>if Kx then ac (aa Jn (nm "kept")) else bnd (ac (aa Jn (nm "kept"))) λJL=>dm JL) λJN=>bnd (ret (aj Jn (nm "m") JN)) λI_=>bnd (ac (aa I_ (nm "e"))) λJt=>bnd (ac (aa I_ (nm "drop"))) λJu=>uR .Add Jt Ju λn31=>bnd (ret (aj I_ (nm "e") n31)) λLP=>bnd (bnd (ah [ac (aa LP (nm "m")),ac (aa LP (nm "e"))]) λKQ=>call (nm "strip_zeros") KQ) λJD=>ret (.ret JD) else bnd (bnd (bnd (ac (aa Jj (nm "m"))) λJ1=>ae .Gt J1 (.int 0)) λMD=>if MD then ac (aa Jj (nm "kept")) else bnd (ac (aa Jj (nm "kept"))) λKN=>dm KN) λIN=>bnd (ret (aj Jj (nm "m") IN)) λI4=>bnd (ac (aa I4 (nm "e"))) λKc=>bnd (ac (aa I4 (nm "drop"))) λKi=>uR .Add Kc Ki λn42=>bnd (ret (aj I4 (nm "e") n42)) λJ5=>bnd (bnd (ah [ac (aa J5 (nm "m")),ac (aa J5 (nm "e"))]) λO3=>call (nm "strip_zeros") O3) λKe=>ret (.ret Ke) else bnd (call (nm "strip_zeros") [JF,Jv]) λKf=>ret (.ret Kf)
theorem lp(d:Nat)(JF Jv Ic:D):run (d+1) (nm "round_digits") [JF,Jv,Ic]=aq (gb (run d) JF Jv Ic):=by kernel_rfl
noncomputable def oB(call:Str->List D->M D)(JF Jv Ic Iq:D):M Flow':=bnd (call (nm "round_digits") [JF,Jv,Ic]) λt1=>bnd (dg [(nm "m",JF),(nm "e",Jv),(nm "digits",Ic),(nm "top",Iq)] [(nm "m"),(nm "e")] t1) λbT=>bnd (bnd (bnd (ac (aa bT (nm "e"))) λt3=>bnd (bnd (ah [ac (aa bT (nm "m"))]) λl4=>call (nm "count_digits") l4) λt5=>ag .Add t3 t5) λt6=>ag .Sub t6 (.int 1)) λt7=>bnd (ret (aj bT (nm "lead") t7)) λJM=>bnd (bnd (bnd (ac (aa JM (nm "m"))) λIS=>ae .Eq IS (.int 0)) λb10=>bj .Or b10 (bnd (bnd (ac (aa JM (nm "lead"))) λIP=>bnd (bnd (ac (aa JM (nm "top"))) λI8=>dm I8) λIu=>ae .Lt IP Iu) λb12=>bj .Or b12 (ret false))) λc9=>if c9 then ret (.ret (.tup [.int 0,.int 0])) else bnd (bnd (ac (aa JM (nm "lead"))) λIK=>bnd (ac (aa JM (nm "top"))) λI1=>ae .Gt IK I1) λKh=>if Kh then aP else bnd (aI [ac (aa JM (nm "m")),ac (aa JM (nm "e"))]) λI2=>ret (.ret I2)
theorem oC(d:Nat)(JF Jv Ic Iq:D):run (d+1) (nm "round_real") [JF,Jv,Ic,Iq]=aq (oB (run d) JF Jv Ic Iq):=by kernel_rfl
noncomputable def qI(call:Str->List D->M D)(Ih Ik:D):M Flow':=bnd (bnd (ah [subD Ih (.int 1),subD Ik (.int 1)]) λl1=>au (nm "min") l1) λt2=>bnd (aI [bnd (bnd (subD Ih (.int 0)) λt3=>bnd (bnd (bnd (subD Ih (.int 1)) λt4=>ag .Sub t4 t2) λt5=>ag .Pow (.int 10) t5) λt6=>ag .Mult t3 t6) λt7=>bnd (bnd (subD Ik (.int 0)) λt8=>bnd (bnd (bnd (subD Ik (.int 1)) λt9=>ag .Sub t9 t2) λIL=>ag .Pow (.int 10) IL) λIS=>ag .Mult t8 IS) λIO=>ag .Add t7 IO,ret t2]) λIP=>ret (.ret IP)
theorem qJ(d:Nat)(Ih Ik:D):run (d+1) (nm "exact_add") [Ih,Ik]=aq (qI (run d) Ih Ik):=by kernel_rfl
noncomputable def qK(call:Str->List D->M D)(Ih Ik:D):M Flow':=bnd (aI [bnd (subD Ih (.int 0)) λt1=>bnd (subD Ik (.int 0)) λt2=>ag .Mult t1 t2,bnd (subD Ih (.int 1)) λt3=>bnd (subD Ik (.int 1)) λt4=>ag .Add t3 t4]) λt5=>ret (.ret t5)
theorem qL(d:Nat)(Ih Ik:D):run (d+1) (nm "exact_mul") [Ih,Ik]=aq (qK (run d) Ih Ik):=by kernel_rfl
noncomputable def tu(call:Str->List D->M D)(It Ir Jv Ic:D):M Flow':=bnd (bnd (ah [bnd (bnd (ag .Add Ic (.int 2)) λt1=>bnd (call (nm "count_digits") [Ir]) λt2=>ag .Add t1 t2) λt3=>bnd (call (nm "count_digits") [It]) λt4=>ag .Sub t3 t4,ret (.int 0)]) λl5=>au (nm "max") l5) λt6=>bnd (bnd (ah [bnd (au (nm "abs") [It]) λt7=>bnd (ag .Pow (.int 10) t6) λt8=>ag .Mult t7 t8,au (nm "abs") [Ir]]) λl9=>au (nm "divmod") l9) λIL=>bnd (dg [(nm "over",It),(nm "under",Ir),(nm "e",Jv),(nm "digits",Ic),(nm "shift",t6)] [(nm "kept"),(nm "rest")] IL) λJo=>bnd (bnd (bnd (ac (aa Jo (nm "kept"))) λIO=>ag .Mult (.int 10) IO) λIP=>bnd (bnd (bnd (ac (aa Jo (nm "rest"))) λIu=>cz Iu) λKy=>if Ky then ret (.int 1) else ret (.int 0)) λIR=>ag .Add IP IR) λIK=>bnd (ret (aj Jo (nm "m") IK)) λII=>bnd (bnd (bnd (ac (aa II (nm "over"))) λI9=>bnd (ae .Lt I9 (.int 0)) λb21=>ret (.bool b21)) λJC=>bnd (bnd (ac (aa II (nm "under"))) λJr=>bnd (ae .Lt Jr (.int 0)) λb24=>ret (.bool b24)) λJw=>ae .NotEq JC Jw) λMu=>if Mu then bnd (bnd (ac (aa II (nm "m"))) λJL=>dm JL) λJN=>bnd (ret (aj II (nm "m") JN)) λI_=>bnd (aI [ac (aa I_ (nm "m")),bnd (bnd (ac (aa I_ (nm "e"))) λJt=>bnd (ac (aa I_ (nm "shift"))) λJu=>ag .Sub Jt Ju) λKM=>ag .Sub KM (.int 1)]) λJO=>ret (.ret JO) else bnd (aI [ac (aa II (nm "m")),bnd (bnd (ac (aa II (nm "e"))) λJZ=>bnd (ac (aa II (nm "shift"))) λJD=>ag .Sub JZ JD) λJ0=>ag .Sub J0 (.int 1)]) λJ1=>ret (.ret J1)
theorem tw(d:Nat)(It Ir Jv Ic:D):run (d+1) (nm "quotient") [It,Ir,Jv,Ic]=aq (tu (run d) It Ir Jv Ic):=by kernel_rfl
noncomputable def ty(call:Str->List D->M D)(Ih Ik Ic Iq:D):M Flow':=bnd (call (nm "exact_add") [Ih,Ik]) λt1=>bnd (dg [(nm "x",Ih),(nm "y",Ik),(nm "digits",Ic),(nm "top",Iq)] [(nm "m"),(nm "e")] t1) λbT=>bnd (bnd (ah [ac (aa bT (nm "m")),ac (aa bT (nm "e")),ac (aa bT (nm "digits")),ac (aa bT (nm "top"))]) λl3=>call (nm "round_real") l3) λt4=>ret (.ret t4)
theorem tz(d:Nat)(Ih Ik Ic Iq:D):run (d+1) (nm "real_add") [Ih,Ik,Ic,Iq]=aq (ty (run d) Ih Ik Ic Iq):=by kernel_rfl
noncomputable def tA(call:Str->List D->M D)(Ih Ik Ic Iq:D):M Flow':=bnd (bnd (ah [ret Ih,call (nm "real_neg") [Ik]]) λl1=>call (nm "exact_add") l1) λt2=>bnd (dg [(nm "x",Ih),(nm "y",Ik),(nm "digits",Ic),(nm "top",Iq)] [(nm "m"),(nm "e")] t2) λIQ=>bnd (bnd (ah [ac (aa IQ (nm "m")),ac (aa IQ (nm "e")),ac (aa IQ (nm "digits")),ac (aa IQ (nm "top"))]) λl4=>call (nm "round_real") l4) λt5=>ret (.ret t5)
theorem tB(d:Nat)(Ih Ik Ic Iq:D):run (d+1) (nm "real_sub") [Ih,Ik,Ic,Iq]=aq (tA (run d) Ih Ik Ic Iq):=by kernel_rfl
noncomputable def tC(call:Str->List D->M D)(Ih Ik Ic Iq:D):M Flow':=bnd (call (nm "exact_mul") [Ih,Ik]) λt1=>bnd (dg [(nm "x",Ih),(nm "y",Ik),(nm "digits",Ic),(nm "top",Iq)] [(nm "m"),(nm "e")] t1) λbT=>bnd (bnd (ah [ac (aa bT (nm "m")),ac (aa bT (nm "e")),ac (aa bT (nm "digits")),ac (aa bT (nm "top"))]) λl3=>call (nm "round_real") l3) λt4=>ret (.ret t4)
theorem tD(d:Nat)(Ih Ik Ic Iq:D):run (d+1) (nm "real_mul") [Ih,Ik,Ic,Iq]=aq (tC (run d) Ih Ik Ic Iq):=by kernel_rfl
noncomputable def tE(call:Str->List D->M D)(Ih Ik Ic Iq:D):M Flow':=bnd (bnd (subD Ik (.int 0)) λt2=>ae .Eq t2 (.int 0)) λc1=>if c1 then aP else bnd (bnd (ah [subD Ih (.int 0),subD Ik (.int 0),bnd (subD Ih (.int 1)) λt3=>bnd (subD Ik (.int 1)) λt4=>ag .Sub t3 t4,ret Ic]) λl5=>call (nm "quotient") l5) λt6=>bnd (dg [(nm "x",Ih),(nm "y",Ik),(nm "digits",Ic),(nm "top",Iq)] [(nm "m"),(nm "e")] t6) λJj=>bnd (bnd (ah [ac (aa Jj (nm "m")),ac (aa Jj (nm "e")),ac (aa Jj (nm "digits")),ac (aa Jj (nm "top"))]) λl8=>call (nm "round_real") l8) λt9=>ret (.ret t9)
theorem tG(d:Nat)(Ih Ik Ic Iq:D):run (d+1) (nm "real_div") [Ih,Ik,Ic,Iq]=aq (tE (run d) Ih Ik Ic Iq):=by kernel_rfl
noncomputable def lq(call:Str->List D->M D)(Ih Ik:D):M Flow':=bnd (bnd (bnd (ah [ret Ih,call (nm "real_neg") [Ik]]) λl1=>call (nm "exact_add") l1) λt2=>subD t2 (.int 0)) λt3=>bnd (ae .Eq t3 (.int 0)) λc4=>if c4 then ret (.ret (.int 0)) else bnd (bnd (ae .Gt t3 (.int 0)) λc5=>if c5 then ret (.int 1) else ret ((.int (-1)))) λt6=>ret (.ret t6)
theorem lr(d:Nat)(Ih Ik:D):run (d+1) (nm "real_compare") [Ih,Ik]=aq (lq (run d) Ih Ik):=by kernel_rfl
noncomputable def mr(call:Str->List D->M D)(IB Ic Iq:D):M Flow':=bnd (call (nm "round_real") [IB,(.int 0),Ic,Iq]) λt1=>ret (.ret t1)
theorem mu(d:Nat)(IB Ic Iq:D):run (d+1) (nm "real_of_int") [IB,Ic,Iq]=aq (mr (run d) IB Ic Iq):=by kernel_rfl
noncomputable def mv(call:Str->List D->M D)(Ih:D):M Flow':=bnd (dg [(nm "x",Ih)] [(nm "m"),(nm "e")] Ih) λJK=>bnd (bnd (ac (aa JK (nm "e"))) λt3=>ae .GtE t3 (.int 0)) λc2=>if c2 then bnd (bnd (ac (aa JK (nm "m"))) λt4=>bnd (bnd (ac (aa JK (nm "e"))) λt5=>ag .Pow (.int 10) t5) λt6=>ag .Mult t4 t6) λt7=>ret (.ret t7) else bnd (bnd (bnd (ah [ac (aa JK (nm "m"))]) λl8=>au (nm "abs") l8) λt9=>bnd (bnd (bnd (ac (aa JK (nm "e"))) λIL=>dm IL) λIS=>ag .Pow (.int 10) IS) λIO=>ag .FloorDiv t9 IO) λIP=>bnd (ret (aj JK (nm "found") IP)) λIV=>bnd (bnd (bnd (ac (aa IV (nm "m"))) λIR=>ae .Gt IR (.int 0)) λO4=>if O4 then ac (aa IV (nm "found")) else bnd (ac (aa IV (nm "found"))) λIK=>dm IK) λI1=>ret (.ret I1)
theorem mw(d:Nat)(Ih:D):run (d+1) (nm "real_to_int") [Ih]=aq (mv (run d) Ih):=by kernel_rfl
noncomputable def qN(call:Str->List D->M D)(H6 Ib:D):M Flow':=bnd (bnd (ae .Eq H6 (.int 1)) λc1=>if c1 then aB Ib (nm "real_digits") else aB Ib (nm "double_digits")) λt2=>ret (.ret t2)
theorem qO(d:Nat)(H6 Ib:D):run (d+1) (nm "digits_of") [H6,Ib]=aq (qN (run d) H6 Ib):=by kernel_rfl
noncomputable def my(call:Str->List D->M D)(Im H6 Ih Ik Ib:D):M Flow':=bnd (call (nm "digits_of") [H6,Ib]) λt1=>bnd (aB Ib (nm "top_exponent")) λt2=>bnd (ae .Eq Im (.str (nm "add"))) λc3=>if c3 then bnd (call (nm "real_add") [Ih,Ik,t1,t2]) λt4=>ret (.ret t4) else bnd (ae .Eq Im (.str (nm "sub"))) λc5=>if c5 then bnd (call (nm "real_sub") [Ih,Ik,t1,t2]) λt6=>ret (.ret t6) else bnd (ae .Eq Im (.str (nm "mul"))) λc7=>if c7 then bnd (call (nm "real_mul") [Ih,Ik,t1,t2]) λt8=>ret (.ret t8) else bnd (ae .Eq Im (.str (nm "div"))) λc9=>if c9 then bnd (call (nm "real_div") [Ih,Ik,t1,t2]) λIL=>ret (.ret IL) else bnd (ae .Eq Im (.str (nm "powi"))) λJi=>if Ji then bnd (bnd (stuck) λIO=>bP call IO [Ih,Ik,t1,t2]) λIP=>ret (.ret IP) else bnd (bnd (ah [ret Im,call (nm "real_compare") [Ih,Ik]]) λKR=>call (nm "holds") KR) λIu=>ret (.ret Iu)
theorem gW(d:Nat)(Im H6 Ih Ik Ib:D):run (d+1) (nm "real_binary") [Im,H6,Ih,Ik,Ib]=aq (my (run d) Im H6 Ih Ik Ib):=by kernel_rfl
noncomputable def wS(call:Str->List D->M D)(Ih Ik:D):M Flow':=bnd (bnd (ah [au (nm "len") [Ih],au (nm "len") [Ik]]) λl1=>au (nm "max") l1) λt2=>bnd (bnd (ah [bnd (bnd (bnd (au (nm "len") [Ih]) λt3=>ag .Sub t2 t3) λt4=>ag .Mult (.str (nm " ")) t4) λt5=>ag .Add Ih t5,bnd (bnd (bnd (au (nm "len") [Ik]) λt6=>ag .Sub t2 t6) λt7=>ag .Mult (.str (nm " ")) t7) λt8=>ag .Add Ik t8]) λl9=>call (nm "order_of") l9) λIL=>ret (.ret IL)
theorem wT(d:Nat)(Ih Ik:D):run (d+1) (nm "collate") [Ih,Ik]=aq (wS (run d) Ih Ik):=by kernel_rfl
noncomputable def mz(call:Str->List D->M D)(Im H6 Ih Ik Ib:D):M Flow':=bnd (ae .Eq Im (.str (nm "cat"))) λc1=>if c1 then bnd (ag .Add Ih Ik) λt2=>ret (.ret t2) else bnd (bnd (ah [ret Im,call (nm "collate") [Ih,Ik]]) λl3=>call (nm "holds") l3) λt4=>ret (.ret t4)
theorem mA(d:Nat)(Im H6 Ih Ik Ib:D):run (d+1) (nm "text_binary") [Im,H6,Ih,Ik,Ib]=aq (mz (run d) Im H6 Ih Ik Ib):=by kernel_rfl
noncomputable def Bg(call:Str->List D->M D)(Im H6 Ih Ib:D):M Flow':=bnd (bnd (ae .Eq Im (.str (nm "not"))) λb2=>bj .And b2 (bnd (ae .Eq H6 (.int 4)) λb3=>bj .And b3 (ret true))) λc1=>if c1 then bnd (bnd (cz Ih) λb4=>ret (.bool !b4)) λt5=>ret (.ret t5) else bnd (bnd (ae .Eq Im (.str (nm "neg"))) λb7=>bj .And b7 (bnd (ae .Eq H6 (.int 0)) λb8=>bj .And b8 (ret true))) λc6=>if c6 then bnd (bnd (ah [dm Ih,aB Ib (nm "width")]) λl9=>call (nm "fit_int") l9) λIL=>ret (.ret IL) else bnd (bnd (ae .Eq Im (.str (nm "neg"))) λb12=>bj .And b12 (bnd (bnd (ae .Eq H6 (.int 1)) λb14=>bj .Or b14 (bnd (ae .Eq H6 (.int 2)) λb15=>bj .Or b15 (ret false))) λb13=>bj .And b13 (ret true))) λJi=>if Ji then bnd (call (nm "real_neg") [Ih]) λIR=>ret (.ret IR) else bnd (bnd (ae .Eq Im (.str (nm "neg"))) λb18=>bj .And b18 (bnd (ae .Eq H6 (.int 3)) λb19=>bj .And b19 (ret true))) λME=>if ME then bnd (bnd (stuck) λI9=>bP call I9 [Ih]) λJB=>ret (.ret JB) else aP
theorem oE(d:Nat)(Im H6 Ih Ib:D):run (d+1) (nm "unary") [Im,H6,Ih,Ib]=aq (Bg (run d) Im H6 Ih Ib):=by kernel_rfl
noncomputable def wU(call:Str->List D->M D)(Ij IW IX Ib:D):M Flow':=bnd (call (nm "digits_of") [IX,Ib]) λt1=>bnd (ae .Eq IW (.int 0)) λc2=>if c2 then bnd (bnd (ah [ret Ij,ret t1,aB Ib (nm "top_exponent")]) λl3=>call (nm "real_of_int") l3) λt4=>ret (.ret t4) else bnd (ae .Eq IW (.int 3)) λc5=>if c5 then bnd (subD Ij (.int 0)) λt6=>bnd (bnd (ah [subD t6 (.int 0),subD t6 (.int 1),ret t1,aB Ib (nm "top_exponent")]) λl7=>call (nm "round_real") l7) λt8=>ret (.ret t8) else bnd (bnd (ah [subD Ij (.int 0),subD Ij (.int 1),ret t1,aB Ib (nm "top_exponent")]) λl9=>call (nm "round_real") l9) λIL=>ret (.ret IL)
theorem wV(d:Nat)(Ij IW IX Ib:D):run (d+1) (nm "real_as") [Ij,IW,IX,Ib]=aq (wU (run d) Ij IW IX Ib):=by kernel_rfl
noncomputable def wW(call:Str->List D->M D)(Ij IW IX Ib:D):M Flow':=bnd (ae .Eq IW IX) λc1=>if c1 then ret (.ret Ij) else bnd (bnd (ae .Eq IW (.int 4)) λb3=>bj .Or b3 (bnd (ae .Eq IW (.int 5)) λb4=>bj .Or b4 (bnd (ae .Eq IX (.int 4)) λb5=>bj .Or b5 (bnd (ae .Eq IX (.int 5)) λb6=>bj .Or b6 (ret false))))) λc2=>if c2 then aP else bnd (ae .Eq IX (.int 3)) λc7=>if c7 then bnd (aI [call (nm "real_as") [Ij,IW,(.int 1),Ib],ret ((.tup [.int 0,.int 0]))]) λt8=>ret (.ret t8) else bnd (bnd (ae .Eq IX (.int 1)) λb10=>bj .Or b10 (bnd (ae .Eq IX (.int 2)) λb11=>bj .Or b11 (ret false))) λc9=>if c9 then bnd (call (nm "real_as") [Ij,IW,IX,Ib]) λIO=>ret (.ret IO) else bnd (ae .Eq IW (.int 3)) λKJ=>if KJ then bnd (subD Ij (.int 0)) λI8=>bnd (bnd (ah [call (nm "real_to_int") [I8],aB Ib (nm "width")]) λKz=>call (nm "fit_int") Kz) λIR=>ret (.ret IR) else bnd (bnd (ah [call (nm "real_to_int") [Ij],aB Ib (nm "width")]) λKL=>call (nm "fit_int") KL) λI1=>ret (.ret I1)
theorem ng(d:Nat)(Ij IW IX Ib:D):run (d+1) (nm "convert") [Ij,IW,IX,Ib]=aq (wW (run d) Ij IW IX Ib):=by kernel_rfl
noncomputable def tH(call:Str->List D->M D)(Ie H7:D):M Flow':=bnd (bnd (subD H7 (.int 0)) λt2=>bnd (aB Ie (nm "expressions")) λt3=>ae .NotIn t2 t3) λc1=>if c1 then aP else bnd (bnd (bnd (aB Ie (nm "expressions")) λt4=>bnd (subD H7 (.int 0)) λt5=>subD t4 t5) λt6=>bP call t6 [Ie,H7]) λt7=>ret (.ret t7)
theorem tI(d:Nat)(Ie H7:D):run (d+1) (nm "evaluate") [Ie,H7]=aq (tH (run d) Ie H7):=by kernel_rfl
noncomputable def mB(call:Str->List D->M D)(Ie IM:D):M Flow':=bnd (bnd (aB Ie (nm "frame")) λt1=>bnd (a_ t1 (nm "get")) λk2=>be call t1 k2 [IM]) λt3=>bnd (bnd (bnd (au (nm "isinstance") [t3,(.blt (nm "tuple"))]) λt6=>cz t6) λb5=>ret (!b5)) λc4=>if c4 then aP else ret (.ret t3)
theorem mC(d:Nat)(Ie IM:D):run (d+1) (nm "named_place") [Ie,IM]=aq (mB (run d) Ie IM):=by kernel_rfl
noncomputable def hG(call:Str->List D->M D)(Ie H7:D):M Flow':=bnd (ae .Is H7 .none) λc1=>if c1 then ret (.ret .none) else bnd (call (nm "evaluate") [Ie,H7]) λt2=>ret (.ret t2)
theorem tJ(d:Nat)(Ie H7:D):run (d+1) (nm "bound_of") [Ie,H7]=aq (hG (run d) Ie H7):=by kernel_rfl
noncomputable def oG(call:Str->List D->M D)(Ie H7:D):M Flow':=bnd (bnd (ah [ret Ie,subD H7 (.int 2)]) λl1=>call (nm "place_of") l1) λt2=>bnd (bnd (ah [ret Ie,subD H7 (.int 3)]) λl3=>call (nm "bound_of") l3) λt4=>bnd (bnd (ah [ret t2,ret t4,bnd (ah [ret Ie,subD H7 (.int 4)]) λl5=>call (nm "bound_of") l5]) λl6=>call (nm "sub_place") l6) λt7=>ret (.ret t7)
theorem oH(d:Nat)(Ie H7:D):run (d+1) (nm "part_place") [Ie,H7]=aq (oG (run d) Ie H7):=by kernel_rfl
noncomputable def tK(call:Str->List D->M D)(Ie H7:D):M Flow':=bnd (bnd (subD H7 (.int 0)) λt2=>ae .Eq t2 (.str (nm "substr"))) λc1=>if c1 then bnd (call (nm "part_place") [Ie,H7]) λt3=>ret (.ret t3) else bnd (bnd (ah [ret Ie,subD H7 (.int 2)]) λl4=>call (nm "named_place") l4) λt5=>bnd (bnd (subD H7 (.int 0)) λt7=>ae .Eq t7 (.str (nm "elem"))) λc6=>if c6 then bnd (bnd (ah [ret t5,bnd (bnd (subD H7 (.int 3)) λt9=>bnd (aZ t9) λKj=>aM (λMF JP=>bnd (call (nm "evaluate") [Ie,MF]) λIP=>if ao (JP).length then ret (JP++[IP]) else stuck) Kj []) λl8=>ret (.list l8)]) λKR=>call (nm "element_place") KR) λIu=>ret (.ret Iu) else ret (.ret t5)
theorem hJ(d:Nat)(Ie H7:D):run (d+1) (nm "place_of") [Ie,H7]=aq (tK (run d) Ie H7):=by kernel_rfl
noncomputable def iR(call:Str->List D->M D)(Ie H7:D):M Flow':=bnd (subD H7 (.int 2)) λt1=>ret (.ret t1)
theorem iS(d:Nat)(Ie H7:D):run (d+1) (nm "eval_const") [Ie,H7]=aq (iR (run d) Ie H7):=by kernel_rfl
noncomputable def oI(call:Str->List D->M D)(Ie H7:D):M Flow':=bnd (bnd (aB Ie (nm "memory")) λt1=>bnd (a_ t1 (nm "load")) λk2=>bnd (ah [call (nm "place_of") [Ie,H7]]) λl3=>be call t1 k2 l3) λt4=>ret (.ret t4)
theorem oJ(d:Nat)(Ie H7:D):run (d+1) (nm "eval_place") [Ie,H7]=aq (oI (run d) Ie H7):=by kernel_rfl
noncomputable def qP(call:Str->List D->M D)(Ie H7:D):M Flow':=bnd (bnd (ah [bnd (ah [ret Ie,subD H7 (.int 2)]) λl1=>call (nm "evaluate") l1,bnd (subD H7 (.int 2)) λt2=>subD t2 (.int 1),subD H7 (.int 1),aB Ie (nm "limits")]) λl3=>call (nm "convert") l3) λt4=>ret (.ret t4)
theorem qQ(d:Nat)(Ie H7:D):run (d+1) (nm "eval_conv") [Ie,H7]=aq (qP (run d) Ie H7):=by kernel_rfl
noncomputable def oK(call:Str->List D->M D)(Ie H7:D):M Flow':=bnd (bnd (ah [subD H7 (.int 0),subD H7 (.int 1),bnd (ah [ret Ie,subD H7 (.int 2)]) λl1=>call (nm "evaluate") l1,aB Ie (nm "limits")]) λl2=>call (nm "unary") l2) λt3=>ret (.ret t3)
theorem oL(d:Nat)(Ie H7:D):run (d+1) (nm "eval_unary") [Ie,H7]=aq (oK (run d) Ie H7):=by kernel_rfl
noncomputable def yN(call:Str->List D->M D)(Ie ID H6 JG Jl:D):M Flow':=bnd (bnd (aB Ie (nm "operations")) λt2=>ae .NotIn H6 t2) λc1=>if c1 then aP else bnd (bnd (bnd (aB Ie (nm "operations")) λt3=>subD t3 H6) λt4=>bnd (ah [ret ID,ret H6,ret JG,ret Jl,aB Ie (nm "limits")]) λl5=>bP call t4 l5) λt6=>ret (.ret t6)
theorem yO(d:Nat)(Ie ID H6 JG Jl:D):run (d+1) (nm "reckon") [Ie,ID,H6,JG,Jl]=aq (yN (run d) Ie ID H6 JG Jl):=by kernel_rfl
noncomputable def mD(call:Str->List D->M D)(Ie H7:D):M Flow':=bnd (bnd (ah [ret Ie,subD H7 (.int 2)]) λl1=>call (nm "evaluate") l1) λt2=>bnd (bnd (ah [ret Ie,subD H7 (.int 3)]) λl3=>call (nm "evaluate") l3) λt4=>bnd (bnd (ah [ret Ie,subD H7 (.int 0),subD H7 (.int 1),ret t2,ret t4]) λl5=>call (nm "reckon") l5) λt6=>ret (.ret t6)
theorem mE(d:Nat)(Ie H7:D):run (d+1) (nm "eval_binary") [Ie,H7]=aq (mD (run d) Ie H7):=by kernel_rfl
noncomputable def lu(call:Str->List D->M D)(Ie H7:D):M Flow':=bnd (bnd (ah [ret Ie,subD H7 (.int 2)]) λl1=>call (nm "evaluate") l1) λt2=>bnd (bnd (ah [ret Ie,subD H7 (.int 3)]) λl3=>call (nm "evaluate") l3) λt4=>bnd (bnd (ah [ret Ie,subD H7 (.int 0),bnd (subD H7 (.int 2)) λt5=>subD t5 (.int 1),ret t2,ret t4]) λl6=>call (nm "reckon") l6) λt7=>ret (.ret t7)
theorem lw(d:Nat)(Ie H7:D):run (d+1) (nm "eval_compare") [Ie,H7]=aq (lu (run d) Ie H7):=by kernel_rfl
noncomputable def tL(call:Str->List D->M D)(Ie H7:D):M Flow':=bnd (bnd (ah [ret Ie,subD H7 (.int 2)]) λl1=>call (nm "evaluate") l1) λt2=>bnd (bnd (bnd (ah [ret Ie,subD H7 (.int 3)]) λl3=>call (nm "evaluate") l3) λt4=>ag .Add t2 t4) λt5=>ret (.ret t5)
theorem tM(d:Nat)(Ie H7:D):run (d+1) (nm "eval_cat") [Ie,H7]=aq (tL (run d) Ie H7):=by kernel_rfl
noncomputable def fz(call:Str->List D->M D):M Flow':=bnd (dk [ret (.str (nm "eq")),ret (.str (nm "ne")),ret (.str (nm "lt")),ret (.str (nm "le")),ret (.str (nm "gt")),ret (.str (nm "ge"))]) λt1=>ret (.ret t1)
theorem jQ(d:Nat):run (d+1) (nm "_law_relations") []=aq (fz (run d)):=by kernel_rfl
noncomputable def iU(call:Str->List D->M D):M Flow':=bnd (fj [(ret (.str (nm "I")),ret ((.tup [(.int 0),(.int 0),(.int 0),(.tup [])]))),(ret (.str (nm "J")),ret ((.tup [(.int 0),(.int 1),(.int 0),(.tup [])]))),(ret (.str (nm "A")),ret ((.tup [(.int 0),(.int 2),(.int 0),(.tup [(.tup [(.int 0),(.int 2)]),(.tup [(.int (-1)),(.int 0)])])]))),(ret (.str (nm "X")),ret ((.tup [(.int 1),(.int 8),(.int 0),(.tup [])]))),(ret (.str (nm "B")),ret ((.tup [(.int 1),(.int 9),(.int 0),(.tup [(.tup [(.int 1),(.int 2)])])]))),(ret (.str (nm "L")),ret ((.tup [(.int 4),(.int 11),(.int 0),(.tup [])]))),(ret (.str (nm "C")),ret ((.tup [(.int 5),(.int 0),(.int 4),(.tup [])]))),(ret (.str (nm "D")),ret ((.tup [(.int 5),(.int 4),(.int 3),(.tup [(.tup [(.int 2),(.int 3)])])])))]) λt1=>ret (.ret t1)
theorem oM(d:Nat):run (d+1) (nm "_law_places") []=aq (iU (run d)):=by kernel_rfl
noncomputable def tN(call:Str->List D->M D)(H9 Ja:D):M Flow':=bnd (bnd (au (nm "len") [H9]) λt2=>ae .Eq t2 (.int 0)) λc1=>if c1 then ret (.ret (.int 0)) else bnd (bnd (subD H9 (.int 0)) λt3=>ag .Mod t3 Ja) λt4=>bnd (bnd (subD H9 (.int 0)) λt5=>ag .FloorDiv t5 Ja) λt6=>bnd (bnd (cM H9 (.int 0) t6) λ_=>ret ([(nm "pool",H9),(nm "many",Ja),(nm "digit",t4)])) λJj=>bnd (bnd (bnd (ac (aa Jj (nm "pool"))) λt9=>subD t9 (.int 0)) λIL=>ae .Eq IL (.int 0)) λc8=>if c8 then bnd (bnd (ac (aa Jj (nm "pool"))) λIS=>bnd (a_ IS (nm "pop")) λk12=>be call IS k12 [(.int 0)]) λIP=>bnd (ac (aa Jj (nm "digit"))) λI8=>ret (.ret I8) else bnd (ac (aa Jj (nm "digit"))) λIu=>ret (.ret Iu)
theorem tO(d:Nat)(H9 Ja:D):run (d+1) (nm "_law_take") [H9,Ja]=aq (tN (run d) H9 Ja):=by kernel_rfl
noncomputable def oN(call:Str->List D->M D)(H9:D):M Flow':=bnd (bnd (bnd (call (nm "_law_take") [H9,(.int 23)]) λt1=>ag .Sub t1 (.int 11)) λt2=>bnd (bnd (call (nm "_law_take") [H9,(.int 4)]) λt3=>subD (.tup [(.int 1),(.int 1),(.int 1),(.int 10)]) t3) λt4=>ag .Mult t2 t4) λt5=>ret (.ret t5)
theorem oO(d:Nat)(H9:D):run (d+1) (nm "_law_number") [H9]=aq (oN (run d) H9):=by kernel_rfl
noncomputable def ly(call:Str->List D->M D)(H9:D):M Flow':=bnd (bnd (ah [call (nm "_law_number") [H9],bnd (call (nm "_law_take") [H9,(.int 4)]) λt1=>subD (.tup [(.int 1),(.int 4),(.int 10),(.int 100)]) t1,ret (.int 3)]) λl2=>call (nm "_law_fit") l2) λt3=>ret (.ret t3)
theorem tP(d:Nat)(H9:D):run (d+1) (nm "_law_real") [H9]=aq (ly (run d) H9):=by kernel_rfl
noncomputable def lz(call:Str->List D->M D)(H9:D):M Flow':=bnd (bnd (a_ (.str (nm "")) (nm "join")) λk1=>bnd (ah [bnd (bnd (bnd (ah [bnd (call (nm "_law_take") [H9,(.int 3)]) λt3=>ag .Add (.int 1) t3]) λl4=>au (nm "range") l4) λt5=>bnd (aZ t5) λl6=>aM (λd7 KA=>bnd (bnd (call (nm "_law_take") [H9,(.int 4)]) λt9=>subD (.str (nm " AB0")) t9) λIL=>if ao (KA).length then ret (KA++[IL]) else stuck) l6 []) λl2=>ret (.list l2)]) λKP=>be call (.str (nm "")) k1 KP) λIO=>ret (.ret IO)
theorem tQ(d:Nat)(H9:D):run (d+1) (nm "_law_text") [H9]=aq (lz (run d) H9):=by kernel_rfl
noncomputable def qR(call:Str->List D->M D)(H9 H6:D):M Flow':=bnd (ae .Eq H6 (.int 0)) λc1=>if c1 then bnd (call (nm "_law_number") [H9]) λt2=>ret (.ret t2) else bnd (ae .Eq H6 (.int 1)) λc3=>if c3 then bnd (call (nm "_law_real") [H9]) λt4=>ret (.ret t4) else bnd (bnd (ae .Eq H6 (.int 4)) λc5=>if c5 then bnd (call (nm "_law_take") [H9,(.int 2)]) λt6=>bnd (ae .Eq t6 (.int 1)) λb7=>ret (.bool b7) else call (nm "_law_text") [H9]) λt8=>ret (.ret t8)
theorem qS(d:Nat)(H9 H6:D):run (d+1) (nm "_law_const") [H9,H6]=aq (qR (run d) H9 H6):=by kernel_rfl
noncomputable def tS(call:Str->List D->M D)(H9 H6:D):M Flow':=bnd (call (nm "_law_take") [H9,(.int 3)]) λt1=>bnd (ae .Eq t1 (.int 0)) λc2=>if c2 then bnd (aI [ret (.str (nm "const")),ret H6,call (nm "_law_const") [H9,H6]]) λt3=>ret (.ret t3) else bnd (ae .Eq H6 (.int 4)) λc4=>if c4 then ret (.ret (.tup [(.str (nm "var")),(.int 4),(.str (nm "L"))])) else bnd (ae .Eq t1 (.int 1)) λc5=>if c5 then bnd (aI [ret (.str (nm "var")),ret H6,bnd (dk [bnd (call (nm "_law_take") [H9,(.int 2)]) λt6=>subD (.str (nm "IJ")) t6,ret (.str (nm "X")),ret (.str (nm "")),ret (.str (nm "")),ret (.str (nm "")),ret (.str (nm "C"))]) λt7=>subD t7 H6]) λt8=>ret (.ret t8) else bnd (aI [ret (.str (nm "elem")),ret H6,bnd (fj [(ret (.int 0),ret (.str (nm "A"))),(ret (.int 1),ret (.str (nm "B"))),(ret (.int 5),ret (.str (nm "D")))]) λt9=>subD t9 H6,bnd (bnd (bnd (ah [bnd (ae .Eq H6 (.int 0)) λJi=>if Ji then ret (.int 2) else ret (.int 1)]) λLM=>au (nm "range") LM) λIP=>bnd (aZ IP) λKR=>aM (λO5 K0=>bnd (call (nm "_law_index") [H9,O5]) λIK=>if ao (K0).length then ret (K0++[IK]) else stuck) KR []) λKj=>ret (.list Kj)]) λI1=>ret (.ret I1)
theorem tT(d:Nat)(H9 H6:D):run (d+1) (nm "_law_leaf") [H9,H6]=aq (tS (run d) H9 H6):=by kernel_rfl
noncomputable def qT(call:Str->List D->M D)(H9 Ms:D):M Flow':=bnd (bnd (call (nm "_law_take") [H9,(.int 5)]) λt2=>ae .Eq t2 (.int 0)) λc1=>if c1 then ret (.ret (.tup [(.str (nm "var")),(.int 0),(.str (nm "I"))])) else bnd (aI [ret (.str (nm "const")),ret (.int 0),bnd (call (nm "_law_take") [H9,(.int 3)]) λt3=>ag .Sub t3 Ms]) λt4=>ret (.ret t4)
theorem qU(d:Nat)(H9 Ms:D):run (d+1) (nm "_law_index") [H9,Ms]=aq (qT (run d) H9 Ms):=by kernel_rfl
noncomputable def tV(call:Str->List D->M D)(H9 H6 Iv:D):M Flow':=bnd (bnd (ae .Eq Iv (.int 0)) λb2=>bj .Or b2 (bnd (bnd (call (nm "_law_take") [H9,(.int 6)]) λt4=>ae .Eq t4 (.int 0)) λb3=>bj .Or b3 (ret false))) λc1=>if c1 then bnd (call (nm "_law_leaf") [H9,H6]) λt5=>ret (.ret t5) else bnd (call (nm "_law_take") [H9,(.int 6)]) λt6=>bnd (bnd (ae .Eq H6 (.int 4)) λb8=>bj .And b8 (bnd (ae .Eq t6 (.int 0)) λb9=>bj .And b9 (ret true))) λc7=>if c7 then bnd (aI [ret (.str (nm "not")),ret (.int 4),bnd (ah [ret H9,ret (.int 4),ag .Sub Iv (.int 1)]) λKj=>call (nm "_law_tree") Kj]) λIS=>ret (.ret IS) else bnd (bnd (ae .Eq H6 (.int 4)) λb13=>bj .And b13 (bnd (ae .Lt t6 (.int 3)) λb14=>bj .And b14 (ret true))) λJx=>if Jx then bnd (bnd (dk [ret (.str (nm "and")),ret (.str (nm "or")),ret (.str (nm "eqv")),ret (.str (nm "neqv"))]) λIu=>bnd (call (nm "_law_take") [H9,(.int 4)]) λIR=>subD Iu IR) λIK=>bnd (aI [ret IK,ret (.int 4),bnd (ah [ret H9,ret (.int 4),ag .Sub Iv (.int 1)]) λMC=>call (nm "_law_tree") MC,bnd (ah [ret H9,ret (.int 4),ag .Sub Iv (.int 1)]) λO6=>call (nm "_law_tree") O6]) λI9=>ret (.ret I9) else bnd (ae .Eq H6 (.int 4)) λKS=>if KS then bnd (bnd (call (nm "_law_relations") []) λJC=>bnd (call (nm "_law_take") [H9,(.int 6)]) λJr=>subD JC Jr) λJs=>bnd (bnd (call (nm "_law_take") [H9,(.int 3)]) λJw=>subD (.tup [(.int 0),(.int 1),(.int 5)]) Jw) λJL=>bnd (aI [ret Js,ret (.int 4),bnd (ah [ret H9,ret JL,ag .Sub Iv (.int 1)]) λO7=>call (nm "_law_tree") O7,bnd (ah [ret H9,ret JL,ag .Sub Iv (.int 1)]) λO8=>call (nm "_law_tree") O8]) λJt=>ret (.ret Jt) else bnd (bnd (ae .Eq H6 (.int 5)) λb31=>bj .And b31 (bnd (ae .Lt t6 (.int 3)) λb32=>bj .And b32 (ret true))) λO9=>if O9 then bnd (aI [ret (.str (nm "cat")),ret (.int 5),bnd (ah [ret H9,ret (.int 5),ag .Sub Iv (.int 1)]) λKQ=>call (nm "_law_tree") KQ,bnd (ah [ret H9,ret (.int 5),ag .Sub Iv (.int 1)]) λLQ=>call (nm "_law_tree") LQ]) λJ0=>ret (.ret J0) else bnd (ae .Eq H6 (.int 5)) λO_=>if O_ then bnd (bnd (dk [ret ((.tup [(.str (nm "var")),(.int 5),(.str (nm "C"))])),aI [ret (.str (nm "elem")),ret (.int 5),ret (.str (nm "D")),dk [call (nm "_law_index") [H9,(.int 0)]]]]) λKN=>bnd (call (nm "_law_take") [H9,(.int 2)]) λIN=>subD KN IN) λKr=>bnd (bnd (bnd (aZ (.tup [(.int 0),(.int 1)])) λMG=>aM (λPP JQ=>bnd (bnd (bnd (call (nm "_law_take") [H9,(.int 4)]) λKe=>ae .Eq Ke (.int 0)) λLR=>if LR then ret (.none) else aI [ret (.str (nm "const")),ret (.int 0),bnd (call (nm "_law_take") [H9,(.int 4)]) λKf=>ag .Add (.int 1) Kf]) λJ2=>if ao (JQ).length then ret (JQ++[J2]) else stuck) MG []) λPa=>ret (.list Pa)) λKq=>bnd (aI [ret (.str (nm "substr")),ret (.int 5),ret Kr,subD Kq (.int 0),subD Kq (.int 1)]) λKs=>ret (.ret Ks) else bnd (ae .Eq t6 (.int 0)) λPb=>if Pb then bnd (aI [ret (.str (nm "neg")),ret H6,bnd (ah [ret H9,ret H6,ag .Sub Iv (.int 1)]) λPc=>call (nm "_law_tree") Pc]) λKB=>ret (.ret KB) else bnd (ae .Eq t6 (.int 1)) λLT=>if LT then bnd (aI [ret (.str (nm "conv")),ret H6,bnd (ah [ret H9,ag .Sub (.int 1) H6,ag .Sub Iv (.int 1)]) λMH=>call (nm "_law_tree") MH]) λKg=>ret (.ret Kg) else bnd (bnd (ae .Eq H6 (.int 0)) λb57=>bj .And b57 (bnd (ae .Eq t6 (.int 2)) λb58=>bj .And b58 (ret true))) λPd=>if Pd then bnd (aI [ret (.str (nm "powi")),ret (.int 0),bnd (ah [ret H9,ret (.int 0),ag .Sub Iv (.int 1)]) λLU=>call (nm "_law_tree") LU,bnd (ah [ret H9,ret (.int 0),ag .Sub Iv (.int 1)]) λLV=>call (nm "_law_tree") LV]) λKT=>ret (.ret KT) else bnd (bnd (dk [ret (.str (nm "add")),ret (.str (nm "sub")),ret (.str (nm "mul")),ret (.str (nm "div"))]) λPe=>bnd (call (nm "_law_take") [H9,(.int 4)]) λK8=>subD Pe K8) λK9=>bnd (aI [ret K9,ret H6,bnd (ah [ret H9,ret H6,ag .Sub Iv (.int 1)]) λPf=>call (nm "_law_tree") Pf,bnd (ah [ret H9,ret H6,ag .Sub Iv (.int 1)]) λK_=>call (nm "_law_tree") K_]) λMI=>ret (.ret MI)
theorem lA(d:Nat)(H9 H6 Iv:D):run (d+1) (nm "_law_tree") [H9,H6,Iv]=aq (tV (run d) H9 H6 Iv):=by kernel_rfl
noncomputable def ew(call:Str->List D->M D)(IQ:af)(k6:K'):M Flow':=bnd (bnd (ac (aa IQ (nm "size"))) λt7=>ag .Mult t7 (.int 10)) λt8=>bnd (ret (aj IQ (nm "size") t8)) λKI=>bnd (bnd (ac (aa KI (nm "e"))) λIL=>ag .Sub IL (.int 1)) λIS=>bnd (ret (aj KI (nm "e") IS)) λIH=>k6 IH
noncomputable def ey(call:Str->List D->M D)(KZ:af):M Bool:=bnd (bnd (ac (aa KZ (nm "size"))) λIP=>ag .Mult IP (.int 10)) λI8=>bnd (bnd (ac (aa KZ (nm "under"))) λIu=>bnd (bnd (ac (aa KZ (nm "digits"))) λIR=>ag .Pow (.int 10) IR) λIK=>ag .Mult Iu IK) λI1=>ae .Lt I8 I1
noncomputable def cS(call:Str->List D->M D)(Kw:af)(k22:K'):M Flow':=bnd (bnd (ac (aa Kw (nm "under"))) λJr=>ag .Mult Jr (.int 10)) λJs=>bnd (ret (aj Kw (nm "under") Js)) λLW=>bnd (bnd (ac (aa LW (nm "e"))) λJL=>ag .Add JL (.int 1)) λJN=>bnd (ret (aj LW (nm "e") JN)) λI_=>k22 I_
noncomputable def cT(call:Str->List D->M D)(La:af):M Bool:=bnd (ac (aa La (nm "size"))) λJt=>bnd (bnd (ac (aa La (nm "under"))) λJu=>bnd (bnd (ac (aa La (nm "digits"))) λKM=>ag .Pow (.int 10) KM) λJO=>ag .Mult Ju JO) λJZ=>ae .GtE Jt JZ
noncomputable def cU(call:Str->List D->M D)(LX:af)(k62:K'):M Flow':=bnd (bnd (ac (aa LX (nm "m"))) λK8=>ag .FloorDiv K8 (.int 10)) λK9=>bnd (ret (aj LX (nm "m") K9)) λKk=>bnd (bnd (ac (aa Kk (nm "e"))) λPg=>ag .Add Pg (.int 1)) λMI=>bnd (ret (aj Kk (nm "e") MI)) λMJ=>k62 MJ
noncomputable def cV(call:Str->List D->M D)(MK:af):M Bool:=bnd (bnd (ac (aa MK (nm "m"))) λPh=>ag .Mod Ph (.int 10)) λML=>ae .Eq ML (.int 0)
noncomputable def tW(call:Str->List D->M D)(LY:af)(k78:K'):M Flow':=bnd (bnd (ac (aa LY (nm "m"))) λMM=>ag .FloorDiv MM (.int 10)) λMN=>bnd (ret (aj LY (nm "m") MN)) λLZ=>bnd (bnd (ac (aa LZ (nm "e"))) λPi=>ag .Add Pi (.int 1)) λL0=>bnd (ret (aj LZ (nm "e") L0)) λJ6=>k78 J6
noncomputable def tX(call:Str->List D->M D)(MO:af):M Bool:=bnd (bnd (ac (aa MO (nm "m"))) λPj=>ag .Mod Pj (.int 10)) λMP=>ae .Eq MP (.int 0)
noncomputable def gx(call:Str->List D->M D)(It Ir Ic:D):M Flow':=bnd (ae .Eq It (.int 0)) λc1=>if c1 then ret (.ret (.tup [(.int 0),(.int 0)])) else bnd (au (nm "abs") [It]) λt2=>az (ew call) (ey call) cC [(nm "over",It),(nm "under",Ir),(nm "digits",Ic),(nm "e",(.int 0)),(nm "size",t2)] λJY=>az (cS call) (cT call) cC JY λJk=>bnd (bnd (ac (aa Jk (nm "size"))) λJD=>bnd (ac (aa Jk (nm "under"))) λJ0=>ag .FloorDiv JD J0) λJ1=>bnd (ret (aj Jk (nm "m") J1)) λJH=>bnd (bnd (bnd (ac (aa JH (nm "size"))) λIN=>bnd (bnd (ac (aa JH (nm "m"))) λKr=>bnd (ac (aa JH (nm "under"))) λKc=>ag .Mult Kr Kc) λKi=>ag .Sub IN Ki) λJR=>ag .Mult (.int 2) JR) λL1=>bnd (ret (aj JH (nm "rest") L1)) λIE=>bnd (bnd (bnd (ac (aa IE (nm "rest"))) λJ2=>bnd (ac (aa IE (nm "under"))) λKq=>ae .Gt J2 Kq) λb46=>bj .Or b46 (bnd (bnd (bnd (ac (aa IE (nm "rest"))) λKl=>bnd (ac (aa IE (nm "under"))) λKB=>ae .Eq Kl KB) λb50=>bj .And b50 (bnd (bnd (bnd (ac (aa IE (nm "m"))) λKO=>ag .Mod KO (.int 2)) λKg=>ae .Eq Kg (.int 1)) λb53=>bj .And b53 (ret true))) λb49=>bj .Or b49 (ret false))) λMQ=>if MQ then bnd (bnd (ac (aa IE (nm "m"))) λJ3=>ag .Add J3 (.int 1)) λKm=>bnd (ret (aj IE (nm "m") Km)) λLb=>az (cU call) (cV call) cC Lb λIY=>bnd (aI [bnd (bnd (ac (aa IY (nm "over"))) λL2=>ae .Gt L2 (.int 0)) λMR=>if MR then ac (aa IY (nm "m")) else bnd (ac (aa IY (nm "m"))) λMS=>dm MS,ac (aa IY (nm "e"))]) λMT=>ret (.ret MT) else az (tW call) (tX call) cC IE λKU=>bnd (aI [bnd (bnd (ac (aa KU (nm "over"))) λL3=>ae .Gt L3 (.int 0)) λPk=>if Pk then ac (aa KU (nm "m")) else bnd (ac (aa KU (nm "m"))) λMU=>dm MU,ac (aa KU (nm "e"))]) λMV=>ret (.ret MV)
theorem nh(d:Nat)(It Ir Ic:D):run (d+1) (nm "_law_fit") [It,Ir,Ic]=aq (gx (run d) It Ir Ic):=by kernel_rfl
noncomputable def lB(call:Str->List D->M D)(Ih:D):M Flow':=bnd (bnd (bnd (subD Ih (.int 1)) λt2=>ae .GtE t2 (.int 0)) λc1=>if c1 then aI [bnd (subD Ih (.int 0)) λt3=>bnd (bnd (subD Ih (.int 1)) λt4=>ag .Pow (.int 10) t4) λt5=>ag .Mult t3 t5,ret (.int 1)] else aI [subD Ih (.int 0),bnd (bnd (subD Ih (.int 1)) λt6=>dm t6) λt7=>ag .Pow (.int 10) t7]) λt8=>ret (.ret t8)
theorem lC(d:Nat)(Ih:D):run (d+1) (nm "_law_fraction") [Ih]=aq (lB (run d) Ih):=by kernel_rfl
noncomputable def qV(call:Str->List D->M D)(IB H8:D):M Flow':=bnd (bnd (bnd (bnd (bnd (ag .Sub H8 (.int 1)) λt2=>ag .Pow (.int 2) t2) λt3=>dm t3) λt4=>bnd (ae .LtE t4 IB) λc5=>if c5 then bnd (bnd (ag .Sub H8 (.int 1)) λt6=>ag .Pow (.int 2) t6) λt7=>ae .Lt IB t7 else ret false) λc1=>if c1 then ret IB else ret (.none)) λt8=>ret (.ret t8)
theorem qW(d:Nat)(IB H8:D):run (d+1) (nm "_law_whole") [IB,H8]=aq (qV (run d) IB H8):=by kernel_rfl
noncomputable def oP(call:Str->List D->M D)(It Ir:D):M Flow':=bnd (bnd (au (nm "abs") [It]) λt1=>bnd (au (nm "abs") [Ir]) λt2=>ag .FloorDiv t1 t2) λt3=>bnd (bnd (bnd (bnd (ae .Lt It (.int 0)) λb5=>ret (.bool b5)) λt6=>bnd (bnd (ae .Lt Ir (.int 0)) λb7=>ret (.bool b7)) λt8=>ae .Eq t6 t8) λc4=>if c4 then ret t3 else dm t3) λt9=>ret (.ret t9)
theorem oQ(d:Nat)(It Ir:D):run (d+1) (nm "_law_toward") [It,Ir]=aq (oP (run d) It Ir):=by kernel_rfl
noncomputable def qX(call:Str->List D->M D)(Ih IB H8:D):M Flow':=bnd (bnd (ae .Lt IB (.int 0)) λb2=>bj .And b2 (bnd (ae .Eq Ih (.int 0)) λb3=>bj .And b3 (ret true))) λc1=>if c1 then ret (.ret .none) else bnd (ae .Lt IB (.int 0)) λc4=>if c4 then bnd (bnd (ah [ret (.int 1),bnd (bnd (ah [dm IB,bnd (ag .Mod IB (.int 2)) λt5=>ag .Add (.int 8) t5]) λl6=>au (nm "min") l6) λt7=>ag .Pow Ih t7]) λl8=>call (nm "_law_toward") l8) λt9=>ret (.ret t9) else bnd (bnd (au (nm "abs") [Ih]) λIS=>ae .Lt IS (.int 2)) λIT=>if IT then bnd (bnd (bnd (ae .Lt IB (.int 2)) λJx=>if Jx then ret IB else bnd (ag .Mod IB (.int 2)) λIP=>ag .Add (.int 2) IP) λI8=>ag .Pow Ih I8) λIu=>ret (.ret Iu) else bnd (bnd (ae .Lt IB (.int 40)) λKh=>if Kh then bnd (ah [ag .Pow Ih IB,ret H8]) λKL=>call (nm "_law_whole") KL else ret (.none)) λI1=>ret (.ret I1)
theorem qY(d:Nat)(Ih IB H8:D):run (d+1) (nm "_law_power") [Ih,IB,H8]=aq (qX (run d) Ih IB H8):=by kernel_rfl
noncomputable def wX(call:Str->List D->M D)(ID H6 Ih Ik H8:D):M Flow':=bnd (ae .Eq H6 (.int 0)) λc1=>if c1 then bnd (ae .Eq ID (.str (nm "powi"))) λc2=>if c2 then bnd (call (nm "_law_power") [Ih,Ik,H8]) λt3=>ret (.ret t3) else bnd (ae .Eq ID (.str (nm "div"))) λc4=>if c4 then bnd (bnd (ae .NotEq Ik (.int 0)) λc5=>if c5 then bnd (ah [call (nm "_law_toward") [Ih,Ik],ret H8]) λl6=>call (nm "_law_whole") l6 else ret (.none)) λt7=>ret (.ret t7) else bnd (bnd (ah [bnd (fj [(ret (.str (nm "add")),ag .Add Ih Ik),(ret (.str (nm "sub")),ag .Sub Ih Ik),(ret (.str (nm "mul")),ag .Mult Ih Ik)]) λt8=>subD t8 ID,ret H8]) λl9=>call (nm "_law_whole") l9) λIL=>ret (.ret IL) else bnd (call (nm "_law_fraction") [Ih]) λIS=>bnd (dg [(nm "word",ID),(nm "kind",H6),(nm "x",Ih),(nm "y",Ik),(nm "width",H8)] [(nm "a"),(nm "b")] IS) λIH=>bnd (bnd (ah [ac (aa IH (nm "y"))]) λPl=>call (nm "_law_fraction") Pl) λI8=>bnd (dg IH [(nm "c"),(nm "d")] I8) λIy=>bnd (bnd (ac (aa Iy (nm "word"))) λIK=>ae .Eq IK (.str (nm "mul"))) λKh=>if Kh then bnd (bnd (ah [bnd (ac (aa Iy (nm "a"))) λI1=>bnd (ac (aa Iy (nm "c"))) λI2=>ag .Mult I1 I2,bnd (ac (aa Iy (nm "b"))) λI9=>bnd (ac (aa Iy (nm "d"))) λJB=>ag .Mult I9 JB,ret (.int 3)]) λL4=>call (nm "_law_fit") L4) λJr=>ret (.ret Jr) else bnd (bnd (ac (aa Iy (nm "word"))) λJw=>ae .Eq Jw (.str (nm "div"))) λKx=>if Kx then bnd (bnd (bnd (ac (aa Iy (nm "c"))) λJN=>ae .Eq JN (.int 0)) λMW=>if MW then ret (.none) else bnd (ah [bnd (bnd (ac (aa Iy (nm "c"))) λJt=>ae .Gt Jt (.int 0)) λMX=>if MX then bnd (ac (aa Iy (nm "a"))) λJu=>bnd (ac (aa Iy (nm "d"))) λKM=>ag .Mult Ju KM else bnd (bnd (ac (aa Iy (nm "a"))) λJO=>dm JO) λJZ=>bnd (ac (aa Iy (nm "d"))) λJD=>ag .Mult JZ JD,bnd (ac (aa Iy (nm "b"))) λJ0=>bnd (bnd (ah [ac (aa Iy (nm "c"))]) λL5=>au (nm "abs") L5) λKN=>ag .Mult J0 KN,ret (.int 3)]) λPm=>call (nm "_law_fit") Pm) λKr=>ret (.ret Kr) else bnd (bnd (ah [bnd (bnd (ac (aa Iy (nm "word"))) λKi=>ae .Eq Ki (.str (nm "add"))) λLc=>if Lc then bnd (bnd (ac (aa Iy (nm "a"))) λJR=>bnd (ac (aa Iy (nm "d"))) λL1=>ag .Mult JR L1) λJE=>bnd (bnd (ac (aa Iy (nm "c"))) λKe=>bnd (ac (aa Iy (nm "b"))) λKf=>ag .Mult Ke Kf) λJ2=>ag .Add JE J2 else bnd (bnd (ac (aa Iy (nm "a"))) λKq=>bnd (ac (aa Iy (nm "d"))) λKs=>ag .Mult Kq Ks) λL6=>bnd (bnd (ac (aa Iy (nm "c"))) λKl=>bnd (ac (aa Iy (nm "b"))) λKB=>ag .Mult Kl KB) λL7=>ag .Sub L6 L7,bnd (ac (aa Iy (nm "b"))) λKO=>bnd (ac (aa Iy (nm "d"))) λKg=>ag .Mult KO Kg,ret (.int 3)]) λPn=>call (nm "_law_fit") Pn) λKm=>ret (.ret Km)
theorem ni(d:Nat)(ID H6 Ih Ik H8:D):run (d+1) (nm "_law_two") [ID,H6,Ih,Ik,H8]=aq (wX (run d) ID H6 Ih Ik H8):=by kernel_rfl
noncomputable def qZ(call:Str->List D->M D)(H6 Ih Ik:D):M Flow':=bnd (ae .Eq H6 (.int 1)) λc1=>if c1 then bnd (call (nm "_law_fraction") [Ih]) λt2=>bnd (dg [(nm "kind",H6),(nm "x",Ih),(nm "y",Ik)] [(nm "a"),(nm "b")] t2) λIQ=>bnd (bnd (ah [ac (aa IQ (nm "y"))]) λl4=>call (nm "_law_fraction") l4) λt5=>bnd (dg IQ [(nm "c"),(nm "d")] t5) λKn=>bnd (aI [bnd (ac (aa Kn (nm "a"))) λt7=>bnd (ac (aa Kn (nm "d"))) λt8=>ag .Mult t7 t8,bnd (ac (aa Kn (nm "c"))) λt9=>bnd (ac (aa Kn (nm "b"))) λIL=>ag .Mult t9 IL]) λIS=>bnd (dg Kn [(nm "x"),(nm "y")] IS) λIH=>bnd (bnd (ac (aa IH (nm "kind"))) λI8=>ae .Eq I8 (.int 5)) λKJ=>if KJ then bnd (aI [bnd (ac (aa IH (nm "x"))) λIu=>bnd (a_ Iu (nm "ljust")) λk16=>be call Iu k16 [(.int 60)],bnd (ac (aa IH (nm "y"))) λIK=>bnd (a_ IK (nm "ljust")) λk18=>be call IK k18 [(.int 60)]]) λI2=>bnd (dg IH [(nm "x"),(nm "y")] I2) λJk=>bnd (bnd (bnd (ac (aa Jk (nm "x"))) λJC=>bnd (ac (aa Jk (nm "y"))) λJr=>ae .Eq JC Jr) λKS=>if KS then ret (.int 0) else bnd (bnd (ac (aa Jk (nm "x"))) λJw=>bnd (ac (aa Jk (nm "y"))) λJL=>ae .Gt Jw JL) λKx=>if Kx then ret (.int 1) else ret ((.int (-1)))) λJN=>ret (.ret JN) else bnd (bnd (bnd (ac (aa IH (nm "x"))) λJt=>bnd (ac (aa IH (nm "y"))) λJu=>ae .Eq Jt Ju) λMX=>if MX then ret (.int 0) else bnd (bnd (ac (aa IH (nm "x"))) λJO=>bnd (ac (aa IH (nm "y"))) λJZ=>ae .Gt JO JZ) λMY=>if MY then ret (.int 1) else ret ((.int (-1)))) λJD=>ret (.ret JD) else bnd (ae .Eq H6 (.int 5)) λMD=>if MD then bnd (aI [bnd (a_ Ih (nm "ljust")) λk36=>be call Ih k36 [(.int 60)],bnd (a_ Ik (nm "ljust")) λk37=>be call Ik k37 [(.int 60)]]) λIN=>bnd (dg [(nm "kind",H6),(nm "x",Ih),(nm "y",Ik)] [(nm "x"),(nm "y")] IN) λI4=>bnd (bnd (bnd (ac (aa I4 (nm "x"))) λKi=>bnd (ac (aa I4 (nm "y"))) λJR=>ae .Eq Ki JR) λLc=>if Lc then ret (.int 0) else bnd (bnd (ac (aa I4 (nm "x"))) λJE=>bnd (ac (aa I4 (nm "y"))) λKe=>ae .Gt JE Ke) λMv=>if Mv then ret (.int 1) else ret ((.int (-1)))) λKf=>ret (.ret Kf) else bnd (bnd (ae .Eq Ih Ik) λPo=>if Po then ret (.int 0) else bnd (ae .Gt Ih Ik) λPp=>if Pp then ret (.int 1) else ret ((.int (-1)))) λKs=>ret (.ret Ks)
theorem gc(d:Nat)(H6 Ih Ik:D):run (d+1) (nm "_law_order") [H6,Ih,Ik]=aq (qZ (run d) H6 Ih Ik):=by kernel_rfl
noncomputable def tY(call:Str->List D->M D)(Il IM Jm:D):M Flow':=bnd (bnd (subD Il IM) λt1=>bnd (a_ t1 (nm "get")) λk2=>be call t1 k2 [Jm]) λt3=>ret (.ret t3)
theorem tZ(d:Nat)(Il IM Jm:D):run (d+1) (nm "_law_held") [Il,IM,Jm]=aq (tY (run d) Il IM Jm):=by kernel_rfl
noncomputable def ez(call:Str->List D->M D)(KI:af)(k11:K'):M Flow':=bnd (bnd (bnd (bnd (call (nm "_law_places") []) λIu=>bnd (bnd (ac (aa KI (nm "tree"))) λIR=>subD IR (.int 2)) λIK=>subD Iu IK) λI1=>subD I1 (.int 3)) λI2=>bnd (ac (aa KI (nm "at"))) λI9=>subD I2 I9) λJB=>bnd (dg KI [(nm "low"),(nm "high")] JB) λJ4=>bnd (bnd (bnd (ac (aa J4 (nm "low"))) λJw=>bnd (bnd (ac (aa J4 (nm "found"))) λJL=>bnd (ac (aa J4 (nm "at"))) λJN=>subD JL JN) λOY=>bnd (ae .LtE Jw OY) λPq=>if Pq then bnd (ac (aa J4 (nm "high"))) λJu=>ae .LtE OY Ju else ret false) λb24=>ret (!b24)) λPr=>if Pr then ret (.ret .none) else k11 J4
noncomputable def jl(call:Str->List D->M D)(Il H7 H8:D):M Flow':=bnd (bnd (bnd (subD H7 (.int 3)) λt2=>bnd (aZ t2) λl3=>aM (λd4 Jp=>bnd (call (nm "_law_value") [Il,d4,H8]) λt6=>if ao (Jp).length then ret (Jp++[t6]) else stuck) l3 []) λl1=>ret (.list l1)) λt7=>bnd (ae .In .none t7) λc8=>if c8 then ret (.ret .none) else bnd (bnd (ah [au (nm "len") [t7]]) λPs=>au (nm "range") Ps) λJO=>dL JO λLM=>aG (ez call) (λIo My=>ret (aj Io (nm "at") My)) LM [(nm "held",Il),(nm "tree",H7),(nm "width",H8),(nm "found",t7)] λIU=>bnd (bnd (ah [ac (aa IU (nm "found"))]) λKQ=>au (nm "tuple") KQ) λJD=>ret (.ret JD)
theorem eE(d:Nat)(Il H7 H8:D):run (d+1) (nm "_law_subscripts") [Il,H7,H8]=aq (jl (run d) Il H7 H8):=by kernel_rfl
noncomputable def bw(call:Str->List D->M D)(Il H7 H8:D):M Flow':=bnd (subD H7 (.int 0)) λt1=>bnd (ae .Eq t1 (.str (nm "const"))) λc2=>if c2 then bnd (subD H7 (.int 2)) λt3=>ret (.ret t3) else bnd (ae .Eq t1 (.str (nm "var"))) λc4=>if c4 then bnd (bnd (ah [ret Il,subD H7 (.int 2),ret ((.tup []))]) λl5=>call (nm "_law_held") l5) λt6=>ret (.ret t6) else bnd (ae .Eq t1 (.str (nm "elem"))) λc7=>if c7 then bnd (call (nm "_law_subscripts") [Il,H7,H8]) λt8=>bnd (bnd (ae .Is t8 .none) λc9=>if c9 then ret (.none) else bnd (ah [ret Il,subD H7 (.int 2),ret t8]) λKj=>call (nm "_law_held") Kj) λIS=>ret (.ret IS) else bnd (ae .Eq t1 (.str (nm "substr"))) λJx=>if Jx then bnd (call (nm "_law_part") [Il,H7,H8]) λIP=>ret (.ret IP) else bnd (bnd (ah [ret Il,subD H7 (.int 2),ret H8]) λKR=>call (nm "_law_value") KR) λIu=>bnd (ae .Is Iu .none) λKh=>if Kh then ret (.ret .none) else bnd (ae .Eq t1 (.str (nm "not"))) λME=>if ME then bnd (bnd (cz Iu) λb18=>ret (.bool !b18)) λI2=>ret (.ret I2) else bnd (ae .Eq t1 (.str (nm "neg"))) λL8=>if L8 then bnd (bnd (bnd (subD H7 (.int 1)) λJC=>ae .Eq JC (.int 0)) λKS=>if KS then bnd (ah [dm Iu,ret H8]) λLd=>call (nm "_law_whole") Ld else aI [bnd (subD Iu (.int 0)) λJs=>dm Js,subD Iu (.int 1)]) λJw=>ret (.ret Jw) else bnd (bnd (ae .Eq t1 (.str (nm "conv"))) λb27=>bj .And b27 (bnd (bnd (subD H7 (.int 1)) λJt=>ae .Eq Jt (.int 1)) λb28=>bj .And b28 (ret true))) λMW=>if MW then bnd (call (nm "_law_fit") [Iu,(.int 1),(.int 3)]) λJu=>ret (.ret Ju) else bnd (ae .Eq t1 (.str (nm "conv"))) λMY=>if MY then bnd (call (nm "_law_fraction") [Iu]) λJO=>bnd (dg [(nm "held",Il),(nm "tree",H7),(nm "width",H8),(nm "word",t1),(nm "x",Iu)] [(nm "over"),(nm "under")] JO) λJ7=>bnd (bnd (ah [bnd (ah [ac (aa J7 (nm "over")),ac (aa J7 (nm "under"))]) λLQ=>call (nm "_law_toward") LQ,ac (aa J7 (nm "width"))]) λL9=>call (nm "_law_whole") L9) λJ1=>ret (.ret J1) else bnd (bnd (ah [ret Il,subD H7 (.int 3),ret H8]) λL_=>call (nm "_law_value") L_) λIN=>bnd (ae .Is IN .none) λMZ=>if MZ then ret (.ret .none) else bnd (bnd (call (nm "_law_relations") []) λKi=>ae .In t1 Ki) λLc=>if Lc then bnd (bnd (ah [bnd (subD H7 (.int 2)) λJR=>subD JR (.int 1),ret Iu,ret IN]) λMa=>call (nm "_law_order") Ma) λJE=>bnd (bnd (fj [(ret (.str (nm "eq")),bnd (ae .Eq JE (.int 0)) λb45=>ret (.bool b45)),(ret (.str (nm "ne")),bnd (ae .NotEq JE (.int 0)) λb46=>ret (.bool b46)),(ret (.str (nm "lt")),bnd (ae .Lt JE (.int 0)) λb47=>ret (.bool b47)),(ret (.str (nm "le")),bnd (ae .Lt JE (.int 1)) λb48=>ret (.bool b48)),(ret (.str (nm "gt")),bnd (ae .Gt JE (.int 0)) λb49=>ret (.bool b49)),(ret (.str (nm "ge")),bnd (ae .Gt JE (.int (-1))) λb50=>ret (.bool b50))]) λKl=>subD Kl t1) λKB=>ret (.ret KB) else bnd (ae .In t1 (.tup [(.str (nm "and")),(.str (nm "or")),(.str (nm "eqv")),(.str (nm "neqv"))])) λLT=>if LT then bnd (bnd (fj [(ret (.str (nm "and")),au (nm "min") [Iu,IN]),(ret (.str (nm "or")),au (nm "max") [Iu,IN]),(ret (.str (nm "eqv")),bnd (ae .Eq Iu IN) λb54=>ret (.bool b54)),(ret (.str (nm "neqv")),bnd (ae .NotEq Iu IN) λb55=>ret (.bool b55))]) λJ3=>subD J3 t1) λKm=>ret (.ret Km) else bnd (bnd (ae .Eq t1 (.str (nm "cat"))) λM0=>if M0 then ag .Add Iu IN else bnd (ah [ret t1,subD H7 (.int 1),ret Iu,ret IN,ret H8]) λLU=>call (nm "_law_two") LU) λK7=>ret (.ret K7)
theorem bR(d:Nat)(Il H7 H8:D):run (d+1) (nm "_law_value") [Il,H7,H8]=aq (bw (run d) Il H7 H8):=by kernel_rfl
noncomputable def lD(call:Str->List D->M D)(Il H7 H8:D):M Flow':=bnd (subD H7 (.int 2)) λt1=>bnd (bnd (bnd (subD t1 (.int 0)) λt3=>ae .Eq t3 (.str (nm "var"))) λc2=>if c2 then ret ((.tup [])) else call (nm "_law_subscripts") [Il,t1,H8]) λt4=>bnd (ae .Is t4 .none) λc5=>if c5 then ret (.ret .none) else bnd (bnd (bnd (call (nm "_law_places") []) λt6=>bnd (subD t1 (.int 2)) λt7=>subD t6 t7) λt8=>subD t8 (.int 2)) λt9=>bnd (bnd (bnd (subD H7 (.int 3)) λIS=>ae .Is IS .none) λIT=>if IT then ret (.int 1) else bnd (subD H7 (.int 3)) λIO=>subD IO (.int 2)) λIP=>bnd (bnd (bnd (subD H7 (.int 4)) λIu=>ae .Is Iu .none) λKy=>if Ky then ret t9 else bnd (subD H7 (.int 4)) λIR=>subD IR (.int 2)) λIK=>bnd (bnd (bnd (ae .LtE (.int 1) IP) λL8=>if L8 then bnd (ae .LtE IP IK) λKS=>if KS then ae .LtE IK t9 else ret false else ret false) λb19=>ret (!b19)) λM1=>if M1 then ret (.ret .none) else bnd (bnd (ah [ret Il,subD t1 (.int 2),ret t4]) λL4=>call (nm "_law_held") L4) λJr=>bnd (bnd (ae .Is Jr .none) λKx=>if Kx then ret (.none) else bnd (ag .Sub IP (.int 1)) λJw=>bu Jr Jw IK) λJL=>ret (.ret JL)
theorem t_(d:Nat)(Il H7 H8:D):run (d+1) (nm "_law_part") [Il,H7,H8]=aq (lD (run d) Il H7 H8):=by kernel_rfl
set_option exponentiation.threshold 10000
noncomputable def aQ:Option D->M D
 | some d=>ret d
 | none=>aP
theorem lE{α β γ:Type}(m:M α)(f:α->M β)(g:β->M γ):bnd (bnd m f) g=bnd m λa=>bnd (f a) g:=by funext σ;unfold bnd;induction m σ <;> rfl
theorem C9{α:Type}(m:M α):bnd m ret=m:=by funext σ;unfold bnd;induction h:m σ <;> rfl
theorem yP{α β:Type}(c:Prop)[Decidable c](a b:M α)(f:α->M β):bnd (if c then a else b) f=if c then bnd a f else bnd b f:=by split <;> rfl
theorem e9{α:Type}(m:M α)(f:α->M Flow'):aq (bnd m f)=bnd m λa=>aq (f a):=lE ..
theorem C_(c:Prop)[Decidable c](a b:M Flow'):aq (if c then a else b)=if c then aq a else aq b:=by split <;> rfl
theorem SM:(∀ {α β:Type} (a:α) (f:α->M β),bnd (ret a) f=f a)/\(∀ {α β γ:Type} (m:M α) (f:α->M β) (g:β->M γ),bnd (bnd m f) g=bnd m λa=>bnd (f a) g)
  ∧ (∀ {α β:Type} (f:α->M β),bnd stuck f=stuck)/\(∀ {α β:Type} (f:α->M β),bnd aP f=aP)/\(∀ {α β:Type} (c:Prop) [Decidable c] (a b:M α) (f:α->M β),bnd (if c then a else b) f=if c then bnd a f else bnd b f)
  ∧ (∀ {α:Type} (a:α),ac (some a)=ret a)/\(∀ {α:Type},ac (none:Option α)=stuck)
  ∧ (∀ d,aq (ret (.ret d))=ret d)/\(∀ fr,aq (ret (.next fr))=ret .none)/\(aq aP=aP)/\(aq stuck=stuck)
  ∧ (∀ {α:Type} (m:M α) (f:α->M Flow'),aq (bnd m f)=bnd m λa=>aq (f a))/\(∀ (c:Prop) [Decidable c] (a b:M Flow'),aq (if c then a else b)=if c then aq a else aq b)
  ∧ (∀ b x,bj .And b x=if b=true then x else ret false)/\(∀ b x,bj .Or b x=if b=true then ret true else x)
  ∧ (∀ b v x,Bc .And b v x=if b=true then x else ret v)/\(∀ b v x,Bc .Or b v x=if b=true then ret v else x)
  ∧ (ah []=ret [])/\(∀ m ms,ah (m::ms)=bnd m λa=>bnd (ah ms) λl=>ret (a::l))
  ∧ (aQ none=aP)/\(∀ d,aQ (some d)=ret d)/\(∀ (c:Prop) [Decidable c] a b,aQ (if c then a else b)=if c then aQ a else aQ b)/\(∀ {α:Type} (m:M α),(bnd m λa=>ret a)=m):=
 ⟨λ_ _=>rfl,lE,λ_=>rfl,λ_=>rfl,yP,λ_=>rfl,rfl,λ_=>rfl,λ_=>rfl,rfl,rfl,e9,C_,
  λb x=>by induction b <;> rfl,λb x=>by induction b <;> rfl,λb v x=>by induction b <;> rfl,λb v x=>by induction b <;> rfl,rfl,λ_ _=>rfl,rfl,λ_=>rfl,λc _ a b=>by split <;> rfl,C9⟩
theorem SI:(∀ x y:Int,ae .Eq (.int x) (.int y)=ret (decide (x=y)))/\(∀ x y:Int,ae .NotEq (.int x) (.int y)=ret (!decide (x=y)))/\(∀ x y:Int,ae .Lt (.int x) (.int y)=ret (decide (x<y)))
  ∧ (∀ x y:Int,ae .LtE (.int x) (.int y)=ret (decide (x<=y)))/\(∀ x y:Int,ae .Gt (.int x) (.int y)=ret (decide (y<x)))/\(∀ x y:Int,ae .GtE (.int x) (.int y)=ret (decide (y<=x)))
  ∧ (∀ x y:Bool,ae .Eq (.bool x) (.bool y)=ret (x==y))/\(∀ x y:Bool,ae .NotEq (.bool x) (.bool y)=ret (!(x==y)))
  ∧ (∀ x y:Str,ae .Eq (.str x) (.str y)=ret (decide (x=y)))/\(∀ x y:Str,ae .NotEq (.str x) (.str y)=ret (!decide (x=y)))
  ∧ (∀ x:Int,ae .IsNot (.int x) .none=ret true)/\(∀ x:Int,ae .Is (.int x) .none=ret false)/\(ae .Is .none .none=ret true)/\(ae .IsNot .none .none=ret false)
  ∧ (∀ x y:Int,ag .Add (.int x) (.int y)=ret (.int (x+y)))/\(∀ x y:Int,ag .Sub (.int x) (.int y)=ret (.int (x - y)))
  ∧ (∀ x y:Int,ag .Mult (.int x) (.int y)=if (fits x&&fits y)=true then ret (.int (x*y)) else stuck)
  ∧ (∀ x y:Int,ag .FloorDiv (.int x) (.int y)=if y≠0/\fits x=true/\fits y=true then ret (.int (x.fdiv y)) else stuck)
  ∧ (∀ x y:Int,ag .Mod (.int x) (.int y)=if y≠0 then ret (.int (x.fmod y)) else stuck)
  ∧ (∀ x y:Int,ag .Pow (.int x) (.int y)=if 0<=y/\y<=4000/\fits x=true then ret (.int (x ^ y.toNat)) else stuck)
  ∧ (∀ x y:Int,ag .LShift (.int x) (.int y)=if 0<=y/\y<=4000/\fits x=true then ret (.int (x*2 ^ y.toNat)) else stuck)
  ∧ (∀ x:Int,dm (.int x)=ret (.int (-x)))/\(∀ b,cz (.bool b)=ret b)/\(∀ i:Int,cz (.int i)=ret (i !=0))
  ∧ (∀ op (a b:Int) k,uR op (.int a) (.int b) k=bnd (ag op (.int a) (.int b)) k):=
 ⟨λ_ _=>rfl,λ_ _=>rfl,λ_ _=>rfl,λ_ _=>rfl,λ_ _=>rfl,λ_ _=>rfl,λ_ _=>rfl,λ_ _=>rfl,λ_ _=>rfl,λ_ _=>rfl,λ_=>rfl,λ_=>rfl,rfl,rfl,
  λ_ _=>rfl,λ_ _=>rfl,λ_ _=>rfl,λ_ _=>rfl,λ_ _=>rfl,λ_ _=>rfl,λ_ _=>rfl,λ_=>rfl,λ_=>rfl,λ_=>rfl,λ_ _ _ _=>rfl⟩
theorem u9(a b:String):(nm a=nm b)=(a=b):=by
 apply propext
 refine⟨λh=>?_,λh=>by rw[h]⟩;unfold nm at h;simp only[Str.ofString_eq_toList,Str.ofString_eq_toList]at h;injection h with h
 have h:a.toList.map Char.toNat=b.toList.map Char.toNat:=by injection h
 exact String.toList_inj.mp ((List.map_inj_right (f:=Char.toNat) λx y e=>Char.toNat_inj.mp e).mp h)
theorem SF:(∀ a b:String,(nm a=nm b)=(a=b))/\(∀ x,aa [] x=none)/\(∀ y d r x,aa ((y,d)::r) x=if y=x then some d else aa r x)
  ∧ (∀ x d,aj [] x d=[(x,d)])/\(∀ y e r x d,aj ((y,e)::r) x d=if y=x then (y,d)::r else (y,e)::aj r x d)
  ∧ (∀ fr,wH fr [] []=ret fr)/\(∀ fr x xs d ds,wH fr (x::xs) (d::ds)=wH (aj fr x d) xs ds)/\(∀ fr xs l,dg fr xs (.tup l)=wH fr xs l):=
 ⟨u9,λ_=>rfl,λ_ _ _ _=>rfl,λ_ _=>rfl,λ_ _ _ _ _=>rfl,λ_=>rfl,λ_ _ _ _ _=>rfl,λ_ _ _=>rfl⟩
theorem j_{x:Int}{k:Nat}(hk:k<=8192)(h:x.natAbs<2 ^ k):fits x=true:=by unfold fits xq;simp only[decide_eq_true_eq];exact PR h (Nat.pow_le_pow_right (by lia) hk)
theorem ak{k d:Nat}(h:k+1<=d):∃ e,d=e+1/\k<=e:=⟨d - 1,by lia,by lia⟩
theorem SB:(∀ a,au (nm "len") [a]=xA a)/\(∀ i:Int,au (nm "abs") [.int i]=ret (.int i.natAbs))/\(∀ a b:Int,au (nm "min") [.int a,.int b]=ret (.int (if b<a then b else a)))
  ∧ (∀ a b:Int,au (nm "max") [.int a,.int b]=ret (.int (if a<b then b else a)))/\(∀ a b:Bool,au (nm "min") [.bool a,.bool b]=ret (.bool (a&&b)))/\(∀ a b:Bool,au (nm "max") [.bool a,.bool b]=ret (.bool (a||b)))
  ∧ (∀ b:Int,au (nm "range") [.int b]=if b<=100000 then ret (.range 0 b) else stuck)/\(∀ a b:Int,au (nm "range") [.int a,.int b]=if -100000<=a/\b<=100000 then ret (.range a b) else stuck)
  ∧ (∀ a b:Int,au (nm "divmod") [.int a,.int b]=if b≠0/\fits a=true/\fits b=true then ret (.tup [.int (a.fdiv b),.int (a.fmod b)]) else stuck)
  ∧ (∀ l:List D,au (nm "tuple") [.list l]=if ao l.length=true then ret (.tup l) else stuck)/\(∀ a,au (nm "isinstance") [a,.blt (nm "bool")]=nL a)/\(∀ a,au (nm "isinstance") [a,.blt (nm "tuple")]=su a):=
 ⟨λ_=>by kernel_rfl,λ_=>by kernel_rfl,λ_ _=>by kernel_rfl,λ_ _=>by kernel_rfl,λ_ _=>by kernel_rfl,λ_ _=>by kernel_rfl,λ_=>by kernel_rfl,λ_ _=>by kernel_rfl,λ_ _=>by kernel_rfl,λ_=>by kernel_rfl,λ_=>by kernel_rfl,λ_=>by kernel_rfl⟩
theorem SL:(∀ (a b:Int) (f:List D->M Flow'),dL (.range a b) f=if -100000<=a/\a<=100000 ∧ -100000<=b/\b<=100000 then f (range a b) else stuck)/\(∀ (l:List D) (f:List D->M Flow'),dL (.list l) f=f l)/\(∀ (l:List D) (f:List D->M Flow'),dL (.tup l) f=f l)
  ∧ (∀ (l:List (Str×D)) (f:List D->M Flow'),dL (.sdict l) f=f (l.map λx=>.str x.1))/\(∀ (l:List (Str×D)) (f:List D->M Flow'),sF (.items l) f=f (l.map λx=>.tup [.str x.1,x.2]))
  ∧ (∀ a b:Int,aZ (.range a b)=if -100000<=a/\a<=100000 ∧ -100000<=b/\b<=100000 then ret (range a b) else stuck)/\(∀ l,aZ (.list l)=ret l)/\(∀ l,aZ (.tup l)=ret l):=
 ⟨λa b f=>by
  have e:dL (.range a b) f=bnd (if -100000<=a/\a<=100000 ∧ -100000<=b/\b<=100000 then ret (range a b) else stuck) f:=by kernel_rfl
  simp only[e,yP];rfl,λ_ _=>by kernel_rfl,λ_ _=>by kernel_rfl,λ_ _=>by kernel_rfl,λ_ _=>by kernel_rfl,λ_ _=>rfl,λ_=>rfl,λ_=>rfl⟩
theorem B1{α β:Type}{m:M α}{f:α->M β}{a:α}{r:M β}(h:m=ret a)(k:f a=r):bnd m f=r:=by rw[h];exact k
theorem BF{α β:Type}{m:M α}{f:α->M β}(h:m=aP):bnd m f=aP:=by rw[h];rfl
theorem E1{m:M Flow'}{d:D}(h:m=ret (.ret d)):aq m=ret d:=by rw[h];rfl
theorem EF{m:M Flow'}(h:m=aP):aq m=aP:=by rw[h];rfl
theorem iT{α:Type}{c:Prop}[Decidable c]{A B r:α}(h:c)(k:A=r):(if c then A else B)=r:=by rw[PY h];exact k
theorem iF{α:Type}{c:Prop}[Decidable c]{A B r:α}(h:¬ c)(k:B=r):(if c then A else B)=r:=by rw[PZ h];exact k
theorem oF{b:Bool}{x r:M Bool}(h:b=false)(k:x=r):bj .Or b x=r:=by rw[h];exact k
theorem oT{b:Bool}{x:M Bool}(h:b=true):bj .Or b x=ret true:=by rw[h];rfl
theorem aT{b:Bool}{x r:M Bool}(h:b=true)(k:x=r):bj .And b x=r:=by rw[h];exact k
theorem aF{b:Bool}{x:M Bool}(h:b=false):bj .And b x=ret false:=by rw[h];rfl
theorem eV{m:M D}{ms a l}(h:m=ret a)(k:ah ms=ret l):ah (m::ms)=ret (a::l):=B1 h (B1 k rfl)
theorem tU{ms l}(h:ah ms=ret l)(k:ao l.length=true):aI ms=ret (.tup l):=B1 h (iT k rfl)
theorem lI{ms l}(h:ah ms=ret l)(k:ao l.length=true):dk ms=ret (.list l):=B1 h (iT k rfl)
theorem pC{k v:M D}{r a b x y}(h:k=ret a)(h2:v=ret b)(h3:ox r=ret (x,y)):ox ((k,v)::r)=ret (a::x,b::y):=B1 h (B1 h2 (B1 h3 rfl))
theorem eC{f:D->List D->M (List D)}{d ds acc a r}(h:f d acc=ret a)(k:aM f ds a=r):aM f (d::ds) acc=r:=B1 h k
theorem oR{x y:Int}(h:fits x=true)(k:fits y=true):ag .Mult (.int x) (.int y)=ret (.int (x*y)):=PY (by rw[h,k];rfl)
theorem Bh{x y:Int}(z:y≠0)(h:fits x=true)(k:fits y=true):ag .FloorDiv (.int x) (.int y)=ret (.int (x.fdiv y)):=PY ⟨z,h,k⟩
theorem FU{x y:Int}(z:y≠0):ag .Mod (.int x) (.int y)=ret (.int (x.fmod y)):=PY z
theorem Da{x y:Int}(z:0<=y)(z':y<=4000)(h:fits x=true):ag .Pow (.int x) (.int y)=ret (.int (x ^ y.toNat)):=PY ⟨z,z',h⟩
theorem E9{x y:Int}(z:0<=y)(z':y<=4000)(h:fits x=true):ag .LShift (.int x) (.int y)=ret (.int (x*2 ^ y.toNat)):=PY ⟨z,z',h⟩
theorem dT{p:Prop}[Decidable p](h:p):decide p=true:=decide_eq_true h
theorem dF{p:Prop}[Decidable p](h:¬ p):decide p=false:=decide_eq_false h
theorem nT{b:Bool}(h:b=false):(!b)=true:=by rw[h];rfl
theorem nF{b:Bool}(h:b=true):(!b)=false:=by rw[h];rfl
theorem tF{b:Bool}(h:b=false):¬ b=true:=by rw[h];decide
theorem bd{α β:Type}{m:M α}{f:α->M β}{a:α}{σ σ':St}{r:R β}(h:m σ=.ok a σ')(k:f a σ'=r):bnd m f σ=r:=by unfold bnd;exact h ▸ k
theorem rS{α:Type}{m:M α}{a:α}{σ:St}(h:m=ret a):m σ=.ok a σ:=by rw[h];rfl
theorem F_{m:M Flow'}{d:D}{σ σ':St}(h:m σ=.ok (.ret d) σ'):aq m σ=.ok d σ':=bd h rfl
theorem Eg{α:Type}{c:Prop}[Decidable c]{A B:M α}{σ r}(h:c)(k:A σ=r):(if c then A else B) σ=r:=by rw[PY h];exact k
theorem Ga{α:Type}{c:Prop}[Decidable c]{A B:M α}{σ r}(h:¬ c)(k:B σ=r):(if c then A else B) σ=r:=by rw[PZ h];exact k
theorem Gb{b:Bool}{x:M Bool}{σ r}(h:b=false)(k:x σ=r):bj .Or b x σ=r:=by rw[h];exact k
theorem Gc{b:Bool}{x:M Bool}{σ r}(h:b=true)(k:x σ=r):bj .And b x σ=r:=by rw[h];exact k
theorem bY{m:M D}{ms a l σ σ' σ''}(h:m σ=.ok a σ')(k:ah ms σ'=.ok l σ''):ah (m::ms) σ=.ok (a::l) σ'':=bd h (bd k rfl)
theorem Gd{ms l σ σ'}(h:ah ms σ=.ok l σ')(k:ao l.length=true):aI ms σ=.ok (.tup l) σ':=bd h (Eg k rfl)
theorem EJ{f:D->List D->M (List D)}{d ds acc a σ σ' r}(h:f d acc σ=.ok a σ')(k:aM f ds a σ'=r):aM f (d::ds) acc σ=r:=bd h k
theorem ET{m r:M D}(h:m=r):aq (bnd m λt=>ret (.ret t))=r:=by subst h;funext σ;unfold aq bnd;induction m σ <;> rfl
theorem Ge{m:M Flow'}{x:M D}(h:aq m=x):aq m=x:=h
theorem FV{m:M Flow'}{σ:St}{x:R D}(h:aq m σ=x):aq m σ=x:=h
theorem Be{α:Type}{m:M α}{f:α->M Flow'}{a:α}{r:M D}(h:m=ret a)(k:aq (f a)=r):aq (bnd m f)=r:=by rw[h];exact k
theorem Gf{c:Prop}[Decidable c]{A B:M Flow'}{r:M D}(h:c)(k:aq A=r):aq (if c then A else B)=r:=by rw[PY h];exact k
theorem Gg{c:Prop}[Decidable c]{A B:M Flow'}{r:M D}(h:¬ c)(k:aq B=r):aq (if c then A else B)=r:=by rw[PZ h];exact k
theorem pE{m:M D}{σ r}(h:m σ=r):aq (bnd m λt=>ret (.ret t)) σ=r:=by rw[ET rfl];exact h
theorem dy{α:Type}{m:M α}{f:α->M Flow'}{a:α}{σ σ':St}{r:R D}(h:m σ=.ok a σ')(k:aq (f a) σ'=r):aq (bnd m f) σ=r:=by have e:bnd m f σ=f a σ':=bd h rfl;unfold aq at k ⊢;refine PX ?_ k;unfold bnd at e ⊢;rw[e]
theorem q8{c:Prop}[Decidable c]{A B:M Flow'}{σ r}(h:c)(k:aq A σ=r):aq (if c then A else B) σ=r:=by rw[PY h];exact k
theorem gJ{c:Prop}[Decidable c]{A B:M Flow'}{σ r}(h:¬ c)(k:aq B σ=r):aq (if c then A else B) σ=r:=by rw[PZ h];exact k
theorem Eh{m:M D}{o:Option Int}(h:m=aQ (o.map .int)):(o=none/\m=aP)\/∃ v,o=some v/\m=ret (.int v):=by induction o with | none=>exact .inl ⟨rfl,h⟩ | some v=>exact .inr ⟨v,rfl,h⟩
theorem lk{fr:af}{x:Str}{v:D}(h:aa fr x=some v):ac (aa fr x)=ret v:=by rw[h];rfl
theorem cw:∀ (fr:af) (x:Str) (d:D) (y:Str),aa (aj fr x d) y=if x=y then some d else aa fr y:=by
 intro fr
 induction fr with
 | nil=>intro x d y;rfl
 | cons a fr ih=>
  intro x d y;obtain⟨z,e⟩:=a;dsimp only[aj]
  by_cases h:z=x
  ·rw[PY h];subst h
   by_cases h':z=y
   ·subst h';simp[aa]
   ·simp[aa,h']
  ·rw[PZ h]
   by_cases h':z=y
   ·subst h';have:¬ x=z:=λq=>h q.symm;simp[aa,this]
   ·simp only[aa,PZ h',ih]
theorem ua{fr:af}{x:Str}{v:D}:aa (aj fr x v) x=some v:=by rw[cw,PY rfl]
theorem zX{fr:af}{a b:String}{v w:D}(h:¬ a=b)(k:aa fr (nm b)=some v):aa (aj fr (nm a) w) (nm b)=some v:=by rw[cw,PZ λe=>h ((u9 a b).mp e)];exact k
theorem Bm{α β:Type}{m m':M α}{f f':α->M β}(h:m=m')(k:f=f'):bnd m f=bnd m' f':=by rw[h,k]
local macro_rules | `(tactic| walk_at $s:str)=>do
 let f:=λ(x:String)=>
  let i:=Lean.mkIdent (.mkSimple (x.drop 1).toString)
  match x.front with
  | '.'=>`(tactic| with_reducible apply $i)
  | '?'=>`(tactic| (with_reducible apply $i;walk_at "c"))
  | '!'=>`(tactic| apply $i)
  | '#'=>`(tactic| decide)
  | '&'=>`(tactic| focus (walk_at "e";done))
  | '-'=>`(tactic| with_reducible assumption)
  | _=>`(tactic| walk_at $(Lean.Syntax.mkStrLit x))
 let p:=match s.getString with
  | "l"=>"- .ua .zX;#;l"
  | "c"=>"- .dT;- .dF;- # ?nT ?nF ?tF"
  | "b"=>".oR;c;c .FU;c .Bh;c;c;c .Da;c;c;c .E9;c;c;c"
  | "k"=>".lk;l"
  | "e1"=>"- .B1 .eV .tU .lI ?iT ?iF ?oF ?oT ?aT ?aF b k !rfl .eC !B1"
  | "e"=>"*.E1 e1"
  | "t"=>"*.ET .Be ?Gf ?Gg .Ge;!Be e1"
  | "s1"=>"- .bd .bY .Gd ?Eg ?Ga ?Gb ?Gc .rS;s3 !rfl .EJ"
  | "s3"=>"- ?oT ?aF b k"
  | "s"=>"*.F_ s1"
  | "u"=>"*.pE .dy ?q8 ?gJ .FV;!dy s1"
  | "g"=>"*.GT .GE .GA ?Gj ?Gk ?gT ?gF ?F1 ?Gl ?gO ?gN .G1;& .Gi;!GE"
  | _=>""
 if p == "" then Lean.Macro.throwUnsupported
 let q <-((if p.front == '*' then (p.drop 1).toString else p).splitOn " ").foldrM (λx (r:Lean.TSyntax `tactic)=>do
  let a:=(<-(x.splitOn ";").mapM f).toArray
  `(tactic| first | ($[$a:tactic];*) | $r:tactic)) (← `(tactic| fail))
 if p.front == '*' then `(tactic| repeat' $q:tactic) else pure q
noncomputable def bb(w n:Int):Option Int:=if -2 ^ (w - 1).toNat<=n/\n<2 ^ (w - 1).toNat then some n else none
theorem bS{d:Nat}{n w:Int}(hd:1<=d)(h1:1<=w)(h2:w<=12):run d (nm "fit_int") [.int n,.int w]=aQ ((bb w n).map .int):=by
 refine am (ak hd) λd z1 _=>?_;rw[z1];rw[wJ];have e:fits 1=true:=by decide +kernel
 have e1:0<=w - 1/\w - 1<=4000:=by lia
 obtain⟨e0,e1⟩:=e1;have q:ag .LShift (.int 1) (.int (w - 1))=ret (.int (2 ^ (w - 1).toNat)):=by refine PX (E9 e0 e1 e) ?_;rw[Int.one_mul]
 unfold bb
 by_cases c1:-2 ^ (w - 1).toNat<=n
 ·have c1':¬ n < -2 ^ (w - 1).toNat:=Int.not_lt.mpr c1
  by_cases c2:n<2 ^ (w - 1).toNat
  ·have c2':¬ 2 ^ (w - 1).toNat<=n:=Int.not_le.mpr c2;rw[PY ⟨c1,c2⟩];exact E1 (by walk_at "e")
  ·have c2':2 ^ (w - 1).toNat<=n:=Int.not_lt.mp c2;rw[PZ λq=>c2 q.2];exact EF (by walk_at "e")
 ·have c1':n < -2 ^ (w - 1).toNat:=Int.not_le.mp c1;rw[PZ λq=>c1 q.1];exact EF (by walk_at "e")
theorem ub{w x:Int}(h2:w<=12)(h:bb w x=some y):fits x=true/\y=x ∧ -2048<=x/\x<2048:=by
 unfold bb at h
 split at h
 ·rename_i hc;cases h;have hp:(2:Int) ^ (w - 1).toNat<=2 ^ 11:=by
   have:(w - 1).toNat<=11:=by omega
   exact_mod_cast Nat.pow_le_pow_right (n:=2) (by omega) this
  have hb:(2:Int) ^ 11=2048:=by decide
  refine⟨j_ (k:=12) (by omega) ?_,rfl,by omega,by omega⟩;have:(2:Nat) ^ 12=4096:=by decide
  omega
 ·exact du h
theorem uc{d:Nat}{x y w:Int}(hd:2<=d)(h1:1<=w)(h2:w<=12):run d (nm "int_add") [.int x,.int y,.int w]=aQ ((bb w (x+y)).map .int):=by refine am (ak hd) λd z2 _=>?_;obtain rfl:=z2;rw[wL];have q:=bS (n:=x+y) (d:=d) (by assumption) h1 h2;exact ET (by walk_at "e")
theorem ud{d:Nat}{x y w:Int}(hd:2<=d)(h1:1<=w)(h2:w<=12):run d (nm "int_sub") [.int x,.int y,.int w]=aQ ((bb w (x - y)).map .int):=by refine am (ak hd) λd z3 _=>?_;obtain rfl:=z3;rw[wN];have q:=bS (n:=x - y) (d:=d) (by assumption) h1 h2;exact ET (by walk_at "e")
theorem ue{d:Nat}{x y w:Int}(hd:2<=d)(h1:1<=w)(h2:w<=12)(hx:fits x=true)(hy:fits y=true):run d (nm "int_mul") [.int x,.int y,.int w]=aQ ((bb w (x*y)).map .int):=by refine am (ak hd) λd z4 _=>?_;obtain rfl:=z4;rw[wP];have q:=bS (n:=x*y) (d:=d) (by assumption) h1 h2;exact ET (by walk_at "e")
noncomputable def fF(x y:Int):Int:=if (decide (x<0)==decide (y<0))=true then ((x.natAbs / y.natAbs:Nat):Int) else -((x.natAbs / y.natAbs:Nat):Int)
theorem cf{x:Int}(h:fits x=true):fits (x.natAbs:Int)=true:=by unfold fits at *;simpa using h
theorem db(a b:Nat):(a:Int).fdiv b=((a / b:Nat):Int):=by exact(Int.fdiv_eq_ediv_of_nonneg _ (by lia))
theorem iV(a b:Nat):(a:Int).fmod b=((a % b:Nat):Int):=by exact(Int.fmod_eq_emod_of_nonneg _ (by omega))
theorem jR{d:Nat}{x y:Int}(hd:1<=d)(hx:fits x=true)(hy:fits y=true)(h0:y≠0):run d (nm "cut_quotient") [.int x,.int y]=ret (.int (fF x y)):=by
 refine am (ak hd) λd z5 _=>?_;obtain rfl:=z5;rw[li];have e1:(y.natAbs:Int)≠0:=by lia
 have q:ag .FloorDiv (.int x.natAbs) (.int y.natAbs)=ret (.int (x.natAbs / y.natAbs:Nat)):=by refine PX (Bh e1 (cf hx) (cf hy)) ?_;rw[db]
 unfold fF
 induction h:(decide (x<0)==decide (y<0))
 ·rw[PZ Bool.false_ne_true];walk_at "e"
 ·rw[PY rfl];walk_at "e"
theorem uf{d:Nat}{x y w:Int}(hd:2<=d)(h1:1<=w)(h2:w<=12)(hx:fits x=true)(hy:fits y=true):run d (nm "int_div") [.int x,.int y,.int w]=aQ (if y=0 then none else (bb w (fF x y)).map .int):=by
 refine am (ak hd) λd z6 _=>?_;obtain rfl:=z6;rw[wR]
 by_cases h0:y=0
 ·rw[PY h0];exact EF (B1 rfl (iT (dT h0) rfl))
 ·rw[PZ h0];have q1:=jR (d:=d) (by assumption) hx hy h0;have q:=bS (n:=fF x y) (d:=d) (by assumption) h1 h2;walk_at "t"
noncomputable def jm(x n:Int):Option Int:=if x=0 then none else if x=1\/(x = -1/\n.fmod 2=0) then some 1 else if x = -1 then some (-1) else some 0
theorem jn{d:Nat}{x n:Int}(hd:1<=d):run d (nm "inverse_power") [.int x,.int n]=aQ ((jm x n).map .int):=by
 refine am (ak hd) λd z7 _=>?_;obtain rfl:=z7;rw[jP];unfold jm
 by_cases c0:x=0
 ·rw[PY c0];exact EF (B1 rfl (iT (dT c0) rfl))
 ·rw[PZ c0]
  by_cases c1:x=1
  ·rw[PY (.inl c1)];exact E1 (by walk_at "e")
  ·by_cases c2:x = -1
   ·by_cases c3:n.fmod 2=0
    ·rw[PY (.inr ⟨c2,c3⟩)];exact E1 (by walk_at "e")
    ·rw[PZ λq=>q.elim c1 λq=>c3 q.2,PY c2];exact E1 (by walk_at "e")
   ·rw[PZ λq=>q.elim c1 λq=>c2 q.1,PZ c2];exact E1 (by walk_at "e")
noncomputable def bW(w x:Int):Nat->Int->Option Int
 | 0,f=>some f
 | k+1,f=>match bb w (f*x) with
  | some g=>bW w x k g
  | none=>none
theorem u_{d:Nat}{x n w:Int}{K:K'}(hd:1<=d)(h1:1<=w)(h2:w<=12)(hx:fits x=true)(st:af->D->M af)(hst:st=λfr v=>ret (aj fr (nm "turn") v)) :
  ∀ (items:List D) (f:Int) (t:af),fits f=true->(t=[]\/∃ v,t=[(nm "turn",v)])->(∀ g t',(t'=[]\/∃ v,t'=[(nm "turn",v)])->K ((nm "x",.int x)::(nm "n",.int n)::(nm "width",.int w)::(nm "found",.int g)::t')=ret (.ret (.int g))) →
  aG (dR (run d)) st items ((nm "x",.int x)::(nm "n",.int n)::(nm "width",.int w)::(nm "found",.int f)::t) K=(match bW w x items.length f with | some g=>ret (.ret (.int g)) | none=>aP)
 | [],f,t,_,ht,hK=>by simp[aG,bW,hK f t ht]
 | v::vs,f,t,hf,ht,hK=>by
  have key:aG (dR (run d)) st (v::vs) ((nm "x",.int x)::(nm "n",.int n)::(nm "width",.int w)::(nm "found",.int f)::t) K
    = bnd (aQ ((bb w (f*x)).map .int)) λg=>aG (dR (run d)) st vs ((nm "x",.int x)::(nm "n",.int n)::(nm "width",.int w)::(nm "found",g)::[(nm "turn",v)]) K  :=by
   rw[<-bS (d:=d) hd h1 h2];have m:=oR hf hx;rcases ht with rfl | ⟨v0,rfl⟩ <;> subst hst <;> exact B1 rfl (Bm (B1 (eV (B1 rfl (B1 rfl m)) (eV rfl rfl)) rfl) rfl)
  simp only[key,List.length_cons,bW]
  induction q:bb w (f*x) with
  | none=>rfl
  | some g=>show aG _ _ _ _ _=_;refine jb (ub h2 q) λa z8 _=>?_;obtain rfl:=z8;exact u_ hd h1 h2 hx st hst vs _ _ a (.inr ⟨v,rfl⟩) hK
noncomputable def hO(w x n:Int):Option Int:=
 if n<0 then (match jm x n with | some g=>bb w g | none=>none)
 else if x=0\/x=1\/x = -1 then bb w (x ^ (if n<2 then n else 2 - n.fmod 2).toNat)
 else bW w x (min n.toNat (w.toNat+1)) 1
theorem nj(a b:Int):(range a b).length=(b - a).toNat:=by simp[range]
theorem Ei{x:Int}(h:x=0\/x=1\/x = -1):(bnd (ae .Eq (.int x) (.int 0)) λb5=>bj .Or b5 (bnd (ae .Eq (.int x) (.int 1)) λb6=>bj .Or b6 (bnd (ae .Eq (.int x) (.int (-1))) λb7=>bj .Or b7 (ret false))))=ret true:=by rcases h with rfl | rfl | rfl <;> rfl
theorem Db{x:Int}(h:¬ (x=0\/x=1\/x = -1)):(bnd (ae .Eq (.int x) (.int 0)) λb5=>bj .Or b5 (bnd (ae .Eq (.int x) (.int 1)) λb6=>bj .Or b6 (bnd (ae .Eq (.int x) (.int (-1))) λb7=>bj .Or b7 (ret false))))=ret false:=
 B1 rfl (oF (dF λq=>h (.inl q)) (B1 rfl (oF (dF λq=>h (.inr (.inl q))) (B1 rfl (oF (dF λq=>h (.inr (.inr q))) rfl)))))
theorem Fz{w x n:Int}(h:n<0):hO w x n=(match jm x n with | some g=>bb w g | none=>none):=PY h
theorem FB{w x n:Int}(h:¬ n<0)(h1:x=0\/x=1\/x = -1):hO w x n=bb w (x ^ (if n<2 then n else 2 - n.fmod 2).toNat):=(PZ h).trans (PY h1)
theorem FD{w x n:Int}(h:¬ n<0)(h1:¬ (x=0\/x=1\/x = -1)):hO w x n=bW w x (min n.toNat (w.toNat+1)) 1:=(PZ h).trans (PZ h1)
theorem Ej{n w:Int}(h1:1<=w)(h2:w<=12)(hn:n<=4000)(h0:¬ n<0):∃ m:Int,(if w+1<n then w+1 else n)=m/\m<=100000 ∧ -100000<=m/\(range 0 m).length=min n.toNat (w.toNat+1):=by
 obtain⟨W,rfl⟩:=Int.eq_ofNat_of_zero_le (Int.le_trans (by decide) h1);obtain⟨N,rfl⟩:=Int.eq_ofNat_of_zero_le (Int.not_lt.mp h0);have b:∀ k:Nat,(-100000:Int)<=k:=λk=>Int.le_trans (by decide) (Int.natCast_nonneg k);have l:∀ k:Nat,(range 0 (k:Int)).length=k:=λk=>(nj _ _).trans (congrArg Int.toNat (Int.sub_zero _))
 by_cases h:W+1<N
 ·exact⟨((W+1:Nat):Int),PY (Int.ofNat_lt.mpr h),Int.le_trans (Int.add_le_add_right h2 1) (by decide),b _,(l _).trans (Nat.min_eq_right (Nat.le_of_lt h)).symm⟩
 ·exact⟨(N:Int),PZ λq=>h (Int.ofNat_lt.mp q),Int.le_trans hn (by decide),b _,(l _).trans (Nat.min_eq_left (Nat.not_lt.mp h)).symm⟩
theorem oS{d:Nat}{x n w:Int}(hd:2<=d)(h1:1<=w)(h2:w<=12)(hx:fits x=true)(hn:n<=4000):run d (nm "int_power") [.int x,.int n,.int w]=aQ ((hO w x n).map .int):=by
 refine am (ak hd) λd z9 hd'=>?_;rw[z9];have hf:=λv=>bS (n:=v) hd' h1 h2;refine(qH ..).trans ?_
 by_cases h0:n<0
 ·refine PX ?_ (congrArg (λo=>aQ (o.map .int)) (Fz h0)).symm;rcases Eh (jn (x:=x) (n:=n) hd') with⟨e,q⟩ | ⟨v,e,q⟩ <;> rw[e]
  ·exact EF (B1 rfl (iT (dT h0) (BF (BF (BF q)))))
  ·have:=hf v;walk_at "t"
 ·by_cases hx1:x=0\/x=1\/x = -1
  ·refine PX ?_ (congrArg (λo=>aQ (o.map .int)) (FB h0 hx1)).symm;have pc:=Ei hx1
   by_cases hn2:n<2
   ·have e2:0<=n:=Int.not_lt.mp h0;have:=hf (x ^ n.toNat);rw[PY hn2];walk_at "t"
   ·have p1:=Int.fmod_nonneg_of_pos n (b:=2) (by decide);have p2:=Int.fmod_lt_of_pos n (b:=2) (by decide);have a1:0<=2 - n.fmod 2:=by lia
    have a2:2 - n.fmod 2<=4000:=by lia
    have:=hf (x ^ (2 - n.fmod 2).toNat);rw[PZ hn2];walk_at "t"
  ·refine PX ?_ (congrArg (λo=>aQ (o.map .int)) (FD h0 hx1)).symm;obtain⟨m,em,m1,m2,m3⟩:=Ej h1 h2 hn h0;have k:=u_ (n:=n) (K:=λIV=>bnd (ac (aa IV (nm "found"))) λJN=>ret (.ret JN)) hd' h1 h2 hx _ rfl (range 0 m) 1 [] (by decide +kernel) (.inl rfl) (λg t' ht=>rfl);refine(congrArg aq (B1 rfl (iF (tF (dF h0)) (B1 (Db hx1) (iF Bool.false_ne_true (B1 (B1 (eV (B1 (eV rfl (eV rfl rfl)) rfl) rfl) ((congrArg (λm=>au (nm "range") [.int m]) em).trans ((SB.2.2.2.2.2.2.1 _).trans (PY m1)))) ((SL.1 _ _ _).trans ((PY ⟨by decide,by decide,m2,m1⟩).trans k)))))))).trans ?_;rw[m3]
   induction bW w x (min n.toNat (w.toNat+1)) 1 <;> rfl
noncomputable def ug(x y:Int):Int:=if x=y then 0 else if x<y then -1 else 1
noncomputable def uh(x y:Str):Int:=if x=y then 0 else if gL x.cps.toList y.cps.toList=true then -1 else 1
theorem oU{d:Nat}{x y:Int}(hd:1<=d):run d (nm "order_of") [.int x,.int y]=ret (.int (ug x y)):=by
 refine am (ak hd) λd z1 _=>?_;obtain rfl:=z1;rw[lj];unfold ug
 by_cases h1:x=y
 ·rw[PY h1];walk_at "e"
 ·rw[PZ h1]
  by_cases h2:x<y
  ·rw[PY h2];walk_at "e"
  ·rw[PZ h2];walk_at "e"
theorem oV{d:Nat}{x y:Str}(hd:1<=d):run d (nm "order_of") [.str x,.str y]=ret (.int (uh x y)):=by
 refine am (ak hd) λd z2 _=>?_;obtain rfl:=z2;rw[lj];have e:ae .Lt (.str x) (.str y)=ret (gL x.cps.toList y.cps.toList):=rfl;unfold uh
 by_cases h1:x=y
 ·rw[PY h1];walk_at "e"
 ·rw[PZ h1]
  induction h2:gL x.cps.toList y.cps.toList <;> rw[h2]at e
  ·rw[PZ Bool.false_ne_true];walk_at "e"
  ·rw[PY rfl];walk_at "e"
noncomputable def iW(w:String)(o:Int):Bool:=if w = "eq" then decide (o=0) else if w = "ne" then !decide (o=0) else if w = "lt" then decide (o<0) else if w = "le" then decide (o<=0) else if w = "gt" then decide (0<o) else decide (0<=o)
noncomputable def rels:List String:=["eq","ne","lt","le","gt","ge"]
theorem lF{d:Nat}{w:String}{o:Int}(hd:1<=d)(hw:w∈rels):run d (nm "holds") [.str (nm w),.int o]=ret (.bool (iW w o)):=by refine am (ak hd) λd z3 _=>?_;obtain rfl:=z3;rw[Bf];simp only[rels,List.mem_cons,List.not_mem_nil,or_false]at hw;rcases hw with rfl | rfl | rfl | rfl | rfl | rfl <;> kernel_rfl
structure dE(lim:D)(w:Int)(σ:St):Prop where
 width:aB lim (nm "width") σ=.ok (.int w) σ
 digits:aB lim (nm "real_digits") σ=.ok (.int 3) σ
 top:aB lim (nm "top_exponent") σ=.ok (.int 90) σ
theorem aE{α β:Type}{m:M α}{σ σ':St}{a:α}(h:m σ=.ok a σ')(f:α->M β):bnd m f σ=f a σ':=by unfold bnd;rw[h]
theorem ay{α β:Type}{m:M α}{σ σ':St}(h:m σ=.exc σ')(f:α->M β):bnd m f σ=.exc σ':=by unfold bnd;rw[h]
noncomputable def fB(w:Int)(op:String)(x y:Int):Option Int:=
 if op = "add" then bb w (x+y) else if op = "sub" then bb w (x - y) else if op = "mul" then bb w (x*y) else if op = "div" then (if y=0 then none else bb w (fF x y)) else hO w x y
theorem mF{d:Nat}{op:String}{x y w:Int}{k lim:D}{σ:St}(hd:4<=d)(h1:1<=w)(h2:w<=12)(hx:fits x=true)(hy:fits y=true)(hn:y<=4000)(L:dE lim w σ)(ho:op∈["add","sub","mul","div","powi"]) :
  run d (nm "int_binary") [.str (nm op),k,.int x,.int y,lim] σ=aQ ((fB w op x y).map .int) σ:=by
 refine am (ak hd) λd z4 hd'=>?_;obtain rfl:=z4;rw[iQ];have a1:2<=d:=by lia
 simp only[List.mem_cons,List.not_mem_nil,or_false]at ho;have l:=L.width;rcases ho with rfl | rfl | rfl | rfl | rfl
 ·have q:_=aQ ((fB w "add" x y).map .int) σ:=congrFun (uc a1 h1 h2) σ;walk_at "u"
 ·have q:_=aQ ((fB w "sub" x y).map .int) σ:=congrFun (ud a1 h1 h2) σ;walk_at "u"
 ·have q:_=aQ ((fB w "mul" x y).map .int) σ:=congrFun (ue a1 h1 h2 hx hy) σ;walk_at "u"
 ·have q:=congrFun (uf a1 h1 h2 hx hy) σ;rw[show(if y=0 then none else (bb w (fF x y)).map .int)=(fB w "div" x y).map D.int by show _=(if y=0 then none else bb w (fF x y)).map D.int;split <;> rfl]at q;walk_at "u"
 ·have q:_=aQ ((fB w "powi" x y).map .int) σ:=congrFun (oS a1 h1 h2 hx hn) σ;walk_at "u"
theorem ui{d:Nat}{op:String}{x y:Int}{k lim:D}(hd:3<=d)(ho:op∈rels):run d (nm "int_binary") [.str (nm op),k,.int x,.int y,lim]=ret (.bool (iW op (ug x y))):=by
 refine am (ak hd) λd z5 hd'=>?_;obtain rfl:=z5;rw[iQ];have e:iP (run d) (.str (nm op)) k (.int x) (.int y) lim=bnd (bnd (ah [ret (.str (nm op)),run d (nm "order_of") [.int x,.int y]]) λl=>run d (nm "holds") l) λt=>ret (.ret t):=by have ho:=ho;simp only[rels,List.mem_cons,List.not_mem_nil,or_false]at ho;rcases ho with rfl | rfl | rfl | rfl | rfl | rfl <;> kernel_rfl
 rw[e,oU (by lia)];show aq (bnd (run d (nm "holds") [.str (nm op),.int (ug x y)]) _)=_;rw[lF (by lia) ho];rfl
noncomputable def yQ(op:String)(x y:Bool):Bool:=if op = "and" then x&&y else if op = "or" then x||y else if op = "eqv" then x==y else !(x==y)
theorem jS{d:Nat}{op:String}{x y:Bool}{k lim:D}(hd:1<=d)(ho:op∈["and","or","eqv","neqv"]):run d (nm "logic_binary") [.str (nm op),k,.bool x,.bool y,lim]=ret (.bool (yQ op x y)):=by refine am (ak hd) λd z6 hd'=>?_;obtain rfl:=z6;rw[lm];simp only[List.mem_cons,List.not_mem_nil,or_false]at ho;rcases ho with rfl | rfl | rfl | rfl <;> induction x <;> induction y <;> kernel_rfl
theorem dt{d:Nat}{n w:Int}(hd:1<=d)(h1:1<=w)(h2:w<=12):run d (nm "_law_whole") [.int n,.int w]=ret (((bb w n).map .int).getD .none):=by
 refine am (ak hd) λd z7 _=>?_;obtain rfl:=z7;rw[qW];have e1:fits (-2)=true:=by decide +kernel
 have e2:fits 2=true:=by decide +kernel
 have e3:w<=4000+1:=by lia
 have e0:0<=w - 1:=by lia
 have e4:w - 1<=4000:=by lia
 unfold bb
 by_cases q1:-2 ^ (w - 1).toNat<=n
 ·by_cases q2:n<2 ^ (w - 1).toNat
  ·rw[PY ⟨q1,q2⟩];walk_at "e"
  ·rw[PZ λq=>q2 q.2];walk_at "e"
 ·rw[PZ λq=>q1 q.1];walk_at "e"
theorem d0{d:Nat}{x y:Int}(hd:1<=d)(hx:fits x=true)(hy:fits y=true)(h0:y≠0):run d (nm "_law_toward") [.int x,.int y]=ret (.int (fF x y)):=by
 refine am (ak hd) λd z8 _=>?_;obtain rfl:=z8;rw[oQ];have e1:(y.natAbs:Int)≠0:=by lia
 have q:ag .FloorDiv (.int x.natAbs) (.int y.natAbs)=ret (.int (x.natAbs / y.natAbs:Nat)):=by refine PX (Bh e1 (cf hx) (cf hy)) ?_;rw[db]
 unfold fF
 induction h:(decide (x<0)==decide (y<0))
 ·rw[PZ Bool.false_ne_true];walk_at "e"
 ·rw[PY rfl];walk_at "e"
theorem q9{w v:Int}(h:2 ^ (w - 1).toNat<v.natAbs):bb w v=none:=by
 unfold bb;have e:((2:Int) ^ (w - 1).toNat)=((2 ^ (w - 1).toNat:Nat):Int):=by simp
 exact(PZ (by omega))
theorem yR{v:Int}{n:Nat}(q:v.natAbs<n):-(n:Int)<=v/\v<n:=⟨Int.neg_le_of_neg_le (Int.le_trans (Int.le_natAbs (a:=-v)) (Int.ofNat_le.mpr (PQ (PT (Int.natAbs_neg v)) (Nat.le_of_lt q)))),Int.lt_of_le_of_lt Int.le_natAbs (Int.ofNat_lt.mpr q)⟩
theorem yS{v:Int}{n:Nat}(h:-(n:Int)<=v)(h':v<=n):v.natAbs<=n:=(Int.natAbs_eq v).elim (λe=>Int.ofNat_le.mp (Int.le_trans (Int.le_of_eq e.symm) h')) λe=>Int.ofNat_le.mp (Int.le_of_neg_le_neg (Int.le_trans h (Int.le_of_eq e)))
theorem yT{w v:Int}(h:bb w v=none):2 ^ (w - 1).toNat<=v.natAbs:=by
 unfold bb at h;have e:((2:Int) ^ (w - 1).toNat)=((2 ^ (w - 1).toNat:Nat):Int):=by simp
 rw[e]at h;refine Nat.not_lt.mp λq=>?_;rw[PY (yR q)]at h;exact DN h
theorem jo{w v:Int}(h1:5<=w)(h:v.natAbs<=1):bb w v=some v:=by
 unfold bb;have e:((2:Int) ^ (w - 1).toNat)=((2 ^ (w - 1).toNat:Nat):Int):=by simp
 have:2 ^ 1<=2 ^ (w - 1).toNat:=Nat.pow_le_pow_right (by omega) (by omega);rw[e,PY (yR (PS h (PR (by decide) this)))]
theorem q_{w x:Int}(hx:2<=x.natAbs):∀ (k:Nat) (f:Int),f≠0->(k≠0\/bb w f=some f)->bW w x k f=bb w (f*x ^ k)
 | 0,f,_,h=>by rcases h with h | h;exact absurd rfl h;simp[bW,h]
 | k+1,f,hf,_=>by
  dsimp only[bW];have e:f*x ^ (k+1)=f*x*x ^ k:=by simp only[Int.pow_succ,Int.mul_assoc,Int.mul_comm x]
  rw[e]
  induction q:bb w (f*x) with
  | some g=>
   have hg:g=f*x:=by unfold bb at q;split at q <;> cases q;rfl
   subst hg;exact q_ hx k _ (by intro h;rcases Int.mul_eq_zero.mp h with h | h;exact hf h;subst h;simp at hx) (.inr q)
  | none=>
   induction k using Nat.casesOn with
   | zero=>simp[q]
   | succ k=>
    have h1:=yT q;refine(q9 ?_).symm;rw[Int.natAbs_mul,Int.natAbs_pow];have h2:2<=x.natAbs ^ (k+1):=by
     calc 2<=x.natAbs:=hx
      _=x.natAbs ^ 1:=(Nat.pow_one _).symm
      _<=_:=Nat.pow_le_pow_right (by lia) (by lia)
    have h3:0<2 ^ (w - 1).toNat:=Nat.pos_of_ne_zero (by simp)
    calc 2 ^ (w - 1).toNat<2 ^ (w - 1).toNat*2:=by lia
     _<=_:=Nat.mul_le_mul h1 h2
noncomputable def hV(w x n:Int):Option Int:=
 if n<0/\x=0 then none
 else if n<0 then some (fF 1 (x ^ (if 8+n.fmod 2 < -n then 8+n.fmod 2 else -n).toNat))
 else if x.natAbs<2 then some (x ^ (if n<2 then n else 2+n.fmod 2).toNat)
 else if n<40 then bb w (x ^ n.toNat) else none
theorem yU(k:Nat):(1:Int) ^ k=1:=by induction k with | zero=>rfl | succ k ih=>rw[Int.pow_succ,ih];rfl
theorem yV(k:Nat):(-1:Int) ^ k=if k % 2=0 then 1 else -1:=by
 induction k with
 | zero=>rfl
 | succ k ih=>
  rw[Int.pow_succ,ih];rcases Nat.mod_two_eq_zero_or_one k with h | h
  ·have:(k+1) % 2=1:=by lia
   simp[h,this]
  ·have:(k+1) % 2=0:=by lia
   simp[h,this]
theorem Cg(n:Int):n.fmod 2=n % 2:=Int.fmod_eq_emod_of_nonneg _ (by lia)
theorem lx{n:Int}(h:n<0):∃ k:Nat,(if 8+n.fmod 2 < -n then 8+n.fmod 2 else -n)=k/\k≠0/\k<=60/\(k % 2=0 ↔ n.fmod 2=0):=by
 obtain⟨m,hm⟩:=Int.eq_ofNat_of_zero_le (Int.le_of_lt (Int.neg_pos_of_neg h));have hp:n % 2=((m % 2:Nat):Int):=by rw[<-Int.neg_emod_two,hm];rfl
 simp only[Cg,hm,hp]
 split
 ·rcases Nat.mod_two_eq_zero_or_one m with q | q <;> rw[q]
  ·exact⟨8,rfl,by decide,by decide,by decide⟩
  ·exact⟨9,rfl,by decide,by decide,by decide⟩
 ·refine⟨m,rfl,λz=>?_,by lia,Int.natCast_eq_zero.symm⟩;rw[z]at hm;exact Int.ne_of_lt h (Int.neg_eq_zero.mp hm)
theorem FE{w x n:Int}(h:n<0)(hx:¬ x=0):hV w x n=some (fF 1 (x ^ (if 8+n.fmod 2 < -n then 8+n.fmod 2 else -n).toNat)):=(PZ λq=>hx q.2).trans (PY h)
theorem FG{w x n:Int}(h:¬ n<0)(hx:x.natAbs<2):hV w x n=some (x ^ (if n<2 then n else 2+n.fmod 2).toNat):=(PZ λq=>h q.1).trans ((PZ h).trans (PY hx))
theorem FH{w x n:Int}(h:¬ n<0)(hx:¬ x.natAbs<2):hV w x n=if n<40 then bb w (x ^ n.toNat) else none:=(PZ λq=>h q.1).trans ((PZ h).trans (PZ hx))
theorem three{x:Int}:x.natAbs<2 ↔ x=0\/x=1\/x = -1:=by
 refine⟨λh=>?_,λh=>by rcases h with rfl | rfl | rfl <;> decide⟩;rcases Nat.eq_zero_or_pos x.natAbs with q | q
 ·exact .inl (Int.natAbs_eq_zero.mp q)
 ·have q:x.natAbs=1:=Nat.le_antisymm (Nat.le_of_lt_succ h) q;exact .inr ((Int.natAbs_eq x).imp (λe=>e.trans (congrArg Nat.cast q)) λe=>e.trans (congrArg (λk:Nat=>-(k:Int)) q))
theorem Ek{x:Int}{k:Nat}(h:¬ x.natAbs<2):2 ^ k<=(x ^ k).natAbs:=by rw[Int.natAbs_pow];exact Nat.pow_le_pow_left (Nat.not_lt.mp h) k
theorem Bi{x n:Int}{k:Nat}(x0:¬ x=0)(hk:k≠0)(hp:k % 2=0 ↔ n.fmod 2=0):∃ g:Int,jm x n=some g/\g.natAbs<=1/\fF 1 (x ^ k)=g:=by
 by_cases h:x.natAbs<2
 ·rcases (three.mp h).resolve_left x0 with rfl | rfl
  ·exact⟨1,(PZ x0).trans (PY (.inl rfl)),Nat.le_refl 1,by rw[yU];decide⟩
  ·rw[yV]
   by_cases hn:n.fmod 2=0
   ·rw[PY (hp.mpr hn)];exact⟨1,(PZ x0).trans (PY (.inr ⟨rfl,hn⟩)),Nat.le_refl 1,by decide⟩
   ·rw[PZ λq=>hn (hp.mp q)];exact⟨-1,(PZ x0).trans ((PZ λq=>q.elim (by decide) λq=>hn q.2).trans (PY rfl)),Nat.le_refl 1,by decide⟩
 ·have hx:=mt three.mpr h;refine⟨0,(PZ x0).trans ((PZ λq=>hx (.inr (q.imp id And.left))).trans (PZ λq=>hx (.inr (.inr q)))),Nat.zero_le 1, ?_⟩;have hb:1<(x ^ k).natAbs:=PR (Nat.one_lt_two_pow hk) (Ek h);unfold fF;rw[show(1:Int).natAbs=1 from rfl,Nat.div_eq_of_lt hb]
  split <;> rfl
theorem Bj{w x n:Int}(h1:5<=w)(h2:w<=12):hO w x n=hV w x n:=by
 by_cases h0:n<0
 ·refine PX (Fz h0) ?_
  by_cases x0:x=0
  ·have e:hV w x n=none:=PY ⟨h0,x0⟩;have e':jm x n=none:=PY x0;simp only[e,e']
  ·obtain⟨k,ek,k0,_,kp⟩:=lx h0;obtain⟨g,e1,e2,e3⟩:=Bi x0 k0 kp;simp only[FE h0 x0,ek,e1];exact(jo h1 e2).trans (congrArg some e3.symm)
 ·by_cases x2:x.natAbs<2
  ·have s:∀ k,(x ^ k).natAbs<=1:=λk=>by rw[Int.natAbs_pow];exact PQ (Nat.pow_le_pow_left (Nat.le_of_lt_succ x2) k) (PT (Nat.one_pow k))
   refine PX (FB h0 (three.mp x2)) ?_;simp only[FG h0 x2,jo h1 (s _)]
   by_cases hn:n<2
   ·rw[PY hn,PY hn]
   ·rw[PZ hn,PZ hn,Cg];rcases Int.emod_two_eq n with q | q <;> rw[q]
    ·rfl
    ·rcases three.mp x2 with rfl | rfl | rfl <;> rfl
  ·simp only[FD h0 (mt three.mpr x2),FH h0 x2,q_ (Nat.not_lt.mp x2) _ 1 Int.one_ne_zero (.inr (jo h1 (by decide))),Int.one_mul];obtain⟨W,rfl⟩:=Int.eq_ofNat_of_zero_le (Int.le_trans (by decide) h1);obtain⟨N,rfl⟩:=Int.eq_ofNat_of_zero_le (Int.not_lt.mp h0);have xq:∀ k:Nat,W<=k->bb W (x ^ k)=none:=λk hk=>by refine q9 (PR (Nat.pow_lt_pow_right (by decide) ?_) (Ek x2));lia
   show bb W (x ^ min N (W+1))=if (N:Int)<40 then bb W (x ^ N) else none
   by_cases hn:N<=W+1
   ·rw[Nat.min_eq_left hn,PY (by lia)]
   ·have hn:=Nat.le_of_not_le hn;simp only[Nat.min_eq_right hn,xq _ (Nat.le_succ W)]
    split
    ·simp only[xq _ (Nat.le_of_succ_le hn)]
    ·rfl
theorem oW{d:Nat}{x n w:Int}(hd:2<=d)(h1:1<=w)(h2:w<=12)(hx:x.natAbs<=2048):run d (nm "_law_power") [.int x,.int n,.int w]=ret (((hV w x n).map .int).getD .none):=by
 refine am (ak hd) λd z9 hd'=>?_;obtain rfl:=z9;refine(qY ..).trans ?_;have fp:∀ k:Nat,k<=60->fits (x ^ k)=true:=λk hk=>by refine j_ (k:=11*61) (by decide) ?_;simp only[Int.natAbs_pow,Nat.pow_mul];exact PS (Nat.pow_le_pow_left hx k) (Nat.pow_lt_pow_right (by decide) (Nat.lt_succ_of_le hk))
 have hfx:fits x=true:=(congrArg fits (Int.pow_one x)).symm.trans (fp 1 (by decide))
 by_cases h0:n<0
 ·by_cases x0:x=0
  ·refine PX ?_ (congrArg (λo=>ret ((Option.map D.int o).getD .none)) (PY ⟨h0,x0⟩ : hV w x n=none)).symm;walk_at "e"
  ·refine PX ?_ (congrArg (λo=>ret ((Option.map D.int o).getD .none)) (FE h0 x0)).symm;obtain⟨k,ek,k0,k1,kp⟩:=lx h0;have q2:=SB.2.2.1 (-n) (8+n.fmod 2);rw[ek]at q2 ⊢;have c1:=Int.natCast_nonneg k;have c2:(k:Int)<=4000:=Int.ofNat_le.mpr (PQ k1 (by decide));have q1:=d0 (x:=1) (y:=x ^ (k:Int).toNat) hd' (by decide +kernel) (fp k k1) (Int.pow_ne_zero x0);walk_at "e"
 ·by_cases x2:x.natAbs<2
  ·have e1:(x.natAbs:Int)<2:=Int.ofNat_lt.mpr x2;refine PX ?_ (congrArg (λo=>ret ((Option.map D.int o).getD .none)) (FG h0 x2)).symm
   by_cases hn:n<2
   ·have g1:0<=n:=Int.not_lt.mp h0;have g2:n<=4000:=Int.le_trans (Int.le_of_lt hn) (by decide);rw[PY hn];walk_at "e"
   ·have p1:=Int.fmod_nonneg_of_pos n (b:=2) (by decide);have p2:=Int.fmod_lt_of_pos n (b:=2) (by decide);have g1:0<=2+n.fmod 2:=by lia
    have g2:2+n.fmod 2<=4000:=by lia
    rw[PZ hn];walk_at "e"
  ·have e1:¬ (x.natAbs:Int)<2:=mt Int.ofNat_lt.mp x2;refine PX ?_ (congrArg (λo=>ret ((Option.map D.int o).getD .none)) (FH h0 x2)).symm
   by_cases hn:n<40
   ·have g1:0<=n:=Int.not_lt.mp h0;have g2:n<=4000:=Int.le_trans (Int.le_of_lt hn) (by decide);have q:=dt (n:=x ^ n.toNat) hd' h1 h2;rw[PY hn];walk_at "e"
   ·rw[PZ hn];walk_at "e"
noncomputable def EK:Nat->Nat->Nat
 | 0,_=>0
 | k+1,n=>if n=0 then 0 else EK k (n / 10)+1
noncomputable def cd(n:Nat):Nat:=EK n n
theorem iX:cd 0=0:=rfl
theorem Dc:∀ {m k j:Nat},m<=k->m<=j->EK k m=EK j m:=by
 intro m
 induction m using Nat.strongRecOn with
 | ind m ih=>
  intro k j hk hj;cases m with
  | zero=>obtain⟨⟩:=k <;> induction j <;> rfl
  | succ m=>
   induction k using Nat.casesOn with
   | zero=>exact absurd hk (Nat.not_succ_le_zero m)
   | succ k=>
    induction j using Nat.casesOn with
    | zero=>exact absurd hj (Nat.not_succ_le_zero m)
    | succ j=>have l:(m+1) / 10<m+1:=Nat.div_lt_self (Nat.succ_pos m) (by decide);exact congrArg (· + 1) (ih _ l (PQ (Nat.le_of_lt_succ l) (Nat.le_of_succ_le_succ hk)) (PQ (Nat.le_of_lt_succ l) (Nat.le_of_succ_le_succ hj)))
theorem cW{n:Nat}(h:n≠0):cd n=cd (n / 10)+1:=by
 induction n with
 | zero=>exact absurd rfl h
 | succ n=>exact congrArg (· + 1) (Dc (Nat.le_of_lt_succ (Nat.div_lt_self (Nat.succ_pos n) (by decide))) (Nat.le_refl _))
theorem nk:∀ n:Nat,n<10 ^ cd n:=by
 intro n
 induction n using Nat.strongRecOn with
 | ind n ih=>
  by_cases h:n=0
  ·rw[h];simp only[iX];decide
  ·simp only[cW h,Nat.pow_succ];have:=ih (n / 10) (by lia);lia
theorem vc:∀ {n:Nat},n≠0->10 ^ (cd n - 1)<=n:=by
 intro n
 induction n using Nat.strongRecOn with
 | ind n ih=>
  intro h;rw[cW h,Nat.add_sub_cancel]
  by_cases h':n / 10=0
  ·rw[h',iX];simp;lia
  ·have:=ih (n / 10) (by lia) h';have e:10 ^ cd (n / 10)=10*10 ^ (cd (n / 10) - 1):=by simp only[cW h',Nat.add_sub_cancel,Nat.pow_succ,Nat.mul_comm]
   rw[e];lia
theorem bl{n k:Nat}(h:n<10 ^ k):cd n<=k:=by
 by_cases h0:n=0
 ·subst h0;simp only[iX];lia
 ·have h1:=vc h0;have h2:10 ^ (cd n - 1)<10 ^ k:=PS h1 h;have h3:=(Nat.pow_lt_pow_iff_right (a:=10) (by lia)).mp h2;have:cd n≠0:=by rw[cW h0];lia
  lia
theorem lG{n k:Nat}(h:10 ^ k<=n):k+1<=cd n:=by have h1:=nk n;have h2:10 ^ k<10 ^ cd n:=PS h h1;exact(Nat.pow_lt_pow_iff_right (a:=10) (by omega)).mp h2
theorem uj{n:Nat}(h:n≠0):∀ k,cd (n*10 ^ k)=cd n+k
 | 0=>by simp
 | k+1=>by
  have hp:n*10 ^ (k+1)=n*10 ^ k*10:=by simp only[Nat.pow_succ,Nat.mul_assoc]
  have hq:n*10 ^ k≠0:=Nat.mul_ne_zero h (by simp);rw[hp,cW (by lia),Nat.mul_div_cancel _ (by lia),uj h k];lia
theorem Dd{n:Nat}(k:Nat)(h:10 ^ k<=n):cd n=cd (n / 10 ^ k)+k:=by
 induction k generalizing n with
 | zero=>simp
 | succ k ih=>
  have hp:10 ^ (k+1)=10 ^ k*10:=Nat.pow_succ ..;have hk:0<10 ^ k:=Nat.pos_of_ne_zero (by simp);have h0:n≠0:=by lia
  have h1:10 ^ k<=n / 10:=by rw[Nat.le_div_iff_mul_le (by lia)];lia
  simp only[cW h0,ih h1,Nat.div_div_eq_div_mul,Nat.pow_succ,Nat.mul_comm (10 ^ k)];lia
noncomputable def gd:Nat->Int->Int->Int×Int
 | 0,m,e=>(m,e)
 | k+1,m,e=>if m≠0/\m % 10=0 then gd k (m / 10) (e+1) else (m,e)
noncomputable def aL(m e:Int):Int×Int:=gd m.natAbs m e
theorem lH(k:Nat):(10:Int) ^ k≠0:=by have:(0:Int)<10 ^ k:=Int.pow_pos (by decide);omega
theorem eF{k:Nat}{m e:Int}(h:¬ (m≠0/\m % 10=0)):gd k m e=(m,e):=by
 induction k using Nat.casesOn with
 | zero=>rfl
 | succ k=>exact PZ h
theorem nq{m:Int}(h0:m≠0)(h:m % 10=0):∃ q:Int,m=q*10/\m / 10=q/\q≠0/\q.natAbs<m.natAbs:=by have e:=Int.ediv_mul_cancel_of_emod_eq_zero h;have z:m / 10≠0:=λz=>h0 (by refine PX (Eq.symm e) ?_;rw[z];rfl);refine⟨m / 10,e.symm,rfl,z, ?_⟩;have a:(m / 10).natAbs*10=m.natAbs:=(Int.natAbs_mul (m / 10) 10).symm.trans (congrArg Int.natAbs e);simp only[<-a];exact(Nat.lt_mul_iff_one_lt_right (Int.natAbs_pos.mpr z)).mpr (by decide)
theorem wY:∀ {k j:Nat} {m e:Int},m.natAbs<=k->m.natAbs<=j->gd k m e=gd j m e:=by
 intro k
 induction k with
 | zero=>intro j m e h _;have z:¬ (m≠0/\m % 10=0):=λq=>q.1 (Int.natAbs_eq_zero.mp (Nat.le_zero.mp h));refine PX (eF z) ?_;rw[eF z]
 | succ k ih=>
  intro j m e h h'
  by_cases c:m≠0/\m % 10=0
  ·obtain⟨q,_,e2,_,l⟩:=nq c.1 c.2
   induction j using Nat.casesOn with
   | zero=>exact absurd (PR l h') (Nat.not_lt_zero _)
   | succ j=>rw[gd,gd,PY c,PY c,e2];exact ih (Nat.le_of_lt_succ (PR l h)) (Nat.le_of_lt_succ (PR l h'))
  ·refine PX (eF c) ?_;rw[eF c]
theorem hW{m e:Int}(h:m≠0)(h':m % 10=0):aL m e=aL (m / 10) (e+1):=by obtain⟨n,hn⟩:=Nat.exists_eq_succ_of_ne_zero (Int.natAbs_ne_zero.mpr h);obtain⟨q,_,e2,_,l⟩:=nq h h';unfold aL;rw[hn,gd,PY ⟨h,h'⟩];exact wY (e2 ▸ Nat.le_of_lt_succ (hn ▸ l)) (Nat.le_refl _)
theorem eG{m e:Int}(h':m % 10≠0):aL m e=(m,e):=eF λq=>h' q.2
theorem gy{m e:Int}(h:m≠0):aL (m*10) e=aL m (e+1):=by refine PX (hW (Int.mul_ne_zero h (by decide)) (Int.mul_emod_left m 10)) ?_;rw[Int.mul_ediv_cancel _ (by decide)]
theorem nt{m:Int}(h:m≠0):∀ (k:Nat) (e:Int),aL (m*10 ^ k) e=aL m (e+k)
 | 0,e=>by simp
 | k+1,e=>by
  have hq:m*10 ^ k≠0:=Int.mul_ne_zero h (lH k);rw[Int.pow_succ,<-Int.mul_assoc,gy hq,nt h k]
  congr 1;lia
theorem wZ:∀ (n:Nat) (m e:Int),m.natAbs=n->aL (-m) e=(-(aL m e).1,(aL m e).2):=by
 intro n
 induction n using Nat.strongRecOn with
 | ind n ih=>
  intro m e hm
  by_cases h0:m=0
  ·subst h0;rfl
  ·by_cases h1:m % 10=0
   ·obtain⟨q,rfl,_,q0,l⟩:=nq h0 h1;rw[<-Int.neg_mul,gy q0,gy (Int.neg_ne_zero.mpr q0)];exact ih q.natAbs (hm ▸ l) _ _ rfl
   ·exact(eG h1) ▸ ((eG (m:=-m) λz=>h1 (Int.emod_eq_zero_of_dvd (Int.dvd_neg.mp (Int.dvd_of_emod_eq_zero z)))))
theorem w0:∀ (n:Nat) (m e:Int),m.natAbs=n->m≠0->(aL m e).1 % 10≠0/\∃ k:Nat,(aL m e).2=e+k/\m=(aL m e).1*10 ^ k:=by
 intro n
 induction n using Nat.strongRecOn with
 | ind n ih=>
  intro m e hm h0
  by_cases h:m % 10=0
  ·obtain⟨q,rfl,_,q0,l⟩:=nq h0 h;rw[gy q0];obtain⟨a,k,b,c⟩:=ih q.natAbs (hm ▸ l) q (e+1) rfl q0;refine⟨a,k+1,b.trans ((Int.add_assoc ..).trans (congrArg (e + ·) (Int.add_comm ..))), ?_⟩;rw[Int.pow_succ,<-Int.mul_assoc,<-c]
  ·rw[eG h];exact⟨h,0,(Int.add_zero e).symm,(Int.mul_one m).symm⟩
noncomputable def iY(N D:Nat):Nat:=if D<2*(N % D)\/(2*(N % D)=D/\N / D % 2=1) then N / D+1 else N / D
theorem iZ(N D:Nat){c:Nat}(hc:0<c):iY (N*c) (D*c)=iY N D:=by
 unfold iY;simp only[Nat.mul_div_mul_right _ _ hc,Nat.mul_mod_mul_right];have e1:(D*c<2*(N % D*c)) ↔ D<2*(N % D):=by rw[<-Nat.mul_assoc];exact Nat.mul_lt_mul_right hc
 have e2:(2*(N % D*c)=D*c) ↔ 2*(N % D)=D:=by rw[<-Nat.mul_assoc];exact Nat.mul_left_inj (by lia)
 simp only[e1,e2]
theorem yW{N D N' D':Nat}(h:0<D)(h':0<D')(e:N*D'=N'*D):iY N D=iY N' D':=by simp only[<-iZ N D h',<-iZ N' D' h,e,Nat.mul_comm D']
theorem Bk(N:Nat):iY N 1=N:=by unfold iY;simp[Nat.mod_one]
theorem jp{N D:Nat}(hD:0<D)(h1:100*D<=N)(h2:N<1000*D):100<=iY N D/\iY N D<=1000:=by have a:100<=N / D:=(Nat.le_div_iff_mul_le hD).mpr h1;have b:N / D<1000:=(Nat.div_lt_iff_lt_mul hD).mpr h2;unfold iY;split <;> lia
noncomputable def Fit(N D:Nat)(m:Nat)(e:Int):Prop:=∃ a b:Nat,100*(D*10 ^ b)<=N*10 ^ a/\N*10 ^ a<1000*(D*10 ^ b)/\m=iY (N*10 ^ a) (D*10 ^ b)/\e=b - a
theorem Fit.same{N D N' D' m m':Nat}{e e':Int}(hD:0<D)(hD':0<D')(h:N*D'=N'*D)(f:Fit N D m e)(f':Fit N' D' m' e'):m=m'/\e=e':=by
 refine aH f λa b h1 h2 z1 z2=>?_;obtain rfl:=z1;rw[z2];refine aH f' λa' b' h1' h2' z3 z4=>?_;obtain rfl:=z3;obtain rfl:=z4;have key:∀ {N D N' D' a b a' b':Nat},0<D->0<D'->N*D'=N'*D->100*(D*10 ^ b)<=N*10 ^ a->N'*10 ^ a'<1000*(D'*10 ^ b')->b+a'<=b'+a:=by
  intro N D N' D' a b a' b' hD hD' h h1 h2;have s1:100*(D*10 ^ b)*(D'*10 ^ a')<=N*10 ^ a*(D'*10 ^ a'):=Nat.mul_le_mul_right _ h1;have s2:N'*10 ^ a'*(D*10 ^ a)<1000*(D'*10 ^ b')*(D*10 ^ a):=Nat.mul_lt_mul_of_pos_right h2 (Nat.mul_pos hD (Nat.pos_of_ne_zero (by simp)));have s3:N*10 ^ a*(D'*10 ^ a')=N'*10 ^ a'*(D*10 ^ a):=by
   have:N*10 ^ a*(D'*10 ^ a')=N*D'*(10 ^ a*10 ^ a'):=by ac_rfl
   refine PX this ?_;rw[h];ac_rfl
  have s4:100*(D*10 ^ b)*(D'*10 ^ a')=(D*D'*100)*10 ^ (b+a'):=by rw[Nat.pow_add];ac_rfl
  have s5:1000*(D'*10 ^ b')*(D*10 ^ a)=(D*D'*100)*10 ^ (b'+a+1):=by simp only[Nat.pow_succ,Nat.pow_add,show(1000:Nat)=100*10 from rfl];ac_rfl
  have s6:(D*D'*100)*10 ^ (b+a')<(D*D'*100)*10 ^ (b'+a+1):=PS (PQ (PT s4.symm) (PQ s1 (PT s3))) (Nat.lt_of_lt_of_eq s2 s5);have s7:=Nat.lt_of_mul_lt_mul_left s6;exact Nat.le_of_lt_succ ((Nat.pow_lt_pow_iff_right (a:=10) (by decide)).mp s7)
 have q1:=key hD hD' h h1 h2';have q2:=key hD' hD h.symm h1' h2;refine⟨yW (Nat.mul_pos hD (Nat.pos_of_ne_zero (by simp))) (Nat.mul_pos hD' (Nat.pos_of_ne_zero (by simp))) ?_,by lia⟩;have e1:N*10 ^ a*(D'*10 ^ b')=N*D'*10 ^ (a+b'):=by simp only[Nat.pow_add];ac_rfl
 have e2:N'*10 ^ a'*(D*10 ^ b)=N'*D*10 ^ (a'+b):=by rw[Nat.pow_add];ac_rfl
 simp only[e1,e2,h,show a+b'=a'+b from by lia]
theorem Fit.shift{N D m:Nat}{e:Int}(f:Fit N D m e)(p q:Nat):Fit (N*10 ^ p) (D*10 ^ q) m (e+p - q):=by
 refine aH f λa b h1 h2 z5 z6=>?_;obtain rfl:=z5;obtain rfl:=z6;have e1:N*10 ^ p*10 ^ (a+q)=N*10 ^ a*10 ^ (p+q):=by simp only[Nat.pow_add,Nat.pow_add];ac_rfl
 have e2:D*10 ^ q*10 ^ (b+p)=D*10 ^ b*10 ^ (p+q):=by simp only[Nat.pow_add,Nat.pow_add];ac_rfl
 have hp:0<10 ^ (p+q):=Nat.pos_of_ne_zero (by simp);refine⟨a+q,b+p, ?_, ?_, ?_,by lia⟩
 ·rw[e1,e2,<-Nat.mul_assoc];exact Nat.mul_le_mul_right _ h1
 ·rw[e1,e2,<-Nat.mul_assoc];exact Nat.mul_lt_mul_of_pos_right h2 hp
 ·simp only[e1,e2,iZ _ _ hp]
theorem Fit.unshift{N D m:Nat}{e:Int}{p:Nat}(f:Fit (N*10 ^ p) D m e):Fit N D m (e - p):=by refine aH f λa b h1 h2 z7 z8=>?_;rw[z7];rw[z8];refine⟨p+a,b, ?_, ?_, ?_,by lia⟩ <;> simp only[Nat.pow_add,<-Nat.mul_assoc N] <;> assumption
theorem Fit.range{N D m:Nat}{e:Int}(hD:0<D)(f:Fit N D m e):100<=m/\m<=1000:=by refine aH f λa b h1 h2 z9 z10=>?_;obtain rfl:=z9;obtain rfl:=z10;exact jp (Nat.mul_pos hD (Nat.pos_of_ne_zero (by simp))) h1 h2
noncomputable def sg(x:Int)(m:Nat):Int:=if 0<x then (m:Int) else -(m:Int)
noncomputable def gf(m e:Int):Int×Int:=if m=0 then (0,0) else aL m e
noncomputable def bo(m e:Int):Int×Int:=if 3<cd m.natAbs then gf (sg m (iY m.natAbs (10 ^ (cd m.natAbs - 3)))) (e+(cd m.natAbs - 3:Nat)) else gf m e
theorem vf{n:Nat}(h:n≠0)(h3:3<cd n):∃ k,cd n=k+3/\100*10 ^ k<=n/\n<1000*10 ^ k:=by have a1:=vc h;have a2:=nk n;obtain⟨k,hk⟩ : ∃ k,cd n=k+3:=⟨cd n - 3,(Nat.sub_add_cancel (Nat.le_of_lt h3)).symm⟩;rw[hk]at a1 a2;exact⟨k,hk,PQ (PT ((Nat.mul_comm _ _).trans (Nat.pow_add 10 k 2).symm)) a1,PR a2 (PT ((Nat.pow_add 10 k 3).trans (Nat.mul_comm _ _)))⟩
theorem El{n:Nat}(h:n≠0)(h3:¬ 3<cd n):∃ k,cd n+k=3/\100<=n*10 ^ k/\n*10 ^ k<1000:=by
 have a1:=vc h;have a2:=nk n;obtain⟨k,hk⟩:=Nat.exists_eq_add_of_le (Nat.not_lt.mp h3);have hk':cd (n / 10)+k=2:=by rw[cW h]at hk;lia
 refine⟨k,hk.symm, ?_,PR (Nat.mul_lt_mul_of_pos_right a2 (Nat.pow_pos (by decide))) (PT ((Nat.pow_add 10 _ _).symm.trans (congrArg (10 ^ ·) hk.symm)))⟩;rw[cW h]at a1;exact PQ (PT ((congrArg (10 ^ ·) hk'.symm).trans (Nat.pow_add 10 _ _))) (Nat.mul_le_mul_right _ a1)
theorem yX{m:Int}{q:Nat}(h:0<q):sg m q≠0:=by
 have:=Int.ofNat_ne_zero.mpr (Nat.ne_of_gt h);unfold sg
 split
 ·exact this
 ·exact Int.neg_ne_zero.mpr this
theorem FW(m:Int):sg m m.natAbs=m:=by
 unfold sg
 split
 ·exact Int.natAbs_of_nonneg (Int.le_of_lt ‹_›)
 ·exact(congrArg Neg.neg (Int.ofNat_natAbs_of_nonpos (Int.not_lt.mp ‹_›))).trans (Int.neg_neg m)
theorem De(m:Int)(a b:Nat):sg m (a*b)=sg m a*b:=by
 unfold sg
 split
 ·rfl
 ·exact(congrArg Neg.neg (Int.natCast_mul a b)).trans (Int.neg_mul ..).symm
theorem yY{m e:Int}(h:m≠0):∃ m0 e0,Fit m.natAbs 1 m0 e0/\bo m e=aL (sg m m0) (e+e0)/\e0=cd m.natAbs - 3:=by
 have hn:m.natAbs≠0:=Int.natAbs_ne_zero.mpr h;unfold bo
 by_cases h3:3<cd m.natAbs
 ·obtain⟨k,hk,a1,a2⟩:=vf hn h3;rw[PY h3,hk,Nat.add_sub_cancel];have f:Fit m.natAbs 1 (iY m.natAbs (10 ^ k)) k:=⟨0,k,by simp only[Nat.one_mul,Nat.pow_zero,Nat.mul_one];exact a1,by simp only[Nat.one_mul,Nat.pow_zero,Nat.mul_one];exact a2,by simp only[Nat.one_mul,Nat.pow_zero,Nat.mul_one],(Int.sub_zero _).symm⟩;exact⟨_,_,f,PZ (yX (PR (by decide) (f.range (by decide)).1)),(Int.add_sub_cancel (k:Int) 3).symm⟩
 ·obtain⟨k,hk,a1,a2⟩:=El hn h3;rw[PZ h3];refine⟨m.natAbs*10 ^ k,(0:Nat) - (k:Int),⟨k,0,by simp only[Nat.pow_zero,Nat.one_mul];exact a1,by simp only[Nat.pow_zero,Nat.one_mul];exact a2,by simp only[Nat.pow_zero,Nat.one_mul,Bk],rfl⟩, ?_,by clear a1 a2;lia⟩;refine(PZ h).trans ?_;simp only[De,FW,Int.natCast_pow];refine PX ?_ (nt h k _).symm;rw[show e+(((0:Nat):Int) - k)+k=e from by lia]
theorem cr(k:Nat):0<10 ^ k:=Nat.pos_of_ne_zero (by simp)
theorem Fit.scale{N D m:Nat}{e:Int}{c:Nat}(hc:0<c):Fit (N*c) (D*c) m e ↔ Fit N D m e:=by
 unfold Fit;have e1:∀ a,N*c*10 ^ a=N*10 ^ a*c:=λa=>by ac_rfl
 have e2:∀ b,D*c*10 ^ b=D*10 ^ b*c:=λb=>by ac_rfl
 constructor
 ·rintro ⟨a,b,h1,h2,h3,h4⟩
  rw[e1,e2]at h1 h2 h3;rw[iZ _ _ hc]at h3;rw[<-Nat.mul_assoc]at h1 h2;exact⟨a,b,Nat.le_of_mul_le_mul_right h1 hc,Nat.lt_of_mul_lt_mul_right h2,h3,h4⟩
 ·rintro ⟨a,b,h1,h2,h3,h4⟩
  refine⟨a,b, ?_, ?_, ?_,h4⟩
  ·rw[e1,e2,<-Nat.mul_assoc];exact Nat.mul_le_mul_right _ h1
  ·rw[e1,e2,<-Nat.mul_assoc];exact Nat.mul_lt_mul_of_pos_right h2 hc
  ·rw[e1,e2,iZ _ _ hc];exact h3
theorem Fit.cross{N D N' D' m:Nat}{e:Int}(hD:0<D)(hD':0<D')(h:N*D'=N'*D)(f:Fit N D m e):Fit N' D' m e:=by have:=(Fit.scale (c:=D') hD').mpr f;rw[h,Nat.mul_comm D D']at this;exact(Fit.scale hD).mp this
theorem cu(k:Nat):((10:Int) ^ k).natAbs=10 ^ k:=by rw[Int.natAbs_pow];rfl
theorem Ch{x y:Int}(m:Nat)(h:0<x ↔ 0<y):sg x m=sg y m:=by unfold sg;simp only[h]
theorem w4{m e over:Int}{under pl nl:Nat}(hm:m≠0)(hu:0<under)(he:e=(pl:Int) - nl)(h:over*10 ^ nl=m*10 ^ pl*under):∃ m0 e0,Fit over.natAbs under m0 e0/\bo m e=aL (sg over m0) e0:=by
 refine ar (yY hm (e:=e)) λm0 e0 f hr _=>?_;have f':=f.shift pl nl;have hab:m.natAbs*10 ^ pl*under=over.natAbs*(1*10 ^ nl):=by have:=congrArg Int.natAbs h;simp only[Int.natAbs_mul,Int.natAbs_mul,Int.natAbs_mul,cu,cu,Int.natAbs_natCast]at this;simp only[Nat.one_mul];exact this.symm
 have f'':=Fit.cross (Nat.mul_pos (by lia) (cr nl)) hu hab f';refine⟨m0,_,f'', ?_⟩;refine PX hr ?_;have hs:0<m ↔ 0<over:=by
  have p1:(0:Int)<10 ^ nl:=Int.pow_pos (by decide);have p2:(0:Int)<10 ^ pl:=Int.pow_pos (by decide);have p3:(0:Int)<10 ^ pl*under:=Int.mul_pos p2 (by lia);simp only[Int.mul_assoc]at h
  constructor
  ·intro q;have:0<over*10 ^ nl:=by rw[h];exact Int.mul_pos q p3
   exact Int.pos_of_mul_pos_left this p1
  ·intro q;have:0<m*(10 ^ pl*under):=by rw[<-h];exact Int.mul_pos q p1
   exact Int.pos_of_mul_pos_left this p3
 simp only[Ch m0 hs,he]
 congr 1;lia
theorem yZ{x e:Int}(h:x≠0):∃ (y:Int) (j:Nat),aL x e=(y,e+j)/\y % 10≠0/\y.natAbs<=x.natAbs/\10 ^ j<=x.natAbs:=by
 obtain⟨a,j,b,c⟩:=w0 _ x e rfl h;have p:=(Int.natAbs_mul (aL x e).1 (10 ^ j)).trans (congrArg (_ * ·) (cu j));rw[<-c]at p;refine⟨_,j,Prod.ext rfl b,a, ?_, ?_⟩ <;> simp only[p]
 ·exact Nat.le_mul_of_pos_right _ (cr j)
 ·exact Nat.le_mul_of_pos_left _ (Int.natAbs_pos.mpr λz=>a (by rw[z];rfl))
theorem Em{y:Int}(h:y % 10≠0)(l:y.natAbs<=1000):y.natAbs<1000:=
 Nat.lt_of_le_of_ne l λz=>h (Int.emod_eq_zero_of_dvd (Int.ofNat_dvd_left.mpr (by rw[z];decide)))
theorem Df(m:Int)(q:Nat):(sg m q).natAbs=q:=by
 unfold sg
 split
 ·rfl
 ·exact Int.natAbs_neg _
theorem hZ{m e:Int}(hm:m≠0):(bo m e).1 % 10≠0/\(bo m e).1.natAbs<1000/\e<=(bo m e).2/\(bo m e).2<=e+cd m.natAbs:=by
 have hn:m.natAbs≠0:=Int.natAbs_ne_zero.mpr hm;unfold bo
 by_cases h3:3<cd m.natAbs
 ·obtain⟨k,hk,a1,a2⟩:=vf hn h3;have hr:=jp (cr k) a1 a2;have h0:sg m (iY m.natAbs (10 ^ k))≠0:=yX (PR (by decide) hr.1);obtain⟨y,j,e1,b1,b2,b3⟩:=yZ (e:=e+k) h0;rw[Df]at b2 b3;rw[PY h3,hk,Nat.add_sub_cancel,gf,PZ h0,e1];have hj:j<=3:=(Nat.pow_le_pow_iff_right (a:=10) (by decide)).mp (PQ b3 hr.2);refine⟨b1,Em b1 (PQ b2 hr.2), ?_, ?_⟩
  ·exact Int.le_trans (Int.le_add_of_nonneg_right (Int.natCast_nonneg k)) (Int.le_add_of_nonneg_right (Int.natCast_nonneg j))
  ·exact(Int.add_assoc ..).symm ▸ Int.add_le_add_left (Int.ofNat_le.mpr (Nat.add_le_add_left hj k)) e
 ·obtain⟨y,j,e1,b1,b2,b3⟩:=yZ (e:=e) hm;rw[PZ h3,gf,PZ hm,e1];refine⟨b1,PS b2 (PR (nk _) (Nat.pow_le_pow_right (by decide) (Nat.not_lt.mp h3))),Int.le_add_of_nonneg_right (Int.natCast_nonneg j),Int.add_le_add_left (Int.ofNat_le.mpr (Nat.le_of_succ_le (lG b3))) e⟩
theorem cX(e:Int):bo 0 e=(0,0):=by unfold bo gf;rw[show Int.natAbs 0=0 from rfl,iX];simp
theorem y0{N D q t:Nat}(h:N=D*q+t)(l:t<D):iY N D=if D<2*t\/(2*t=D/\q % 2=1) then q+1 else q:=by
 have e1:N / D=q:=by simp only[h,Nat.mul_add_div (PS (Nat.zero_le _) l),Nat.div_eq_of_lt l];rfl
 have e2:N % D=t:=by simp only[h,Nat.mul_add_mod];exact(Nat.mod_eq_of_lt l)
 unfold iY;simp only[e1,e2]
theorem E_{U p t r s:Nat}(hr:r<U)(hs:(s=0/\r=0)\/(s=1/\0<r)):(10*p<10*t+s ↔ U*p<U*t+r)/\(10*t+s=10*p ↔ U*t+r=U*p):=by
 rcases Nat.lt_trichotomy t p with h | rfl | h
 ·have l:U*t+U<=U*p:=Nat.mul_le_mul_left U h;have l1:=PR (Nat.add_lt_add_left hr (U*t)) l;have l2:10*t+s<10*p:=by clear l l1 hr;lia
  exact⟨iff_of_false (Nat.not_lt.mpr (Nat.le_of_lt l2)) (Nat.not_lt.mpr (Nat.le_of_lt l1)),iff_of_false (Nat.ne_of_lt l2) (Nat.ne_of_lt l1)⟩
 ·rcases hs with⟨rfl,rfl⟩ | ⟨rfl,h⟩
  ·exact⟨iff_of_false (Nat.lt_irrefl _) (Nat.lt_irrefl _),iff_of_true rfl rfl⟩
  ·exact⟨iff_of_true (Nat.lt_succ_self _) (Nat.lt_add_of_pos_right h),iff_of_false (Nat.succ_ne_self _) (Nat.ne_of_gt (Nat.lt_add_of_pos_right h))⟩
 ·have l:U*p+U<=U*t:=Nat.mul_le_mul_left U h;have l1:U*p<U*t+r:=PR (PR (Nat.lt_add_of_pos_right (Nat.zero_lt_of_lt hr)) l) (Nat.le_add_right _ _);have l2:10*p<10*t+s:=PR (Nat.mul_lt_mul_of_pos_left h (by decide)) (Nat.le_add_right _ _);exact⟨iff_of_true l2 l1,iff_of_false (Nat.ne_of_gt l2) (Nat.ne_of_gt l1)⟩
theorem Dg{A U M k:Nat}(hU:0<U)(hM:M=10*(A / U)+(if A % U=0 then 0 else 1))(hk:1<=k):iY M (10 ^ (k+1))=iY A (U*10 ^ k):=by
 obtain⟨p,hP⟩ : ∃ p,10 ^ k=2*p:=by obtain⟨j,rfl⟩:=Nat.exists_eq_add_of_le' hk;exact⟨5*10 ^ j,by simp only[Nat.pow_succ,Nat.mul_comm,<-Nat.mul_assoc]⟩
 have hp:0<2*p:=hP ▸ cr k;have e1:10 ^ (k+1)=2*(10*p):=by simp only[Nat.pow_succ,hP,Nat.mul_assoc,Nat.mul_comm p]
 have e2:U*10 ^ k=2*(U*p):=by simp only[hP,Nat.mul_left_comm]
 have hr:=Nat.mod_lt A hU;have hA:=Nat.div_add_mod A U;obtain⟨s,hs⟩ : ∃ s,(if A % U=0 then 0 else 1)=s:=⟨_,rfl⟩;have hs':(s=0/\A % U=0)\/(s=1/\0<A % U):=by
  rw[<-hs]
  split
  ·exact .inl ⟨rfl,‹_›⟩
  ·exact .inr ⟨rfl,Nat.pos_of_ne_zero ‹_›⟩
 rw[hs]at hM;generalize A % U=r at *
 generalize A / U=K at *
 have hK:=Nat.div_add_mod K (2*p);have ht:=Nat.mod_lt K hp;generalize K % (2*p)=t at *
 generalize K / (2*p)=q at *
 have c:=E_ (p:=p) (t:=t) hr hs';have m1:M=2*(10*p)*q+(10*t+s):=by refine PX hM ?_;rw[<-hK,Nat.mul_add,<-Nat.mul_assoc 10,Nat.mul_left_comm 10 2,Nat.add_assoc]
 have m2:A=2*(U*p)*q+(U*t+r):=by rw[<-hA,<-hK,Nat.mul_add,<-Nat.mul_assoc U,Nat.mul_left_comm U 2,Nat.add_assoc]
 have l1:10*t+s<2*(10*p):=PR (Nat.add_lt_add_left (hs'.elim (λq=>q.1.symm ▸ (by decide:0<10)) λq=>q.1.symm ▸ (by decide:1<10)) _) (PQ (Nat.mul_le_mul_left 10 ht) (PT (Nat.mul_left_comm 10 2 p)));have l2:U*t+r<2*(U*p):=by simp only[Nat.mul_left_comm];exact PR (Nat.add_lt_add_left hr _) (Nat.mul_le_mul_left U ht)
 have two:0<2:=by decide
 simp only[e1,e2,y0 m1 l1,y0 m2 l2];simp only[Nat.mul_lt_mul_left two,Nat.mul_right_inj (Nat.ne_of_gt two),c.1,c.2]
noncomputable def bh(x y:Int):Nat:=5+cd y.natAbs - cd x.natAbs
noncomputable def qM(x y:Int):Nat:=10*(x.natAbs*10 ^ bh x y / y.natAbs)+(if x.natAbs*10 ^ bh x y % y.natAbs=0 then 0 else 1)
noncomputable def dJ(x y e:Int):Int×Int:=(if (decide (x<0)==decide (y<0))=true then (qM x y:Int) else -(qM x y:Int),e - bh x y - 1)
theorem En(a c:Nat):4+c<=a+(5+c - (a+1)):=by
 have:=Nat.le_add_of_sub_le (Nat.le_refl (5+c - (a+1)));generalize 5+c - (a+1)=s at *
 lia
theorem Fa(r:Nat):(if r=0 then 0 else 1)<=r:=by
 split
 ·exact Nat.zero_le _
 ·exact Nat.pos_of_ne_zero ‹_›
theorem lJ{x y:Int}(hx:x≠0)(hy:y≠0):10 ^ 5<=qM x y/\qM x y<=10*(x.natAbs*10 ^ bh x y):=by
 have hY:0<y.natAbs:=Int.natAbs_pos.mpr hy;have a1:=vc (Int.natAbs_ne_zero.mpr hx);have b:10 ^ 4*y.natAbs<=x.natAbs*10 ^ bh x y:=by refine PQ (Nat.mul_le_mul_left _ (Nat.le_of_lt (nk y.natAbs))) (PQ ?_ (Nat.mul_le_mul_right _ a1));rw[<-Nat.pow_add,<-Nat.pow_add,bh,cW (Int.natAbs_ne_zero.mpr hx)];exact Nat.pow_le_pow_right (by decide) (En _ _)
 unfold qM;generalize x.natAbs*10 ^ bh x y=A at *
 have b':=(Nat.le_div_iff_mul_le hY).mpr b;refine⟨PQ (Nat.mul_le_mul_left 10 b') (Nat.le_add_right _ _),PQ (Nat.add_le_add_left (PQ (Fa _) (Nat.le_mul_of_pos_left _ (by decide:0<10))) _) ?_⟩;rw[<-Nat.mul_add];exact Nat.mul_le_mul_left 10 (PQ (Nat.add_le_add_right (Nat.le_mul_of_pos_left _ hY) _) (PT (Nat.div_add_mod A y.natAbs)))
theorem oX{x y e:Int}:(dJ x y e).1.natAbs=qM x y:=by
 unfold dJ;dsimp only
 split
 ·rfl
 ·exact Int.natAbs_neg _
theorem Bl{x y e:Int}(hx:x≠0)(hy:y≠0):∃ m0 e0,Fit x.natAbs y.natAbs m0 e0/\bo (dJ x y e).1 (dJ x y e).2=aL (sg (dJ x y e).1 m0) (e+e0):=by
 have b1:=(lJ hx hy).1;have hY:0<y.natAbs:=Int.natAbs_pos.mpr hy;have c1:6<=cd (qM x y):=lG b1;have c0:3<cd (qM x y):=PR (by decide) c1;obtain⟨k',hk,a1,a2⟩:=vf (Nat.ne_of_gt (PR (by decide) b1)) c0;rw[hk]at c1;obtain⟨k,rfl⟩:=Nat.exists_eq_add_of_le' (Nat.le_of_add_le_add_right (PQ (by decide:1+3<=6) c1));have st:=Dg (A:=x.natAbs*10 ^ bh x y) (M:=qM x y) (k:=k) hY rfl (Nat.le_of_add_le_add_right (PQ (by decide:1+4<=6) c1));have f:Fit (x.natAbs*10 ^ bh x y) y.natAbs (iY (x.natAbs*10 ^ bh x y) (y.natAbs*10 ^ k)) k:=by
  have hs1:(if x.natAbs*10 ^ bh x y % y.natAbs=0 then 0 else 1)<=1:=by
   split
   ·exact Nat.zero_le 1
   ·exact Nat.le_refl 1
  unfold qM at a1 a2;rw[Nat.pow_succ]at a1 a2;generalize (if x.natAbs*10 ^ bh x y % y.natAbs=0 then 0 else 1)=z at *
  generalize x.natAbs*10 ^ bh x y=A at *
  clear st c0 c1 hk b1;have g1:100*10 ^ k<=A / y.natAbs:=by generalize A / y.natAbs=K at *;generalize 10 ^ k=P at *;lia
  have g2:A / y.natAbs<1000*10 ^ k:=by generalize A / y.natAbs=K at *;generalize 10 ^ k=P at *;lia
  have g5:∀ c,c*(y.natAbs*10 ^ k)=c*10 ^ k*y.natAbs:=λc=>by simp only[Nat.mul_comm y.natAbs,Nat.mul_assoc]
  refine⟨0,k, ?_, ?_, ?_,(Int.sub_zero _).symm⟩ <;> simp only[Nat.pow_zero,Nat.mul_one]
  ·rw[g5];exact(Nat.le_div_iff_mul_le hY).mp g1
  ·rw[g5];exact(Nat.div_lt_iff_lt_mul hY).mp g2
 refine⟨_,_,f.unshift, ?_⟩;unfold bo;rw[oX,PY c0,hk,Nat.add_sub_cancel,st,gf,PZ (yX (PR (by decide) (f.range hY).1))];refine congrArg (aL _) ?_;show e - bh x y - 1+(k+1:Nat)=_;generalize bh x y=s;lia
theorem nu{x y e:Int}(hx:x≠0)(hy:y≠0)(hx3:x.natAbs<1000)(hy3:y.natAbs<1000):(dJ x y e).1≠0/\e - 8<=(dJ x y e).2/\(dJ x y e).2+cd (dJ x y e).1.natAbs<=e+3/\(dJ x y e).1.natAbs<10 ^ 20:=by
 obtain⟨b1,b2⟩:=lJ hx hy;have h1:cd x.natAbs<=3:=bl (k:=3) hx3;have h2:cd y.natAbs<=3:=bl (k:=3) hy3;have h3:1<=cd x.natAbs:=by rw[cW (Int.natAbs_ne_zero.mpr hx)];exact Nat.le_add_left 1 _
 have hs:bh x y<=7:=PQ (Nat.sub_le_sub_left h3 _) (Nat.sub_le_sub_right (Nat.add_le_add_left h2 5) 1);have h4:qM x y<10 ^ (cd x.natAbs+bh x y+1):=by refine PS b2 ?_;rw[Nat.pow_succ,Nat.mul_comm,Nat.pow_add];exact Nat.mul_lt_mul_of_pos_right (Nat.mul_lt_mul_of_pos_right (nk _) (cr _)) (by decide)
 have h5:=bl h4;rw[oX];refine⟨λz=>?_, ?_, ?_,PR h4 (Nat.pow_le_pow_right (by decide) (PQ (Nat.add_le_add_right (Nat.add_le_add h1 hs) 1) (by decide)))⟩
 ·have q:=oX (x:=x) (y:=y) (e:=e);rw[z]at q;rw[<-q]at b1;exact absurd b1 (by decide)
 ·show e - 8<=e - bh x y - 1;generalize bh x y=s at *
  clear h5 h4 b2 b1 h1 h2 h3;lia
 ·show e - bh x y - 1+(cd (qM x y):Int)<=e+3;generalize bh x y=s at *
  generalize cd (qM x y)=c at *
  generalize cd x.natAbs=b at *
  clear h4 b2 b1 h2 h3 hs;lia
noncomputable def sm(x:Int):Prop:=x.natAbs<10 ^ 400
theorem aN{x:Int}(h:sm x):fits x=true:=by
 refine j_ (k:=1600) (by decide) (PR h ?_)
 calc 10 ^ 400<=16 ^ 400:=Nat.pow_le_pow_left (by decide) _
  _=2 ^ 1600:=by rw[show(16:Nat)=2 ^ 4 from rfl,<-Nat.pow_mul]
theorem dS{x y:Int}(h:fits x=true)(e:y.natAbs<=x.natAbs):fits y=true:=by
 unfold fits at *
 rw[decide_eq_true_eq] at *
 lia
theorem y5{x:Int}(h:sm x):cd x.natAbs<=400:=bl h
noncomputable def bT(a b:String)(x y:Int):af:=[(nm a,.int x),(nm b,.int y)]
theorem Bn(call:Str->List D->M D)(K:K'):∀ (N n:Nat) (c:Int),cd n<N->fits (n:Int)=true->az (cn call) (cq call) N (bT "n" "count" n c) K=K (bT "n" "count" 0 (c+cd n)):=by
 intro N
 induction N with
 | zero=>intro n c h;exact absurd h (Nat.not_lt_zero _)
 | succ N ih=>
  intro n c h hf;dsimp only[az]
  by_cases h0:n=0
  ·subst h0;simp only[iX,show c+((0:Nat):Int)=c from Int.add_zero c];walk_at "e"
  ·have mG:fits 10=true:=by decide +kernel
   have e1:(0:Int)<n:=Int.natCast_pos.mpr (Nat.pos_of_ne_zero h0);rw[cW h0]at h ⊢;have:=ih (n / 10) (c+1) (Nat.lt_of_succ_lt_succ h) (dS hf (Nat.div_le_self n 10));rw[Int.add_assoc,Int.add_comm 1,<-show(n:Int).fdiv 10=((n / 10:Nat):Int) from db n 10]at this;refine PX ?_ this;walk_at "e"
theorem Bo(call:Str->List D->M D)(K:K'):∀ (N n:Nat) (c:Int),cd n<9*N+9->fits (n:Int)=true->∃ (n':Nat) (c':Int),n'<10 ^ 9/\c'+cd n'=c+cd n/\az (cF call) (cG call) (N+1) (bT "n" "count" n c) K=K (bT "n" "count" n' c'):=by
 have out:∀ (N n:Nat) (c:Int),¬ 1000000000<=n->az (cF call) (cG call) (N+1) (bT "n" "count" n c) K=K (bT "n" "count" n c):=λN n c hn=>by have hn':¬ (1000000000:Int)<=n:=λq=>hn (Int.ofNat_le.mp q);simp only[az];walk_at "e"
 intro N
 induction N with
 | zero=>intro n c h hf;have hn:¬ 1000000000<=n:=λh'=>absurd (lG (n:=n) (k:=9) h') (Nat.not_le.mpr (Nat.lt_succ_of_lt h));exact⟨n,c,Nat.not_le.mp hn,rfl,out 0 n c hn⟩
 | succ N ih=>
  intro n c h hf
  by_cases hn:1000000000<=n
  ·have mG:fits 1000000000=true:=by decide +kernel
   have e2:(n:Int).fdiv 1000000000=((n / 10 ^ 9:Nat):Int):=db n 1000000000;have e3:(1000000000:Int)<=n:=Int.ofNat_le.mpr hn;rw[Dd (n:=n) 9 hn]at h ⊢;obtain⟨n',c',a,b,e⟩:=ih (n / 10 ^ 9) (c+9) (Nat.lt_of_add_lt_add_right h) (dS hf (Nat.div_le_self n _));rw[<-e2]at e;refine⟨n',c',a,b.trans ((Int.add_assoc ..).trans (congrArg (c + ·) (Int.add_comm ..))),PX ?_ e⟩;rw[az];walk_at "e"
  ·exact⟨n,c,Nat.not_le.mp hn,rfl,out _ n c hn⟩
theorem bH{d:Nat}{n:Int}(hd:1<=d)(h:sm n):run d (nm "count_digits") [.int n]=ret (.int (cd n.natAbs)):=by
 refine am (ak hd) λd z1 _=>?_;obtain rfl:=z1;rw[ln];have hc:=y5 h;have hf:=cf (aN h);refine ar (Bo (run d) (λIQ=>az (cn (run d)) (cq (run d)) cC IQ λIV=>bnd (ac (aa IV (nm "count"))) λJs=>ret (.ret Js)) 4999 n.natAbs 0 (by lia) hf) λn' c' a b e=>?_;have hn':cd n'<=9:=bl a;have e':=Bn (run d) (λIV=>bnd (ac (aa IV (nm "count"))) λJs=>ret (.ret Js)) 5000 n' c' (by lia) (j_ (k:=40) (by decide) (by
  have:10 ^ 9<2 ^ 40:=by decide
  omega))
 have t:ga (run d) (.int n)=az (cF (run d)) (cG (run d)) (4999+1) (bT "n" "count" n.natAbs 0) (λIQ=>az (cn (run d)) (cq (run d)) cC IQ λIV=>bnd (ac (aa IV (nm "count"))) λJs=>ret (.ret Js)):=by kernel_rfl
 rw[t,e];show aq (az _ _ 5000 _ _)=_;rw[e',b,Int.zero_add];rfl
noncomputable def pr(p:Int×Int):D:=.tup [.int p.1,.int p.2]
theorem uk(call:Str->List D->M D)(K:K'):∀ (N:Nat) (m e:Int),m≠0->cd m.natAbs<=N->fits m=true->az (dY call) (dZ call) N (bT "m" "e" m e) K=K (bT "m" "e" (aL m e).1 (aL m e).2):=by
 intro N
 induction N with
 | zero=>intro m e h0 h;rw[cW (Int.natAbs_ne_zero.mpr h0)]at h;exact absurd h (Nat.not_succ_le_zero _)
 | succ N ih=>
  intro m e h0 h hf;have e1:m.fmod 10=m % 10:=Int.fmod_eq_emod_of_nonneg _ (by decide);simp only[az]
  by_cases hm:m % 10=0
  ·obtain⟨q,h1,h2,h3,h4⟩:=nq h0 hm;have mG:fits 10=true:=by decide +kernel
   have e2:m.fdiv 10=q:=(Int.fdiv_eq_ediv_of_nonneg _ (by decide)).trans h2;have hq:cd m.natAbs=cd q.natAbs+1:=by rw[h1,Int.natAbs_mul];exact uj (Int.natAbs_ne_zero.mpr h3) 1
   have:=ih q (e+1) h3 (Nat.le_of_succ_le_succ (PQ (PT hq.symm) h)) (dS hf (Nat.le_of_lt h4));rw[hW h0 hm,h2];refine PX ?_ this;rw[<-e1]at hm;rw[<-e2];walk_at "e"
  ·rw[eG hm];rw[<-e1]at hm;walk_at "e"
theorem gh{d:Nat}{m e:Int}(hd:1<=d)(h:sm m):run d (nm "strip_zeros") [.int m,.int e]=ret (pr (gf m e)):=by
 refine am (ak hd) λd z2 _=>?_;obtain rfl:=z2;rw[mq]
 by_cases h0:m=0
 ·subst h0;kernel_rfl
 ·have hc:=y5 h;have t:gV (run d) (.int m) (.int e)=az (dY (run d)) (dZ (run d)) cC (bT "m" "e" m e) λIQ=>bnd (aI [ac (aa IQ (nm "m")),ac (aa IQ (nm "e"))]) λI8=>ret (.ret I8):=by exact B1 rfl (iF (tF (dF h0)) rfl)
  rw[t,uk _ _ _ _ _ h0 (by unfold cC;lia) (aN h)];simp only[show gf m e=aL m e from PZ h0];rfl
theorem lK{k P:Nat}(h:10 ^ k=P):(10:Int) ^ k=(P:Int):=by simp only[<-h,Int.natCast_pow];rfl
theorem bZ{x:Int}{k:Nat}(hk:k<=400)(h:x.natAbs<10 ^ k):sm x:=PR h (Nat.pow_le_pow_right (by omega) hk)
theorem mG:fits 10=true:=by decide +kernel
theorem f2:fits 2=true:=by decide +kernel
theorem f1:fits 1=true:=by decide +kernel
theorem Dh(N D:Nat):iY N D<=N / D+1:=by unfold iY;split <;> lia
theorem Di(x:Int)(q:Nat):(sg x q).natAbs=q:=by unfold sg;split <;> lia
theorem um{R:Str->List D->M D}{m e c:Int}{q r P:Nat}{z:D}(hcount:R (nm "count_digits") [.int m]=ret (.int c))(hk:0<c - 3)(hpow:ag .Pow (.int 10) (.int (c - 3))=ret (.int P))
  (hdm:au (nm "divmod") [.int m.natAbs,.int P]=ret (.tup [.int q,.int r])) (fr:fits (r:Int)=true) (hst:R (nm "strip_zeros") [.int (sg m (if P<2*r\/(2*r=P/\q % 2=1) then q+1 else q)),.int (e+(c - 3))]=ret z) :
  gb R (.int m) (.int e) (.int 3)=ret (.ret z):=by
 have f2:=f2;have e5:(q:Int).fmod 2=(q % 2:Nat):=iV q 2;unfold sg at hst
 by_cases hb:P<2*r\/(2*r=P/\q % 2=1)
 ·refine B1 (B1 hcount rfl) (B1 rfl (iT (dT hk) (B1 hpow (B1 (B1 (eV rfl (eV rfl rfl)) hdm) (B1 rfl (B1 (a:=true) ?z1 (iT rfl ?z2)))))))
  case z1=>
   by_cases c1:(P:Int)<2*r
   ·walk_at "e"
   ·have c2:2*(r:Int)=P:=by lia
    have c3:(q:Int).fmod 2=1:=by lia
    walk_at "e"
  rw[PY hb]at hst
  by_cases h0:0<m
  ·rw[PY h0]at hst;have hst:R (nm "strip_zeros") [.int ((q:Int)+1),.int (e+(c - 3))]=ret z:=hst;walk_at "e"
  ·rw[PZ h0]at hst;have hst:R (nm "strip_zeros") [.int (-((q:Int)+1)),.int (e+(c - 3))]=ret z:=hst;walk_at "e"
 ·refine B1 (B1 hcount rfl) (B1 rfl (iT (dT hk) (B1 hpow (B1 (B1 (eV rfl (eV rfl rfl)) hdm) (B1 rfl (B1 (a:=false) ?z3 (iF (by decide) ?z4)))))))
  case z3=>
   have c1:¬ (P:Int)<2*r:=by lia
   by_cases c2:2*(r:Int)=P
   ·have c3:¬ (q:Int).fmod 2=1:=by lia
    walk_at "e"
   ·walk_at "e"
  rw[PZ hb]at hst
  by_cases h0:0<m
  ·rw[PY h0]at hst;walk_at "e"
  ·rw[PZ h0]at hst;walk_at "e"
theorem jT{d:Nat}{m e:Int}(hd:2<=d)(h:sm m):run d (nm "round_digits") [.int m,.int e,.int 3]=ret (pr (bo m e)):=by
 refine am (ak hd) λd z1 hd'=>?_;obtain rfl:=z1;refine(lp ..).trans ?_;unfold bo
 by_cases h3:3<cd m.natAbs
 ·have hn:m.natAbs≠0:=λz=>by rw[z]at h3;exact absurd h3 (by decide)
  obtain⟨k,hk,a1,a2⟩:=vf hn h3;rw[PY h3];have e3:(cd m.natAbs:Int) - 3=(k:Int):=by rw[hk];exact Int.add_sub_cancel (k:Int) 3
  have hk0:0<k:=Nat.lt_of_add_lt_add_right (n:=3) (by simp only[Nat.zero_add,<-hk];exact h3);have g2:(k:Int)<=4000:=Int.ofNat_le.mpr (PQ (PQ (PQ (Nat.le_add_right k 3) (PT hk.symm)) (y5 h)) (by decide));have hf:=aN h;have hP1:1<10 ^ k:=Nat.one_lt_pow (Nat.ne_of_gt hk0) (by decide);have hmP:10 ^ k<=m.natAbs:=PQ (Nat.le_mul_of_pos_left _ (by decide)) a1;have hq:sm (sg m (iY m.natAbs (10 ^ k))):=by unfold sm at h ⊢;rw[Di];exact PS (PQ (Dh _ _) (Nat.div_lt_self (Nat.pos_of_ne_zero hn) hP1)) h
  have hst:=gh (e:=e+(cd m.natAbs - 3)) hd' hq;have e4:=lK (k:=k) rfl;rw[show cd m.natAbs - 3=k from (congrArg (· - 3) hk).trans (Nat.add_sub_cancel k 3),<-e3];refine E1 (um (bH hd' h) (by rw[e3];exact Int.natCast_pos.mpr hk0) (by simp only[e3,Da (Int.natCast_nonneg k) g2 mG,<-e4];rfl) ((SB.2.2.2.2.2.2.2.2.1 _ _).trans ((PY ⟨Int.natCast_ne_zero.mpr (Nat.ne_of_gt (Nat.lt_of_succ_lt hP1)),cf hf,dS hf hmP⟩).trans ?_)) (dS hf (Nat.mod_le _ (10 ^ k))) hst);rw[db,iV]
 ·rw[PZ h3];have h3':¬ (0:Int)<(cd m.natAbs:Int) - 3:=λq=>h3 (Int.ofNat_lt.mp (Int.lt_of_sub_pos q));exact E1 (B1 (B1 (bH hd' h) rfl) (B1 rfl (iF (tF (dF h3')) (B1 (gh hd' h) rfl))))
noncomputable def bx(m e:Int):Option (Int×Int):=if (bo m e).1=0\/(bo m e).2+cd (bo m e).1.natAbs - 1 < -90 then some (0,0) else if 90<(bo m e).2+cd (bo m e).1.natAbs - 1 then none else some (bo m e)
theorem Bp{m e:Int}:sm (bo m e).1:=by
 by_cases h:m=0
 ·subst h;rw[cX];unfold sm;exact cr _
 ·exact bZ (k:=3) (by omega) (hZ h).2.1
theorem cg{d:Nat}{m e:Int}(hd:3<=d)(h:sm m):run d (nm "round_real") [.int m,.int e,.int 3,.int 90]=aQ ((bx m e).map pr):=by
 refine am (ak hd) λd z2 hd'=>?_;obtain rfl:=z2;rw[oC];unfold bx;have hs:=Bp (m:=m) (e:=e);have q1:=jT (e:=e) hd' h;generalize bo m e=p at *
 have q2:=bH (d:=d) (by lia) hs;rcases P_ (p.1=0) with c1 | c1
 ·rw[PY (.inl c1)];refine E1 ?_;walk_at "e"
 ·by_cases c2:p.2+cd p.1.natAbs - 1 < -90
  ·rw[PY (.inr c2)];refine E1 ?_;walk_at "e"
  ·rw[PZ λq=>q.elim c1 c2]
   by_cases c3:90<p.2+cd p.1.natAbs - 1
   ·rw[PY c3];refine EF ?_;walk_at "e"
   ·rw[PZ c3];refine E1 ?_;walk_at "e"
theorem re{m e:Int}(h1:-85<=e)(h2:e+cd m.natAbs<=87):bx m e=some (bo m e):=by
 unfold bx
 by_cases h:m=0
 ·rw[h];rw[cX];simp
 ·refine cO (hZ h (e:=e)) λb1 b2 b3 b4=>?_;have hz:(bo m e).1≠0:=λz=>b1 (by rw[z];rfl);have:cd (bo m e).1.natAbs<=3:=bl (by lia);exact(PZ (by lia)).trans ((PZ (by lia)))
noncomputable def aK(x y:Int×Int):Int×Int:=(x.1*10 ^ (x.2 - min x.2 y.2).toNat+y.1*10 ^ (y.2 - min x.2 y.2).toNat,min x.2 y.2)
structure Rl(b:Nat)(x:Int×Int):Prop where
 low:x.1.natAbs<1000
 exp:x.2.natAbs<=b
theorem lL{k:Nat}(h:k<400):sm (10 ^ k):=by unfold sm;exact Nat.pow_lt_pow_right (by lia) h
theorem ab{x:Int}{b:Nat}(h:x.natAbs<=b):-(b:Int)<=x/\x<=b:=⟨Int.neg_le_of_neg_le (Int.le_trans (Int.le_natAbs (a:=-x)) (Int.ofNat_le.mpr (PQ (PT (Int.natAbs_neg x)) h))),Int.le_trans Int.le_natAbs (Int.ofNat_le.mpr h)⟩
theorem FJ{b:Nat}{x y:Int}(hx:x.natAbs<=b)(hy:y.natAbs<=b)(h:x<=y):∃ j:Nat,y - x=j/\j<=2*b ∧ -(b:Int)<=x/\x+j<=b:=by obtain⟨j,e⟩:=Int.eq_ofNat_of_zero_le (Int.sub_nonneg_of_le h);obtain⟨h1,_⟩:=ab hx;obtain⟨_,h2⟩:=ab hy;exact⟨j,e,by lia,h1,by lia⟩
theorem mn{b:Nat}{x y:Int}(hx:x.natAbs<=b)(hy:y.natAbs<=b):∃ (m:Int) (i j:Nat),min x y=m/\x - m=i/\y - m=j/\i<=2*b/\j<=2*b ∧ -(b:Int)<=m/\m+i+j<=b:=by
 rcases Int.le_total x y with h | h
 ·obtain⟨j,e,h1,h2,h3⟩:=FJ hx hy h;exact⟨x,0,j,Int.min_eq_left h,Int.sub_self x,e,Nat.zero_le _,h1,h2,(congrArg (· + (j:Int)) (Int.add_zero x)).symm ▸ h3⟩
 ·obtain⟨j,e,h1,h2,h3⟩:=FJ hy hx h;exact⟨y,j,0,Int.min_eq_right h,e,Int.sub_self y,h1,Nat.zero_le _,h2,(Int.add_zero (y+j)).symm ▸ h3⟩
theorem Bq(a b:Int):(if b<a then b else a)=min a b:=PW (Int.lt_or_le b a) (λh=>(PY h).trans (Int.min_eq_right (Int.le_of_lt h)).symm) λh=>(PZ (Int.not_lt.mpr h)).trans (Int.min_eq_left h).symm
theorem e_{d b:Nat}{x y:Int×Int}(hd:1<=d)(hb:b<=100)(hx:Rl b x)(hy:Rl b y):run d (nm "exact_add") [pr x,pr y]=ret (pr (aK x y)):=by refine am (ak hd) λd z3 hd'=>?_;obtain rfl:=z3;refine(qJ ..).trans ?_;obtain⟨x1,x2⟩:=x;obtain⟨y1,y2⟩:=y;have fx:fits x1=true:=aN (bZ (k:=3) (by decide) hx.low);have fy:fits y1=true:=aN (bZ (k:=3) (by decide) hy.low);unfold aK;dsimp only;obtain⟨m,i,j,e1,e2,e3,h1,h2,_⟩:=mn hx.exp hy.exp;dsimp only at e1 e2 e3;have hm:au (nm "min") [.int x2,.int y2]=ret (.int (min x2 y2)):=(SB.2.2.1 _ _).trans (congrArg (λz=>ret (D.int z)) (Bq x2 y2));rw[e1]at hm ⊢;have q:∀ k:Nat,k<=2*b->(k:Int)<=4000/\fits (10 ^ (k:Int).toNat)=true:=λk hk=>⟨Int.ofNat_le.mpr (PQ hk (PQ (Nat.mul_le_mul_left 2 hb) (by decide))),aN (lL (PS hk (PS (Nat.mul_le_mul_left 2 hb) (by decide))))⟩;obtain⟨g3,s1⟩:=q i h1;obtain⟨g4,s2⟩:=q j h2;have g1:=Int.natCast_nonneg i;have g2:=Int.natCast_nonneg j;have mG:=mG;simp only[e2,e3];have p1:ag .Sub (.int x2) (.int m)=ret (.int i):=congrArg (λz=>ret (D.int z)) e2;have p2:ag .Sub (.int y2) (.int m)=ret (.int j):=congrArg (λz=>ret (D.int z)) e3;exact E1 (by walk_at "e")
theorem FX(a b:Int):subD (.tup [.int a,.int b]) (.int 0)=ret (.int a):=rfl
theorem Eo(a b:Int):subD (.tup [.int a,.int b]) (.int 1)=ret (.int b):=rfl
theorem Rl.fits{b:Nat}{x:Int×Int}(h:Rl b x):fits x.1=true:=aN (bZ (k:=3) (by lia) h.low)
theorem oY{d b:Nat}{x y:Int×Int}(hd:1<=d)(hx:Rl b x)(hy:Rl b y):run d (nm "exact_mul") [pr x,pr y]=ret (pr (x.1*y.1,x.2+y.2)):=by refine am (ak hd) λd z1 hd'=>?_;obtain rfl:=z1;rw[qL];have a:=hx.fits;have b:=hy.fits;walk_at "e"
noncomputable def h_(x:Int×Int):Int×Int:=(-x.1,x.2)
theorem gi{d:Nat}{x:Int×Int}(hd:1<=d):run d (nm "real_neg") [pr x]=ret (pr (h_ x)):=by refine am (ak hd) λd z2 hd'=>?_;obtain rfl:=z2;exact E1 rfl
theorem Rl.neg{b:Nat}{x:Int×Int}(h:Rl b x):Rl b (h_ x):=⟨by have:=h.low;unfold h_;simp;omega,h.exp⟩
theorem dU{b:Nat}{x y:Int×Int}(hx:Rl b x)(hy:Rl b y):(aK x y).1.natAbs<10 ^ (2*b+4) ∧ -(b:Int)<=(aK x y).2/\(aK x y).2+cd (aK x y).1.natAbs<=b+4:=by
 obtain⟨m,i,j,e1,e2,e3,h1,h2,h3,h4⟩:=mn hx.exp hy.exp;unfold aK;dsimp only;simp only[e1,e2,e3];have e:∀ {z:Int} {j k:Nat},z.natAbs<1000->j<=k->(z*10 ^ j).natAbs<=1000*10 ^ k:=λ{z j k} hz hj=>by simp only[Int.natAbs_mul,cu];exact Nat.mul_le_mul (Nat.le_of_lt hz) (Nat.pow_le_pow_right (by decide) hj)
 have key:∀ k:Nat,i<=k->j<=k->(x.1*10 ^ i+y.1*10 ^ j).natAbs<10 ^ (k+4):=λk p q=>by refine PS (PQ (Int.natAbs_add_le _ _) (Nat.add_le_add (e hx.low p) (e hy.low q))) ?_;simp only[Nat.pow_add];have:=cr k;lia
 refine⟨key _ h1 h2,h3, ?_⟩;exact Int.le_trans (Int.add_le_add_left (Int.ofNat_le.mpr (bl (key (i+j) (Nat.le_add_right _ _) (Nat.le_add_left _ _)))) m) (by clear key e e1 e2 e3;omega)
theorem rf{d b:Nat}{x y:Int×Int}(hd:4<=d)(hb:b<=80)(hx:Rl b x)(hy:Rl b y):run d (nm "real_add") [pr x,pr y,.int 3,.int 90]=aQ ((bx (aK x y).1 (aK x y).2).map pr):=by
 refine am (ak hd) λd z3 hd'=>?_;obtain rfl:=z3;rw[tz];have h:=bZ (k:=2*b+4) (by lia) (dU hx hy).1;have a1:1<=d:=by lia
 have e:=e_ (d:=d) a1 (by lia) hx hy;have r:=λe=>cg (e:=e) hd' h;have r:=r (aK x y).2;walk_at "t"
theorem rj{d b:Nat}{x y:Int×Int}(hd:4<=d)(hb:b<=80)(hx:Rl b x)(hy:Rl b y):run d (nm "real_sub") [pr x,pr y,.int 3,.int 90]=aQ ((bx (aK x (h_ y)).1 (aK x (h_ y)).2).map pr):=by
 refine am (ak hd) λd z4 hd'=>?_;obtain rfl:=z4;rw[tB];have h:=bZ (k:=2*b+4) (by omega) (dU hx hy.neg).1;have a1:1<=d:=by omega
 have e:=e_ (d:=d) a1 (by omega) hx hy.neg;have q:=gi (x:=y) a1;have r:=λe=>cg (e:=e) hd' h;have r:=r (aK x (h_ y)).2;walk_at "t"
theorem rp{d b:Nat}{x y:Int×Int}(hd:4<=d)(hx:Rl b x)(hy:Rl b y):run d (nm "real_mul") [pr x,pr y,.int 3,.int 90]=aQ ((bx (x.1*y.1) (x.2+y.2)).map pr):=by
 refine am (ak hd) λd z5 hd'=>?_;obtain rfl:=z5;rw[tD];have h:sm (x.1*y.1):=bZ (k:=6) (by lia) (by rw[Int.natAbs_mul];have:=Nat.mul_le_mul (Nat.le_of_lt_succ (show x.1.natAbs<999+1 from hx.low)) (Nat.le_of_lt_succ (show y.1.natAbs<999+1 from hy.low));lia)
 have a1:1<=d:=by lia
 have e:=oY (d:=d) a1 hx hy;have r:=cg (e:=x.2+y.2) hd' h;walk_at "t"
theorem rq{d:Nat}{x y e:Int}(hd:2<=d)(hx:x.natAbs<1000)(hy:y.natAbs<1000)(h0:y≠0):run d (nm "quotient") [.int x,.int y,.int e,.int 3]=ret (pr (dJ x y e)):=by
 refine am (ak hd) λd z6 hd'=>?_;obtain rfl:=z6;rw[tw];have sx:sm x:=bZ (k:=3) (by lia) hx;have sy:sm y:=bZ (k:=3) (by lia) hy;have hc:=bl (n:=y.natAbs) (k:=3) (by lia);have hle:cd x.natAbs<=5+cd y.natAbs:=PQ (bl (k:=3) hx) (PQ (by decide:3<=5) (Nat.le_add_right 5 _));obtain⟨S,hS⟩ : ∃ S,bh x y=S:=⟨_,rfl⟩;have hs:S<=8:=by rw[<-hS];exact PQ (Nat.sub_le _ _) (Nat.add_le_add_left (bl (k:=3) hy) 5)
 have e0:(3:Int)+2+cd y.natAbs - cd x.natAbs=(S:Int):=by rw[<-hS];exact(Int.ofNat_sub hle).symm
 have e1:(if (3:Int)+2+cd y.natAbs - cd x.natAbs<0 then 0 else (3:Int)+2+cd y.natAbs - cd x.natAbs)=(S:Int):=by rw[e0];exact PZ (Int.not_lt.mpr (Int.natCast_nonneg S))
 obtain⟨P,hP⟩ : ∃ P:Nat,10 ^ S=P:=⟨_,rfl⟩;have e2:=lK hP;have fP:fits (P:Int)=true:=by rw[<-e2];exact aN (lL (PS hs (by decide)))
 have fA:fits ((x.natAbs:Int)*(P:Int))=true:=by rw[<-e2];refine aN (bZ (k:=12) (by decide) ?_);simp only[Int.natAbs_mul,cu];exact PS (Nat.mul_le_mul (Nat.le_of_lt hx) (Nat.pow_le_pow_right (by decide) hs)) (by decide)
 have g1:(0:Int)<=S:=Int.natCast_nonneg S;have g2:(S:Int)<=4000:=Int.ofNat_le.mpr (PQ hs (by decide));have g3:¬ (y.natAbs:Int)=0:=Int.natCast_ne_zero.mpr (Int.natAbs_ne_zero.mpr h0);have e3:(x.natAbs:Int)*(P:Int)=((x.natAbs*P:Nat):Int):=(Int.natCast_mul ..).symm;have a1:1<=d:=hd';have e4:au (nm "divmod") [.int (x.natAbs*P),.int y.natAbs]=ret (.tup [.int (x.natAbs*P / y.natAbs:Nat),.int (x.natAbs*P % y.natAbs:Nat)]):=by refine(SB.2.2.2.2.2.2.2.2.1 _ _).trans ((PY ⟨g3,fA,cf (aN sy)⟩).trans ?_);simp only[e3,db,iV]
 have fK:fits (((x.natAbs*P / y.natAbs:Nat):Int))=true:=dS fA (by simp only[e3,Int.natAbs_natCast,Int.natAbs_natCast];exact Nat.div_le_self ..);have hq:dJ x y e=(if (decide (x<0)==decide (y<0))=true then ((10*(x.natAbs*P / y.natAbs)+(if x.natAbs*P % y.natAbs=0 then 0 else 1):Nat):Int) else -((10*(x.natAbs*P / y.natAbs)+(if x.natAbs*P % y.natAbs=0 then 0 else 1):Nat):Int),e - S - 1):=by unfold dJ qM;rw[hS,hP]
 simp only[hq];generalize x.natAbs*P / y.natAbs=K at *
 generalize x.natAbs*P % y.natAbs=r at *
 have mG:=mG;have fa:=cf (aN sx);have c1:=bH a1 sx;have c2:=bH a1 sy;have hm:au (nm "max") [.int (3+2+cd y.natAbs - cd x.natAbs),.int 0]=ret (.int S):=(SB.2.2.2.1 _ _).trans (congrArg (λz=>ret (D.int z)) e1);have hp:ag .Pow (.int 10) (.int S)=ret (.int P):=by refine PX (Da g1 g2 mG) ?_;exact(Eq.symm e2) ▸ rfl
 clear hs hS e0 hle hP e1 e2 e3 fA g1 g2 g3 hq sx sy hc hx hy a1 hd hd' h0;have hr:(if ((r:Int) !=0)=true then D.int 1 else D.int 0)=.int (if r=0 then 0 else 1:Nat):=by by_cases hr:r=0 <;> simp[hr]
 refine E1 (B1 (B1 (eV (B1 (B1 rfl (B1 c2 rfl)) (B1 c1 rfl)) (eV rfl rfl)) hm) (B1 (B1 (eV (B1 rfl (B1 hp (oR fa fP))) (eV rfl rfl)) e4) (B1 rfl (B1 (a:=.int (10*(K:Int)+(if r=0 then 0 else 1:Nat))) ?_ ?_))))
 ·refine B1 (B1 rfl (oR mG fK)) (B1 (a:=.int (if r=0 then 0 else 1:Nat)) ?_ rfl);rw[<-hr];refine B1 rfl ?_
  split <;> rfl
 ·induction hs':(decide (x<0)==decide (y<0))
  ·rw[PZ Bool.false_ne_true];walk_at "e"
  ·rw[PY (c:=true=true) rfl];walk_at "e"
theorem rs{d b:Nat}{x y:Int×Int}(hd:4<=d)(hx:Rl b x)(hy:Rl b y) :
  run d (nm "real_div") [pr x,pr y,.int 3,.int 90]=aQ (if y.1=0 then none else (bx (dJ x.1 y.1 (x.2 - y.2)).1 (dJ x.1 y.1 (x.2 - y.2)).2).map pr):=by
 refine am (ak hd) λd z7 hd'=>?_;obtain rfl:=z7;rw[tG]
 by_cases h0:y.1=0
 ·rw[PY h0];exact EF (B1 (B1 rfl rfl) (iT (dT h0) rfl))
 ·have h:sm (dJ x.1 y.1 (x.2 - y.2)).1:=by
   by_cases hx0:x.1=0
   ·have:(dJ x.1 y.1 (x.2 - y.2)).1=0:=by unfold dJ qM;rw[hx0];simp
    simp only[this];exact cr _
   ·exact bZ (k:=20) (by lia) (nu hx0 h0 hx.low hy.low).2.2.2
  have e:=rq (d:=d) (x:=x.1) (y:=y.1) (e:=x.2 - y.2) (by lia) hx.low hy.low h0;have r:=cg (e:=(dJ x.1 y.1 (x.2 - y.2)).2) hd' h;rw[PZ h0];walk_at "t"
theorem jU{d b:Nat}{x y:Int×Int}(hd:2<=d)(hb:b<=80)(hx:Rl b x)(hy:Rl b y):run d (nm "real_compare") [pr x,pr y]=ret (.int (if (aK x (h_ y)).1=0 then 0 else if 0<(aK x (h_ y)).1 then 1 else -1)):=by
 refine am (ak hd) λd z8 hd'=>?_;obtain rfl:=z8;rw[lr];have e:=e_ (d:=d) hd' (by omega) hx hy.neg;have q:=gi (x:=y) hd'
 by_cases h1:(aK x (h_ y)).1=0
 ·rw[PY h1];walk_at "e"
 ·rw[PZ h1]
  by_cases h2:0<(aK x (h_ y)).1
  ·rw[PY h2];walk_at "e"
  ·rw[PZ h2];walk_at "e"
theorem lM{d:Nat}{n:Int}(hd:4<=d)(h:sm n):run d (nm "real_of_int") [.int n,.int 3,.int 90]=aQ ((bx n 0).map pr):=by refine am (ak hd) λd z9 hd'=>?_;obtain rfl:=z9;rw[mu];exact ET (cg hd' h)
noncomputable def jI(x:Int×Int):Int:=if 0<=x.2 then x.1*10 ^ x.2.toNat else if 0<x.1 then ((x.1.natAbs / 10 ^ (-x.2).toNat:Nat):Int) else -((x.1.natAbs / 10 ^ (-x.2).toNat:Nat):Int)
theorem lN{d b:Nat}{x:Int×Int}(hd:1<=d)(hb:b<=300)(hx:Rl b x):run d (nm "real_to_int") [pr x]=ret (.int (jI x)):=by
 refine am (ak hd) λd z10 hd'=>?_;rw[z10];rw[mw];have hf:=hx.fits;obtain⟨a1,a2⟩:=hx;obtain⟨m,e⟩:=x;dsimp only at a1 a2 hf;delta jI pr
 by_cases he:0<=e
 ·have g:e<=4000:=by lia
  have s:=aN (lL (k:=e.toNat) (by lia));have mG:=mG;rw[PY he];walk_at "e"
 ·obtain⟨P,hP⟩ : ∃ P:Nat,10 ^ (-e).toNat=P:=⟨_,rfl⟩;have e2:=lK hP;have fP:fits (P:Int)=true:=by rw[<-e2];exact aN (lL (by lia))
  have hp:¬ (P:Int)=0:=by have:=cr (-e).toNat;lia
  have g1:0 ≤ -e:=by lia
  have g2:-e<=4000:=by lia
  rw[hP];have q:ag .Pow (.int 10) (.int (-e))=ret (.int P):=by simp only[Da g1 g2 mG,<-e2]
  have q2:ag .FloorDiv (.int m.natAbs) (.int P)=ret (.int (m.natAbs / P:Nat)):=by simp only[Bh hp (cf hf) fP,db]
  rw[PZ he]
  by_cases hm:0<m
  ·rw[PY hm];walk_at "e"
  ·rw[PZ hm];walk_at "e"
noncomputable def vg(op:String)(x y:Int×Int):Option (Int×Int):=
 if op = "add" then bx (aK x y).1 (aK x y).2 else if op = "sub" then bx (aK x (h_ y)).1 (aK x (h_ y)).2
 else if op = "mul" then bx (x.1*y.1) (x.2+y.2) else if y.1=0 then none else bx (dJ x.1 y.1 (x.2 - y.2)).1 (dJ x.1 y.1 (x.2 - y.2)).2
theorem fe{d:Nat}{lim:D}{w:Int}{σ:St}(hd:1<=d)(L:dE lim w σ):run d (nm "digits_of") [.int 1,lim] σ=.ok (.int 3) σ:=by refine am (ak hd) λd z11 hd'=>?_;obtain rfl:=z11;rw[qO];exact pE (bd rfl L.digits)
theorem lO{d b:Nat}{op:String}{x y:Int×Int}{w:Int}{lim:D}{σ:St}(hd:5<=d)(hb:b<=80)(hx:Rl b x)(hy:Rl b y)(L:dE lim w σ)(ho:op∈["add","sub","mul","div"]) :
  run d (nm "real_binary") [.str (nm op),.int 1,pr x,pr y,lim] σ=aQ ((vg op x y).map pr) σ:=by
 refine am (ak hd) λd z12 hd'=>?_;obtain rfl:=z12;rw[gW];simp only[List.mem_cons,List.not_mem_nil,or_false]at ho;have e:=fe (d:=d) (by lia) L;have t:=L.top;rcases ho with rfl | rfl | rfl | rfl
 ·have q:_=aQ ((vg "add" x y).map pr) σ:=congrFun (rf hd' hb hx hy) σ;walk_at "u"
 ·have q:_=aQ ((vg "sub" x y).map pr) σ:=congrFun (rj hd' hb hx hy) σ;walk_at "u"
 ·have q:_=aQ ((vg "mul" x y).map pr) σ:=congrFun (rp hd' hx hy) σ;walk_at "u"
 ·have q:=congrFun (rs hd' hx hy) σ;rw[show vg "div" x y=if y.1=0 then none else bx (dJ x.1 y.1 (x.2 - y.2)).1 (dJ x.1 y.1 (x.2 - y.2)).2 from rfl];rw[show(if y.1=0 then none else (bx (dJ x.1 y.1 (x.2 - y.2)).1 (dJ x.1 y.1 (x.2 - y.2)).2).map pr)=(if y.1=0 then none else bx (dJ x.1 y.1 (x.2 - y.2)).1 (dJ x.1 y.1 (x.2 - y.2)).2).map pr by split <;> rfl]at q;walk_at "u"
theorem ry{d b:Nat}{op:String}{x y:Int×Int}{w:Int}{lim:D}{σ:St}(hd:5<=d)(hb:b<=80)(hx:Rl b x)(hy:Rl b y)(L:dE lim w σ)(ho:op∈rels) :
  run d (nm "real_binary") [.str (nm op),.int 1,pr x,pr y,lim] σ=.ok (.bool (iW op (if (aK x (h_ y)).1=0 then 0 else if 0<(aK x (h_ y)).1 then 1 else -1))) σ:=by
 refine am (ak hd) λd z13 hd'=>?_;obtain rfl:=z13;rw[gW];have ho':=ho;have a1:1<=d:=by lia
 have a2:2<=d:=by lia
 simp only[rels,List.mem_cons,List.not_mem_nil,or_false]at ho;have e:=fe (d:=d) (by lia) L;have t:=L.top;have q:=jU a2 hb hx hy;have q2:=rS (σ:=σ) (lF a1 ho' (o:=if (aK x (h_ y)).1=0 then 0 else if 0<(aK x (h_ y)).1 then 1 else -1));rcases ho with rfl | rfl | rfl | rfl | rfl | rfl <;> walk_at "u"
noncomputable def F5(over under e size:Int):af:=[(nm "over",.int over),(nm "under",.int under),(nm "digits",.int 3),(nm "e",.int e),(nm "size",.int size)]
noncomputable def F7(over under e size m rest:Int):af:=[(nm "over",.int over),(nm "under",.int under),(nm "digits",.int 3),(nm "e",.int e),(nm "size",.int size),(nm "m",.int m),(nm "rest",.int rest)]
theorem vm:fits 1000=true:=by decide +kernel
theorem vn:ag .Pow (.int 10) (.int 3)=ret (.int 1000):=by kernel_rfl
theorem dG{n k:Nat}(hk:k<=400)(h:n<10 ^ k):fits (n:Int)=true:=aN (bZ hk (by simpa using h))
theorem w6(call:Str->List D->M D)(K:K')(over:Int)(u:Nat)(hu:u<10 ^ 300):∀ (N s:Nat) (e:Int),0<s->s<10 ^ 310->u*1000<=s*10 ^ (N+1) →
  ∃ a:Nat,u*1000<=s*10 ^ a*10/\(a=0\/s*10 ^ a<u*1000)/\az (ew call) (ey call) (N+1) (F5 over u e s) K=K (F5 over u (e - a) (s*10 ^ a:Nat)):=by
 have mG:=mG;have vm:=vm;have vn:=vn;have fu:=dG (by decide) hu;have out:∀ (N s:Nat) (e:Int),s<10 ^ 310->¬ s*10<u*1000->∃ a:Nat,u*1000<=s*10 ^ a*10/\(a=0\/s*10 ^ a<u*1000)/\az (ew call) (ey call) (N+1) (F5 over u e s) K=K (F5 over u (e - a) (s*10 ^ a:Nat)):=λN s e hs h=>by have c1:¬ (s:Int)*10<u*1000:=λq=>h (Int.ofNat_lt.mp q);have fs:=dG (by decide) hs;refine⟨0,by simp only[Nat.pow_zero,Nat.mul_one];exact Nat.not_lt.mp h,.inl rfl, ?_⟩;simp only[az,Nat.pow_zero,Nat.mul_one,show e - ((0:Nat):Int)=e from Int.sub_zero e];walk_at "e"
 intro N
 induction N with
 | zero=>exact λs e h0 hs h=>out 0 s e hs (Nat.not_lt.mpr h)
 | succ N ih=>
  intro s e h0 hs h
  by_cases hc:s*10<u*1000
  ·have fs:=dG (by decide) hs;have c1:(s:Int)*10<u*1000:=Int.ofNat_lt.mpr hc;obtain⟨a,h1,h2,h3⟩:=ih (s*10) (e - 1) (Nat.mul_pos h0 (by decide)) (PR hc (PQ (Nat.mul_le_mul_right 1000 (Nat.le_of_lt hu)) (by decide +kernel))) (by rw[Nat.mul_assoc,<-Nat.pow_succ'];exact h);have e1:s*10*10 ^ a=s*10 ^ (a+1):=by simp only[Nat.pow_succ',Nat.mul_assoc]
   rw[e1]at h1 h2 h3;refine⟨a+1,h1,.inr ?_, ?_⟩
   ·rcases h2 with rfl | h2
    ·exact hc
    ·exact h2
   ·rw[show e - ((a+1:Nat):Int)=e - 1 - a from by clear h1 h2 h3 c1 hc;lia,<-h3];rw[az];walk_at "e"
  ·exact out _ s e hs hc
theorem w7(call:Str->List D->M D)(K:K')(over:Int)(s:Nat)(hs:s<10 ^ 310):∀ (N u:Nat) (e:Int),0<u->u<10 ^ 311->s<u*1000*10 ^ N →
  ∃ b:Nat,s<u*10 ^ b*1000/\(b=0\/u*10 ^ b*100<=s)/\az (cS call) (cT call) (N+1) (F5 over u e s) K=K (F5 over (u*10 ^ b:Nat) (e+b) s):=by
 have mG:=mG;have vm:=vm;have vn:=vn;have fs:=dG (by decide) hs;have out:∀ (N u:Nat) (e:Int),u<10 ^ 311->¬ u*1000<=s->∃ b:Nat,s<u*10 ^ b*1000/\(b=0\/u*10 ^ b*100<=s)/\az (cS call) (cT call) (N+1) (F5 over u e s) K=K (F5 over (u*10 ^ b:Nat) (e+b) s):=λN u e hu h=>by have c1:¬ (u:Int)*1000<=s:=λq=>h (Int.ofNat_le.mp q);have fu:=dG (by decide) hu;refine⟨0,by rw[Nat.pow_zero,Nat.mul_one];exact Nat.not_le.mp h,.inl rfl, ?_⟩;simp only[az,Nat.pow_zero,Nat.mul_one,show e+((0:Nat):Int)=e from Int.add_zero e];walk_at "e"
 intro N
 induction N with
 | zero=>exact λu e h0 hu h=>out 0 u e hu (Nat.not_le.mpr (Nat.lt_of_lt_of_eq h (Nat.mul_one _)))
 | succ N ih=>
  intro u e h0 hu h
  by_cases hc:u*1000<=s
  ·have fu:=dG (by decide) hu;have c1:(u:Int)*1000<=s:=Int.ofNat_le.mpr hc;obtain⟨b,h1,h2,h3⟩:=ih (u*10) (e+1) (Nat.mul_pos h0 (by decide)) (PS (PQ (Nat.mul_le_mul_left u (by decide:10<=1000)) hc) (PR hs (by decide +kernel))) (by
    have:u*10*1000*10 ^ N=u*1000*10 ^ (N+1):=by rw[Nat.pow_succ'];ac_rfl
    simp only[this];exact h)
   have e1:u*10*10 ^ b=u*10 ^ (b+1):=by rw[Nat.pow_succ',Nat.mul_assoc]
   rw[e1]at h1 h2 h3;refine⟨b+1,h1,.inr ?_, ?_⟩
   ·rcases h2 with rfl | h2
    ·simp only[Nat.zero_add,Nat.pow_one,Nat.mul_assoc];exact hc
    ·exact h2
   ·rw[show e+((b+1:Nat):Int)=e+1+b from by clear h1 h2 h3 c1 hc;lia,<-h3];rw[az];walk_at "e"
  ·exact out _ u e hu hc
theorem w8(call:Str->List D->M D)(K:K')(over u s r:Int):∀ (N:Nat) (m e:Int),m≠0->cd m.natAbs<=N->fits m=true →
  az (cU call) (cV call) N (F7 over u e s m r) K=K (F7 over u (aL m e).2 s (aL m e).1 r):=by
 intro N
 induction N with
 | zero=>intro m e h0 h;rw[cW (Int.natAbs_ne_zero.mpr h0)]at h;exact absurd h (Nat.not_succ_le_zero _)
 | succ N ih=>
  intro m e h0 h hf;have e1:m.fmod 10=m % 10:=Int.fmod_eq_emod_of_nonneg _ (by decide);simp only[az]
  by_cases hm:m % 10=0
  ·obtain⟨q,h1,h2,h3,h4⟩:=nq h0 hm;have mG:=mG;have e2:m.fdiv 10=q:=(Int.fdiv_eq_ediv_of_nonneg _ (by decide)).trans h2;have hq:cd m.natAbs=cd q.natAbs+1:=by rw[h1,Int.natAbs_mul];exact uj (Int.natAbs_ne_zero.mpr h3) 1
   have:=ih q (e+1) h3 (Nat.le_of_succ_le_succ (PQ (PT hq.symm) h)) (dS hf (Nat.le_of_lt h4));rw[hW h0 hm,h2];refine PX ?_ this;rw[<-e1]at hm;rw[<-e2];walk_at "e"
  ·rw[eG hm];rw[<-e1]at hm;walk_at "e"
noncomputable def rA:K':=λIY=>bnd (aI [bnd (bnd (ac (aa IY (nm "over"))) λL2=>ae .Gt L2 (.int 0)) λMR=>if MR then ac (aa IY (nm "m")) else bnd (ac (aa IY (nm "m"))) λMS=>dm MS,ac (aa IY (nm "e"))]) λMT=>ret (.ret MT)
theorem Br{over u e s m r:Int}:rA (F7 over u e s m r)=ret (.ret (pr (if 0<over then m else -m,e))):=by
 by_cases h:0<over
 ·rw[PY h];walk_at "e"
 ·rw[PZ h];walk_at "e"
noncomputable def nv(R:Str->List D->M D):K':=λJk=>bnd (bnd (ac (aa Jk (nm "size"))) λJD=>bnd (ac (aa Jk (nm "under"))) λJ0=>ag .FloorDiv JD J0) λJ1=>bnd (ret (aj Jk (nm "m") J1)) λJH=>bnd (bnd (bnd (ac (aa JH (nm "size"))) λIN=>bnd (bnd (ac (aa JH (nm "m"))) λKr=>bnd (ac (aa JH (nm "under"))) λKc=>ag .Mult Kr Kc) λKi=>ag .Sub IN Ki) λJR=>ag .Mult (.int 2) JR) λL1=>bnd (ret (aj JH (nm "rest") L1)) λIE=>bnd (bnd (bnd (ac (aa IE (nm "rest"))) λJ2=>bnd (ac (aa IE (nm "under"))) λKq=>ae .Gt J2 Kq) λb46=>bj .Or b46 (bnd (bnd (bnd (ac (aa IE (nm "rest"))) λKl=>bnd (ac (aa IE (nm "under"))) λKB=>ae .Eq Kl KB) λb50=>bj .And b50 (bnd (bnd (bnd (ac (aa IE (nm "m"))) λKO=>ag .Mod KO (.int 2)) λKg=>ae .Eq Kg (.int 1)) λb53=>bj .And b53 (ret true))) λb49=>bj .Or b49 (ret false))) λMQ=>if MQ then bnd (bnd (ac (aa IE (nm "m"))) λJ3=>ag .Add J3 (.int 1)) λKm=>bnd (ret (aj IE (nm "m") Km)) λLb=>az (cU R) (cV R) cC Lb rA else az (cU R) (cV R) cC IE rA
theorem Bt{R:Str->List D->M D}{over e:Int}{S U q r:Nat}(q0:(U:Int)≠0)(fS:fits (S:Int)=true)(fU:fits (U:Int)=true)(fm:fits (q:Int)=true)(frest:fits (r:Int)=true)(hdiv:(S:Int).fdiv U=q)(hsub:(S:Int) - (q:Int)*(U:Int)=r) :
  nv R (F5 over U e S)=az (cU R) (cV R) cC (F7 over U e S (if U<2*r\/(2*r=U/\q % 2=1) then q+1 else q:Nat) (2*r)) rA:=by
 have hd1:ag .FloorDiv (.int S) (.int U)=ret (.int q):=by refine PX (Bh q0 fS fU) ?_;rw[hdiv]
 have hs:ag .Sub (.int S) (.int (q*U))=ret (.int r):=by rw[<-hsub];rfl
 have f2:=f2;have e5:(q:Int).fmod 2=(q % 2:Nat):=iV q 2
 by_cases hb:U<2*r\/(2*r=U/\q % 2=1)
 ·rw[PY hb];refine B1 (B1 rfl (B1 rfl hd1)) (B1 rfl (B1 (B1 (B1 rfl (B1 (B1 rfl (B1 rfl (oR fm fU))) hs)) (oR f2 frest)) (B1 rfl (B1 (a:=true) ?z1 (iT rfl ?z2)))))
  case z1=>
   by_cases c1:(U:Int)<2*r
   ·walk_at "e"
   ·have c2:2*(r:Int)=U:=by lia
    have c3:(q:Int).fmod 2=1:=by lia
    walk_at "e"
  walk_at "e"
 ·rw[PZ hb];refine B1 (B1 rfl (B1 rfl hd1)) (B1 rfl (B1 (B1 (B1 rfl (B1 (B1 rfl (B1 rfl (oR fm fU))) hs)) (oR f2 frest)) (B1 rfl (B1 (a:=false) ?z3 (iF (by decide) ?z4)))))
  case z3=>
   have c1:¬ (U:Int)<2*r:=by lia
   by_cases c2:2*(r:Int)=U
   ·have c3:¬ (q:Int).fmod 2=1:=by lia
    walk_at "e"
   ·walk_at "e"
  walk_at "e"
theorem lP{d:Nat}{over:Int}{u m0:Nat}{e0:Int}(hd:1<=d)(h0:over≠0)(hu:0<u)(ho':over.natAbs<10 ^ 300)(hu':u<10 ^ 300)(f:Fit over.natAbs u m0 e0) :
  run d (nm "_law_fit") [.int over,.int u,.int 3]=ret (pr (aL (sg over m0) e0)):=by
 refine am (ak hd) λd z1 _=>?_;obtain rfl:=z1;rw[nh];obtain⟨N,hN,hN4⟩ : ∃ N,cC=N+1/\400<=N:=⟨4999,rfl,by decide⟩;have t:gx (run d) (.int over) (.int u) (.int 3)=az (ew (run d)) (ey (run d)) (N+1) (F5 over u 0 over.natAbs) λJY=>az (cS (run d)) (cT (run d)) (N+1) JY (nv (run d)):=by
  rw[<-hN];have t0:gx (run d) (.int over) (.int u) (.int 3)=if decide (over=0)=true then ret (.ret (pr (0,0))) else az (ew (run d)) (ey (run d)) cC (F5 over u 0 over.natAbs) λJY=>az (cS (run d)) (cT (run d)) cC JY (nv (run d)):=by kernel_rfl
  exact t0.trans ((PZ (by simpa using h0)))
 have xq:10 ^ 300*1000<=10 ^ (N+1):=by rw[show(1000:Nat)=10 ^ 3 from rfl,<-Nat.pow_add];exact Nat.pow_le_pow_right (by lia) (by lia)
 refine bk (w6 (run d) (λJY=>az (cS (run d)) (cT (run d)) (N+1) JY (nv (run d))) over u hu' N over.natAbs 0 (by lia) (by lia) (by have:=Nat.le_mul_of_pos_left (10 ^ (N+1)) (show 0<over.natAbs by lia);lia)) λa a1 a2 a3=>?_
 simp only[t,a3];obtain⟨S,hS⟩ : ∃ S,over.natAbs*10 ^ a=S:=⟨_,rfl⟩;rw[hS]at a1 a2 ⊢;have hS310:S<10 ^ 310:=by
  rcases a2 with rfl | h
  ·simp at hS;lia
  ·lia
 have big2:10 ^ 310<=10 ^ N:=Nat.pow_le_pow_right (by lia) (by lia);refine bk (w7 (run d) (nv (run d)) over S hS310 N u (0 - a) hu (by lia) (by have:=Nat.le_mul_of_pos_left (10 ^ N) (show 0<u*1000 by lia);lia)) λb b1 b2 b3=>?_
 rw[b3];obtain⟨U,hU⟩ : ∃ U,u*10 ^ b=U:=⟨_,rfl⟩;rw[hU]at b1 b2 ⊢;have hUpos:0<U:=by rw[<-hU];exact Nat.mul_pos hu (cr b)
 have hU311:U<10 ^ 311:=by
  rcases b2 with rfl | h
  ·simp at hU;lia
  ·lia
 have h100:100*U<=S:=by
  rcases b2 with rfl | h
  ·simp at hU;lia
  ·lia
 have fit:Fit over.natAbs u (iY S U) (b - a):=⟨a,b,by simp only[hU,hS];exact h100,by simp only[hU,hS];lia,by simp only[hU,hS],rfl⟩;refine PV (λzz0 zz1=>?_) (f.same hu hu rfl fit);obtain rfl:=zz0;obtain rfl:=zz1;have hr:=jp hUpos h100 (by lia);have fS:=dG (by lia) hS310;have fU:=dG (by lia) hU311;have hdm:=Nat.div_add_mod S U;have hml:S % U<U:=Nat.mod_lt _ hUpos;have fm:fits (((S / U:Nat)):Int)=true:=dG (k:=310) (by lia) (by have:=Nat.div_le_self S U;lia);have frest:fits (((S % U:Nat)):Int)=true:=dG (k:=311) (by lia) (by lia);have hsub:(S:Int) - ((S / U:Nat):Int)*(U:Int)=((S % U:Nat):Int):=by
  rw[Nat.mul_comm]at hdm;have:((S / U:Nat):Int)*(U:Int)=((S / U*U:Nat):Int):=by simp
  rw[this];lia
 have key:nv (run d) (F5 over U (0 - a+b) S)=az (cU (run d)) (cV (run d)) cC (F7 over U (b - a) S (iY S U:Nat) (2*(S % U:Nat))) rA:=by rw[show(0:Int) - a+b=b - a by lia];exact Bt (by lia) fS fU fm frest (db S U) hsub
 rw[key,w8 _ _ _ _ _ _ _ _ _ (by lia) (by have:cd ((iY S U:Nat):Int).natAbs<=4:=bl (by simp;lia);lia) (dG (k:=4) (by lia) (by lia)),Br]
 have hsg:(if 0<over then (aL (iY S U:Nat) (b - a)).1 else -(aL (iY S U:Nat) (b - a)).1,(aL (iY S U:Nat) (b - a)).2)=aL (sg over (iY S U)) (b - a):=by
  unfold sg
  split
  ·rfl
  ·rw[wZ _ _ _ rfl]
 rw[hsg];simp[SM]
theorem i4{d:Nat}{u:Int}(hd:1<=d):run d (nm "_law_fit") [.int 0,.int u,.int 3]=ret (pr (0,0)):=by
 refine am (ak hd) λd z1 _=>?_;rw[z1];rw[nh];have t0:gx (run d) (.int 0) (.int u) (.int 3)=ret (.ret (pr (0,0))):=by kernel_rfl
 exact congrArg _ t0
theorem gz{d:Nat}{m e over:Int}{u pl nl:Nat}(hd:1<=d)(hu:0<u)(ho':over.natAbs<10 ^ 300)(hu':u<10 ^ 300)(he:e=(pl:Int) - nl)(h:over*10 ^ nl=m*10 ^ pl*u) :
  run d (nm "_law_fit") [.int over,.int u,.int 3]=ret (pr (bo m e)):=by
 by_cases hm:m=0
 ·subst hm;have:over=0:=by rw[Int.zero_mul,Int.zero_mul]at h;exact(Int.mul_eq_zero.mp h).resolve_right (lH nl)
  rw[this];simp only[i4 hd,cX]
 ·refine aJ (w4 hm hu he h) λm0 e0 f hr=>?_;have h0:over≠0:=by
   rintro rfl
   rw[Int.zero_mul]at h;have:=Int.mul_ne_zero (Int.mul_ne_zero hm (lH pl)) (show(u:Int)≠0 by lia);exact this h.symm
  simp only[lP hd h0 hu ho' hu' f,hr]
theorem oZ{m e:Int}{b:Nat}(h1:-(b:Int)<=e)(h2:e+cd m.natAbs<=b):Rl b (bo m e):=by
 by_cases h:m=0
 ·rw[h];rw[cX];exact⟨by decide,by simp⟩
 ·refine cO (hZ h (e:=e)) λb1 b2 b3 b4=>?_;exact⟨b2,by lia⟩
noncomputable def av(x:Int×Int):Int×Nat:=(x.1*10 ^ x.2.toNat,10 ^ (-x.2).toNat)
theorem bI{d b:Nat}{x:Int×Int}(hd:1<=d)(hb:b<=100)(hx:Rl b x):run d (nm "_law_fraction") [pr x]=ret (.tup [.int (av x).1,.int (av x).2]):=by
 refine am (ak hd) λd z2 _=>?_;rw[z2];rw[lC];have hf:=hx.fits;obtain⟨a1,a2⟩:=hx;obtain⟨m,e⟩:=x;dsimp only at a1 a2 hf;delta av pr
 by_cases he:0<=e
 ·have g:e<=4000:=by lia
  have s:=aN (lL (k:=e.toNat) (by lia));have z:(-e).toNat=0:=Int.toNat_eq_zero.mpr (by lia);rw[z];walk_at "e"
 ·have z:e.toNat=0:=Int.toNat_eq_zero.mpr (by lia);have g1:0 ≤ -e:=by lia
  have g2:-e<=4000:=by lia
  rw[z,Int.pow_zero,Int.mul_one];walk_at "e"
theorem y9(z:Int):z.toNat<=z.natAbs:=Int.toNat_le.mpr Int.le_natAbs
theorem cY{b:Nat}{x:Int×Int}(hx:Rl b x):(av x).1.natAbs<=999*10 ^ b/\(av x).2<=10 ^ b/\0<(av x).2:=
 ⟨PQ (PT (Int.natAbs_mul _ _)) (Nat.mul_le_mul (Nat.le_of_lt_succ hx.low) (PQ (PT (cu _)) (Nat.pow_le_pow_right (by decide) (PQ (y9 _) hx.exp)))),
  Nat.pow_le_pow_right (by decide) (PQ (y9 _) (PQ (PT (Int.natAbs_neg _)) hx.exp)),cr _⟩
theorem eI{b:Nat}{x:Int×Int}(hb:b<=100)(hx:Rl b x):fits (av x).1=true/\fits (av x).2=true:=by
 refine jb (cY hx) λh1 h2 h3=>?_;have:(10:Nat) ^ (b+3)=10 ^ b*1000:=by rw[Nat.pow_add]
 refine⟨aN (bZ (k:=b+3) (PQ (Nat.add_le_add_right hb 3) (by decide)) (PS h1 ?_)),dG (k:=b+3) (PQ (Nat.add_le_add_right hb 3) (by decide)) (PS h2 ?_)⟩
 ·simp only[this,Nat.mul_comm];exact Nat.mul_lt_mul_of_pos_left (by decide) (cr b)
 ·simp only[this];exact PS (PT (Nat.mul_one _).symm) (Nat.mul_lt_mul_of_pos_left (by decide) (cr b))
theorem y_(m n:Int)(p1 n1 p2 n2 pl nl i j:Nat)(h1:p1+n2+nl=i+pl+n1+n2)(h2:p2+n1+nl=j+pl+n1+n2) :
  (m*10 ^ p1*10 ^ n2+n*10 ^ p2*10 ^ n1)*10 ^ nl=(m*10 ^ i+n*10 ^ j)*10 ^ pl*(10 ^ n1*10 ^ n2):=by
 have e1:m*10 ^ p1*10 ^ n2*10 ^ nl=m*10 ^ (p1+n2+nl):=by simp only[Int.pow_add,Int.pow_add];ac_rfl
 have e2:n*10 ^ p2*10 ^ n1*10 ^ nl=n*10 ^ (p2+n1+nl):=by simp only[Int.pow_add,Int.pow_add];ac_rfl
 have e3:m*10 ^ i*10 ^ pl*(10 ^ n1*10 ^ n2)=m*10 ^ (i+pl+n1+n2):=by simp only[Int.pow_add,Int.pow_add,Int.pow_add];ac_rfl
 have e4:n*10 ^ j*10 ^ pl*(10 ^ n1*10 ^ n2)=n*10 ^ (j+pl+n1+n2):=by simp only[Int.pow_add,Int.pow_add,Int.pow_add];ac_rfl
 simp only[Int.add_mul,e1,e2,Int.add_mul,Int.add_mul,e3,e4,h1,h2]
theorem o3(k:Nat):(((10:Nat) ^ k:Nat):Int)=10 ^ k:=by rw[Int.natCast_pow];rfl
theorem tn(z:Int):∃ p n:Nat,z.toNat=p/\(-z).toNat=n/\(p:Int) - n=z:=⟨_,_,rfl,rfl,Int.toNat_sub_toNat_neg z⟩
theorem nn{z:Int}(h:0<=z):∃ p:Nat,z.toNat=p/\(p:Int)=z:=⟨_,rfl,Int.toNat_of_nonneg h⟩
theorem za{x y:Int×Int}:((av x).1*(av y).2+(av y).1*(av x).2)*10 ^ (-(aK x y).2).toNat=(aK x y).1*10 ^ (aK x y).2.toNat*(((av x).2*(av y).2:Nat):Int):=by
 obtain⟨m,e⟩:=x;obtain⟨n,f⟩:=y;delta av aK;have m1:=Int.sub_nonneg_of_le (Int.min_le_left e f);have m2:=Int.sub_nonneg_of_le (Int.min_le_right e f);generalize min e f=M at *
 dsimp only[Int.natCast_mul,o3,o3];refine ar (tn e) λp1 n1 a1 b1 c1=>?_;refine ar (tn f) λp2 n2 a2 b2 c2=>?_;refine ar (tn M) λp3 n3 a3 b3 c3=>?_;refine am (nn m1) λi d1 d2=>?_;refine am (nn m2) λj d3 d4=>?_;simp[a1,b1,a2,b2,a3,b3,d1,d3];clear a1 b1 a2 b2 a3 b3 d1 d3 m1 m2;exact y_ m n _ _ _ _ _ _ _ _ (by lia) (by lia)
theorem Dj{x y:Int×Int}:((av x).1*(av y).1)*10 ^ (-(x.2+y.2)).toNat=(x.1*y.1)*10 ^ (x.2+y.2).toNat*(((av x).2*(av y).2:Nat):Int):=by
 obtain⟨m,e⟩:=x;obtain⟨n,f⟩:=y;unfold av;simp[Int.natCast_mul,o3,o3];refine ar (tn e) λp1 n1 a1 b1 c1=>?_;refine ar (tn f) λp2 n2 a2 b2 c2=>?_;refine ar (tn (e+f)) λp3 n3 a3 b3 c3=>?_;simp only[a1,b1,a2,b2,a3,b3];clear a1 b1 a2 b2 a3 b3;have e1:m*10 ^ p1*(n*10 ^ p2)*10 ^ n3=m*n*10 ^ (p1+p2+n3):=by simp only[Int.pow_add,Int.pow_add];ac_rfl
 have e2:m*n*10 ^ p3*(10 ^ n1*10 ^ n2)=m*n*10 ^ (p3+n1+n2):=by simp only[Int.pow_add,Int.pow_add];ac_rfl
 simp only[e1,e2]
 congr 2;lia
theorem ff{a b:Nat}{A B k j:Nat}(ha:a<=A*10 ^ k)(hb:b<=B*10 ^ j):a*b<=A*B*10 ^ (k+j):=by
 have:=Nat.mul_le_mul ha hb;simp only[Nat.pow_add]
 calc a*b<=A*10 ^ k*(B*10 ^ j):=this
  _=_:=by ac_rfl
theorem nw{a c k:Nat}(h:a<=c*10 ^ k)(hc:c<10 ^ 10)(hk:k<=200):a<10 ^ 300:=by have h1:10 ^ k<=10 ^ 200:=Nat.pow_le_pow_right (by lia) hk;have h2:c*10 ^ k<=10 ^ 10*10 ^ 200:=Nat.mul_le_mul (by lia) h1;lia
theorem DK{a k:Nat}(h:a<=10 ^ k):a<=1*10 ^ k:=PQ h (PT (Nat.one_mul _).symm)
theorem Bu(a b c d:Int):(a*b+c*d).natAbs<=a.natAbs*b.natAbs+c.natAbs*d.natAbs:=PQ (Int.natAbs_add_le _ _) (PT (by simp only[Int.natAbs_mul,Int.natAbs_mul]))
theorem o4{b:Nat}(h:b<=80):b+b<=200:=PQ (Nat.add_le_add h h) (by decide)
theorem vo{d b:Nat}{x y:Int×Int}(hd:1<=d)(hb:b<=80)(hx:Rl b x)(hy:Rl b y) :
  run d (nm "_law_fit") [.int ((av x).1*(av y).2+(av y).1*(av x).2),.int ((av x).2*(av y).2:Nat),.int 3]=ret (pr (bo (aK x y).1 (aK x y).2)):=by
 refine jb (cY hx) λa1 a2 a3=>?_;refine jb (cY hy) λb1 b2 b3=>?_;refine gz hd (Nat.mul_pos a3 b3) ?_ ?_ (Int.toNat_sub_toNat_neg _).symm za
 ·exact nw (PQ (Bu _ _ _ _) (PQ (Nat.add_le_add (ff a1 (DK b2)) (ff b1 (DK a2))) (PT (Nat.add_mul (999*1) (999*1) _).symm))) (by decide) (o4 hb)
 ·exact nw (ff (DK a2) (DK b2)) (by decide) (o4 hb)
theorem Bv{d b:Nat}{x y:Int×Int}(hd:1<=d)(hb:b<=80)(hx:Rl b x)(hy:Rl b y) :
  run d (nm "_law_fit") [.int ((av x).1*(av y).1),.int ((av x).2*(av y).2:Nat),.int 3]=ret (pr (bo (x.1*y.1) (x.2+y.2))):=by
 refine jb (cY hx) λa1 a2 a3=>?_;refine jb (cY hy) λb1 b2 b3=>?_;refine gz hd (Nat.mul_pos a3 b3) ?_ ?_ (Int.toNat_sub_toNat_neg _).symm Dj
 ·rw[Int.natAbs_mul];exact nw (ff a1 b1) (by decide) (o4 hb)
 ·exact nw (ff (DK a2) (DK b2)) (by decide) (o4 hb)
theorem Bw{d:Nat}{n:Int}(hd:1<=d)(hn:n.natAbs<=2048):run d (nm "_law_fit") [.int n,.int 1,.int 3]=ret (pr (bo n 0)):=by have:=gz (d:=d) (m:=n) (e:=0) (over:=n) (u:=1) (pl:=0) (nl:=0) hd (by decide) (by lia) (by decide) (rfl) (by simp);exact this
noncomputable def cZ(x y:Int×Int):Int:=if 0<(av y).1 then (av x).1*(av y).2 else -(av x).1*(av y).2
noncomputable def eJ(x y:Int×Int):Nat:=(av x).2*(av y).1.natAbs
theorem rB(x:Int×Int):(av x).1.natAbs=x.1.natAbs*10 ^ x.2.toNat:=by show(x.1*10 ^ x.2.toNat).natAbs=_;simp only[Int.natAbs_mul,cu]
theorem dc(x:Int×Int):(0<(av x).1 ↔ 0<x.1)/\((av x).1<0 ↔ x.1<0)/\((av x).1=0 ↔ x.1=0):=by
 have p:(0:Int)<10 ^ x.2.toNat:=Int.pow_pos (by decide);have e:(av x).1=x.1*10 ^ x.2.toNat:=rfl;rw[e];refine⟨⟨λh=>Int.pos_of_mul_pos_left h p,λh=>Int.mul_pos h p⟩,⟨λh=>?_,λh=>Int.mul_neg_of_neg_of_pos h p⟩,⟨λh=>(Int.mul_eq_zero.mp h).resolve_right (lH _),λh=>by rw[h,Int.zero_mul]⟩⟩;rcases Int.lt_trichotomy x.1 0 with q | q | q
 ·exact q
 ·rw[q,Int.zero_mul]at h;omega
 ·have:=Int.mul_pos q p;omega
theorem FY(a b:Int):(a - b).toNat+(-a).toNat+b.toNat=a.toNat+(-b).toNat+(-(a - b)).toNat:=by refine ar (tn a) λp1 n1 a1 b1 c1=>?_;refine ar (tn b) λp2 n2 a2 b2 c2=>?_;refine ar (tn (a - b)) λp3 n3 a3 b3 c3=>?_;simp only[a1,b1,a2,b2,a3,b3];clear a1 b1 a2 b2 a3 b3;lia
theorem Bx{x y:Int×Int}(hx0:x.1≠0)(h0:y.1≠0):0<(dJ x.1 y.1 (x.2 - y.2)).1 ↔ 0<cZ x y:=by
 have hq:(0:Int)<qM x.1 y.1:=Int.natCast_pos.mpr (PR (by decide) (lJ hx0 h0).1);have hd':(0:Int)<(av y).2:=Int.natCast_pos.mpr (cr _);have m:∀ {z:Int},0<z*(av y).2 ↔ 0<z:=⟨λh=>Int.pos_of_mul_pos_left h hd',λh=>Int.mul_pos h hd'⟩;unfold dJ cZ;dsimp only
 by_cases c2:0<(av y).1
 ·have c:¬ y.1<0:=λq=>absurd ((dc y).1.mp c2) (Int.not_lt.mpr (Int.le_of_lt q));rw[PY c2,m,(dc x).1,decide_eq_false c]
  by_cases c1:x.1<0
  ·rw[decide_eq_true c1,PZ (by decide)];exact⟨λq=>absurd q (by lia),λq=>absurd q (by lia)⟩
  ·rw[decide_eq_false c1,PY (by decide)];exact⟨λ_=>by lia,λ_=>hq⟩
 ·have c:y.1<0:=(Int.lt_or_gt_of_ne h0).elim id λq=>absurd ((dc y).1.mpr q) c2;rw[PZ c2,m,Int.neg_pos,(dc x).2.1,decide_eq_true c]
  by_cases c1:x.1<0
  ·rw[decide_eq_true c1,PY (by decide)];exact⟨λ_=>c1,λ_=>hq⟩
  ·rw[decide_eq_false c1,PZ (by decide)];exact⟨λq=>absurd q (by lia),λq=>absurd q c1⟩
theorem o5{x y:Int×Int}:(cZ x y).natAbs=(av x).1.natAbs*(av y).2:=by
 unfold cZ
 split
 ·exact Int.natAbs_mul _ _
 ·exact(Int.natAbs_mul _ _).trans (congrArg (· * _) (Int.natAbs_neg _))
theorem By{d b:Nat}{x y:Int×Int}(hd:1<=d)(hb:b<=80)(hx:Rl b x)(hy:Rl b y)(h0:y.1≠0) :
  run d (nm "_law_fit") [.int (cZ x y),.int (eJ x y),.int 3]=ret (pr (bo (dJ x.1 y.1 (x.2 - y.2)).1 (dJ x.1 y.1 (x.2 - y.2)).2)):=by
 by_cases hx0:x.1=0
 ·have e1:cZ x y=0:=Int.natAbs_eq_zero.mp (by refine PX o5 ?_;rw[(dc x).2.2.mpr hx0];exact Nat.zero_mul _);have e2:(dJ x.1 y.1 (x.2 - y.2)).1=0:=by unfold dJ qM;rw[hx0];simp
  simp only[e1,e2,i4 hd,cX]
 ·refine jb (cY hx) λa1 a2 a3=>?_;refine jb (cY hy) λb1 b2 b3=>?_;refine aJ (Bl (e:=x.2 - y.2) hx0 h0) λm0 e0 f hr=>?_;have hx1:0<(av x).1.natAbs:=Int.natAbs_pos.mpr λq=>hx0 ((dc x).2.2.mp q);have hy0:0<y.1.natAbs:=Int.natAbs_pos.mpr h0;have hup:0<eJ x y:=Nat.mul_pos a3 (Int.natAbs_pos.mpr λq=>h0 ((dc y).2.2.mp q));have f'':Fit (cZ x y).natAbs (eJ x y) m0 (e0+(x.2 - y.2).toNat - (-(x.2 - y.2)).toNat):=by
   refine Fit.cross (Nat.mul_pos hy0 (cr _)) hup ?_ (f.shift (x.2 - y.2).toNat (-(x.2 - y.2)).toNat);have hu:eJ x y=10 ^ (-x.2).toNat*(y.1.natAbs*10 ^ y.2.toNat):=congrArg (_ * ·) (rB y);simp only[o5,hu,rB];show _=_*10 ^ (-y.2).toNat*_;have e1:∀ X Y a b c:Nat,X*10 ^ a*(10 ^ b*(Y*10 ^ c))=X*Y*10 ^ (a+b+c):=λX Y a b c=>by rw[Nat.pow_add,Nat.pow_add];ac_rfl
   have e2:∀ X Y a b c:Nat,X*10 ^ a*10 ^ b*(Y*10 ^ c)=X*Y*10 ^ (a+b+c):=λX Y a b c=>by rw[Nat.pow_add,Nat.pow_add];ac_rfl
   simp only[e1,e2,FY]
  have hne:cZ x y≠0:=Int.natAbs_pos.mp (by rw[o5];exact Nat.mul_pos hx1 b3);have hb1:(cZ x y).natAbs<10 ^ 300:=by rw[o5];exact nw (c:=999*1) (k:=b+b) (ff a1 (PQ b2 (PT (Nat.one_mul _).symm))) (by decide) (by lia)
  have hb2:eJ x y<10 ^ 300:=nw (c:=1*999) (k:=b+b) (ff (PQ a2 (PT (Nat.one_mul _).symm)) b1) (by decide) (by lia);simp only[lP hd hne hup hb1 hb2 f'',hr,Ch m0 (Bx hx0 h0),Int.add_sub_assoc,Int.toNat_sub_toNat_neg,Int.add_comm]
theorem rr{b:Nat}{m e:Int}(hb:b<=36)(h1:-(2*b+8:Int)<=e)(h2:e+cd m.natAbs<=2*b+8):bx m e=some (bo m e)/\Rl (2*b+8) (bo m e):=
 ⟨re (by lia) (by lia),oZ h1 h2⟩
theorem FK{b:Nat}{m e:Int}(hb:b<=36)(h1:-(b:Int)<=e)(h2:e+cd m.natAbs<=b+4):bx m e=some (bo m e)/\Rl (2*b+8) (bo m e):=rr hb (by lia) (by lia)
theorem xr{b:Nat}{o:Option (Int×Int)}{q:Int×Int}(e:o=some q/\Rl b q):∀ r,o=some r->Rl b r:=λr h=>by rw[e.1]at h;exact P7 h ▸ e.2
theorem rC{b:Nat}{op:String}{x y:Int×Int}(hb:b<=36)(hx:Rl b x)(hy:Rl b y)(ho:op∈["add","sub","mul","div"]) :
  vg op x y=(if op = "add" then some (bo (aK x y).1 (aK x y).2) else if op = "sub" then some (bo (aK x (h_ y)).1 (aK x (h_ y)).2) else if op = "mul" then some (bo (x.1*y.1) (x.2+y.2)) else if y.1=0 then none else some (bo (dJ x.1 y.1 (x.2 - y.2)).1 (dJ x.1 y.1 (x.2 - y.2)).2))
  ∧ ∀ r,vg op x y=some r->Rl (2*b+8) r:=by
 simp only[List.mem_cons,List.not_mem_nil,or_false]at ho;rcases ho with rfl | rfl | rfl | rfl
 ·have r:=dU hx hy;have e:=FK hb r.2.1 r.2.2;have f:vg "add" x y=bx (aK x y).1 (aK x y).2:=by kernel_rfl
  exact⟨e.1,xr e⟩
 ·have r:=dU hx hy.neg;have e:=FK hb r.2.1 r.2.2;have f:vg "sub" x y=bx (aK x (h_ y)).1 (aK x (h_ y)).2:=by kernel_rfl
  exact⟨e.1,xr e⟩
 ·have hm:cd (x.1*y.1).natAbs<=6:=bl (by rw[Int.natAbs_mul];exact PS (Nat.mul_le_mul (Nat.le_of_lt_succ (show x.1.natAbs<999+1 from hx.low)) (Nat.le_of_lt_succ (show y.1.natAbs<999+1 from hy.low))) (by decide))
  obtain⟨a1,a2⟩:=ab hx.exp;obtain⟨b1,b2⟩:=ab hy.exp;have e:=rr (m:=x.1*y.1) (e:=x.2+y.2) hb (by clear hm;omega) (by generalize cd _=c at *;omega);have f:vg "mul" x y=bx (x.1*y.1) (x.2+y.2):=by kernel_rfl
  exact⟨e.1,xr e⟩
 ·have f:vg "div" x y=if y.1=0 then none else bx (dJ x.1 y.1 (x.2 - y.2)).1 (dJ x.1 y.1 (x.2 - y.2)).2:=by kernel_rfl
  rw[f]
  by_cases h0:y.1=0
  ·exact(PY h0) ▸ (⟨(PY h0).symm,nofun⟩)
  ·have e:bx (dJ x.1 y.1 (x.2 - y.2)).1 (dJ x.1 y.1 (x.2 - y.2)).2=some (bo (dJ x.1 y.1 (x.2 - y.2)).1 (dJ x.1 y.1 (x.2 - y.2)).2)/\Rl (2*b+8) (bo (dJ x.1 y.1 (x.2 - y.2)).1 (dJ x.1 y.1 (x.2 - y.2)).2):=by
    by_cases hx0:x.1=0
    ·have e2:∀ e,(dJ x.1 y.1 e).1=0:=λe=>by unfold dJ qM;rw[hx0];simp
     rw[e2,cX];exact⟨by unfold bx;rw[cX];rfl,by decide,Nat.zero_le _⟩
    ·obtain⟨c0,c1,c2,c3⟩:=nu (e:=x.2 - y.2) hx0 h0 hx.low hy.low;obtain⟨a1,a2⟩:=ab hx.exp;obtain⟨b1,b2⟩:=ab hy.exp;clear c0 c3 hx0;generalize dJ _ _ _=q at *
     exact rr hb (by clear c2;omega) (by generalize cd _=c at *;omega)
   rw[PZ h0];exact⟨e.1.trans (PZ h0).symm,xr e⟩
theorem o6{d b:Nat}{op:String}{x y:Int×Int}{w:D}(hd:2<=d)(hb:b<=36)(hx:Rl b x)(hy:Rl b y)(ho:op∈["add","sub","mul","div"]) :
  run d (nm "_law_two") [.str (nm op),.int 1,pr x,pr y,w]=ret (((vg op x y).map pr).getD .none):=by
 obtain⟨hop,_⟩:=rC hb hx hy ho;rw[hop];refine am (ak hd) λd z1 hd'=>?_;obtain rfl:=z1;rw[ni];have q1:=bI (d:=d) hd' (by omega) hx;have q2:=bI (d:=d) hd' (by omega) hy;obtain⟨fa,fb⟩:=eI (by omega) hx;obtain⟨fc,fd⟩:=eI (by omega) hy;have e1:=vo (d:=d) hd' (by omega) hx hy;have e2:=vo (d:=d) hd' (by omega) hx hy.neg;have e3:=Bv (d:=d) hd' (by omega) hx hy;have n1:(av (h_ y)).1 = -(av y).1:=by show -y.1*10 ^ y.2.toNat = -(y.1*10 ^ y.2.toNat);rw[Int.neg_mul]
 have n2:(av (h_ y)).2=(av y).2:=rfl;rw[n1,n2,Int.neg_mul,<-Int.sub_eq_add_neg]at e2;rw[Int.natCast_mul]at e1 e2 e3;simp only[List.mem_cons,List.not_mem_nil,or_false]at ho;rcases ho with rfl | rfl | rfl | rfl
 ·walk_at "e"
 ·walk_at "e"
 ·walk_at "e"
 ·have py:=dc y
  by_cases h0:y.1=0
  ·have h0':=py.2.2.mpr h0;rw[PZ (by decide),PZ (by decide),PZ (by decide),PY h0];walk_at "e"
  ·have h0':¬ (av y).1=0:=λz=>h0 (py.2.2.mp z);have e4:=By (d:=d) hd' (by omega) hx hy h0;have fna:fits (-(av x).1)=true:=dS fa (by omega);have fab:=cf fc;unfold cZ eJ at e4;rw[Int.natCast_mul]at e4;rw[PZ (by decide),PZ (by decide),PZ (by decide),PZ h0]
   by_cases hc:0<(av y).1
   ·rw[PY hc]at e4;walk_at "e"
   ·rw[PZ hc]at e4;walk_at "e"
theorem rD{d:Nat}{op:String}{x y w:Int}(hd:3<=d)(h1:5<=w)(h2:w<=12)(hx:x.natAbs<=2048)(hy:y.natAbs<=2048)(ho:op∈["add","sub","mul","div","powi"]) :
  run d (nm "_law_two") [.str (nm op),.int 0,.int x,.int y,.int w]=ret (((fB w op x y).map .int).getD .none):=by
 refine am (ak hd) λd z1 hd'=>?_;obtain rfl:=z1;rw[ni];have a1:1<=d:=by lia
 have a2:1<=w:=by lia
 have fx:fits x=true:=aN (bZ (k:=4) (by lia) (by lia));have fy:fits y=true:=aN (bZ (k:=4) (by lia) (by lia));simp only[List.mem_cons,List.not_mem_nil,or_false]at ho;have hw:∀ n,run d (nm "_law_whole") [.int n,.int w]=ret (((bb w n).map .int).getD .none):=λn=>dt a1 a2 h2;have hdi:fj [(ret (.str (nm "add")),ag .Add (.int x) (.int y)),(ret (.str (nm "sub")),ag .Sub (.int x) (.int y)),(ret (.str (nm "mul")),ag .Mult (.int x) (.int y))]=ret (.sdict [(nm "add",.int (x+y)),(nm "sub",.int (x - y)),(nm "mul",.int (x*y))]):=
  B1 (B1 (pC rfl rfl (pC rfl rfl (pC rfl (oR fx fy) rfl))) rfl) rfl
 rcases ho with rfl | rfl | rfl | rfl | rfl
 ·have:=hw (x+y);walk_at "e"
 ·have:=hw (x - y);walk_at "e"
 ·have:=hw (x*y);walk_at "e"
 ·rcases P_ (y=0) with h0 | h0
  ·rw[show fB w "div" x y=if y=0 then none else bb w (fF x y) from rfl,PY h0];walk_at "e"
  ·rw[show fB w "div" x y=if y=0 then none else bb w (fF x y) from rfl,PZ h0];have q1:=d0 a1 fx fy h0;have:=hw (fF x y);walk_at "e"
 ·have q:=oW (n:=y) hd' a2 h2 hx;rw[<-Bj h1 h2]at q;walk_at "e"
noncomputable def bD(s:Str)(n:Nat):Str:=⟨s.cps++Array.replicate (n - s.length) 32⟩
theorem nx{s:Str}{n:Nat}(h:s.length<=n):Txt.ljust s n=bD s n:=by
 unfold Txt.ljust bD
 split
 ·rename_i h';have:n - s.length=0:=by lia
  rw[this];simp
 ·simp[Builtin.Str.padded]
theorem eK(s:Str)(n:Nat):(bD s n).cps.toList=s.cps.toList++List.replicate (n - s.length) 32:=by simp[bD]
theorem str_eq{x y:Str}:x=y ↔ x.cps.toList=y.cps.toList:=by
 induction x;induction y
 simp
theorem zc{c:List Nat}:∀ {a b:List Nat},a.length=b.length->(a++c<b++c ↔ a<b)
 | [],[],_=>by simp
 | x::a,y::b,h=>by simp only[List.cons_append,List.cons_append,List.cons_lt_cons_iff,List.cons_lt_cons_iff,zc (by simpa using h)]
theorem ze:∀ {a b:List Nat},a≠b->(b<a ↔ ¬ a<b)
 | [],[],h=>absurd rfl h
 | [],y::b,_=>by simp
 | x::a,[],_=>by simp
 | x::a,y::b,h=>by
  rw[List.cons_lt_cons_iff,List.cons_lt_cons_iff]
  by_cases e:x=y
  ·subst e;have h':a≠b:=λq=>h (by rw[q]);have:=ze h';simp[this]
  ·constructor
   ·rintro (q | q) (r | r) <;> lia
   ·intro q
    left
    have:¬ x<y:=λr=>q (.inl r);lia
theorem Bz{x y:Str}{m n:Nat}(hx:x.length<=m)(hy:y.length<=m)(hm:m<=n):uh (bD x m) (bD y m)=uh (bD x n) (bD y n):=by
 have key:∀ {s:Str},s.length<=m->(bD s n).cps.toList=(bD s m).cps.toList++List.replicate (n - m) 32:=λ{s} hs=>by
  simp[eK,eK,List.append_assoc,List.replicate_append_replicate]
  congr 2;exact(Nat.sub_add_sub_cancel hm hs).symm.trans (Nat.add_comm _ _)
 have hl:(bD x m).cps.toList.length=(bD y m).cps.toList.length:=by
  have e:∀ s:Str,s.cps.toList.length=s.length:=λs=>by dsimp[Str.length]
  simp only[eK,eK,List.length_append,List.length_append,e,e,List.length_replicate,List.length_replicate];exact(Nat.add_sub_of_le hx).trans (Nat.add_sub_of_le hy).symm
 delta uh gL;have c1:(bD x m=bD y m) ↔ (bD x n=bD y n):=by rw[str_eq,str_eq,key hx,key hy,List.append_left_inj]
 simp only[c1,key hx,key hy,decide_eq_true_eq,zc hl]
noncomputable def uo(x y:Str):Int:=uh (bD x 60) (bD y 60)
theorem zf{s:Str}(h:s.length<=60):ao s.length=true:=decide_eq_true (PQ h (by decide))
theorem Dk{s:Str}(h:s.length<=60):au (nm "len") [.str s]=ret (.int s.length):=(SB.1 _).trans (PY (zf h))
theorem BA(n:Nat):(⟨Array.replicate n 32⟩ : Str).length=n:=Array.size_replicate
theorem padded{s:Str}{n:Nat}(h:s.length<=n)(hn:n<=60):(bnd (bnd (bnd (au (nm "len") [.str s]) λt3=>ag .Sub (.int n) t3) λt4=>ag .Mult (.str (nm " ")) t4) λt5=>ag .Add (.str s) t5)=ret (.str (bD s n)):=by have k:n - s.length<=60:=PQ (Nat.sub_le _ _) hn;have m:ag .Mult (.str (nm " ")) (.int ((n - s.length:Nat):Int))=ret (.str ⟨Array.replicate (n - s.length) 32⟩):=PY ⟨rfl,Int.le_trans (by decide) (Int.natCast_nonneg _),Int.le_trans (Int.ofNat_le.mpr k) (by decide)⟩;refine B1 (B1 (B1 (Dk (PQ h hn)) (congrArg (λz=>ret (D.int z)) (Int.ofNat_sub h).symm)) m) (PY ?_);simp only[zf (PQ h hn),zf (by rw[BA];exact k)];rfl
theorem uq{d:Nat}{x y:Str}(hd:2<=d)(hx:x.length<=60)(hy:y.length<=60):run d (nm "collate") [.str x,.str y]=ret (.int (uo x y)):=by
 refine am (ak hd) λd z2 hd'=>?_;obtain rfl:=z2;have l1:=Nat.le_max_left x.length y.length;have l2:=Nat.le_max_right x.length y.length;have l3:=Nat.max_le.mpr ⟨hx,hy⟩;have hm:au (nm "max") [.int x.length,.int y.length]=ret (.int (max x.length y.length:Nat)):=by
  refine(SB.2.2.2.1 _ _).trans (congrArg (λz=>ret (D.int z)) ?_)
  split
  ·exact congrArg Nat.cast (Nat.max_eq_right (Nat.le_of_lt (Int.ofNat_lt.mp ‹_›))).symm
  ·exact congrArg Nat.cast (Nat.max_eq_left (Int.ofNat_le.mp (Int.not_lt.mp ‹_›))).symm
 generalize max x.length y.length=n at *
 unfold uo;rw[<-Bz l1 l2 l3];exact(wT ..).trans (E1 (B1 (B1 (eV (Dk hx) (eV (Dk hy) rfl)) hm) (B1 (B1 (eV (padded l1 l3) (eV (padded l2 l3) rfl)) (oV hd')) rfl)))
theorem rE{d:Nat}{op:String}{x y:Str}{k lim:D}(hd:3<=d)(hx:x.length<=60)(hy:y.length<=60)(ho:op∈rels):run d (nm "text_binary") [.str (nm op),k,.str x,.str y,lim]=ret (.bool (iW op (uo x y))):=by
 refine am (ak hd) λd z3 hd'=>?_;obtain rfl:=z3;rw[mA];have a1:1<=d:=by lia
 have ho':=ho;simp only[rels,List.mem_cons,List.not_mem_nil,or_false]at ho;have q1:=uq hd' hx hy;have q2:=lF (o:=uo x y) a1 ho';rcases ho with rfl | rfl | rfl | rfl | rfl | rfl <;> walk_at "e"
theorem mH{d:Nat}{x y:Int}(hd:1<=d):run d (nm "_law_order") [.int 0,.int x,.int y]=ret (.int (ug x y)):=by
 refine am (ak hd) λd z4 hd'=>?_;obtain rfl:=z4;rw[gc];unfold ug
 by_cases h1:x=y
 ·rw[PY h1];walk_at "e"
 ·rw[PZ h1]
  by_cases h2:x<y
  ·have:¬ y<x:=by lia
   rw[PY h2];walk_at "e"
  ·have:y<x:=by lia
   rw[PZ h2];walk_at "e"
theorem mI{d:Nat}{x y:Str}(hd:1<=d)(hx:x.length<=60)(hy:y.length<=60):run d (nm "_law_order") [.int 5,.str x,.str y]=ret (.int (uo x y)):=by
 refine am (ak hd) λd z5 hd'=>?_;obtain rfl:=z5;rw[gc];have e:∀ s:Str,a_ (.str s) (nm "ljust")=ret .ljust:=λs=>by kernel_rfl
 have pk:PadOk 60=true:=by decide +kernel
 have e2:∀ s:Str,s.length<=60->be (run d) (.str s) .ljust [.int 60]=ret (.str (bD s 60)):=λs hs=>by show(if PadOk 60=true then ret (D.str (Txt.ljust s 60)) else stuck)=_;refine PX (PY pk) ?_;exact congrArg (λt=>ret (D.str t)) (nx (n:=60) hs)
 delta uo uh;have k1:=e x;have k2:=e y;have l1:=e2 x hx;have l2:=e2 y hy;rcases P_ (bD x 60=bD y 60) with h1 | h1
 ·rw[PY h1];walk_at "e"
 ·rw[PZ h1];have h2:=ze (λq=>h1 (str_eq.mpr q))
  by_cases h3:(bD x 60).cps.toList<(bD y 60).cps.toList
  ·have h4:gL (bD y 60).cps.toList (bD x 60).cps.toList=false:=dF λq=>h2.mp q h3;rw[show gL (bD x 60).cps.toList (bD y 60).cps.toList=true from dT h3,PY rfl];walk_at "e"
  ·have h4:gL (bD y 60).cps.toList (bD x 60).cps.toList=true:=dT (h2.mpr h3);rw[show gL (bD x 60).cps.toList (bD y 60).cps.toList=false from dF h3,PZ Bool.false_ne_true];walk_at "e"
theorem lQ{d b:Nat}{x y:Int×Int}(hd:2<=d)(hb:b<=80)(hx:Rl b x)(hy:Rl b y):run d (nm "_law_order") [.int 1,pr x,pr y]=ret (.int (if (aK x (h_ y)).1=0 then 0 else if 0<(aK x (h_ y)).1 then 1 else -1)):=by
 refine am (ak hd) λd z6 hd'=>?_;obtain rfl:=z6;rw[gc];have q1:=bI (d:=d) hd' (by omega) hx;have q2:=bI (d:=d) hd' (by omega) hy;obtain⟨fa,fb⟩:=eI (by omega) hx;obtain⟨fc,fd⟩:=eI (by omega) hy;have h:=za (x:=x) (y:=h_ y);have n1:(av (h_ y)).1 = -(av y).1:=by show -y.1*10 ^ y.2.toNat = -(y.1*10 ^ y.2.toNat);simp only[Int.neg_mul]
 have n2:(av (h_ y)).2=(av y).2:=rfl;simp only[n1,n2,Int.neg_mul,<-Int.sub_eq_add_neg]at h;generalize aK x (h_ y)=z at h;have p1:(0:Int)<10 ^ (-z.2).toNat:=Int.pow_pos (by decide);have p2:(0:Int)<10 ^ z.2.toNat:=Int.pow_pos (by decide);have p3:(0:Int)<(((av x).2*(av y).2:Nat):Int):=by have:=Nat.mul_pos (cY hx).2.2 (cY hy).2.2;omega
 have p4:=Int.mul_pos p2 p3;rw[Int.mul_assoc z.1]at h;have c1:(av x).1*(av y).2=(av y).1*(av x).2 ↔ z.1=0:=by
  constructor
  ·intro q;rw[q,Int.sub_self,Int.zero_mul]at h;exact(Int.mul_eq_zero.mp h.symm).resolve_right (by omega)
  ·intro q;rw[q,Int.zero_mul]at h;have:=(Int.mul_eq_zero.mp h).resolve_right (by omega);omega
 have c2:(av y).1*(av x).2<(av x).1*(av y).2 ↔ 0<z.1:=by
  constructor
  ·intro q;have:0<((av x).1*(av y).2 - (av y).1*(av x).2)*10 ^ (-z.2).toNat:=Int.mul_pos (by omega) p1;rw[h]at this;exact Int.pos_of_mul_pos_left this p4
  ·intro q;have:0<z.1*(10 ^ z.2.toNat*(((av x).2*(av y).2:Nat):Int)):=Int.mul_pos q p4;rw[<-h]at this;have:=Int.pos_of_mul_pos_left this p1;omega
 by_cases h1:z.1=0
 ·have:=c1.mpr h1;rw[PY h1];walk_at "e"
 ·have:=mt c1.mp h1;rw[PZ h1]
  by_cases h2:0<z.1
  ·have:=c2.mpr h2;rw[PY h2];walk_at "e"
  ·have:=mt c2.mp h2;rw[PZ h2];walk_at "e"
section
variable(call:Str->List D->M D)
noncomputable def bE(Kk:af)(k67:K'):M Flow':=bnd (bnd (ah [ac (aa Kk (nm "pool")),ac (aa Kk (nm "kind"))]) λPt=>call (nm "_law_const") Pt) λL2=>bnd (ret (aj Kk (nm "value") L2)) λJS=>bnd (bnd (bnd (ah [ac (aa JS (nm "pool")),ret (.int 9)]) λPu=>call (nm "_law_take") Pu) λPv=>ae .NotEq Pv (.int 8)) λPw=>if Pw then bnd (bnd (bnd (ac (aa JS (nm "kind"))) λMb=>ae .Eq Mb (.int 5)) λPx=>if Px then bnd (bnd (ac (aa JS (nm "value"))) λMM=>bnd (ac (aa JS (nm "length"))) λMN=>bu MM .none MN) λLL=>bnd (a_ LL (nm "ljust")) λk82=>bnd (ah [ac (aa JS (nm "length"))]) λPz=>be call LL k82 Pz else ac (aa JS (nm "value"))) λPA=>bnd (ret (aj JS (nm "value") PA)) λKo=>bnd (ac (aa Ko (nm "value"))) λMP=>bnd (bnd (bnd (ac (aa Ko (nm "held"))) λL3=>bnd (ac (aa Ko (nm "name"))) λMU=>subD L3 MU) λMV=>bnd (bnd (ac (aa Ko (nm "seats"))) λM2=>bnd (ac (aa Ko (nm "at"))) λPB=>subD M2 PB) λM3=>bnd (cM MV M3 MP) λ_=>ret Ko) λJT=>bnd (bnd (ac (aa JT (nm "memory"))) λK1=>bnd (a_ K1 (nm "store")) λk95=>bnd (ah [aI [ac (aa JT (nm "kind")),bnd (ac (aa JT (nm "address"))) λJ8=>bnd (bnd (ac (aa JT (nm "at"))) λJ9=>bnd (bnd (ah [ac (aa JT (nm "length")),ret (.int 1)]) λPC=>au (nm "max") PC) λJ_=>ag .Mult J9 J_) λIZ=>ag .Add J8 IZ,ac (aa JT (nm "length")),ret ((.tup []))],ac (aa JT (nm "value"))]) λM4=>be call K1 k95 M4) λPD=>k67 JT else k67 JS
noncomputable def rF(KC:af)(k112:K'):M Flow':=bnd (bnd (ah [ac (aa KC (nm "pool")),ac (aa KC (nm "kind"))]) λM5=>call (nm "_law_const") M5) λM6=>bnd (ret (aj KC (nm "value") M6)) λJc=>bnd (bnd (bnd (ah [ac (aa Jc (nm "pool")),ret (.int 9)]) λM7=>call (nm "_law_take") M7) λM8=>ae .NotEq M8 (.int 8)) λM9=>if M9 then bnd (bnd (bnd (ac (aa Jc (nm "kind"))) λM_=>ae .Eq M_ (.int 5)) λNa=>if Na then bnd (bnd (ac (aa Jc (nm "value"))) λNb=>bnd (ac (aa Jc (nm "length"))) λNc=>bu Nb .none Nc) λMc=>bnd (a_ Mc (nm "ljust")) λk127=>bnd (ah [ac (aa Jc (nm "length"))]) λNd=>be call Mc k127 Nd else ac (aa Jc (nm "value"))) λNf=>bnd (ret (aj Jc (nm "value") Nf)) λJy=>bnd (ac (aa Jy (nm "value"))) λNg=>bnd (bnd (bnd (ac (aa Jy (nm "held"))) λNh=>bnd (ac (aa Jy (nm "name"))) λNi=>subD Nh Ni) λNj=>bnd (bnd (ac (aa Jy (nm "seats"))) λNk=>bnd (ac (aa Jy (nm "at"))) λNl=>subD Nk Nl) λNm=>bnd (cM Nj Nm Ng) λ_=>ret Jy) λJd=>bnd (bnd (ac (aa Jd (nm "memory"))) λMe=>bnd (a_ Me (nm "store")) λk140=>bnd (ah [aI [ac (aa Jd (nm "kind")),bnd (ac (aa Jd (nm "address"))) λNn=>bnd (bnd (ac (aa Jd (nm "at"))) λNo=>bnd (bnd (ah [ac (aa Jd (nm "length")),ret (.int 1)]) λNp=>au (nm "max") Np) λNq=>ag .Mult No Nq) λNr=>ag .Add Nn Nr,ac (aa Jd (nm "length")),ret ((.tup []))],ac (aa Jd (nm "value"))]) λNt=>be call Me k140 Nt) λPE=>k112 Jd else k112 Jc
noncomputable def rG(KD:af)(k186:K'):M Flow':=bnd (bnd (ah [ac (aa KD (nm "pool")),ac (aa KD (nm "kind"))]) λNu=>call (nm "_law_const") Nu) λNv=>bnd (ret (aj KD (nm "value") Nv)) λJe=>bnd (bnd (bnd (ah [ac (aa Je (nm "pool")),ret (.int 9)]) λNw=>call (nm "_law_take") Nw) λNx=>ae .NotEq Nx (.int 8)) λNy=>if Ny then bnd (bnd (bnd (ac (aa Je (nm "kind"))) λNz=>ae .Eq Nz (.int 5)) λNA=>if NA then bnd (bnd (ac (aa Je (nm "value"))) λNB=>bnd (ac (aa Je (nm "length"))) λNC=>bu NB .none NC) λMf=>bnd (a_ Mf (nm "ljust")) λk201=>bnd (ah [ac (aa Je (nm "length"))]) λND=>be call Mf k201 ND else ac (aa Je (nm "value"))) λNE=>bnd (ret (aj Je (nm "value") NE)) λJz=>bnd (ac (aa Jz (nm "value"))) λNF=>bnd (bnd (bnd (ac (aa Jz (nm "held"))) λNG=>bnd (ac (aa Jz (nm "name"))) λNH=>subD NG NH) λNI=>bnd (bnd (ac (aa Jz (nm "seats"))) λNJ=>bnd (ac (aa Jz (nm "at"))) λNK=>subD NJ NK) λNL=>bnd (cM NI NL NF) λ_=>ret Jz) λJf=>bnd (bnd (ac (aa Jf (nm "memory"))) λMg=>bnd (a_ Mg (nm "store")) λk214=>bnd (ah [aI [ac (aa Jf (nm "kind")),bnd (ac (aa Jf (nm "address"))) λNM=>bnd (bnd (ac (aa Jf (nm "at"))) λNN=>bnd (bnd (ah [ac (aa Jf (nm "length")),ret (.int 1)]) λNO=>au (nm "max") NO) λNP=>ag .Mult NN NP) λNQ=>ag .Add NM NQ,ac (aa Jf (nm "length")),ret ((.tup []))],ac (aa Jf (nm "value"))]) λNR=>be call Mg k214 NR) λPF=>k186 Jf else k186 Je
noncomputable def rH(KE:af)(k231:K'):M Flow':=bnd (bnd (ah [ac (aa KE (nm "pool")),ac (aa KE (nm "kind"))]) λNS=>call (nm "_law_const") NS) λNT=>bnd (ret (aj KE (nm "value") NT)) λJg=>bnd (bnd (bnd (ah [ac (aa Jg (nm "pool")),ret (.int 9)]) λNU=>call (nm "_law_take") NU) λNV=>ae .NotEq NV (.int 8)) λNW=>if NW then bnd (bnd (bnd (ac (aa Jg (nm "kind"))) λNX=>ae .Eq NX (.int 5)) λNY=>if NY then bnd (bnd (ac (aa Jg (nm "value"))) λNZ=>bnd (ac (aa Jg (nm "length"))) λN0=>bu NZ .none N0) λMh=>bnd (a_ Mh (nm "ljust")) λk246=>bnd (ah [ac (aa Jg (nm "length"))]) λN1=>be call Mh k246 N1 else ac (aa Jg (nm "value"))) λN3=>bnd (ret (aj Jg (nm "value") N3)) λJA=>bnd (ac (aa JA (nm "value"))) λN4=>bnd (bnd (bnd (ac (aa JA (nm "held"))) λN5=>bnd (ac (aa JA (nm "name"))) λN6=>subD N5 N6) λN7=>bnd (bnd (ac (aa JA (nm "seats"))) λN8=>bnd (ac (aa JA (nm "at"))) λN9=>subD N8 N9) λN_=>bnd (cM N7 N_ N4) λ_=>ret JA) λJh=>bnd (bnd (ac (aa Jh (nm "memory"))) λMi=>bnd (a_ Mi (nm "store")) λk259=>bnd (ah [aI [ac (aa Jh (nm "kind")),bnd (ac (aa Jh (nm "address"))) λOa=>bnd (bnd (ac (aa Jh (nm "at"))) λOb=>bnd (bnd (ah [ac (aa Jh (nm "length")),ret (.int 1)]) λOc=>au (nm "max") Oc) λOd=>ag .Mult Ob Od) λOe=>ag .Add Oa Oe,ac (aa Jh (nm "length")),ret ((.tup []))],ac (aa Jh (nm "value"))]) λOf=>be call Mi k259 Of) λPG=>k231 Jh else k231 Jg
noncomputable def bm(bT:af)(k4:K'):M Flow':=bnd (bnd (call (nm "_law_places") []) λt8=>bnd (ac (aa bT (nm "name"))) λt9=>subD t8 t9) λIL=>bnd (dg bT [(nm "kind"),(nm "address"),(nm "length"),(nm "dims")] IL) λJo=>bnd (dk [ret ((.tup []))]) λIO=>bnd (ret (aj Jo (nm "seats") IO)) λIo=>bnd (bnd (bnd (ah [ac (aa Io (nm "dims"))]) λKz=>au (nm "len") Kz) λIR=>ae .Eq IR (.int 1)) λKy=>if Ky then bnd (bnd (bnd (bnd (ah [bnd (bnd (ac (aa Io (nm "dims"))) λI1=>subD I1 (.int 0)) λI2=>subD I2 (.int 0),bnd (bnd (bnd (ac (aa Io (nm "dims"))) λI9=>subD I9 (.int 0)) λJB=>subD JB (.int 1)) λJC=>ag .Add JC (.int 1)]) λLd=>au (nm "range") Ld) λJs=>bnd (aZ Js) λLO=>aM (λOg JU=>(λI_=>bnd (aI [ac (aa I_ (nm "k"))]) λJt=>if ao (JU).length then ret (JU++[Jt]) else stuck) (aj (aU [(nm ".0",.local),(nm "k",.local)] Io) (nm "k") Og)) LO []) λKL=>ret (.list KL)) λJu=>bnd (ret (aj Io (nm "seats") Ju)) λJb=>bnd (bnd (bnd (ah [ac (aa Jb (nm "dims"))]) λKQ=>au (nm "len") KQ) λJD=>ae .Eq JD (.int 2)) λOh=>if Oh then bnd (bnd (bnd (bnd (ah [bnd (bnd (ac (aa Jb (nm "dims"))) λJ1=>subD J1 (.int 1)) λKN=>subD KN (.int 0),bnd (bnd (bnd (ac (aa Jb (nm "dims"))) λIN=>subD IN (.int 1)) λKr=>subD Kr (.int 1)) λKc=>ag .Add Kc (.int 1)]) λMG=>au (nm "range") MG) λJR=>bnd (aZ JR) λMa=>aM (λPH Mj=>(λKV=>if (aa KV (nm "k")).isNone then bnd (bnd (ah [bnd (bnd (ac (aa KV (nm "dims"))) λJ2=>subD J2 (.int 0)) λKq=>subD Kq (.int 0),bnd (bnd (bnd (ac (aa KV (nm "dims"))) λKs=>subD Ks (.int 0)) λL6=>subD L6 (.int 1)) λKl=>ag .Add Kl (.int 1)]) λMx=>au (nm "range") Mx) λL7=>bnd (aZ L7) λMH=>aM (λPI K2=>(λMl=>bnd (aI [ac (aa Ml (nm "k")),ac (aa Ml (nm "n"))]) λLN=>if ao (K2).length then ret (K2++[LN]) else stuck) (aj KV (nm "k") PI)) MH Mj else stuck) (aj (aU [(nm ".0",.local),(nm "n",.local),(nm "k",.local),(nm "range",.globalImplicit),(nm "dims",.free)] Jb) (nm "n") PH)) Ma []) λL9=>ret (.list L9)) λKt=>bnd (ret (aj Jb (nm "seats") Kt)) λIY=>bnd (fk []) λKT=>bnd (bnd (ac (aa IY (nm "held"))) λK8=>bnd (ac (aa IY (nm "name"))) λK9=>bnd (cM K8 K9 KT) λ_=>ret IY) λI5=>bnd (bnd (ah [bnd (ah [ac (aa I5 (nm "seats"))]) λLe=>au (nm "len") Le]) λLg=>au (nm "range") Lg) λLh=>dL Lh λOi=>aG (bE call) (λOj PJ=>ret (aj Oj (nm "at") PJ)) Oi I5 λLi=>k4 Li else bnd (fk []) λOl=>bnd (bnd (ac (aa Jb (nm "held"))) λOm=>bnd (ac (aa Jb (nm "name"))) λOn=>bnd (cM Om On Ol) λ_=>ret Jb) λK4=>bnd (bnd (ah [bnd (ah [ac (aa K4 (nm "seats"))]) λOo=>au (nm "len") Oo]) λOp=>au (nm "range") Op) λOq=>dL Oq λOs=>aG (rF call) (λMm Ot=>ret (aj Mm (nm "at") Ot)) Os K4 λMn=>k4 Mn else bnd (bnd (bnd (ah [ac (aa Io (nm "dims"))]) λLj=>au (nm "len") Lj) λLk=>ae .Eq Lk (.int 2)) λLl=>if Ll then bnd (bnd (bnd (bnd (ah [bnd (bnd (ac (aa Io (nm "dims"))) λLm=>subD Lm (.int 1)) λLn=>subD Ln (.int 0),bnd (bnd (bnd (ac (aa Io (nm "dims"))) λLo=>subD Lo (.int 1)) λLp=>subD Lp (.int 1)) λLq=>ag .Add Lq (.int 1)]) λLr=>au (nm "range") Lr) λLs=>bnd (aZ Ls) λLu=>aM (λLv Ka=>(λI6=>if (aa I6 (nm "k")).isNone then bnd (bnd (ah [bnd (bnd (ac (aa I6 (nm "dims"))) λLw=>subD Lw (.int 0)) λLx=>subD Lx (.int 0),bnd (bnd (bnd (ac (aa I6 (nm "dims"))) λLy=>subD Ly (.int 0)) λLz=>subD Lz (.int 1)) λLA=>ag .Add LA (.int 1)]) λLB=>au (nm "range") LB) λLC=>bnd (aZ LC) λLD=>aM (λLE Jq=>(λJV=>bnd (aI [ac (aa JV (nm "k")),ac (aa JV (nm "n"))]) λLF=>if ao (Jq).length then ret (Jq++[LF]) else stuck) (aj I6 (nm "k") LE)) LD Ka else stuck) (aj (aU [(nm ".0",.local),(nm "n",.local),(nm "k",.local),(nm "range",.globalImplicit),(nm "dims",.free)] Io) (nm "n") Lv)) Lu []) λLG=>ret (.list LG)) λLH=>bnd (ret (aj Io (nm "seats") LH)) λJW=>bnd (fk []) λOu=>bnd (bnd (ac (aa JW (nm "held"))) λOv=>bnd (ac (aa JW (nm "name"))) λOw=>bnd (cM Ov Ow Ou) λ_=>ret JW) λK5=>bnd (bnd (ah [bnd (ah [ac (aa K5 (nm "seats"))]) λOx=>au (nm "len") Ox]) λOy=>au (nm "range") Oy) λOz=>dL Oz λOA=>aG (rG call) (λMo OB=>ret (aj Mo (nm "at") OB)) OA K5 λMp=>k4 Mp else bnd (fk []) λOC=>bnd (bnd (ac (aa Io (nm "held"))) λOD=>bnd (ac (aa Io (nm "name"))) λOE=>bnd (cM OD OE OC) λ_=>ret Io) λK6=>bnd (bnd (ah [bnd (ah [ac (aa K6 (nm "seats"))]) λOF=>au (nm "len") OF]) λOG=>au (nm "range") OG) λOH=>dL OH λOI=>aG (rH call) (λMq OJ=>ret (aj Mq (nm "at") OJ)) OI K6 λMr=>k4 Mr
noncomputable def lR(H9 I7:D):M Flow':=bnd (fk []) λt1=>bnd (dk [ret (.str (nm "I")),ret (.str (nm "J")),ret (.str (nm "A")),ret (.str (nm "X")),ret (.str (nm "B")),ret (.str (nm "L")),ret (.str (nm "C")),ret (.str (nm "D"))]) λOK=>dL OK λl5=>aG (bm call) (λKn d7=>ret (aj Kn (nm "name") d7)) l5 [(nm "pool",H9),(nm "memory",I7),(nm "held",t1)] λIQ=>bnd (ac (aa IQ (nm "held"))) λKF=>ret (.ret KF)
end
theorem ur(d:Nat)(H9 I7:D):run (d+1) (nm "_law_fill") [H9,I7]=aq (lR (run d) H9 I7):=by kernel_rfl
noncomputable def Ci(call:Str->List D->M D)(Jn:af)(k25:K'):M Flow':=bnd (ac (aa Jn (nm "handler"))) λJt=>bnd (bnd (ac (aa Jn (nm "expressions"))) λKM=>bnd (ac (aa Jn (nm "word"))) λJO=>bnd (cM KM JO Jt) λ_=>ret Jn) λOL=>k25 OL
section
variable(call:Str->List D->M D)
noncomputable def zh(J5:af)(k45:K'):M Flow':=bnd (bnd (call (nm "_law_places") []) λKs=>bnd (ac (aa J5 (nm "name"))) λL6=>subD Ks L6) λKl=>bnd (bnd (bnd (ac (aa J5 (nm "run"))) λL7=>aB L7 (nm "frame")) λKO=>bnd (ac (aa J5 (nm "name"))) λKg=>bnd (cM KO Kg Kl) λ_=>ret J5) λOM=>k45 OM
noncomputable def ic(KW:af)(k65:K'):M Flow':=bnd (bnd (ah [ac (aa KW (nm "held")),ac (aa KW (nm "tree")),ac (aa KW (nm "width"))]) λON=>call (nm "_law_value") ON) λML=>bnd (ret (aj KW (nm "due") ML)) λKX=>vU (bnd (ah [ac (aa KX (nm "run")),ac (aa KX (nm "tree"))]) λOO=>call (nm "evaluate") OO) (λv72=>bnd (ret (aj KX (nm "told") v72)) λKG=>bnd (bnd (bnd (ac (aa KG (nm "told"))) λOP=>bnd (ac (aa KG (nm "due"))) λMb=>ae .NotEq OP Mb) λb76=>bj .Or b76 (bnd (bnd (bnd (ah [ac (aa KG (nm "told")),ret (.blt (nm "bool"))]) λOQ=>au (nm "isinstance") OQ) λLL=>bnd (bnd (ah [ac (aa KG (nm "due")),ret (.blt (nm "bool"))]) λOR=>au (nm "isinstance") OR) λL0=>ae .NotEq LL L0) λb79=>bj .Or b79 (ret false))) λOS=>if OS then ret (.ret (.bool false)) else k65 KG) (bnd (ret (aj KX (nm "told") .none)) λJ6=>bnd (bnd (bnd (ac (aa J6 (nm "told"))) λPK=>bnd (ac (aa J6 (nm "due"))) λL3=>ae .NotEq PK L3) λb86=>bj .Or b86 (bnd (bnd (bnd (ah [ac (aa J6 (nm "told")),ret (.blt (nm "bool"))]) λPL=>au (nm "isinstance") PL) λM2=>bnd (bnd (ah [ac (aa J6 (nm "due")),ret (.blt (nm "bool"))]) λPM=>au (nm "isinstance") PM) λM3=>ae .NotEq M2 M3) λb89=>bj .Or b89 (ret false))) λPN=>if PN then ret (.ret (.bool false)) else k65 J6)
noncomputable def Cj(Iw:D):M Flow':=bnd (bnd (bnd (bu Iw .none (.int 24)) λt2=>bnd (aZ t2) λl3=>aM (λd4 Jp=>bnd (bnd (au (nm "abs") [d4]) λt6=>bnd (ag .Pow (.int 10) (.int 60)) λt7=>ag .Mod t6 t7) λt8=>if ao (Jp).length then ret (Jp++[t8]) else stuck) l3 []) λl1=>bnd (d_ (.list l1)) λi=>ret (.ref i)) λt9=>bnd (bnd (bnd (aZ (.tup [(.int 0),(.int 1)])) λKP=>aM (λPO JX=>bnd (bnd (ah [ret t9,bnd (call (nm "_law_take") [t9,(.int 4)]) λI8=>subD (.tup [(.int 4),(.int 0),(.int 1),(.int 5)]) I8,ret (.int 3)]) λKz=>call (nm "_law_tree") Kz) λIR=>if ao (JX).length then ret (JX++[IR]) else stuck) KP []) λKj=>ret (.list Kj)) λIK=>bnd (bnd (call (nm "_law_take") [t9,(.int 3)]) λI1=>subD (.tup [(.int 8),(.int 5),(.int 12)]) I1) λI2=>bnd (bP call (.fn (nm "Memory")) [(.int 12),(.int 10)]) λI9=>bnd (call (nm "_law_fill") [t9,I9]) λJB=>bnd (call (nm "base_expressions") []) λJC=>bnd (bnd (call (nm "char_expressions") []) λJZ=>bnd (a_ JZ (nm "items")) λk34=>be call JZ k34 []) λJ0=>sF J0 λOT=>aG (Ci call) (λLI OU=>dg LI [(nm "word"),(nm "handler")] OU) OT [(nm "script",Iw),(nm "pool",t9),(nm "trees",IK),(nm "width",I2),(nm "memory",I9),(nm "held",JB),(nm "expressions",JC)] λJI=>bnd (bnd (ah [ac (aa JI (nm "memory")),bnd (ah [ac (aa JI (nm "width")),ret (.int 3),ret (.int 5),ret (.int 90)]) λL5=>bP call (.fn (nm "Limits")) L5,fj [],ret (.none),ac (aa JI (nm "expressions")),fj []]) λL_=>bP call (.fn (nm "Run")) L_) λIN=>bnd (ret (aj JI (nm "run") IN)) λI4=>bnd (call (nm "all_operations") []) λKc=>bnd (bnd (ac (aa I4 (nm "run"))) λJR=>bnd (ef JR (nm "operations") Kc) λ_=>ret I4) λLJ=>bnd (call (nm "_law_places") []) λJ3=>dL J3 λOV=>aG (zh call) (λLK OW=>ret (aj LK (nm "name") OW)) OV LJ λIE=>bnd (aI [bnd (ah [bnd (ac (aa IE (nm "memory"))) λKm=>aB Km (nm "numeric")]) λOX=>au (nm "list") OX,bnd (ah [bnd (ac (aa IE (nm "memory"))) λKt=>aB Kt (nm "characters")]) λLV=>au (nm "list") LV]) λKT=>bnd (ret (aj IE (nm "before") KT)) λI5=>bnd (ac (aa I5 (nm "trees"))) λK1=>dL K1 λK_=>aG (ic call) (λJJ KY=>ret (aj JJ (nm "tree") KY)) K_ I5 λIz=>bnd (bnd (aI [bnd (ac (aa Iz (nm "memory"))) λKp=>aB Kp (nm "numeric"),bnd (ac (aa Iz (nm "memory"))) λJ8=>aB J8 (nm "characters")]) λJ9=>bnd (bnd (ac (aa Iz (nm "before"))) λJ_=>ae .Eq J9 J_) λb98=>ret (.bool b98)) λIZ=>ret (.ret IZ)
end
theorem Ep(d:Nat)(Iw:D):run (d+1) (nm "law") [Iw]=aq (Cj (run d) Iw):=by kernel_rfl
noncomputable def cH:List (String×String):=[("const","eval_const"),("var","eval_place"),("elem","eval_place"),("add","eval_binary"),("sub","eval_binary"),("mul","eval_binary"),("div","eval_binary"),("powi","eval_binary"),("and","eval_binary"),("or","eval_binary"),("eqv","eval_binary"),("neqv","eval_binary"),
 ("eq","eval_compare"),("ne","eval_compare"),("lt","eval_compare"),("le","eval_compare"),("gt","eval_compare"),("ge","eval_compare"),("conv","eval_conv"),("neg","eval_unary"),("not","eval_unary"),("substr","eval_place"),("cat","eval_cat")]
noncomputable def jq:List (Int×String):=[(0,"int_binary"),(1,"real_binary"),(4,"logic_binary"),(5,"text_binary")]
structure Wd(σ:St)(w:Int)(ro:D):Prop where
 w5:5<=w
 w12:w<=12
 exprs:∃ i l,aB ro (nm "expressions") σ=.ok (.ref i) σ/\σ[i]?=some (.sdict l)/\∀ p∈cH,aa l (nm p.1)=some (.fn (nm p.2))
 ops:∃ l,aB ro (nm "operations") σ=.ok (.idict l) σ/\∀ p∈jq,gK l p.1=some (.fn (nm p.2))
 lims:∃ lim,aB ro (nm "limits") σ=.ok lim σ/\dE lim w σ
noncomputable def both(oa ob:Option D)(f:D->D->R D)(z:R D):R D:=match oa,ob with
 | some v,some u=>f v u
 | _,_=>z
noncomputable def BB(oa:Option D)(f:D->R D)(z:R D):R D:=match oa with
 | some v=>f v
 | none=>z
variable{σ:St}{w:Int}{ro:D}
theorem rI{call:Str->List D->M D}{h:String}{as:List D}(hm:h∈["eval_const","eval_place","eval_binary","eval_compare","eval_conv","eval_unary","eval_cat","int_binary","real_binary","logic_binary","text_binary"]):bP call (.fn (nm h)) as=call (nm h) as:=by simp only[List.mem_cons,List.not_mem_nil,or_false]at hm;rcases hm with rfl | rfl | rfl | rfl | rfl | rfl | rfl | rfl | rfl | rfl | rfl <;> kernel_rfl
theorem Dl{p:String×String}(h:p∈cH):p.2∈["eval_const","eval_place","eval_binary","eval_compare","eval_conv","eval_unary","eval_cat","int_binary","real_binary","logic_binary","text_binary"]:=by revert p;decide
theorem Dm{p:Int×String}(h:p∈jq):p.2∈["eval_const","eval_place","eval_binary","eval_compare","eval_conv","eval_unary","eval_cat","int_binary","real_binary","logic_binary","text_binary"]:=by revert p;decide
theorem Dn(a:D)(r:List D):subD (.tup (a::r)) (.int 0)=ret a:=rfl
theorem Do(a b:D)(r:List D):subD (.tup (a::b::r)) (.int 1)=ret b:=rfl
theorem Er(a b c:D)(r:List D):subD (.tup (a::b::c::r)) (.int 2)=ret c:=rfl
theorem Fb(a b c e:D)(r:List D):subD (.tup (a::b::c::e::r)) (.int 3)=ret e:=rfl
theorem bz(W:Wd σ w ro){d:Nat}{x h:String}{r:List D}(hx:(x,h)∈cH):run (d+1) (nm "evaluate") [ro,.tup (.str (nm x)::r)] σ=run d (nm h) [ro,.tup (.str (nm x)::r)] σ:=by
 rw[tI];refine ar W.exprs λi l e1 e2 e3=>?_;have e4:=e3 _ hx;dsimp only at e4;have hc:ae .NotIn (.str (nm x)) (.ref i) σ=.ok false σ:=by
  have:cell i σ=.ok (.sdict l) σ:=by unfold cell;rw[e2]
  refine bd (a:=true) (bd this ?_) rfl;show R.ok (aa l (nm x)).isSome σ=_;rw[e4];rfl
 have hs:subD (.ref i) (.str (nm x)) σ=.ok (.fn (nm h)) σ:=by
  have:cell i σ=.ok (.sdict l) σ:=by unfold cell;rw[e2]
  refine bd this ?_;show ac (aa l (nm x)) σ=_;rw[e4];rfl
 refine dy (bd (rS rfl) (bd e1 hc)) (gJ Bool.false_ne_true (pE (bd (bd e1 (bd (rS rfl) hs)) ?_)));rw[rI (Dl hx)]
theorem ny(W:Wd σ w ro){d:Nat}{k:Int}{f:String}{x a b:D}(hk:(k,f)∈jq):∃ lim,dE lim w σ/\run (d+1) (nm "reckon") [ro,x,.int k,a,b] σ=run d (nm f) [x,.int k,a,b,lim] σ:=by
 simp only[yO];refine am W.ops λl e1 e2=>?_;refine am W.lims λlim e3 L=>?_;have e4:=e2 _ hk;dsimp only at e4;refine⟨lim,L, ?_⟩;have hc:ae .NotIn (.int k) (.idict l)=ret false:=by have hi:B4 (.int k) (.idict l)=ret (gK l k).isSome:=rfl;show bnd (B4 (.int k) (.idict l)) (λr=>ret (!r))=ret false;rw[hi,e4];rfl
 have hs:subD (.idict l) (.int k)=ret (.fn (nm f)):=by show ac (gK l k)=_;exact congrArg _ e4
 refine dy (bd e1 (rS hc)) (gJ Bool.false_ne_true (pE (bd (bd e1 (rS hs)) (bd (bY (rS rfl) (bY (rS rfl) (bY (rS rfl) (bY (rS rfl) (bY e3 (rS rfl)))))) ?_))));rw[rI (Dm hk)]
theorem gA(o:Option D):aQ o σ=match o with | some v=>.ok v σ | none=>.exc σ:=by induction o <;> rfl
theorem lS{d:Nat}{x:String}{k:Int}{a b:D}{oa ob:Option D}(ha:run d (nm "evaluate") [ro,a] σ=aQ oa σ)(hb:run d (nm "evaluate") [ro,b] σ=aQ ob σ) :
  run (d+1) (nm "eval_binary") [ro,.tup [.str (nm x),.int k,a,b]] σ=both oa ob (λv u=>run d (nm "reckon") [ro,.str (nm x),.int k,v,u] σ) (.exc σ):=by
 simp only[mE];rw[gA]at ha hb
 induction oa with
 | none=>exact ay (ay (bd (bY (rS rfl) (bY (rS rfl) (rS rfl))) ha) _) _
 | some v=>
  refine dy (bd (bY (rS rfl) (bY (rS rfl) (rS rfl))) ha) ?_
  induction ob with
  | none=>exact ay (ay (bd (bY (rS rfl) (bY (rS rfl) (rS rfl))) hb) _) _
  | some u=>exact dy (bd (bY (rS rfl) (bY (rS rfl) (rS rfl))) hb) (by walk_at "u")
theorem jV{d:Nat}{x:String}{k:Int}{a1 a2 b:D}{ra:List D}{oa ob:Option D}(ha:run d (nm "evaluate") [ro,.tup (a1::a2::ra)] σ=aQ oa σ)(hb:run d (nm "evaluate") [ro,b] σ=aQ ob σ) :
  run (d+1) (nm "eval_compare") [ro,.tup [.str (nm x),.int k,.tup (a1::a2::ra),b]] σ=both oa ob (λv u=>run d (nm "reckon") [ro,.str (nm x),a2,v,u] σ) (.exc σ):=by
 simp only[lw];rw[gA]at ha hb
 induction oa with
 | none=>exact ay (ay (bd (bY (rS rfl) (bY (rS rfl) (rS rfl))) ha) _) _
 | some v=>
  refine dy (bd (bY (rS rfl) (bY (rS rfl) (rS rfl))) ha) ?_
  induction ob with
  | none=>exact ay (ay (bd (bY (rS rfl) (bY (rS rfl) (rS rfl))) hb) _) _
  | some u=>exact dy (bd (bY (rS rfl) (bY (rS rfl) (rS rfl))) hb) (by walk_at "u")
theorem rJ{d:Nat}{x:String}{k:Int}{a b:D}{oa ob:Option D}(ha:run d (nm "evaluate") [ro,a] σ=aQ oa σ)(hb:run d (nm "evaluate") [ro,b] σ=aQ ob σ) :
  run (d+1) (nm "eval_cat") [ro,.tup [.str (nm x),.int k,a,b]] σ=both oa ob (λv u=>ag .Add v u σ) (.exc σ):=by
 rw[tM];rw[gA]at ha hb;cases oa with
 | none=>exact ay (ay (bd (bY (rS rfl) (bY (rS rfl) (rS rfl))) ha) _) _
 | some v=>
  refine dy (bd (bY (rS rfl) (bY (rS rfl) (rS rfl))) ha) ?_;cases ob with
  | none=>exact ay (ay (ay (bd (bY (rS rfl) (bY (rS rfl) (rS rfl))) hb) _) _) _
  | some u=>exact pE (bd (bd (bY (rS rfl) (bY (rS rfl) (rS rfl))) hb) rfl)
theorem d6(W:Wd σ w ro){d:Nat}{x:String}{k:Int}{a:D}{oa:Option D}(ha:run d (nm "evaluate") [ro,a] σ=aQ oa σ) :
  ∃ lim,dE lim w σ/\run (d+1) (nm "eval_unary") [ro,.tup [.str (nm x),.int k,a]] σ=BB oa (λv=>run d (nm "unary") [.str (nm x),.int k,v,lim] σ) (.exc σ):=by
 simp only[oL];refine am W.lims λlim e3 L=>?_;refine⟨lim,L, ?_⟩;rw[gA]at ha
 induction oa with
 | none=>exact ay (ay (ay (bd (rS rfl) (ay (bd (rS rfl) (ay (ay (bd (bY (rS rfl) (bY (rS rfl) (rS rfl))) ha) _) _)) _)) _) _) _
 | some v=>exact pE (bd (bY (rS rfl) (bY (rS rfl) (bY (bd (bY (rS rfl) (bY (rS rfl) (rS rfl))) ha) (bY e3 (rS rfl))))) rfl)
theorem i5(W:Wd σ w ro){d:Nat}{x:String}{k:Int}{a1 a2:D}{ra:List D}{oa:Option D}(ha:run d (nm "evaluate") [ro,.tup (a1::a2::ra)] σ=aQ oa σ) :
  ∃ lim,dE lim w σ/\run (d+1) (nm "eval_conv") [ro,.tup [.str (nm x),.int k,.tup (a1::a2::ra)]] σ=BB oa (λv=>run d (nm "convert") [v,a2,.int k,lim] σ) (.exc σ):=by
 simp only[qQ];refine am W.lims λlim e3 L=>?_;refine⟨lim,L, ?_⟩;rw[gA]at ha
 induction oa with
 | none=>exact ay (ay (ay (ay (bd (bY (rS rfl) (bY (rS rfl) (rS rfl))) ha) _) _) _) _
 | some v=>exact pE (bd (bY (bd (bY (rS rfl) (bY (rS rfl) (rS rfl))) ha) (bY (rS rfl) (bY (rS rfl) (bY e3 (rS rfl))))) rfl)
theorem w9{d:Nat}{b:Bool}{lim:D}(hd:1<=d):run d (nm "unary") [.str (nm "not"),.int 4,.bool b,lim]=ret (.bool !b):=by
 refine am (ak hd) λd z1 _=>?_;obtain rfl:=z1;rw[oE]
 induction b <;> kernel_rfl
theorem w_{d:Nat}{n:Int}{lim:D}(hd:2<=d)(h1:1<=w)(h2:w<=12)(L:dE lim w σ):run d (nm "unary") [.str (nm "neg"),.int 0,.int n,lim] σ=aQ ((bb w (-n)).map .int) σ:=by refine am (ak hd) λd z2 hd'=>?_;obtain rfl:=z2;rw[oE];have l:=L.width;have q:=congrFun (bS (n:=-n) hd' h1 h2) σ;walk_at "u"
theorem ut{d:Nat}{x:Int×Int}{lim:D}(hd:2<=d):run d (nm "unary") [.str (nm "neg"),.int 1,pr x,lim]=ret (pr (h_ x)):=by refine am (ak hd) λd z3 hd'=>?_;obtain rfl:=z3;rw[oE];have q:=gi (x:=x) hd';walk_at "e"
theorem o7{d:Nat}{n:Int}{lim:D}(hd:6<=d)(L:dE lim w σ)(hn:sm n):run d (nm "convert") [.int n,.int 0,.int 1,lim] σ=aQ ((bx n 0).map pr) σ:=by
 refine am (ak hd) λd z4 hd'=>?_;obtain rfl:=z4;rw[ng];refine am (ak (show 4+1<=d by omega)) λd z5 hd''=>?_;obtain rfl:=z5;have e:run (d+1) (nm "real_as") [.int n,.int 0,.int 1,lim] σ=aQ ((bx n 0).map pr) σ:=by rw[wV];have e1:=fe (d:=d) (by lia) L;have t:=L.top;have q:=congrFun (lM hd'' hn) σ;walk_at "u"
 walk_at "u"
theorem rK{d b:Nat}{x:Int×Int}{lim:D}(hd:2<=d)(h1:1<=w)(h2:w<=12)(hb:b<=300)(L:dE lim w σ)(hx:Rl b x):run d (nm "convert") [pr x,.int 1,.int 0,lim] σ=aQ ((bb w (jI x)).map .int) σ:=by refine am (ak hd) λd z6 hd'=>?_;rw[z6];rw[ng];have l:=L.width;have q:=lN hd' hb hx;have r:=congrFun (bS (n:=jI x) hd' h1 h2) σ;walk_at "u"
noncomputable def cJ(call:Str->List D->M D)(Il t1 H7 Iu IN H8:D):M Flow':=bnd (bnd (call (nm "_law_relations") []) λKi=>ae .In t1 Ki) λLc=>if Lc then bnd (bnd (ah [bnd (subD H7 (.int 2)) λJR=>subD JR (.int 1),ret Iu,ret IN]) λMa=>call (nm "_law_order") Ma) λJE=>bnd (bnd (fj [(ret (.str (nm "eq")),bnd (ae .Eq JE (.int 0)) λb45=>ret (.bool b45)),(ret (.str (nm "ne")),bnd (ae .NotEq JE (.int 0)) λb46=>ret (.bool b46)),(ret (.str (nm "lt")),bnd (ae .Lt JE (.int 0)) λb47=>ret (.bool b47)),(ret (.str (nm "le")),bnd (ae .Lt JE (.int 1)) λb48=>ret (.bool b48)),(ret (.str (nm "gt")),bnd (ae .Gt JE (.int 0)) λb49=>ret (.bool b49)),(ret (.str (nm "ge")),bnd (ae .Gt JE (.int (-1))) λb50=>ret (.bool b50))]) λKl=>subD Kl t1) λKB=>ret (.ret KB) else bnd (ae .In t1 (.tup [(.str (nm "and")),(.str (nm "or")),(.str (nm "eqv")),(.str (nm "neqv"))])) λLT=>if LT then bnd (bnd (fj [(ret (.str (nm "and")),au (nm "min") [Iu,IN]),(ret (.str (nm "or")),au (nm "max") [Iu,IN]),(ret (.str (nm "eqv")),bnd (ae .Eq Iu IN) λb54=>ret (.bool b54)),(ret (.str (nm "neqv")),bnd (ae .NotEq Iu IN) λb55=>ret (.bool b55))]) λJ3=>subD J3 t1) λKm=>ret (.ret Km) else bnd (bnd (ae .Eq t1 (.str (nm "cat"))) λM0=>if M0 then ag .Add Iu IN else bnd (ah [ret t1,subD H7 (.int 1),ret Iu,ret IN,ret H8]) λLU=>call (nm "_law_two") LU) λK7=>ret (.ret K7)
noncomputable def mJ:List String:=["add","sub","mul","div","powi","and","or","eqv","neqv","eq","ne","lt","le","gt","ge","cat"]
theorem xa{α:Type}{P:α->Prop}{a:α}{l:List α}(h:P a)(t:∀ x∈l,P x):∀ x∈a::l,P x:=List.forall_mem_cons.mpr ⟨h,t⟩
theorem uu{call:Str->List D->M D}{ho k a b w:D}{x:String}(hx:x∈mJ):bw call ho (.tup [.str (nm x),k,a,b]) w=bnd (call (nm "_law_value") [ho,a,w]) λIu=>bnd (ae .Is Iu .none) λKh=>if Kh then ret (.ret .none) else
  bnd (call (nm "_law_value") [ho,b,w]) λIN=>bnd (ae .Is IN .none) λMZ=>if MZ then ret (.ret .none) else cJ call ho (.str (nm x)) (.tup [.str (nm x),k,a,b]) Iu IN w:=by
 revert hx
 generalize x=y
 revert y
 repeat refine xa (by kernel_rfl) ?_
 exact cP
variable{σ:St}{w:Int}{ro ho:D}
noncomputable def Ev(σ:St)(w:Int)(ro ho:D)(K:Nat)(P:D->Prop)(t:D):Prop:=∃ o:Option D,(∀ v,o=some v->P v)/\∀ d,K<=d->run d (nm "evaluate") [ro,t] σ=aQ o σ/\run d (nm "_law_value") [ho,t,.int w] σ=ret (o.getD .none) σ
noncomputable def ex(n:Nat):Nat:=if n=0 then 3 else if n=1 then 14 else if n=2 then 36 else 80
inductive Val:Int->Nat->D->Prop
 | int {n:Nat} {i:Int}:i.natAbs<=2048->Val 0 n (.int i)
 | real {n:Nat} {x:Int×Int}:Rl (ex n) x->Val 1 n (pr x)
 | bool {n:Nat} {b:Bool}:Val 4 n (.bool b)
 | str {n:Nat} {s:Str}:s.length<=4*2 ^ n->Val 5 n (.str s)
theorem Val.is{k:Int}{n:Nat}{v:D}(h:Val k n v):ae .Is v .none=ret false:=by induction h <;> rfl
theorem i6:ae .Is .none .none=ret true:=rfl
theorem o8{d:Nat}{x:String}{k k1 k2:Int}{n1 n2:Nat}{a b:D}{oa ob:Option D}(hx:x∈mJ)(pa:∀ v,oa=some v->Val k1 n1 v)(pb:∀ v,ob=some v->Val k2 n2 v)
  (ha:run d (nm "_law_value") [ho,a,.int w] σ=ret (oa.getD .none) σ) (hb:run d (nm "_law_value") [ho,b,.int w] σ=ret (ob.getD .none) σ) :
  run (d+1) (nm "_law_value") [ho,.tup [.str (nm x),.int k,a,b],.int w] σ=both oa ob (λv u=>aq (cJ (run d) ho (.str (nm x)) (.tup [.str (nm x),.int k,a,b]) v u (.int w)) σ) (.ok .none σ):=by
 rw[bR,uu hx];simp only[SM];rw[aE ha]
 induction oa with
 | none=>simp only[Option.getD_none,i6,SM,if_true];rfl
 | some v=>
  simp[Option.getD_some,(pa v rfl).is,SM,Bool.false_eq_true,if_false];rw[aE hb]
  induction ob with
  | none=>simp only[Option.getD_none,i6,SM,if_true];rfl
  | some u=>simp only[Option.getD_some,(pb u rfl).is,SM,Bool.false_eq_true,if_false];rfl
theorem o9{d:Nat}{x:String}(hd:1<=d)(hx:x∈mJ):bnd (run d (nm "_law_relations") []) (λt=>ae .In (.str (nm x)) t) σ=.ok (decide (x∈rels)) σ:=by
 refine am (ak hd) λd z1 _=>?_;rw[z1]
 revert hx
 generalize x=y
 revert y
 repeat refine xa (by kernel_rfl) ?_
 exact cP
theorem uv{x:String}(hx:x∈mJ):ae .In (.str (nm x)) (.tup [(.str (nm "and")),(.str (nm "or")),(.str (nm "eqv")),(.str (nm "neqv"))]) σ=.ok (decide (x∈["and","or","eqv","neqv"])) σ:=by
 revert hx
 generalize x=y
 revert y
 repeat refine xa (by kernel_rfl) ?_
 exact cP
variable{σ:St}{w:Int}{ro ho:D}
theorem lT(W:Wd σ w ro){K:Nat}{x f:String}{k k1 k2:Int}{n1 n2:Nat}{a b:D}{P:D->Prop}(hK:12<=K)(hx:x∈mJ)(he:(x,"eval_binary")∈cH)(hk:(k,f)∈jq)(A:Ev σ w ro ho K (Val k1 n1) a)(B:Ev σ w ro ho K (Val k2 n2) b)
  (core:∀ v u,Val k1 n1 v->Val k2 n2 u->∃ o:Option D,(∀ z,o=some z->P z)/\(∀ d lim,8<=d->dE lim w σ->run d (nm f) [.str (nm x),.int k,v,u,lim] σ=aQ o σ)/\∀ d,8<=d->aq (cJ (run d) ho (.str (nm x)) (.tup [.str (nm x),.int k,a,b]) v u (.int w)) σ=ret (o.getD .none) σ) :
  Ev σ w ro ho (K+2) P (.tup [.str (nm x),.int k,a,b]):=by
 refine am A λoa pa ha=>?_;refine am B λob pb hb=>?_;have ee:∀ d,K+2<=d->run d (nm "evaluate") [ro,.tup [.str (nm x),.int k,a,b]] σ=both oa ob (λv u=>run (d - 2) (nm "reckon") [ro,.str (nm x),.int k,v,u] σ) (.exc σ):=λd hd=>by obtain⟨d,rfl⟩ : ∃ e,d=e+2:=⟨d - 2,by lia⟩;exact(bz W he).trans ((lS (ha d (by lia)).1 (hb d (by lia)).1))
 have el:∀ d,K+2<=d->run d (nm "_law_value") [ho,.tup [.str (nm x),.int k,a,b],.int w] σ=both oa ob (λv u=>aq (cJ (run (d - 1)) ho (.str (nm x)) (.tup [.str (nm x),.int k,a,b]) v u (.int w)) σ) (.ok .none σ):=λd hd=>by obtain⟨d,rfl⟩ : ∃ e,d=e+1:=⟨d - 1,by lia⟩;exact(o8 hx pa pb (ha d (by lia)).2 (hb d (by lia)).2)
 induction oa with
 | none=>exact⟨none,nofun,λd hd=>⟨by exact(ee d hd),by exact(el d hd)⟩⟩
 | some v=>
  induction ob with
  | none=>exact⟨none,nofun,λd hd=>⟨by exact(ee d hd),by exact(el d hd)⟩⟩
  | some u=>
   refine bk (core v u (pa v rfl) (pb u rfl)) λo po c1 c2=>?_;refine⟨o,po,λd hd=>⟨?_, ?_⟩⟩
   ·refine PX (ee d hd) ?_;obtain⟨d,rfl⟩ : ∃ e,d=e+3:=⟨d - 3,by lia⟩;refine am (ny W (d:=d) (x:=.str (nm x)) (a:=v) (b:=u) hk) λlim L hr=>?_;show run (d+1) (nm "reckon") _ σ=_;simp only[hr,c1 d lim (by lia) L]
   ·refine PX (el d hd) ?_;exact c2 _ (by lia)
theorem lU(W:Wd σ w ro){K:Nat}{x f:String}{k1:Int}{n1 n2:Nat}{b a1:D}{ra:List D}{P:D->Prop}(hK:12<=K)(hx:x∈mJ)(he:(x,"eval_compare")∈cH)(hk:(k1,f)∈jq)(A:Ev σ w ro ho K (Val k1 n1) (.tup (a1::.int k1::ra)))(B:Ev σ w ro ho K (Val k1 n2) b)
  (core:∀ v u,Val k1 n1 v->Val k1 n2 u->∃ o:Option D,(∀ z,o=some z->P z)/\(∀ d lim,8<=d->dE lim w σ->run d (nm f) [.str (nm x),.int k1,v,u,lim] σ=aQ o σ)/\∀ d,8<=d->aq (cJ (run d) ho (.str (nm x)) (.tup [.str (nm x),.int 4,.tup (a1::.int k1::ra),b]) v u (.int w)) σ=ret (o.getD .none) σ) :
  Ev σ w ro ho (K+2) P (.tup [.str (nm x),.int 4,.tup (a1::.int k1::ra),b]):=by
 refine am A λoa pa ha=>?_;refine am B λob pb hb=>?_;have ee:∀ d,K+2<=d->run d (nm "evaluate") [ro,.tup [.str (nm x),.int 4,.tup (a1::.int k1::ra),b]] σ=both oa ob (λv u=>run (d - 2) (nm "reckon") [ro,.str (nm x),.int k1,v,u] σ) (.exc σ):=λd hd=>by obtain⟨d,rfl⟩ : ∃ e,d=e+2:=⟨d - 2,by lia⟩;exact(bz W he).trans ((jV (ha d (by omega)).1 (hb d (by omega)).1))
 have el:∀ d,K+2<=d->run d (nm "_law_value") [ho,.tup [.str (nm x),.int 4,.tup (a1::.int k1::ra),b],.int w] σ=both oa ob (λv u=>aq (cJ (run (d - 1)) ho (.str (nm x)) (.tup [.str (nm x),.int 4,.tup (a1::.int k1::ra),b]) v u (.int w)) σ) (.ok .none σ):=λd hd=>by obtain⟨d,rfl⟩ : ∃ e,d=e+1:=⟨d - 1,by lia⟩;exact(o8 hx pa pb (ha d (by omega)).2 (hb d (by omega)).2)
 cases oa with
 | none=>exact⟨none,nofun,λd hd=>⟨by exact(ee d hd),by exact(el d hd)⟩⟩
 | some v=>
  induction ob with
  | none=>exact⟨none,nofun,λd hd=>⟨by exact(ee d hd),by exact(el d hd)⟩⟩
  | some u=>
   refine bk (core v u (pa v rfl) (pb u rfl)) λo po c1 c2=>?_;refine⟨o,po,λd hd=>⟨?_, ?_⟩⟩
   ·refine PX (ee d hd) ?_;obtain⟨d,rfl⟩ : ∃ e,d=e+3:=⟨d - 3,by lia⟩;refine am (ny W (d:=d) (x:=.str (nm x)) (a:=v) (b:=u) hk) λlim L hr=>?_;show run (d+1) (nm "reckon") _ σ=_;exact hr.trans ((c1 d lim (by lia) L))
   ·refine PX (el d hd) ?_;exact c2 _ (by lia)
theorem nz:∀ x∈["and","or","eqv","neqv"],x∈mJ/\x∉rels:=by decide
theorem jr:∀ x∈["add","sub","mul","div","powi"],x∈mJ/\x∉rels/\x∉["and","or","eqv","neqv"]:=by decide
theorem gB:∀ x∈rels,x∈mJ:=by decide
theorem lV{d:Nat}{x:String}{a1 b v u:D}{k1 o:Int}{ra:List D}(hd:8<=d)(hx:x∈rels)(ho':run d (nm "_law_order") [.int k1,v,u] σ=ret (.int o) σ) :
  aq (cJ (run d) ho (.str (nm x)) (.tup [.str (nm x),.int 4,.tup (a1::.int k1::ra),b]) v u (.int w)) σ=ret (.bool (iW x o)) σ:=by
 have hb:x∈mJ:=gB x hx;have ho:run d (nm "_law_order") [.int k1,v,u] σ=.ok (.int o) σ:=ho';refine dy (o9 (by lia) hb) (q8 (dT hx) ?_);simp only[rels,List.mem_cons,List.not_mem_nil,or_false]at hx;rcases hx with rfl | rfl | rfl | rfl | rfl | rfl
 ·walk_at "u"
 ·walk_at "u"
 ·walk_at "u"
 ·rw[show iW "le" o=decide (o<1) from decide_eq_decide.mpr (by lia)];walk_at "u"
 ·walk_at "u"
 ·rw[show iW "ge" o=decide (-1<o) from decide_eq_decide.mpr (by lia)];walk_at "u"
theorem zi{d:Nat}{x:String}{t:D}{p q:Bool}(hd:8<=d)(hx:x∈["and","or","eqv","neqv"]) :
  aq (cJ (run d) ho (.str (nm x)) t (.bool p) (.bool q) (.int w)) σ=ret (.bool (yQ x p q)) σ:=by
 obtain⟨hb,hn⟩:=nz x hx;refine dy (o9 (by omega) hb) (gJ (tF (dF hn)) (dy (uv hb) (q8 (dT hx) ?_)));simp only[List.mem_cons,List.not_mem_nil,or_false]at hx;rcases hx with rfl | rfl | rfl | rfl <;> induction p <;> induction q <;> kernel_rfl
theorem zj{d:Nat}{t:D}{p q:Str}(hd:8<=d)(hp:p.length<=60)(hq:q.length<=60) :
  aq (cJ (run d) ho (.str (nm "cat")) t (.str p) (.str q) (.int w)) σ=ret (.str (p++q)) σ:=by
 have m2:ag .Add (.str p) (.str q)=ret (.str (p++q)):=by
  show(if ao p.length&&ao q.length then ret (D.str (p++q)) else stuck)=_;have la:ao p.length=true:=by unfold ao;simp;lia
  have lb:ao q.length=true:=by unfold ao;simp;lia
  simp[la,lb]
 refine dy (o9 (x:="cat") (by lia) (by decide)) (gJ (by decide) (dy (uv (x:="cat") (by decide)) (gJ (by decide) ?_)));exact pE (bd (rS rfl) (Eg (by decide) (rS m2)))
theorem rL{d:Nat}{x:String}{k v u a b:D}(hd:8<=d)(hx:x∈["add","sub","mul","div","powi"]) :
  aq (cJ (run d) ho (.str (nm x)) (.tup [.str (nm x),k,a,b]) v u (.int w)) σ=run d (nm "_law_two") [.str (nm x),k,v,u,.int w] σ:=by
 refine jb (jr x hx) λhb hn hn2=>?_;have hc:¬ nm x=nm "cat":=λe=>by simp only[u9]at e;subst e;revert hx;decide
 refine dy (o9 (by omega) hb) (gJ (tF (dF hn)) (dy (uv hb) (gJ (tF (dF hn2)) ?_)));walk_at "u"
variable{σ:St}{w:Int}{ro ho:D}
theorem Val.cs{k:Int}{n:Nat}{v:D}(h:Val k n v):(k=0->∃ i,v=.int i/\i.natAbs<=2048)/\(k=1->∃ x,v=pr x/\Rl (ex n) x)/\(k=4->∃ b,v=.bool b)/\(k=5->∃ s,v=.str s/\s.length<=4*2 ^ n):=by
 have no:∀ {a b:Int} {P:Prop},(a==b)=false->a=b->P:=λh e=>fD (h.symm.trans (beq_iff_eq.mpr e))
 induction h with
 | int h=>exact⟨λ_=>⟨_,rfl,h⟩,no rfl,no rfl,no rfl⟩
 | real h=>exact⟨no rfl,λ_=>⟨_,rfl,h⟩,no rfl,no rfl⟩
 | bool=>exact⟨no rfl,no rfl,λ_=>⟨_,rfl⟩,no rfl⟩
 | str h=>exact⟨no rfl,no rfl,no rfl,λ_=>⟨_,rfl,h⟩⟩
theorem BC:∀ x∈["and","or","eqv","neqv"],(x,"eval_binary")∈cH:=by decide
theorem vp:∀ x∈["add","sub","mul","div","powi"],(x,"eval_binary")∈cH:=by decide
theorem o_:∀ x∈rels,(x,"eval_compare")∈cH:=by decide
set_option tactic.hygienic true in
theorem zk(W:Wd σ w ro){K n m:Nat}{x:String}{a b:D}(hK:12<=K)(hx:x∈["and","or","eqv","neqv"])(A:Ev σ w ro ho K (Val 4 n) a)(B:Ev σ w ro ho K (Val 4 n) b) :
  Ev σ w ro ho (K+2) (Val 4 m) (.tup [.str (nm x),.int 4,a,b]):=by
 refine lT W (f:="logic_binary") hK (nz x hx).1 (BC x hx) (by decide) A B λv u hv hu=>?_;refine PU (hv.cs.2.2.1 rfl) λp zp=>?_;subst zp;refine PU (hu.cs.2.2.1 rfl) λq zq=>?_;subst zq;exact⟨some (.bool (yQ x p q)),λz hz=>by cases hz;exact .bool,λd lim hd L=>by rw[jS (by lia) hx];rfl,λd hd=>zi hd hx⟩
set_option tactic.hygienic true in
theorem zl(W:Wd σ w ro){K n m:Nat}{x:String}{k1:Int}{a1 b:D}{ra:List D}(hn:n<=2)(hK:12<=K)(hx:x∈rels)(hk:k1=0\/k1=1\/k1=5)(A:Ev σ w ro ho K (Val k1 n) (.tup (a1::.int k1::ra)))(B:Ev σ w ro ho K (Val k1 n) b) :
  Ev σ w ro ho (K+2) (Val 4 m) (.tup [.str (nm x),.int 4,.tup (a1::.int k1::ra),b]):=by
 have hex:ex n<=80:=by unfold ex;split <;> (try split) <;> (try split) <;> lia
 have hp:4*2 ^ n<=60:=by have:2 ^ n<=2 ^ 2:=Nat.pow_le_pow_right (by decide) hn;lia
 rcases hk with rfl | rfl | rfl
 ·refine lU W (f:="int_binary") hK (gB x hx) (o_ x hx) (by decide) A B λv u hv hu=>?_;refine am (hv.cs.1 rfl) λp zp h1=>?_;subst zp;refine am (hu.cs.1 rfl) λq zq h2=>?_;subst zq;exact⟨some (.bool (iW x (ug p q))),λz hz=>by cases hz;exact .bool,λd lim hd L=>by rw[ui (by lia) hx];rfl,λd hd=>lV hd hx (by rw[mH (by lia)])⟩
 ·refine lU W (f:="real_binary") hK (gB x hx) (o_ x hx) (by decide) A B λv u hv hu=>?_;refine am (hv.cs.2.1 rfl) λp zp h1=>?_;subst zp;refine am (hu.cs.2.1 rfl) λq zq h2=>?_;subst zq;exact⟨some (.bool _),λz hz=>by cases hz;exact .bool,λd lim hd L=>ry (by lia) hex h1 h2 L hx,λd hd=>lV hd hx (by rw[lQ (by lia) hex h1 h2])⟩
 ·refine lU W (f:="text_binary") hK (gB x hx) (o_ x hx) (by decide) A B λv u hv hu=>?_;refine am (hv.cs.2.2.2 rfl) λp zp h1=>?_;subst zp;refine am (hu.cs.2.2.2 rfl) λq zq h2=>?_;subst zq;exact⟨some (.bool (iW x (uo p q))),λz hz=>by cases hz;exact .bool,λd lim hd L=>by rw[rE (by lia) (by lia) (by lia) hx];rfl,λd hd=>lV hd hx (by rw[mI (by lia) (by lia) (by lia)])⟩
set_option tactic.hygienic true in
theorem zm(W:Wd σ w ro){K n:Nat}{a b:D}(hn:n<=2)(hK:12<=K)(A:Ev σ w ro ho K (Val 5 n) a)(B:Ev σ w ro ho K (Val 5 n) b):Ev σ w ro ho (K+2) (Val 5 (n+1)) (.tup [.str (nm "cat"),.int 5,a,b]):=by
 have hp:4*2 ^ n<=60:=by have:2 ^ n<=2 ^ 2:=Nat.pow_le_pow_right (by lia) hn;lia
 refine am A λoa pa ha=>?_;refine am B λob pb hb=>?_;have ee:∀ d,K+2<=d->run d (nm "evaluate") [ro,.tup [.str (nm "cat"),.int 5,a,b]] σ=both oa ob (λv u=>ag .Add v u σ) (.exc σ):=λd hd=>by obtain⟨d,rfl⟩ : ∃ e,d=e+2:=⟨d - 2,by lia⟩;rw[bz W (h:="eval_cat") (by decide),rJ (ha d (by lia)).1 (hb d (by lia)).1]
 have el:∀ d,K+2<=d->run d (nm "_law_value") [ho,.tup [.str (nm "cat"),.int 5,a,b],.int w] σ=both oa ob (λv u=>aq (cJ (run (d - 1)) ho (.str (nm "cat")) (.tup [.str (nm "cat"),.int 5,a,b]) v u (.int w)) σ) (.ok .none σ):=λd hd=>by obtain⟨d,rfl⟩ : ∃ e,d=e+1:=⟨d - 1,by lia⟩;rw[o8 (by decide) pa pb (ha d (by lia)).2 (hb d (by lia)).2];rfl
 induction oa with
 | none=>exact⟨none,nofun,λd hd=>⟨by rw[ee d hd];rfl,by rw[el d hd];rfl⟩⟩
 | some v=>
  induction ob with
  | none=>exact⟨none,nofun,λd hd=>⟨by rw[ee d hd];rfl,by rw[el d hd];rfl⟩⟩
  | some u=>
   have pv:=pa v rfl;have pu:=pb u rfl;refine am (pv.cs.2.2.2 rfl) λp zp h1=>?_;subst zp;refine am (pu.cs.2.2.2 rfl) λq zq h2=>?_;subst zq;have m2:ag .Add (.str p) (.str q)=ret (.str (p++q)):=by
    show(if ao p.length&&ao q.length then ret (D.str (p++q)) else stuck)=_;have la:ao p.length=true:=by unfold ao;simp;lia
    have lb:ao q.length=true:=by unfold ao;simp;lia
    simp[la,lb]
   refine⟨some (.str (p++q)),λz hz=>?_,λd hd=>⟨?_, ?_⟩⟩
   ·cases hz;refine .str ?_;have:(p++q).length=p.length+q.length:=by show(p.cps++q.cps).size=_;simp[Str.length]
    simp only[this,Nat.pow_succ];lia
   ·refine PX (ee d hd) ?_;show ag .Add (.str p) (.str q) σ=_;rw[m2];rfl
   ·refine PX (el d hd) ?_;exact zj (by lia) (by lia) (by lia)
theorem nA{w x:Int}(h2:w<=12):∀ (k:Nat) (f z:Int),f.natAbs<=2048->bW w x k f=some z->z.natAbs<=2048
 | 0,f,z,hf,h=>by simp only[bW,Option.some.injEq]at h;lia
 | k+1,f,z,hf,h=>by
  dsimp only[bW]at h
  induction q:bb w (f*x) with
  | none=>exact du (q ▸ h)
  | some g=>rw[q]at h;refine cO (ub h2 q) λ_ z1 a b=>?_;obtain rfl:=z1;exact nA h2 k _ z (by lia) h
theorem gj{w n z:Int}(h2:w<=12)(h:bb w n=some z):z.natAbs<=2048:=by refine cO (ub h2 h) λ_ z2 a b=>?_;rw[z2];lia
theorem rM{w x y z:Int}{op:String}(h2:w<=12)(h:fB w op x y=some z):z.natAbs<=2048:=by
 unfold fB at h
 split at h
 ·exact gj h2 h
 split at h
 ·exact gj h2 h
 split at h
 ·exact gj h2 h
 split at h
 ·split at h
  ·exact nomatch h
  ·exact gj h2 h
 ·unfold hO at h
  split at h
  ·split at h
   ·exact gj h2 h
   ·exact nomatch h
  ·split at h
   ·exact gj h2 h
   ·exact nA h2 _ _ _ (by decide) h
theorem pd{o:Option Int}{n:Nat}(h:∀ z,o=some z->z.natAbs<=2048):∀ z,o.map D.int=some z->Val 0 n z:=λz hz=>by
 induction o with
 | none=>injection hz
 | some i=>cases hz;exact .int (h i rfl)
set_option tactic.hygienic true in
theorem zo(W:Wd σ w ro){K n m:Nat}{x:String}{a b:D}(hK:12<=K)(hx:x∈["add","sub","mul","div","powi"])(A:Ev σ w ro ho K (Val 0 n) a)(B:Ev σ w ro ho K (Val 0 n) b) :
  Ev σ w ro ho (K+2) (Val 0 m) (.tup [.str (nm x),.int 0,a,b]):=by
 refine lT W (f:="int_binary") hK (jr x hx).1 (vp x hx) (by decide) A B λv u hv hu=>?_;have h5:=W.w5;have h12:=W.w12;refine am (hv.cs.1 rfl) λp zp h1=>?_;subst zp;refine am (hu.cs.1 rfl) λq zq h2=>?_;subst zq;have fp:fits p=true:=aN (bZ (k:=4) (by lia) (by lia));have fq:fits q=true:=aN (bZ (k:=4) (by lia) (by lia));exact⟨(fB w x p q).map .int,pd λz hz=>rM h12 hz,λd lim hd L=>mF (by lia) (by lia) h12 fp fq (by omega) L hx,
  λd hd=>by rw[rL hd hx,rD (by lia) h5 h12 h1 h2 hx]⟩
theorem pe{n:Nat}(hn:n<=2):ex n<=36/\2*ex n+8<=ex (n+1):=by rcases (show n=0\/n=1\/n=2 by lia) with rfl | rfl | rfl <;> decide
theorem Rl.mono{b c:Nat}{x:Int×Int}(h:Rl b x)(e:b<=c):Rl c x:=⟨h.low,PQ h.exp e⟩
set_option tactic.hygienic true in
theorem xb(W:Wd σ w ro){K n:Nat}{x:String}{a b:D}(hn:n<=2)(hK:12<=K)(hx:x∈["add","sub","mul","div"])(A:Ev σ w ro ho K (Val 1 n) a)(B:Ev σ w ro ho K (Val 1 n) b) :
  Ev σ w ro ho (K+2) (Val 1 (n+1)) (.tup [.str (nm x),.int 1,a,b]):=by
 have hx':x∈["add","sub","mul","div","powi"]:=by
  have:∀ x∈["add","sub","mul","div"],x∈["add","sub","mul","div","powi"]:=by decide
  exact this x hx
 obtain⟨hb,hs⟩:=pe hn;refine lT W (f:="real_binary") hK (jr x hx').1 (vp x hx') (by decide) A B λv u hv hu=>?_;refine am (hv.cs.2.1 rfl) λp zp h1=>?_;subst zp;refine am (hu.cs.2.1 rfl) λq zq h2=>?_;subst zq;refine⟨(vg x p q).map pr,λz hz=>?_,λd lim hd L=>lO (by lia) (by lia) h1 h2 L hx,λd hd=>by rw[rL hd hx',o6 (by lia) hb h1 h2 hx]⟩
 induction q':vg x p q with
 | none=>rw[q']at hz;injection hz
 | some r=>replace hz:=(q') ▸ hz;cases hz;exact .real (((rC hb h1 h2 hx).2 r q').mono hs)
theorem i7(W:Wd σ w ro){K n1:Nat}{x h:String}{k k1:Int}{a:D}{P:D->Prop}(hK:12<=K)(he:(x,h)∈cH)(A:Ev σ w ro ho K (Val k1 n1) a)
  (ev:∀ d oa,run d (nm "evaluate") [ro,a] σ=aQ oa σ->∃ lim,dE lim w σ/\run (d+1) (nm h) [ro,.tup [.str (nm x),.int k,a]] σ=BB oa (λv=>run d (nm (if h = "eval_conv" then "convert" else "unary")) (if h = "eval_conv" then [v,.int k1,.int k,lim] else [.str (nm x),.int k,v,lim]) σ) (.exc σ))
  (KK:(Str->List D->M D)->D->M Flow') (hl:∀ call,bw call ho (.tup [.str (nm x),.int k,a]) (.int w)=bnd (call (nm "_law_value") [ho,a,.int w]) λIu=>bnd (ae .Is Iu .none) λKh=>if Kh then ret (.ret .none) else KK call Iu)
  (core:∀ v,Val k1 n1 v->∃ o:Option D,(∀ z,o=some z->P z)/\(∀ d lim,8<=d->dE lim w σ->run d (nm (if h = "eval_conv" then "convert" else "unary")) (if h = "eval_conv" then [v,.int k1,.int k,lim] else [.str (nm x),.int k,v,lim]) σ=aQ o σ)/\∀ d,8<=d->aq (KK (run d) v) σ=ret (o.getD .none) σ) :
  Ev σ w ro ho (K+2) P (.tup [.str (nm x),.int k,a]):=by
 refine am A λoa pa ha=>?_;have el:∀ d,K+2<=d->run d (nm "_law_value") [ho,.tup [.str (nm x),.int k,a],.int w] σ=BB oa (λv=>aq (KK (run (d - 1)) v) σ) (.ok .none σ):=λd hd=>by
  obtain⟨d,rfl⟩ : ∃ e,d=e+1:=⟨d - 1,by lia⟩;rw[bR,hl];simp only[SM];rw[aE (ha d (by lia)).2]
  induction oa with
  | none=>simp only[Option.getD_none,i6,SM,if_true];rfl
  | some v=>simp only[Option.getD_some,(pa v rfl).is,SM,Bool.false_eq_true,if_false];rfl
 induction oa with
 | none=>refine⟨none,nofun,λd hd=>⟨?_,by exact(el d hd)⟩⟩;obtain⟨d,rfl⟩ : ∃ e,d=e+2:=⟨d - 2,by lia⟩;refine am (ev d none (ha d (by lia)).1) λlim L e=>?_;exact(bz W he).trans e
 | some v=>refine bk (core v (pa v rfl)) λo po c1 c2=>?_;refine⟨o,po,λd hd=>⟨?_,by refine PX (el d hd) ?_;exact c2 _ (by lia)⟩⟩;obtain⟨d,rfl⟩ : ∃ e,d=e+2:=⟨d - 2,by lia⟩;refine am (ev d (some v) (ha d (by lia)).1) λlim L e=>?_;exact(bz W he).trans (e.trans (c1 d lim (by lia) L))
set_option tactic.hygienic true in
theorem zr(W:Wd σ w ro){K n m:Nat}{a:D}(hK:12<=K)(A:Ev σ w ro ho K (Val 4 n) a):Ev σ w ro ho (K+2) (Val 4 m) (.tup [.str (nm "not"),.int 4,a]):=by refine i7 W (h:="eval_unary") hK (by decide) A (λd oa ha=>d6 W ha) (λcall Iu=>bnd (bnd (cz Iu) λb18=>ret (.bool !b18)) λI2=>ret (.ret I2)) (λcall=>by kernel_rfl) λv hv=>?_;refine PU (hv.cs.2.2.1 rfl) λb zb=>?_;subst zb;refine⟨some (.bool !b),λz hz=>by cases hz;exact .bool,λd lim hd L=>?_,λd hd=>by simp[SM,SI]⟩;rw[PZ (show ¬ "eval_unary" = "eval_conv" from by decide),PZ (show ¬ "eval_unary" = "eval_conv" from by decide)];rw[w9 (by lia)];rfl
set_option tactic.hygienic true in
theorem xc(W:Wd σ w ro){K n m:Nat}{a:D}(hK:12<=K)(A:Ev σ w ro ho K (Val 0 n) a):Ev σ w ro ho (K+2) (Val 0 m) (.tup [.str (nm "neg"),.int 0,a]):=by have h5:=W.w5;have h12:=W.w12;refine i7 W (h:="eval_unary") hK (by decide) A (λd oa ha=>d6 W ha) (λcall Iu=>bnd (bnd (ah [dm Iu,ret (.int w)]) λLd=>call (nm "_law_whole") Ld) λJw=>ret (.ret Jw)) (λcall=>by kernel_rfl) λv hv=>?_;refine am (hv.cs.1 rfl) λp zp h1=>?_;subst zp;refine⟨(bb w (-p)).map .int,pd λz hz=>gj h12 hz,λd lim hd L=>?_,λd hd=>by simp[SM,SI,dt (show 1<=d by lia) (show 1<=w by lia) h12]⟩;rw[PZ (show ¬ "eval_unary" = "eval_conv" from by decide),PZ (show ¬ "eval_unary" = "eval_conv" from by decide)];exact(w_ (by lia) (by lia) h12 L)
set_option tactic.hygienic true in
theorem xd(W:Wd σ w ro){K n:Nat}{a:D}(hn:n<=2)(hK:12<=K)(A:Ev σ w ro ho K (Val 1 n) a):Ev σ w ro ho (K+2) (Val 1 (n+1)) (.tup [.str (nm "neg"),.int 1,a]):=by refine i7 W (h:="eval_unary") hK (by decide) A (λd oa ha=>d6 W ha) (λcall Iu=>bnd (aI [bnd (subD Iu (.int 0)) λJs=>dm Js,subD Iu (.int 1)]) λJw=>ret (.ret Jw)) (λcall=>by kernel_rfl) λv hv=>?_;refine am (hv.cs.2.1 rfl) λp zp h1=>?_;subst zp;refine⟨some (pr (h_ p)),λz hz=>by cases hz;exact .real (h1.neg.mono (by have:=pe hn;lia)),λd lim hd L=>?_,λd hd=>by simp[SM,SI,pr,h_,FX,Eo,aI,ao]⟩;rw[PZ (show ¬ "eval_unary" = "eval_conv" from by decide),PZ (show ¬ "eval_unary" = "eval_conv" from by decide)];rw[ut (by lia)];rfl
set_option tactic.hygienic true in
theorem uw(W:Wd σ w ro){K n:Nat}{a1:D}{ra:List D}(hn:n<=2)(hK:12<=K)(A:Ev σ w ro ho K (Val 0 n) (.tup (a1::.int 0::ra))):Ev σ w ro ho (K+2) (Val 1 (n+1)) (.tup [.str (nm "conv"),.int 1,.tup (a1::.int 0::ra)]):=by refine i7 W (h:="eval_conv") (k1:=0) hK (by decide) A (λd oa ha=>i5 W ha) (λcall Iu=>bnd (call (nm "_law_fit") [Iu,.int 1,.int 3]) λJu=>ret (.ret Ju)) (λcall=>by kernel_rfl) λv hv=>?_;refine am (hv.cs.1 rfl) λp zp h1=>?_;subst zp;have hc:cd p.natAbs<=4:=bl (by lia);have hr:=re (m:=p) (e:=0) (by decide) (by lia);refine⟨some (pr (bo p 0)),λz hz=>by cases hz;exact .real (oZ (by lia) (by have:=pe hn;lia)),λd lim hd L=>?_,λd hd=>by simp[SM,SI,Bw (show 1<=d by lia) h1]⟩;rw[PY rfl,PY rfl];rw[o7 (by lia) L (bZ (k:=4) (by lia) (by lia)),hr];rfl
theorem xe{x:Int×Int}:jI x=fF (av x).1 (av x).2:=by
 obtain⟨m,e⟩:=x;delta jI fF av;have hp:∀ k:Nat,¬ (((10 ^ k:Nat):Int)<0):=λk=>Int.not_lt.mpr (Int.natCast_nonneg _)
 by_cases he:0<=e
 ·have z:(-e).toNat=0:=by lia
  refine PX (PY he) ?_;rw[z];generalize (10:Int) ^ e.toNat=P at *
  rcases P_ (m*P<0) with hm | hm
  ·simp[hm];omega
  ·simp[hm];lia
 ·have z:e.toNat=0:=by lia
  simp only[PZ he,z];have hp':=hp (-e).toNat;dsimp only[Int.natAbs_natCast];rw[Int.pow_zero,Int.mul_one];have hdc:decide ((((10 ^ (-e).toNat:Nat)):Int)<0)=false:=decide_eq_false hp';rw[hdc];have hq0:m=0->m.natAbs / 10 ^ (-e).toNat=0:=by rintro rfl;simp
  generalize m.natAbs / 10 ^ (-e).toNat=q at *
  by_cases hm:m<0
  ·have h1:¬ 0<m:=by lia
   have h2:decide (m<0)=true:=decide_eq_true hm;refine PX (PZ h1) ?_;rw[h2,PZ (by decide)]
  ·have h2:decide (m<0)=false:=decide_eq_false hm;rw[h2];show(if 0<m then (q:Int) else -(q:Int))=q
   by_cases hm':0<m
   ·exact(PY hm')
   ·refine PX (PZ hm') ?_;rw[hq0 (by lia)];rfl
set_option tactic.hygienic true in
theorem ux(W:Wd σ w ro){K n m:Nat}{a1:D}{ra:List D}(hn:n<=2)(hK:12<=K)(A:Ev σ w ro ho K (Val 1 n) (.tup (a1::.int 1::ra))):Ev σ w ro ho (K+2) (Val 0 m) (.tup [.str (nm "conv"),.int 0,.tup (a1::.int 1::ra)]):=by
 have h5:=W.w5;have h12:=W.w12;refine i7 W (h:="eval_conv") (k1:=1) hK (by decide) A (λd oa ha=>i5 W ha) (λcall Iu=>bnd (call (nm "_law_fraction") [Iu]) λJO=>bnd (dg [(nm "held",ho),(nm "tree",(.tup [.str (nm "conv"),.int 0,.tup (a1::.int 1::ra)])),(nm "width",.int w),(nm "word",.str (nm "conv")),(nm "x",Iu)] [(nm "over"),(nm "under")] JO) λJ7=>bnd (bnd (ah [bnd (ah [ac (aa J7 (nm "over")),ac (aa J7 (nm "under"))]) λLQ=>call (nm "_law_toward") LQ,ac (aa J7 (nm "width"))]) λL9=>call (nm "_law_whole") L9) λJ1=>ret (.ret J1)) (λcall=>by kernel_rfl) λv hv=>?_;refine am (hv.cs.2.1 rfl) λp zp h1=>?_;subst zp;have hex:ex n<=36:=(pe hn).1;refine⟨(bb w (jI p)).map .int,pd λz hz=>gj h12 hz,λd lim hd L=>?_,λd hd=>?_⟩
 ·rw[PY rfl,PY rfl];exact(rK (by lia) (by lia) h12 (by lia) L h1)
 ·refine PV (λf1 f2=>?_) (eI (by lia) h1);have hu:=(cY h1).2.2;have d1:1<=d:=by lia
  have ht:=d0 (d:=d) d1 f1 f2 (by lia);rw[<-xe]at ht;have q1:=bI d1 (show ex n<=100 by lia) h1;have q2:=dt (n:=jI p) d1 (show 1<=w by lia) h12;clear h1 hex f1 f2 hu h12 hd hn hK A W h5;refine congrFun (?_:aq _=ret _) σ;walk_at "e"
variable{σ:St}{w:Int}{ro ho:D}
theorem aS{i:Nat}{c:Cell}(h:σ[i]?=some c):cell i σ=.ok c σ:=by unfold cell;rw[h]
theorem vq{i:Nat}{N:List D}(h:σ[i]?=some (.list N))(hl:N.length<=1000):au (nm "len") [.ref i] σ=.ok (.int N.length) σ:=by exact bd (aS h) (Eg (by unfold ao;simp;lia) rfl)
theorem vr{i:Nat}{N:List D}{a:Nat}{v:D}(h:σ[i]?=some (.list N))(ha:N[a]?=some v)(hl:N.length<=1000):subD (.ref i) (.int a) σ=.ok v σ:=by
 show bnd (cell i) _ σ=_;rw[aE (aS h)];have h1:a<N.length:=(List.getElem?_eq_some_iff.mp ha).1;have:so N (a:Int)=some v:=by
  refine PX (PY (by lia)) ?_
  simpa using ha
 show ac (so N (a:Int)) σ=_;rw[this];rfl
theorem c_{d i:Nat}{N:List D}{a n:Nat}(hd:1<=d)(h:σ[i]?=some (.list N))(hl:N.length<=1000)(ha:a+n<=N.length):run d (nm "need_units") [.ref i,.int a,.int n] σ=.ok .none σ:=by
 refine am (ak hd) λd z1 _=>?_;obtain rfl:=z1;rw[oz];have h0:¬ (a:Int)<0:=by lia
 have h1:¬ (N.length:Int)<a+n:=by lia
 have l:=vq h hl;walk_at "u"
theorem js{d:Nat}{k:Int}(hd:1<=d)(hk:k=0\/k=1\/k=4):run d (nm "units_of") [.int k]=ret (.int 1):=by refine am (ak hd) λd z2 _=>?_;obtain rfl:=z2;rw[tm];rcases hk with rfl | rfl | rfl <;> exact E1 rfl
noncomputable def jt(k:Int):Option D->D
 | some v=>.tup [.int k,v]
 | none=>.none
theorem lW{d i:Nat}{N:List D}{a:Nat}{k:Int}{o:Option D}(hd:2<=d)(hk:k=0\/k=1\/k=4)(h:σ[i]?=some (.list N))(hl:N.length<=1000)(ha:N[a]?=some (jt k o)) :
  run d (nm "load_number") [.ref i,.int k,.int a] σ=aQ o σ:=by
 refine am (ak hd) λd z3 hd'=>?_;obtain rfl:=z3;rw[mo];have h1:a<N.length:=(List.getElem?_eq_some_iff.mp ha).1;have h3:¬ k=3:=by lia
 have h2:¬ k=2:=by lia
 have hu:=js hd' hk;have hn1:run d (nm "need_units") [.ref i,.int a,.int 1] σ=.ok .none σ:=c_ (d:=d) (a:=a) (n:=1) hd' h hl (by assumption);refine dy (bd (bY (rS rfl) (bY (rS rfl) (bY (rS hu) (rS rfl)))) hn1) (dy (rS rfl) (gJ (tF (dF h3)) ?_));refine am (ak hd') λd z4 _=>?_;rw[z4];have er:run (d+1) (nm "read_cell") [.ref i,.int a,.int k] σ=aQ o σ:=by
  rw[qC];refine dy (vr h ha hl) ?_
  induction o with
  | none=>rfl
  | some v=>exact dy (rS (B1 (a:=false) rfl (oF rfl (B1 (a:=!decide (k=k)) (B1 rfl rfl) (oF (nF (dT rfl)) rfl))))) (gJ Bool.false_ne_true rfl)
 induction o with
 | none=>exact ay (ay er _) _
 | some v=>exact dy er (dy (rS rfl) (gJ (tF (dF h2)) rfl))
theorem ig{d i:Nat}{N:List D}{a:Nat}{k:Int}{o:Option D}{m:D}{r:List D}(hd:3<=d)(hk:k=0\/k=1\/k=4)(hm:aB m (nm "numeric") σ=.ok (.ref i) σ)(h:σ[i]?=some (.list N))(hl:N.length<=1000)(ha:N[a]?=some (jt k o)) :
  run d (nm "Memory.load") [m,.tup (.int k::.int a::r)] σ=aQ o σ:=by
 refine am (ak hd) λd z5 hd'=>?_;obtain rfl:=z5;rw[gU];have h5:¬ k=5:=by lia
 have q:=lW hd' hk h hl ha;walk_at "u"
noncomputable def i8:Option Str->Nat->List D
 | some s,_=>s.cps.toList.map λc=>.str ⟨#[c]⟩
 | none,n=>List.replicate n .none
theorem lX:∀ n,bO σ (List.replicate n .none)=some (List.replicate n .none)
 | 0=>rfl
 | n+1=>by simp only[List.replicate_succ,List.replicate_succ];show(match fE σ .none,bO σ (List.replicate n .none) with | some a,some b=>some (a::b) | _,_=>none)=_;exact(lX n) ▸ rfl
theorem nB:∀ l:List Nat,bO σ (l.map λc=>.str ⟨#[c]⟩)=some (l.map λc=>.str ⟨#[c]⟩)
 | []=>rfl
 | c::l=>by show(match fE σ (.str ⟨#[c]⟩),bO σ (l.map λc=>.str ⟨#[c]⟩) with | some a,some b=>some (a::b) | _,_=>none)=_;exact(nB l) ▸ rfl
theorem rN:∀ n,PyData.canLayAll0 (List.replicate n .none)=true
 | 0=>rfl
 | n+1=>by simp only[List.replicate_succ];simp only[PyData.canLayAll0,PyData.canLay0,rN n,Bool.and_self]
theorem zs{c:Nat}(h:c<128):PyData.strOk ⟨#[c]⟩=true:=by simp[PyData.strOk];lia
theorem vt:∀ l:List Nat,(∀ c∈l,c<128)->PyData.canLayAll0 (l.map λc=>.str ⟨#[c]⟩)=true
 | [],_=>rfl
 | c::l,h=>by simp only[List.map_cons,PyData.canLayAll0,PyData.canLay0,zs (h c List.mem_cons_self),vt l (λc hc=>h c (by simp[hc])),Bool.and_self]
theorem BD{o:Option Str}{n:Nat}(hn:1<=n)(ho:∀ s,o=some s->∀ c∈s.cps.toList,c<128):ae .In .none (.list (i8 o n)) σ=.ok o.isNone σ:=by
 show dX .none (i8 o n) σ=_;unfold dX
 induction o with
 | none=>
  rw[show i8 none n=List.replicate n .none from rfl,lX];show(if PyData.canLay0 .none&&PyData.canLayAll0 (List.replicate n .none)&&decide (PyData.depth .none<=64) then R.ok ((List.replicate n PyData.none).any λy=>PyData.eqv y .none) σ else .stuck)=_;rw[rN];have e:(List.replicate n PyData.none).any (λy=>PyData.eqv y .none)=true:=by rw[List.any_eq_true];exact⟨.none,by simp;lia,rfl⟩
  rw[e];rfl
 | some s=>
  rw[show i8 (some s) n=s.cps.toList.map λc=>.str ⟨#[c]⟩ from rfl,nB];show(if PyData.canLay0 .none&&PyData.canLayAll0 (s.cps.toList.map λc=>.str ⟨#[c]⟩)&&decide (PyData.depth .none<=64) then R.ok ((s.cps.toList.map λc=>PyData.str ⟨#[c]⟩).any λy=>PyData.eqv y .none) σ else .stuck)=_;rw[vt _ (ho s rfl)];have e:(s.cps.toList.map λc=>PyData.str ⟨#[c]⟩).any (λy=>PyData.eqv y .none)=false:=by rw[List.any_eq_false];intro x hx;refine am (List.mem_map.mp hx) λc _ z6=>?_;obtain rfl:=z6;simp[PyData.eqv]
  exact e ▸ rfl
theorem vu:∀ l:List Nat,iw (l.map λc=>.str ⟨#[c]⟩)=some (l.map λc=>⟨#[c]⟩)
 | []=>rfl
 | c::l=>by show(iw (l.map λc=>.str ⟨#[c]⟩)).map _=_;exact congrArg _ (vu l)
theorem Fc(l:List Nat):Txt.join (nm "") (l.map λc=>(⟨#[c]⟩ : Str))=⟨l.toArray⟩:=by
 have e:nm "" = ⟨#[]⟩:=by decide +kernel
 rw[e];delta Txt.join Builtin.Str.glued;have key:∀ (l:List Nat) (acc:Array Nat),(l.map λc=>(⟨#[c]⟩ : Str)).foldl (λacc p=>acc++(#[]:Array Nat)++p.cps) acc=acc++l.toArray:=by
  intro l
  induction l with
  | nil=>intro acc;simp
  | cons c l ih=>intro acc;simp only[List.map_cons,List.foldl_cons,ih];simp
 induction l with
 | nil=>rfl
 | cons c l=>simp only[List.map_cons,List.drop_one,List.tail_cons,List.headD_cons,key];simp
theorem lY{call:Str->List D->M D}{s:Str}(hs:s.length<=1000):be call (.str (nm "")) .join [.list (s.cps.toList.map λc=>.str ⟨#[c]⟩)]=ret (.str s):=by
 show bnd (ac (iw (s.cps.toList.map λc=>.str ⟨#[c]⟩))) _=_;rw[vu];have e:nm "" = ⟨#[]⟩:=by decide +kernel
 have hsum:((s.cps.toList.map λc=>(⟨#[c]⟩ : Str)).map (·.length)).sum+(s.cps.toList.map λc=>(⟨#[c]⟩ : Str)).length*(nm "").length<=16777216:=by
  have e0:(nm "").length=0:=by exact congrArg _ e
  have e1:∀ l:List Nat,((l.map λc=>(⟨#[c]⟩ : Str)).map (·.length)).sum=l.length:=by
   intro l
   induction l with
   | nil=>rfl
   | cons c l ih=>simp only[List.map_cons,List.sum_cons,ih,List.length_cons];simp[Str.length];lia
  simp only[e0,e1];simp only[Str.length]at hs;simp;lia
 exact(PY hsum).trans (by rw[Fc])
theorem pf{d i:Nat}{N:List D}{a n:Nat}{o:Option Str}(hd:2<=d)(h:σ[i]?=some (.list N))(hl:N.length<=1000)(hn:1<=n)(ha:a+n<=N.length)(hc:cut N a (a+n)=i8 o n)(ho:∀ s,o=some s->∀ c∈s.cps.toList,c<128) :
  run d (nm "load_text") [.ref i,.int a,.int n] σ=aQ (o.map .str) σ:=by
 refine am (ak hd) λd z7 hd'=>?_;rw[z7];rw[qE];refine dy (c_ hd' h hl ha) ?_;have es:bu (.ref i) (.int a) (.int (a+n)) σ=.ok (.list (i8 o n)) σ:=by
  refine bd (aS h) ?_;have l1:ao N.length=true:=decide_eq_true (PQ hl (by decide));have l2:iu (.int (a:Int)) (.int ((a:Int)+n)) N.length=some (a,a+n):=by show(if 0<=(a:Int)/\0<=(a:Int)+n then some (min (a:Int).toNat N.length,min ((a:Int)+n).toNat N.length) else none)=_;exact(PY ⟨Int.natCast_nonneg _,Int.natCast_nonneg (a+n)⟩).trans (congrArg some (Prod.ext (Nat.min_eq_left (PQ (Nat.le_add_right a n) ha)) (Nat.min_eq_left ha)))
  show(if ao N.length=true then bnd (ac (iu (.int (a:Int)) (.int ((a:Int)+n)) N.length)) λ(a,b)=>ret (D.list (cut N a b)) else stuck) σ=_;rw[l1,l2,PY rfl];show R.ok (D.list (cut N a (a+n))) σ=_;rw[hc]
 refine dy (bd (rS rfl) es) (dy (BD hn ho) ?_)
 induction o with
 | none=>rfl
 | some s=>
  have hp:a_ (.str (nm "")) (nm "join")=ret .join:=by kernel_rfl
  have hs:s.length<=1000:=by have:=congrArg List.length hc;simp only[cut,i8,List.length_take,List.length_drop,List.length_map]at this;simp only[Str.length,<-Array.length_toList];exact PQ (PT this.symm) (PQ (Nat.min_le_right _ _) (PQ (Nat.sub_le _ _) hl))
  exact gJ Bool.false_ne_true (pE (bd (rS hp) (rS (lY hs))))
theorem il{d i:Nat}{N:List D}{a n:Nat}{o:Option Str}{m:D}{r:List D}(hd:3<=d)(hm:aB m (nm "characters") σ=.ok (.ref i) σ)(h:σ[i]?=some (.list N))(hl:N.length<=1000)(hn:1<=n)(ha:a+n<=N.length)(hc:cut N a (a+n)=i8 o n)
  (ho:∀ s,o=some s->∀ c∈s.cps.toList,c<128):run d (nm "Memory.load") [m,.tup (.int 5::.int a::.int n::r)] σ=aQ (o.map .str) σ:=by
 refine am (ak hd) λd z8 hd'=>?_;obtain rfl:=z8;rw[gU];have q:=pf hd' h hl hn ha hc ho;walk_at "u"
variable{σ:St}{w:Int}{ro ho:D}
noncomputable def rg(a b:Int):D:=.tup [.int a,.int b]
noncomputable def cy(k a l:Int)(dims:List D):D:=.tup [.int k,.int a,.int l,.tup dims]
noncomputable def aC:List (Str×D):=[(nm "I",cy 0 0 0 []),(nm "J",cy 0 1 0 []),(nm "A",cy 0 2 0 [rg 0 2,rg (-1) 0]),(nm "X",cy 1 8 0 []),(nm "B",cy 1 9 0 [rg 1 2]),(nm "L",cy 4 11 0 []),(nm "C",cy 5 0 4 []),(nm "D",cy 5 4 3 [rg 2 3])]
theorem eM{d:Nat}(hd:1<=d):run d (nm "_law_places") []=ret (.sdict aC):=by
 refine am (ak hd) λd z1 _=>?_;obtain rfl:=z1;rw[oM];have e:iU (run d)=ret (.ret (.sdict aC)):=by kernel_rfl
 exact congrArg _ e
theorem Ck{d:Nat}{k l:Int}(hd:2<=d)(hk:k=0\/k=1\/k=4):run d (nm "unit_size") [.int k,.int l]=ret (.int 1):=by
 refine am (ak hd) λd z2 hd'=>?_;obtain rfl:=z2;rw[jG];have h5:¬ k=5:=by lia
 simp[f_,SM,SI,h5,js hd' hk]
theorem Cm{d:Nat}{l:Int}(hd:2<=d):run d (nm "unit_size") [.int 5,.int l]=ret (.int l):=by refine am (ak hd) λd z3 hd'=>?_;obtain rfl:=z3;rw[jG];simp[f_,SM,SI]
theorem ju{call:Str->List D->M D}{fr:af}{K:K'}{ds ss kk:D}{lo hi i o s:Int}(h1:aa fr (nm "dims")=some ds)(h2:aa fr (nm "subscripts")=some ss)(h3:aa fr (nm "k")=some kk)(h4:aa fr (nm "offset")=some (.int o))(h5:aa fr (nm "stride")=some (.int s))
  (hd:subD ds kk=ret (.tup [.int lo,.int hi])) (hs:subD ss kk=ret (.int i)) (g1:fits (i - lo)=true) (g2:fits s=true) (g3:fits (hi - lo+1)=true) :
  bG call fr K=if lo<=i/\i<=hi then K (aj (aj (aj (aj fr (nm "low") (.int lo)) (nm "high") (.int hi)) (nm "offset") (.int (o+(i - lo)*s))) (nm "stride") (.int (s*(hi - lo+1)))) else aP:=by
 by_cases c1:i<lo
 ·rw[PZ (by lia)];walk_at "e"
 ·by_cases c2:hi<i
  ·rw[PZ (by lia)];walk_at "e"
  ·rw[PY (by lia)];walk_at "e"
noncomputable def Dp(call:Str->List D->M D):K':=λIU=>bnd (aI [ac (aa IU (nm "kind")),bnd (ac (aa IU (nm "address"))) λKg=>bnd (bnd (ac (aa IU (nm "offset"))) λJ3=>bnd (bnd (ah [ac (aa IU (nm "kind")),ac (aa IU (nm "length"))]) λMz=>call (nm "unit_size") Mz) λLN=>ag .Mult J3 LN) λKt=>ag .Add Kg Kt,ac (aa IU (nm "length")),ret ((.tup []))]) λK7=>ret (.ret K7)
theorem vw{call:Str->List D->M D}{fr:af}{k a l o u:Int}(h1:aa fr (nm "kind")=some (.int k))(h2:aa fr (nm "address")=some (.int a))(h3:aa fr (nm "length")=some (.int l))(h4:aa fr (nm "offset")=some (.int o))(hu:call (nm "unit_size") [.int k,.int l]=ret (.int u))(g1:fits o=true)(g2:fits u=true) :
  Dp call fr=ret (.ret (cy k (a+o*u) l [])):=by
 walk_at "e"
theorem zt{d:Nat}{k a l u lo hi i:Int}(hd:3<=d)(hi':fits (i - lo)=true)(hu:∀ e,2<=e->run e (nm "unit_size") [.int k,.int l]=ret (.int u))(fu:∀ q:Int,lo<=i->i<=hi->q=i - lo->fits q=true/\fits u=true)(fr:fits (hi - lo+1)=true) :
  run d (nm "element_place") [cy k a l [rg lo hi],.list [.int i]]=if lo<=i/\i<=hi then ret (cy k (a+(i - lo)*u) l []) else aP:=by
 refine am (ak hd) λd z4 hd'=>?_;obtain rfl:=z4;rw[fw];have e:di (run d) (cy k a l [rg lo hi]) (.list [.int i])=bG (run d) [(nm "place",cy k a l [rg lo hi]),(nm "subscripts",.list [.int i]),(nm "kind",.int k),(nm "address",.int a),(nm "length",.int l),(nm "dims",.tup [rg lo hi]),(nm "offset",.int 0),(nm "stride",.int 1),(nm "k",.int 0)] (Dp (run d)):=by kernel_rfl
 rw[e,ju (ds:=.tup [rg lo hi]) (ss:=.list [.int i]) (kk:=.int 0) (lo:=lo) (hi:=hi) (i:=i) (o:=0) (s:=1) (by kernel_rfl) (by kernel_rfl) (by kernel_rfl) (by kernel_rfl) (by kernel_rfl) rfl rfl hi' f1 fr]
 by_cases h:lo<=i/\i<=hi
 ·refine PV (λq1 q2=>?_) (fu _ h.1 h.2 rfl);rw[PY h,PY h,vw (k:=k) (a:=a) (l:=l) (o:=0+(i - lo)*1) (u:=u) (by kernel_rfl) (by kernel_rfl) (by kernel_rfl) (by kernel_rfl) (hu d hd') (by rw[Int.zero_add,Int.mul_one];exact q1) q2,Int.zero_add,Int.mul_one];rfl
 ·rw[PZ h,PZ h];rfl
theorem BE{i lo u:Int}(a:Int)(hi:i.natAbs<=2048):(a+(i - lo)*u).natAbs<=a.natAbs+(2048+lo.natAbs)*u.natAbs:=
 PQ (Int.natAbs_add_le _ _) (Nat.add_le_add_left (PQ (PT (Int.natAbs_mul _ _)) (Nat.mul_le_mul_right _ (PQ (Int.natAbs_sub_le _ _) (Nat.add_le_add_right hi _)))) _)
theorem rO{z:Int}{n:Nat}(h:z.natAbs<=n)(hn:n<10 ^ 5):fits z=true:=aN (bZ (k:=5) (by decide) (PS h hn))
theorem de{i lo:Int}(hi:i.natAbs<=2048)(hn:2048+lo.natAbs<10 ^ 5):fits (i - lo)=true:=rO (PQ (Int.natAbs_sub_le _ _) (Nat.add_le_add_right hi _)) hn
theorem lZ{a i lo u:Int}(ha:0<=a)(hu:0<=u)(h:lo<=i):a+(i - lo)*u=((a+(i - lo)*u).toNat:Int):=(Int.toNat_of_nonneg (Int.add_nonneg ha (Int.mul_nonneg (Int.sub_nonneg_of_le h) hu))).symm
theorem zu{a i lo hi u:Int}{n:Nat}(hu:0<=u)(h:i<=hi)(k:a+(hi - lo)*u<n)(hn:0<n):(a+(i - lo)*u).toNat<n:=(Int.toNat_lt' hn).mpr (Int.lt_of_le_of_lt (Int.add_le_add_left (Int.mul_le_mul_of_nonneg_right (Int.sub_le_sub_right h lo) hu) a) k)
theorem Dq(i j:Int):0+(i - 0)*1+(j - -1)*(1*(2 - 0+1))=i+(j+1)*3:=by rw[Int.zero_add,Int.mul_one,Int.sub_zero];rfl
theorem Es{d:Nat}{i j:Int}(hd:3<=d)(hi:i.natAbs<=2048)(hj:j.natAbs<=2048) :
  run d (nm "element_place") [cy 0 2 0 [rg 0 2,rg (-1) 0],.list [.int i,.int j]]=if (0<=i/\i<=2)/\(-1<=j/\j<=0) then ret (cy 0 (2+(i+(j+1)*3)) 0 []) else aP:=by
 refine am (ak hd) λd z5 hd'=>?_;obtain rfl:=z5;rw[fw];have e:di (run d) (cy 0 2 0 [rg 0 2,rg (-1) 0]) (.list [.int i,.int j])=bG (run d) [(nm "place",cy 0 2 0 [rg 0 2,rg (-1) 0]),(nm "subscripts",.list [.int i,.int j]),(nm "kind",.int 0),(nm "address",.int 2),(nm "length",.int 0),(nm "dims",.tup [rg 0 2,rg (-1) 0]),(nm "offset",.int 0),(nm "stride",.int 1),(nm "k",.int 0)]
   (λfr=>bG (run d) (aj fr (nm "k") (.int 1)) (Dp (run d))):=by kernel_rfl
 rw[e,ju (ds:=.tup [rg 0 2,rg (-1) 0]) (ss:=.list [.int i,.int j]) (kk:=.int 0) (lo:=0) (hi:=2) (i:=i) (o:=0) (s:=1) (by kernel_rfl) (by kernel_rfl) (by kernel_rfl) (by kernel_rfl) (by kernel_rfl) rfl rfl (de hi (by decide)) f1 (by decide +kernel)]
 by_cases h:0<=i/\i<=2
 ·rw[PY h,ju (ds:=.tup [rg 0 2,rg (-1) 0]) (ss:=.list [.int i,.int j]) (kk:=.int 1) (lo:=-1) (hi:=0) (i:=j) (o:=0+(i - 0)*1) (s:=1*(2 - 0+1)) (by kernel_rfl) (by kernel_rfl) (by kernel_rfl) (by kernel_rfl) (by kernel_rfl) rfl rfl (de hj (by decide)) (by decide +kernel) (by decide +kernel)]
  by_cases h2:-1<=j/\j<=0
  ·rw[PY h2,PY ⟨h,h2⟩,vw (k:=0) (a:=2) (l:=0) (o:=0+(i - 0)*1+(j - -1)*(1*(2 - 0+1))) (u:=1) (by kernel_rfl) (by kernel_rfl) (by kernel_rfl) (by kernel_rfl) (Ck hd' (.inl rfl)) (by rw[Int.zero_add,Int.mul_one];exact rO (PQ (BE _ hj) (Nat.add_le_add_right (PQ (Int.natAbs_sub_le _ _) (Nat.add_le_add_right hi _)) _)) (by decide)) f1,Dq,Int.mul_one];rfl
  ·rw[PZ h2,PZ (λq=>h2 q.2)];rfl
 ·rw[PZ h,PZ (λq=>h q.1)];rfl
abbrev cx:=String->List Int->Option D
noncomputable def vx(N:List D)(V:cx):Prop:=N.length=12/\N[0]?=some (jt 0 (V "I" []))/\N[1]?=some (jt 0 (V "J" []))/\(∀ i j:Int,0<=i->i<=2->-1<=j->j<=0->N[(2+(i+(j+1)*3)).toNat]?=some (jt 0 (V "A" [i,j])))
 ∧ N[8]?=some (jt 1 (V "X" []))/\(∀ i:Int,1<=i->i<=2->N[(9+(i - 1)*1).toNat]?=some (jt 1 (V "B" [i])))/\N[11]?=some (jt 4 (V "L" []))
noncomputable def Tx(C:List D)(a L:Nat)(o:Option D):Prop:=∃ t:Option Str,o=t.map .str/\(∀ s,t=some s->s.length=L/\∀ c∈s.cps.toList,c<128)/\cut C a (a+L)=i8 t L
noncomputable def vA(C:List D)(V:cx):Prop:=C.length=10/\Tx C 0 4 (V "C" [])/\∀ i:Int,2<=i->i<=3->Tx C (4+(i - 2)*3).toNat 3 (V "D" [i])
noncomputable def bi:List (String×Int):=[("I",0),("J",0),("A",0),("X",1),("B",1),("L",4),("C",5),("D",5)]
structure Md(σ:St)(ro ho:D)(V:cx):Prop where
 mem:∃ cN iM iN N iC C,aB ro (nm "memory") σ=.ok (.inst cN iM) σ/\a_ (.inst cN iM) (nm "load") σ=.ok (.user (nm "Memory.load")) σ/\aB (.inst cN iM) (nm "numeric") σ=.ok (.ref iN) σ/\σ[iN]?=some (.list N)
  ∧ aB (.inst cN iM) (nm "characters") σ=.ok (.ref iC) σ/\σ[iC]?=some (.list C)/\vx N V/\vA C V
 frame:∃ i l,aB ro (nm "frame") σ=.ok (.ref i) σ/\σ[i]?=some (.sdict l)/\∀ p∈aC,aa l p.1=some p.2
 held:∃ i l,ho=.ref i/\σ[i]?=some (.sdict l)/\∀ x∈bi,∃ j,aa l (nm x.1)=some (.ref j)/\a_ (.ref j) (nm "get") σ=.ok .get σ/\∀ (call:Str->List D->M D) (t:List D) (q:List Int),dK t=some q->be call (.ref j) .get [.tup t] σ=.ok ((V x.1 q).getD .none) σ
 val:∀ x∈bi,∀ q v,V x.1 q=some v->Val x.2 0 v
variable{σ:St}{w:Int}{ro ho:D}{V:cx}
theorem BG{n:Nat}:ex 0<=ex n:=by unfold ex;simp only[if_true];split <;> (try split) <;> (try split) <;> lia
theorem Val.up{k:Int}{n:Nat}{v:D}(h:Val k 0 v):Val k n v:=by
 cases h with
 | int h=>exact .int h
 | real h=>exact .real (h.mono BG)
 | bool=>exact .bool
 | str h=>exact .str (by have:1<=2 ^ n:=Nat.one_le_two_pow;lia)
theorem rP(W:Wd σ w ro){K n:Nat}{k:Int}{v:D}(hK:12<=K)(hv:Val k 0 v):Ev σ w ro ho K (Val k n) (.tup [.str (nm "const"),.int k,v]):=by
 refine⟨some v,λz hz=>by cases hz;exact hv.up,λd hd=>⟨?_, ?_⟩⟩
 ·obtain⟨d,rfl⟩ : ∃ e,d=e+2:=⟨d - 2,by lia⟩;refine PX (bz W (h:="eval_const") (by decide)) ?_;rw[iS];exact pE rfl
 ·obtain⟨d,rfl⟩ : ∃ e,d=e+1:=⟨d - 1,by lia⟩;rw[bR];have e:bw (run d) ho (.tup [.str (nm "const"),.int k,v]) (.int w)=ret (.ret v):=by kernel_rfl
  exact e ▸ rfl
theorem rQ(H:Md σ ro ho V){d:Nat}{x:String}{p:List D}(hd:1<=d)(hp:(nm x,D.tup p)∈aC):run d (nm "named_place") [ro,.str (nm x)] σ=.ok (.tup p) σ:=by
 refine am (ak hd) λd zz1 _=>?_;obtain rfl:=zz1;rw[mC];refine ar H.frame λi l e1 e2 e3=>?_;have e4:=e3 _ hp;dsimp only at e4;have p1:a_ (.ref i) (nm "get") σ=.ok .get σ:=by exact bd (aS e2) rfl
 have p2:be (run d) (.ref i) .get [.str (nm x)] σ=.ok (.tup p) σ:=by refine bd (aS e2) ?_;show ret ((aa l (nm x)).getD .none) σ=_;rw[e4];rfl
 exact dy (bd e1 (bd p1 p2)) (by kernel_rfl)
theorem jv(H:Md σ ro ho V){d:Nat}{x:String}{k:Int}{p:List D}(hd:2<=d)(hp:(nm x,D.tup p)∈aC):run d (nm "place_of") [ro,.tup [.str (nm "var"),.int k,.str (nm x)]] σ=.ok (.tup p) σ:=by refine am (ak hd) λd zz1 hd'=>?_;rw[zz1];rw[hJ];have q:=rQ H hd' hp;walk_at "u"
theorem ka(H:Md σ ro ho V){d:Nat}{x:String×Int}{t:List D}{q:List Int}(hd:1<=d)(hx:x∈bi)(hq:dK t=some q):run d (nm "_law_held") [ho,.str (nm x.1),.tup t] σ=.ok ((V x.1 q).getD .none) σ:=by
 refine am (ak hd) λd zz1 _=>?_;obtain rfl:=zz1;rw[tZ];refine ar H.held λi l zz2 e2 e3=>?_;obtain rfl:=zz2;refine bk (e3 x hx) λj e4 e5 e6=>?_;have s1:subD (.ref i) (.str (nm x.1)) σ=.ok (.ref j) σ:=by refine bd (aS e2) ?_;show ac (aa l (nm x.1)) σ=_;rw[e4];rfl
 exact pE (bd s1 (bd e5 (e6 _ t q hq)))
theorem ch(W:Wd σ w ro){d:Nat}{x:String}{r:List D}{cN:Str}{iM:Nat}(hx:(x,"eval_place")∈cH)(m1:aB ro (nm "memory") σ=.ok (.inst cN iM) σ)(m2:a_ (.inst cN iM) (nm "load") σ=.ok (.user (nm "Memory.load")) σ) :
  run (d+2) (nm "evaluate") [ro,.tup (.str (nm x)::r)] σ=bnd (run d (nm "place_of") [ro,.tup (.str (nm x)::r)]) (λp=>run d (nm "Memory.load") [.inst cN iM,p]) σ:=by
 refine PX (bz W hx) ?_;rw[oJ];refine pE (bd m1 (bd m2 ?_));show bnd (bnd (run d (nm "place_of") [ro,.tup (.str (nm x)::r)]) λa=>ret [a]) (λl=>run d (nm "Memory.load") (.inst cN iM::l)) σ=_;rw[lE];rfl
theorem pg(W:Wd σ w ro)(H:Md σ ro ho V){K n:Nat}{x:String}{k:Int}{a:Nat}(hK:12<=K)(hx:(x,k)∈bi)(hp:(nm x,cy k a 0 [])∈aC)(hk:k=0\/k=1\/k=4)
  (hN:∀ N,vx N V->N[a]?=some (jt k (V x []))):Ev σ w ro ho K (Val k n) (.tup [.str (nm "var"),.int k,.str (nm x)]):=by
 obtain⟨cN,iM,iN,N,iC,C,m1,m2,m3,m4,m5,m6,m7,m8⟩:=H.mem;refine⟨V x [],λv hv=>(H.val _ hx _ _ hv).up,λd hd=>⟨?_, ?_⟩⟩
 ·obtain⟨d,rfl⟩ : ∃ e,d=e+2:=⟨d - 2,by lia⟩;refine PX (ch W (by decide) m1 m2) ?_;rw[aE (jv H (by lia) hp)];exact ig (by lia) hk m3 m4 (by rw[m7.1];lia) (hN N m7)
 ·obtain⟨d,rfl⟩ : ∃ e,d=e+1:=⟨d - 1,by lia⟩;rw[bR];have e:bw (run d) ho (.tup [.str (nm "var"),.int k,.str (nm x)]) (.int w)=bnd (run d (nm "_law_held") [ho,.str (nm x),.tup []]) λt=>ret (.ret t):=by kernel_rfl
  exact pE (ka H (x:=(x,k)) (by lia) hx rfl)
theorem Et(W:Wd σ w ro)(H:Md σ ro ho V){K n:Nat}(hK:12<=K):Ev σ w ro ho K (Val 0 n) (.tup [.str (nm "var"),.int 0,.str (nm "I")]):=pg W H (a:=0) hK (by decide) (by simp[aC]) (.inl rfl) λN h=>h.2.1
theorem Fd(W:Wd σ w ro)(H:Md σ ro ho V){K n:Nat}(hK:12<=K):Ev σ w ro ho K (Val 0 n) (.tup [.str (nm "var"),.int 0,.str (nm "J")]):=pg W H (a:=1) hK (by decide) (by simp[aC,cy]) (.inl rfl) λN h=>h.2.2.1
theorem Fe(W:Wd σ w ro)(H:Md σ ro ho V){K n:Nat}(hK:12<=K):Ev σ w ro ho K (Val 1 n) (.tup [.str (nm "var"),.int 1,.str (nm "X")]):=pg W H (a:=8) hK (by decide) (by simp[aC,cy]) (.inr (.inl rfl)) λN h=>h.2.2.2.2.1
theorem Ff(W:Wd σ w ro)(H:Md σ ro ho V){K n:Nat}(hK:12<=K):Ev σ w ro ho K (Val 4 n) (.tup [.str (nm "var"),.int 4,.str (nm "L")]):=pg W H (a:=11) hK (by decide) (by simp[aC,cy]) (.inr (.inr rfl)) λN h=>h.2.2.2.2.2.2
theorem Fg(W:Wd σ w ro)(H:Md σ ro ho V){K n:Nat}(hK:12<=K):Ev σ w ro ho K (Val 5 n) (.tup [.str (nm "var"),.int 5,.str (nm "C")]):=by
 obtain⟨cN,iM,iN,N,iC,C,m1,m2,m3,m4,m5,m6,m7,m8⟩:=H.mem;refine⟨V "C" [],λv hv=>(H.val ("C",5) (by decide) _ _ hv).up,λd hd=>⟨?_, ?_⟩⟩
 ·obtain⟨d,rfl⟩ : ∃ e,d=e+2:=⟨d - 2,by lia⟩;refine PX (ch W (by decide) m1 m2) ?_;rw[aE (jv H (p:=[.int 5,.int 0,.int 4,.tup []]) (by lia) (by simp[aC,cy]))];obtain⟨l1,⟨t,t1,t2,t3⟩,_⟩:=m8;simp only[t1];exact il (a:=0) (n:=4) (by lia) m5 m6 (by lia) (by decide) (by lia) t3 λs hs=>(t2 s hs).2
 ·obtain⟨d,rfl⟩ : ∃ e,d=e+1:=⟨d - 1,by lia⟩;rw[bR];have e:bw (run d) ho (.tup [.str (nm "var"),.int 5,.str (nm "C")]) (.int w)=bnd (run d (nm "_law_held") [ho,.str (nm "C"),.tup []]) λt=>ret (.ret t):=by kernel_rfl
  exact pE (ka H (x:=("C",5)) (by lia) (by decide) rfl)
variable{σ:St}{w:Int}{ro ho:D}{V:cx}
noncomputable def xf(σ:St)(w:Int)(ro ho:D)(K:Nat)(ix:D)(oi:Option Int):Prop:=(∀ i,oi=some i->i.natAbs<=2048)/\∀ d,K<=d->run d (nm "evaluate") [ro,ix] σ=aQ (oi.map .int) σ/\run d (nm "_law_value") [ho,ix,.int w] σ=.ok ((oi.map .int).getD .none) σ
set_option tactic.hygienic true in
theorem Ev.int{K n:Nat}{ix:D}(A:Ev σ w ro ho K (Val 0 n) ix):∃ oi,xf σ w ro ho K ix oi:=by
 refine am A λo p h=>?_
 induction o with
 | none=>exact⟨none,nofun,h⟩
 | some v=>
  have:=p v rfl;cases this with
  | int hi=>rename_i i;exact⟨some i,λj hj=>by cases hj;exact hi,h⟩
noncomputable def cK{α:Type}(oi:Option Int)(f:Int->α)(z:α):α:=match oi with
 | some i=>f i
 | none=>z
theorem l_(H:Md σ ro ho V){d:Nat}{x:String}{k:Int}{p l:List D}{r:R D}(hd:1<=d)(hp:(nm x,D.tup p)∈aC)
  (h:aq (bnd (bnd (ah [ret (.tup p),bnd (bnd (subD (.tup [.str (nm "elem"),.int k,.str (nm x),.list l]) (.int 3)) λt9=>bnd (aZ t9) λKj=>aM (λMF JP=>bnd (run d (nm "evaluate") [ro,MF]) λIP=>if ao (JP).length then ret (JP++[IP]) else stuck) Kj []) λl8=>ret (.list l8)]) λKR=>run d (nm "element_place") KR) λIu=>ret (.ret Iu)) σ=r) :
  run (d+1) (nm "place_of") [ro,.tup [.str (nm "elem"),.int k,.str (nm x),.list l]] σ=r:=by
 rw[hJ];exact dy (bd (rS rfl) (rS (by kernel_rfl))) (gJ Bool.false_ne_true (dy (bd (bY (rS rfl) (bY (rS rfl) (rS rfl))) (rQ H hd hp)) (dy (bd (rS rfl) (rS (by kernel_rfl))) (q8 rfl h))))
theorem jJ(H:Md σ ro ho V){K d:Nat}{x:String}{k:Int}{p:List D}{ix:D}{oi:Option Int}(hK:12<=K)(hd:K+2<=d)(hp:(nm x,D.tup p)∈aC)(I:xf σ w ro ho K ix oi) :
  run d (nm "place_of") [ro,.tup [.str (nm "elem"),.int k,.str (nm x),.list [ix]]] σ=cK oi (λi=>run (d - 1) (nm "element_place") [.tup p,.list [.int i]] σ) (.exc σ):=by
 refine am (ak hd) λd z1 hd'=>?_;obtain rfl:=z1;have hi:=(I.2 d (Nat.le_of_succ_le hd')).1;refine l_ H (PQ (Nat.le_add_left 1 K) hd') hp ?_
 induction oi with
 | none=>exact ay (ay (ay (bd (rS rfl) (ay (ay (ay (bd (rS rfl) (bd (rS rfl) (ay (ay hi _) _))) _) _) _)) _) _) _
 | some i=>exact pE (bd (bY (rS rfl) (bY (bd (bd (rS rfl) (bd (rS rfl) (EJ (ds:=[]) (bd hi rfl) rfl))) (rS rfl)) (rS rfl))) rfl)
theorem rR(H:Md σ ro ho V){K d:Nat}{x:String}{k:Int}{p:List D}{ix iy:D}{oi oj:Option Int}(hK:12<=K)(hd:K+2<=d)(hp:(nm x,D.tup p)∈aC)(I:xf σ w ro ho K ix oi)(J:xf σ w ro ho K iy oj) :
  run d (nm "place_of") [ro,.tup [.str (nm "elem"),.int k,.str (nm x),.list [ix,iy]]] σ=cK oi (λi=>cK oj (λj=>run (d - 1) (nm "element_place") [.tup p,.list [.int i,.int j]] σ) (.exc σ)) (.exc σ):=by
 refine am (ak hd) λd z2 hd'=>?_;obtain rfl:=z2;have hi:=(I.2 d (Nat.le_of_succ_le hd')).1;have hj:=(J.2 d (Nat.le_of_succ_le hd')).1;refine l_ H (PQ (Nat.le_add_left 1 K) hd') hp ?_
 induction oi with
 | none=>exact ay (ay (ay (bd (rS rfl) (ay (ay (ay (bd (rS rfl) (bd (rS rfl) (ay (ay hi _) _))) _) _) _)) _) _) _
 | some i=>
  induction oj with
  | none=>refine ay (ay (ay (bd (rS rfl) (ay (ay (ay (bd (rS rfl) (bd (rS rfl) (EJ (ds:=[iy]) (bd hi rfl) ?_))) _) _) _)) _) _) _;exact ay (ay hj _) _
  | some j=>exact pE (bd (bY (rS rfl) (bY (bd (bd (rS rfl) (bd (rS rfl) (EJ (ds:=[iy]) (bd hi rfl) (EJ (ds:=[]) (bd hj rfl) rfl)))) (rS rfl)) (rS rfl))) rfl)
theorem zv(i:Int):ae .In .none (.list [.int i]) σ=.ok false σ:=by kernel_rfl
theorem zw(i j:Int):ae .In .none (.list [.int i,.int j]) σ=.ok false σ:=by kernel_rfl
theorem zx(l:List D)(a b:Option Int)(h:a=none\/b=none):ae .In .none (.list [(a.map D.int).getD .none,(b.map D.int).getD .none]) σ=.ok true σ:=by
 induction a <;> induction b
 ·kernel_rfl
 ·kernel_rfl
 ·kernel_rfl
 ·rcases h with h | h <;> exact DN h
theorem xg:ae .In .none (.list [.none]) σ=.ok true σ:=by kernel_rfl
theorem ma{d:Nat}{x:String}{k kk a l lo hi i at_:Int}{ds L fo:List D}{t fr:af}{K:K'}(hd:1<=d)(hs:subD (.sdict aC) (.str (nm x))=ret (cy kk a l ds))(hfr:fr=(nm "held",ho)::(nm "tree",.tup [.str (nm "elem"),.int k,.str (nm x),.list L])::(nm "width",.int w)::(nm "found",.list fo)::(nm "at",.int at_)::t)(he:subD (.tup ds) (.int at_)=ret (rg lo hi))(hf:subD (.list fo) (.int at_)=ret (.int i))(ht:t=[]\/∃ u v,t=[(nm "low",u),(nm "high",v)]) :
  ez (run d) fr K
   = if lo<=i/\i<=hi then K [(nm "held",ho),(nm "tree",.tup [.str (nm "elem"),.int k,.str (nm x),.list L]),(nm "width",.int w),(nm "found",.list fo),(nm "at",.int at_),(nm "low",.int lo),(nm "high",.int hi)] else ret (.ret .none):=by
 have q:=eM hd;subst hfr
 by_cases h1:lo<=i
 ·by_cases h2:i<=hi
  ·rw[PY ⟨h1,h2⟩];rcases ht with rfl | ⟨u,v,rfl⟩ <;> walk_at "e"
  ·rw[PZ λq=>h2 q.2];rcases ht with rfl | ⟨u,v,rfl⟩ <;> walk_at "e"
 ·rw[PZ λq=>h1 q.1];rcases ht with rfl | ⟨u,v,rfl⟩ <;> walk_at "e"
theorem Dr{f:List D->M Flow'}:dL (.range 0 1) f=f [.int 0]:=by kernel_rfl
theorem Ds{f:List D->M Flow'}:dL (.range 0 2) f=f [.int 0,.int 1]:=by kernel_rfl
theorem ph{B:af->K'->M Flow'}{g:af->D->af}{v:D}{vs:List D}{fr:af}{K:K'}:aG B (λfr v=>ret (g fr v)) (v::vs) fr K=B (g fr v) λfr'=>aG B (λfr v=>ret (g fr v)) vs fr' K:=rfl
theorem zy{c:Prop}[Decidable c]{m:M Flow'}{a:D}{r:R D}(h:aq m σ=.ok a σ)(k:r=.ok (if c then a else .none) σ):aq (if c then m else ret (.ret .none)) σ=r:=by
 simp only[k]
 split
 ·exact h
 ·rfl
theorem Cn{K d:Nat}{x:String}{k kk a l lo hi:Int}{ix:D}{oi:Option Int}(hK:12<=K)(hd:K+1<=d)(hp:aa aC (nm x)=some (cy kk a l [rg lo hi]))(I:xf σ w ro ho K ix oi) :
  run d (nm "_law_subscripts") [ho,.tup [.str (nm "elem"),.int k,.str (nm x),.list [ix]],.int w] σ=.ok (cK oi (λi=>if lo<=i/\i<=hi then .tup [.int i] else .none) .none) σ:=by
 refine am (ak hd) λd z3 hd'=>?_;obtain rfl:=z3;rw[eE];have hv:=(I.2 d (by omega)).2;have hs:subD (.sdict aC) (.str (nm x))=ret (cy kk a l [rg lo hi]):=by show ac (aa aC (nm x))=_;exact congrArg _ hp
 induction oi with
 | none=>have hv:run d (nm "_law_value") [ho,ix,.int w] σ=.ok .none σ:=hv;have:=xg (σ:=σ);walk_at "u"
 | some i=>
  have hv:run d (nm "_law_value") [ho,ix,.int w] σ=.ok (.int i) σ:=hv;refine dy (a:=.list [.int i]) (σ':=σ) (by walk_at "s") (dy (zv i) (gJ (by decide) (dy (a:=.range 0 1) (rS (by kernel_rfl)) ?_)));rw[Dr,ph,ma (hd:=show 1<=d by omega) (hs:=hs)]
  case hfr=>exact rfl
  case he=>exact rfl
  case hf=>exact rfl
  case ht=>exact .inl rfl
  exact zy (a:=.tup [.int i]) (by kernel_rfl) rfl
theorem Eu{K d:Nat}{k:Int}{ix iy:D}{oi oj:Option Int}(hK:12<=K)(hd:K+1<=d)(I:xf σ w ro ho K ix oi)(J:xf σ w ro ho K iy oj) :
  run d (nm "_law_subscripts") [ho,.tup [.str (nm "elem"),.int k,.str (nm "A"),.list [ix,iy]],.int w] σ=.ok (cK oi (λi=>cK oj (λj=>if (0<=i/\i<=2)/\(-1<=j/\j<=0) then .tup [.int i,.int j] else .none) .none) .none) σ:=by
 refine am (ak hd) λd z4 hd'=>?_;obtain rfl:=z4;rw[eE];have hv:=(I.2 d (by omega)).2;have hu:=(J.2 d (by omega)).2;refine PW (P_ (oi=none\/oj=none)) (λhn=>?_) λhn=>?_
 ·refine dy (a:=.list [(oi.map D.int).getD .none,(oj.map D.int).getD .none]) (σ':=σ) (by walk_at "s") (dy (zx [] oi oj hn) (q8 rfl ?_));rcases hn with rfl | rfl
  ·rfl
  ·induction oi <;> rfl
 ·induction oi with
  | none=>exact absurd (.inl rfl) hn
  | some i=>
   induction oj with
   | none=>exact absurd (.inr rfl) hn
   | some j=>
    have hs:subD (.sdict aC) (.str (nm "A"))=ret (cy 0 2 0 [rg 0 2,rg (-1) 0]):=by kernel_rfl
    refine dy (a:=.list [.int i,.int j]) (σ':=σ) (by walk_at "s") (dy (zw i j) (gJ (by decide) (dy (a:=.range 0 2) (rS (by kernel_rfl)) ?_)));rw[Ds,ph,ma (hd:=show 1<=d by omega) (hs:=hs)]
    case hfr=>exact rfl
    case he=>exact rfl
    case hf=>exact rfl
    case ht=>exact .inl rfl
    refine zy (a:=if -1<=j/\j<=0 then .tup [.int i,.int j] else .none) ?_ (by unfold cK;by_cases q:0<=i/\i<=2 <;> simp only[q,true_and,false_and,if_true,if_false]);rw[ph,ma (hd:=show 1<=d by omega) (hs:=hs)]
    case hfr=>exact rfl
    case he=>exact rfl
    case hf=>exact rfl
    case ht=>exact .inr ⟨_,_,rfl⟩
    exact zy (a:=.tup [.int i,.int j]) (by kernel_rfl) rfl
variable{σ:St}{w:Int}{ro ho:D}{V:cx}
theorem rT(H:Md σ ro ho V){d:Nat}{x:String×Int}{k:Int}{L:D}{T:Option (List Int)}(hd:1<=d)(hx:x∈bi)(hs:run d (nm "_law_subscripts") [ho,.tup [.str (nm "elem"),.int k,.str (nm x.1),L],.int w] σ=.ok (T.elim .none λq=>.tup (q.map .int)) σ) :
  run (d+1) (nm "_law_value") [ho,.tup [.str (nm "elem"),.int k,.str (nm x.1),L],.int w] σ=.ok (T.elim .none λq=>(V x.1 q).getD .none) σ:=by
 rw[bR];have e:bw (run d) ho (.tup [.str (nm "elem"),.int k,.str (nm x.1),L]) (.int w)=bnd (run d (nm "_law_subscripts") [ho,.tup [.str (nm "elem"),.int k,.str (nm x.1),L],.int w]) λt8=>bnd (bnd (ae .Is t8 .none) λc9=>if c9 then ret (.none) else run d (nm "_law_held") [ho,.str (nm x.1),t8]) λIS=>ret (.ret IS):=by kernel_rfl
 rw[e];simp only[SM];rw[aE hs]
 induction T with
 | none=>simp only[Option.elim_none,i6,SM,if_true];rfl
 | some q=>
  have hi:ae .Is (.tup (q.map .int)) .none=ret false:=rfl;simp only[Option.elim_some,hi,SM,Bool.false_eq_true,if_false];have hq:dK (q.map .int)=some q:=by
   have:∀ q:List Int,dK (q.map .int)=some q:=by
    intro q
    induction q with
    | nil=>rfl
    | cons a q ih=>show(dK (q.map .int)).map _=_;exact congrArg _ ih
   exact this q
  exact ka H hd hx hq
theorem BH{K d:Nat}(a b:Nat)(hd:K+(a+b)<=d):∃ e,d=e+a/\K+b<=e:=
 ⟨d - a,(Nat.sub_add_cancel (PQ (PQ (Nat.le_add_right a b) (Nat.le_add_left _ K)) hd)).symm,Nat.le_sub_of_add_le (by rw[Nat.add_assoc,Nat.add_comm b a];exact hd)⟩
theorem rU(W:Wd σ w ro)(H:Md σ ro ho V){K n:Nat}{x:String}{k a l lo hi u:Int}{ix:D}{oi:Option Int}(hK:12<=K)(hx:(x,k)∈bi)(hp:(nm x,cy k a l [rg lo hi])∈aC)(hp':aa aC (nm x)=some (cy k a l [rg lo hi]))(I:xf σ w ro ho K ix oi)
  (hel:∀ d i,3<=d->i.natAbs<=2048->run d (nm "element_place") [cy k a l [rg lo hi],.list [.int i]]=if lo<=i/\i<=hi then ret (cy k (a+(i - lo)*u) l []) else aP)
  (hl:∀ cN iM iN N iC C d i,3<=d->aB (.inst cN iM) (nm "numeric") σ=.ok (.ref iN) σ->σ[iN]?=some (.list N)->aB (.inst cN iM) (nm "characters") σ=.ok (.ref iC) σ->σ[iC]?=some (.list C)->vx N V->vA C V->lo<=i->i<=hi →
   run d (nm "Memory.load") [.inst cN iM,cy k (a+(i - lo)*u) l []] σ=aQ (V x [i]) σ) :
  Ev σ w ro ho (K+4) (Val k n) (.tup [.str (nm "elem"),.int k,.str (nm x),.list [ix]]):=by
 refine bq H.mem λcN iM iN N z1=>?_;refine gD z1 λiC C z2=>?_;refine bp z2 λm1 m2 m3 m4 z3=>?_;refine cO z3 λm5 m6 m7 m8=>?_;refine⟨cK oi (λi=>if lo<=i/\i<=hi then V x [i] else none) none,λv hv=>?_,λd hd=>⟨?_, ?_⟩⟩
 ·induction oi with
  | none=>injection hv
  | some i=>
   simp only[cK]at hv
   split at hv
   ·exact(H.val _ hx _ _ hv).up
   ·exact nomatch hv
 ·refine am (BH 2 2 hd) λd zd hd'=>?_;obtain rfl:=zd;have xq:=PQ (Nat.add_le_add_right hK 2) hd';refine PX (ch W (by decide) m1 m2) ?_;have hpl:=jJ (k:=k) H hK hd' hp I
  induction oi with
  | none=>rw[ay hpl];rfl
  | some i=>
   have he:=hel (d - 1) i (Nat.le_sub_of_add_le (PQ (by decide) xq)) (I.1 i rfl);simp only[cK]at hpl;rw[cy]at he;rw[he]at hpl;rcases P_ (lo<=i/\i<=hi) with hr | hr
   ·rw[PY hr]at hpl;rw[aE hpl,hl _ _ _ _ _ _ d i (PQ (by decide) xq) m3 m4 m5 m6 m7 m8 hr.1 hr.2];simp only[cK,PY hr]
   ·rw[PZ hr]at hpl;rw[ay hpl];simp only[cK,PZ hr];rfl
 ·refine am (BH 1 3 hd) λd zd hd'=>?_;obtain rfl:=zd;replace hd':=PQ (Nat.add_le_add_left (by decide) K:K+1<=K+3) hd';have hs:=Cn (k:=k) hK hd' hp' I;have:=rT (w:=w) H (x:=(x,k)) (k:=k) (L:=.list [ix]) (T:=cK oi (λi=>if lo<=i/\i<=hi then some [i] else none) none) (PQ (Nat.le_add_left 1 K) hd') hx (by
   refine PX hs ?_
   induction oi with
   | none=>rfl
   | some i=>
    simp only[cK];rcases P_ (lo<=i/\i<=hi) with hr | hr
    ·rw[PY hr,PY hr];rfl
    ·rw[PZ hr,PZ hr];rfl)
  refine PX this ?_
  induction oi with
  | none=>rfl
  | some i=>
   simp only[cK];rcases P_ (lo<=i/\i<=hi) with hr | hr
   ·rw[PY hr,PY hr];rfl
   ·rw[PZ hr,PZ hr];rfl
theorem Fh(W:Wd σ w ro)(H:Md σ ro ho V){K n:Nat}{ix:D}{oi:Option Int}(hK:12<=K)(I:xf σ w ro ho K ix oi):Ev σ w ro ho (K+4) (Val 1 n) (.tup [.str (nm "elem"),.int 1,.str (nm "B"),.list [ix]]):=by
 refine rU W H (a:=9) (l:=0) (lo:=1) (hi:=2) (u:=1) hK (by decide) (by simp[aC,cy]) (by kernel_rfl) I (λd i hd hi=>zt hd ?_ (λe he=>Ck he (.inr (.inl rfl))) (λq h1 h2 h3=>?_) (by decide +kernel)) ?_
 ·exact de hi (by decide)
 ·exact⟨h3 ▸ de hi (by decide),f1⟩
 ·intro cN iM iN N iC C d i hd m3 m4 m5 m6 m7 m8 h1 h2;have e:(9:Int)+(i - 1)*1=((9+(i - 1)*1).toNat:Int):=lZ (by decide) (by decide) h1;unfold cy;exact e ▸ (ig hd (.inr (.inl rfl)) m3 m4 (by rw[m7.1];decide) (m7.2.2.2.2.2.1 i h1 h2))
theorem Fi(W:Wd σ w ro)(H:Md σ ro ho V){K n:Nat}{ix:D}{oi:Option Int}(hK:12<=K)(I:xf σ w ro ho K ix oi):Ev σ w ro ho (K+4) (Val 5 n) (.tup [.str (nm "elem"),.int 5,.str (nm "D"),.list [ix]]):=by
 refine rU W H (a:=4) (l:=3) (lo:=2) (hi:=3) (u:=3) hK (by decide) (by simp[aC,cy]) (by kernel_rfl) I (λd i hd hi=>zt hd ?_ (λe he=>Cm he) (λq h1 h2 h3=>?_) (by decide +kernel)) ?_
 ·exact de hi (by decide)
 ·exact⟨h3 ▸ de hi (by decide),by decide +kernel⟩
 ·intro cN iM iN N iC C d i hd m3 m4 m5 m6 m7 m8 h1 h2;refine jb m8 λl1 _ h=>?_;refine bk (h i h1 h2) λt t1 t2 t3=>?_;have e:(4:Int)+(i - 2)*3=((4+(i - 2)*3).toNat:Int):=lZ (by decide) (by decide) h1;unfold cy;rw[e,t1];exact il (n:=3) hd m5 m6 (by rw[l1];decide) (by decide) (by simp only[l1];exact Nat.add_le_add_right (Nat.le_of_lt_succ (zu (n:=8) (by decide) h2 (by decide) (by decide))) 3) t3 λs hs=>(t2 s hs).2
theorem Fj(W:Wd σ w ro)(H:Md σ ro ho V){K n:Nat}{ix iy:D}{oi oj:Option Int}(hK:12<=K)(I:xf σ w ro ho K ix oi)(J:xf σ w ro ho K iy oj):Ev σ w ro ho (K+4) (Val 0 n) (.tup [.str (nm "elem"),.int 0,.str (nm "A"),.list [ix,iy]]):=by
 refine bq H.mem λcN iM iN N z4=>?_;refine gD z4 λiC C z5=>?_;refine bp z5 λm1 m2 m3 m4 z6=>?_;refine cO z6 λm5 m6 m7 m8=>?_;refine⟨cK oi (λi=>cK oj (λj=>if (0<=i/\i<=2)/\(-1<=j/\j<=0) then V "A" [i,j] else none) none) none,λv hv=>?_,λd hd=>⟨?_, ?_⟩⟩
 ·cases oi with
  | none=>exact du hv
  | some i=>
   induction oj with
   | none=>exact du hv
   | some j=>
    simp only[cK]at hv
    split at hv
    ·exact(H.val ("A",0) (by decide) _ _ hv).up
    ·exact du hv
 ·refine am (BH 2 2 hd) λd zd hd'=>?_;obtain rfl:=zd;have xq:=PQ (Nat.add_le_add_right hK 2) hd';refine PX (ch W (by decide) m1 m2) ?_;have hpl:=rR (k:=0) H hK hd' (show(nm "A",cy 0 2 0 [rg 0 2,rg (-1) 0])∈aC by simp[aC,cy]) I J
  induction oi with
  | none=>rw[ay hpl];rfl
  | some i=>
   induction oj with
   | none=>rw[ay hpl];rfl
   | some j=>
    have he:=Es (d:=d - 1) (Nat.le_sub_of_add_le (PQ (by decide) xq)) (I.1 i rfl) (J.1 j rfl);simp only[cK]at hpl;rw[cy]at he;rw[he]at hpl
    by_cases hr:(0<=i/\i<=2)/\(-1<=j/\j<=0)
    ·rw[PY hr]at hpl;rw[aE hpl];simp only[cK,PY hr];have e:(2:Int)+(i+(j+1)*3)=((2+(i+(j+1)*3)).toNat:Int):=(Int.toNat_of_nonneg (Int.add_nonneg (by decide) (Int.add_nonneg hr.1.1 (Int.mul_nonneg (Int.add_le_add_right hr.2.1 1:(0:Int)<=j+1) (by decide))))).symm;unfold cy;exact e ▸ (ig (PQ (by decide) xq) (.inl rfl) m3 m4 (by rw[m7.1];decide) (m7.2.2.2.1 i j hr.1.1 hr.1.2 hr.2.1 hr.2.2))
    ·rw[PZ hr]at hpl;rw[ay hpl];simp only[cK,PZ hr];rfl
 ·refine am (BH 1 3 hd) λd zd hd'=>?_;obtain rfl:=zd;replace hd':=PQ (Nat.add_le_add_left (by decide) K:K+1<=K+3) hd';have hs:=Eu (k:=0) hK hd' I J;have:=rT (w:=w) H (x:=("A",0)) (k:=0) (L:=.list [ix,iy]) (T:=cK oi (λi=>cK oj (λj=>if (0<=i/\i<=2)/\(-1<=j/\j<=0) then some [i,j] else none) none) none) (PQ (Nat.le_add_left 1 K) hd') (by decide) (by
   refine PX hs ?_
   induction oi with
   | none=>rfl
   | some i=>
    induction oj with
    | none=>rfl
    | some j=>
     simp only[cK]
     by_cases hr:(0<=i/\i<=2)/\(-1<=j/\j<=0)
     ·rw[PY hr,PY hr];rfl
     ·rw[PZ hr,PZ hr];rfl)
  refine PX this ?_
  induction oi with
  | none=>rfl
  | some i=>
   induction oj with
   | none=>rfl
   | some j=>
    simp only[cK]
    by_cases hr:(0<=i/\i<=2)/\(-1<=j/\j<=0)
    ·rw[PY hr,PY hr];rfl
    ·rw[PZ hr,PZ hr];rfl
variable{σ:St}{w:Int}{ro ho:D}{V:cx}
noncomputable def uy(f n:Nat)(s:Str):Str:=⟨(cut s.cps.toList f (f+n)).toArray⟩
theorem zz{C:List D}{a L f n:Nat}{t:Option Str}(h:cut C a (a+L)=i8 t L)(hf:f+n<=L):cut C (a+f) (a+f+n)=i8 (t.map (uy f n)) n:=by
 have e:cut C (a+f) (a+f+n)=cut (cut C a (a+L)) f (f+n):=by unfold cut;rw[List.drop_take,List.drop_drop,List.take_take];simp only[Nat.add_sub_cancel_left];rw[Nat.min_eq_left (Nat.le_sub_of_add_le (Nat.add_comm n f ▸ hf))]
 rw[e,h]
 induction t with
 | none=>simp only[i8,Option.map_none,cut];rw[List.drop_replicate,List.take_replicate,Nat.add_sub_cancel_left,Nat.min_eq_left (Nat.le_sub_of_add_le' hf)]
 | some s=>simp only[i8,Option.map_some,cut,uy];rw[<-List.map_drop,<-List.map_take]
noncomputable def fC:Option Int->D
 | none=>.none
 | some c=>.tup [.str (nm "const"),.int 0,.int c]
theorem rV(W:Wd σ w ro){d:Nat}{b:Option Int}(hd:4<=d):run d (nm "bound_of") [ro,fC b] σ=.ok ((b.map .int).getD .none) σ:=by
 refine am (ak hd) λd z1 hd'=>?_;obtain rfl:=z1;rw[tJ]
 induction b with
 | none=>simp only[hG,fC,i6,SM,if_true];rfl
 | some c=>have e:ae .Is (fC (some c)) .none=ret false:=rfl;simp only[hG,e,SM,Bool.false_eq_true,if_false];obtain⟨d,rfl⟩ : ∃ e,d=e+2:=⟨d - 2,by lia⟩;rw[show fC (some c)=.tup [.str (nm "const"),.int 0,.int c] from rfl,bz W (h:="eval_const") (by decide),iS];simp only[iR,SM,Er];rfl
theorem rb{α β:Type}(a:α)(f:α->M β):bnd (ret a) f=f a:=rfl
theorem pj{d:Nat}{a L:Int}{lo hi:Option Int}(hd:1<=d):run d (nm "sub_place") [cy 5 a L [],(lo.map .int).getD .none,(hi.map .int).getD .none]=if 1<=lo.getD 1/\lo.getD 1<=hi.getD L/\hi.getD L<=L then ret (cy 5 (a+lo.getD 1 - 1) (hi.getD L - lo.getD 1+1) []) else aP:=by
 refine am (ak hd) λd z2 _=>?_;obtain rfl:=z2;rw[qF];have eL:(bnd (ae .Is ((lo.map D.int).getD .none) .none) λc1=>if c1 then ret (D.int 1) else ret ((lo.map D.int).getD .none))=ret (.int (lo.getD 1)):=by induction lo <;> rfl
 have eH:(bnd (ae .Is ((hi.map D.int).getD .none) .none) λc3=>if c3 then subD (cy 5 a L []) (.int 2) else ret ((hi.map D.int).getD .none))=ret (.int (hi.getD L)):=by induction hi <;> rfl
 unfold jH;simp only[eL,rb,eH,rb];generalize lo.getD 1=f;generalize hi.getD L=g
 by_cases h1:f<1
 ·refine PX ?_ (Eq.symm (PZ (by lia)));walk_at "t"
 ·by_cases h2:g<f
  ·refine PX ?_ (Eq.symm (PZ (by lia)));walk_at "t"
  ·by_cases h3:L<g
   ·rw[PZ (by lia)];walk_at "t"
   ·rw[PY (by lia)];walk_at "t"
noncomputable def zA(call:Str->List D->M D)(Il t1 H7 t4:D):M Flow':=bnd (ae .Is t4 .none) λc5=>if c5 then ret (.ret .none) else bnd (bnd (bnd (call (nm "_law_places") []) λt6=>bnd (subD t1 (.int 2)) λt7=>subD t6 t7) λt8=>subD t8 (.int 2)) λt9=>bnd (bnd (bnd (subD H7 (.int 3)) λIS=>ae .Is IS .none) λIT=>if IT then ret (.int 1) else bnd (subD H7 (.int 3)) λIO=>subD IO (.int 2)) λIP=>bnd (bnd (bnd (subD H7 (.int 4)) λIu=>ae .Is Iu .none) λKy=>if Ky then ret t9 else bnd (subD H7 (.int 4)) λIR=>subD IR (.int 2)) λIK=>bnd (bnd (bnd (ae .LtE (.int 1) IP) λL8=>if L8 then bnd (ae .LtE IP IK) λKS=>if KS then ae .LtE IK t9 else ret false else ret false) λb19=>ret (!b19)) λM1=>if M1 then ret (.ret .none) else bnd (bnd (ah [ret Il,subD t1 (.int 2),ret t4]) λL4=>call (nm "_law_held") L4) λJr=>bnd (bnd (ae .Is Jr .none) λKx=>if Kx then ret (.none) else bnd (ag .Sub IP (.int 1)) λJw=>bu Jr Jw IK) λJL=>ret (.ret JL)
theorem rW{call:Str->List D->M D}{ho a b t1 c e w:D}:lD call ho (.tup [a,b,t1,c,e]) w=bnd (bnd (bnd (subD t1 (.int 0)) λt3=>ae .Eq t3 (.str (nm "var"))) λc2=>if c2 then ret ((.tup [])) else call (nm "_law_subscripts") [ho,t1,w]) λt4=>zA call ho t1 (.tup [a,b,t1,c,e]) t4:=by kernel_rfl
theorem zB(W:Wd σ w ro){K L iM:Nat}{cN:Str}{b:D}{loc:Option (Nat×List Int)}{lo hi:Option Int}(hK:12<=K)(m1:aB ro (nm "memory") σ=.ok (.inst cN iM) σ)(m2:a_ (.inst cN iM) (nm "load") σ=.ok (.user (nm "Memory.load")) σ)
  (pb:∀ d,K<=d->run d (nm "place_of") [ro,b] σ=loc.elim (.exc σ) λp=>.ok (cy 5 p.1 L []) σ) {d:Nat} (hd:K+5<=d) :
  run d (nm "evaluate") [ro,.tup [.str (nm "substr"),.int 5,b,fC lo,fC hi]] σ=loc.elim (.exc σ) λp=>if 1<=lo.getD 1/\lo.getD 1<=hi.getD L/\hi.getD L<=L then run (d - 2) (nm "Memory.load") [.inst cN iM,cy 5 (p.1+lo.getD 1 - 1) (hi.getD L - lo.getD 1+1) []] σ else .exc σ:=by
 obtain⟨d,rfl⟩ : ∃ e,d=e+4:=⟨d - 4,by lia⟩;refine PX (ch W (by decide) m1 m2) ?_;have d1:1<=d:=by lia
 have d4:4<=d:=by lia
 have hb:=pb d (by lia);have hl:=rV W (b:=lo) d4;have hh:=rV W (b:=hi) d4;have hpo:run (d+2) (nm "place_of") [ro,.tup [.str (nm "substr"),.int 5,b,fC lo,fC hi]] σ=loc.elim (.exc σ) λp=>(if 1<=lo.getD 1/\lo.getD 1<=hi.getD L/\hi.getD L<=L then ret (cy 5 (p.1+lo.getD 1 - 1) (hi.getD L - lo.getD 1+1) []) else aP) σ:=by
  rw[hJ];refine dy (rS rfl) (q8 (by decide) (pE ?_));rw[oH]
  induction loc with
  | none=>exact ay (ay (bd (bY (rS rfl) (bY (rS rfl) (rS rfl))) hb) _) _
  | some p=>have hs:=congrFun (pj (a:=(p.1:Int)) (L:=(L:Int)) (lo:=lo) (hi:=hi) d1) σ;exact dy (bd (bY (rS rfl) (bY (rS rfl) (rS rfl))) hb) (dy (bd (bY (rS rfl) (bY (rS rfl) (rS rfl))) hl) (pE (bd (bY (rS rfl) (bY (rS rfl) (bY (bd (bY (rS rfl) (bY (rS rfl) (rS rfl))) hh) (rS rfl)))) hs)))
 induction loc with
 | none=>rw[ay hpo];rfl
 | some p=>
  simp only[Option.elim_some]at hpo ⊢
  by_cases hc:1<=lo.getD 1/\lo.getD 1<=hi.getD L/\hi.getD L<=L
  ·rw[PY hc]at hpo ⊢;rw[aE hpo];rfl
  ·rw[PZ hc]at hpo ⊢;rw[ay hpo]
theorem gC:∀ q:List Int,dK (q.map .int)=some q
 | []=>rfl
 | a::q=>by show(dK (q.map .int)).map _=_;exact congrArg _ (gC q)
theorem BI(H:Md σ ro ho V){K L:Nat}{x:String}{b:D}{pa:Int}{pdims:List D}{loc:Option (Nat×List Int)}{lo hi:Option Int}(hK:12<=K)(hx:(x,5)∈bi)(hs:subD (.sdict aC) (.str (nm x))=ret (cy 5 pa L pdims))(hb2:subD b (.int 2)=ret (.str (nm x)))
  (lb:∀ d,K<=d->(bnd (bnd (subD b (.int 0)) λt3=>ae .Eq t3 (.str (nm "var"))) λc2=>if c2 then ret ((.tup [])) else run d (nm "_law_subscripts") [ho,b,.int w]) σ=.ok (loc.elim .none λp=>.tup (p.2.map .int)) σ) {d:Nat} (hd:K+5<=d) :
  run d (nm "_law_value") [ho,.tup [.str (nm "substr"),.int 5,b,fC lo,fC hi],.int w] σ=loc.elim (.ok .none σ) λp=>if 1<=lo.getD 1/\lo.getD 1<=hi.getD L/\hi.getD L<=L then bnd (ret ((V x p.2).getD .none)) (λJr=>bnd (ae .Is Jr .none) λKx=>if Kx then ret (.none) else bu Jr (.int (lo.getD 1 - 1)) (.int (hi.getD L))) σ else .ok .none σ:=by
 obtain⟨d,rfl⟩ : ∃ e,d=e+2:=⟨d - 2,by lia⟩;rw[bR];have e:bw (run (d+1)) ho (.tup [.str (nm "substr"),.int 5,b,fC lo,fC hi]) (.int w)=bnd (run (d+1) (nm "_law_part") [ho,.tup [.str (nm "substr"),.int 5,b,fC lo,fC hi],.int w]) λt=>ret (.ret t):=by kernel_rfl
 rw[e];refine pE ?_;rw[t_,rW];refine dy (lb d (by lia)) ?_
 induction loc with
 | none=>rfl
 | some p=>
  have q:=eM (d:=d) (by lia);have eL:(bnd (ae .Is (fC lo) .none) λIT=>if IT then ret (D.int 1) else bnd (subD (.tup [.str (nm "substr"),.int 5,b,fC lo,fC hi]) (.int 3)) λIO=>subD IO (.int 2))=ret (.int (lo.getD 1)):=by induction lo <;> rfl
  have eH:(bnd (ae .Is (fC hi) .none) λKy=>if Ky then ret (D.int L) else bnd (subD (.tup [.str (nm "substr"),.int 5,b,fC lo,fC hi]) (.int 4)) λIR=>subD IR (.int 2))=ret (.int (hi.getD L)):=by induction hi <;> rfl
  have hh:=ka (x:=(x,5)) (t:=p.2.map .int) (q:=p.2) H (show 1<=d by lia) hx (gC p.2);refine dy (rS rfl) (gJ Bool.false_ne_true (dy (rS (B1 (B1 q (B1 hb2 hs)) rfl)) (dy (rS eL) (dy (rS eH) ?_))));show _=if 1<=lo.getD 1/\lo.getD 1<=hi.getD L/\hi.getD L<=L then _ else _
  clear lb hs e q eL eH;generalize lo.getD 1=f;generalize hi.getD (L:Int)=g
  by_cases h1:1<=f
  ·by_cases h2:f<=g
   ·by_cases h3:g<=L
    ·rw[PY ⟨h1,h2,h3⟩];refine dy (a:=!decide (g<=(L:Int))) (rS (by walk_at "e")) (gJ (tF (nF (dT h3))) (dy (bd (bY (rS rfl) (bY (rS hb2) (bY (rS rfl) (rS rfl)))) hh) ?_));rw[ET rfl];rfl
    ·rw[PZ λq=>h3 q.2.2];exact dy (a:=!decide (g<=(L:Int))) (rS (by walk_at "e")) (q8 (nT (dF h3)) rfl)
   ·rw[PZ λq=>h2 q.2.1];exact dy (a:=true) (rS (by walk_at "e")) (q8 rfl rfl)
  ·rw[PZ λq=>h1 q.1];exact dy (a:=true) (rS (by walk_at "e")) (q8 rfl rfl)
theorem Dt{lo hi:Int}{L:Nat}(h1:1<=lo)(h2:lo<=hi)(h3:hi<=L):∃ f m:Nat,lo - 1=f/\hi - lo+1=m/\hi=((f+m:Nat):Int)/\f+m<=L/\1<=m:=by
 obtain⟨f,hf⟩:=Int.eq_ofNat_of_zero_le (Int.sub_nonneg_of_le h1);obtain⟨m,hm⟩:=Int.eq_ofNat_of_zero_le (Int.sub_nonneg_of_le h2);have e:hi=((f+(m+1):Nat):Int):=by lia
 exact⟨f,m+1,hf,congrArg (· + 1) hm,e,Int.ofNat_le.mp (e ▸ h3),Nat.le_add_left 1 m⟩
theorem zC{f m:Nat}{s:Str}(h:f+m<=s.length):(uy f m s).length=m:=by simp only[uy,Str.length,cut,List.size_toArray,List.length_take,List.length_drop,Array.length_toList,Nat.add_sub_cancel_left];exact Nat.min_eq_left (Nat.le_sub_of_add_le (Nat.add_comm f m ▸ h))
theorem zD(W:Wd σ w ro)(H:Md σ ro ho V){K n L:Nat}{x b0:String}{br:List D}{k:Int}{loc:Option (Nat×List Int)}{lo hi:Option Int}(hK:12<=K)(hx:(x,5)∈bi)(hL:L<=4)(hpl:∃ a dims,aa aC (nm x)=some (cy 5 a L dims))
  (pb:∀ d,K<=d->run d (nm "place_of") [ro,.tup (.str (nm b0)::.int k::.str (nm x)::br)] σ=loc.elim (.exc σ) λp=>.ok (cy 5 p.1 L []) σ)
  (lb:∀ d,K<=d->(bnd (bnd (subD (.tup (.str (nm b0)::.int k::.str (nm x)::br)) (.int 0)) λt3=>ae .Eq t3 (.str (nm "var"))) λc2=>if c2 then ret ((.tup [])) else run d (nm "_law_subscripts") [ho,.tup (.str (nm b0)::.int k::.str (nm x)::br),.int w]) σ=.ok (loc.elim .none λp=>.tup (p.2.map .int)) σ)
  (tx:∀ a q,loc=some (a,q)->∀ C,vA C V->Tx C a L (V x q)/\a+L<=10) :
  Ev σ w ro ho (K+5) (Val 5 n) (.tup [.str (nm "substr"),.int 5,.tup (.str (nm b0)::.int k::.str (nm x)::br),fC lo,fC hi]):=by
 obtain⟨cN,iM,iN,N,iC,C,m1,m2,m3,m4,m5,m6,m7,m8⟩:=H.mem;obtain⟨pa,pdims,hpl⟩:=hpl;have hs:subD (.sdict aC) (.str (nm x))=ret (cy 5 pa L pdims):=by show ac (aa aC (nm x))=_;exact congrArg _ hpl
 have ee:=λd (hd:K+5<=d)=>zB (lo:=lo) (hi:=hi) W hK m1 m2 pb hd;have el:=λd (hd:K+5<=d)=>BI (w:=w) (lo:=lo) (hi:=hi) H hK hx hs rfl lb hd;generalize D.tup [.str (nm "substr"),.int 5,.tup (.str (nm b0)::.int k::.str (nm x)::br),fC lo,fC hi]=T at ee el ⊢;clear pb lb hs hpl
 induction loc with
 | none=>exact⟨none,nofun,λd hd=>⟨by exact(ee d hd),by exact(el d hd)⟩⟩
 | some p=>
  obtain⟨a,q⟩:=p;obtain⟨⟨t,t1,t2,t3⟩,haL⟩:=tx a q rfl C m8
  by_cases hc:1<=lo.getD 1/\lo.getD 1<=hi.getD L/\hi.getD L<=L
  ·obtain⟨h1,h2,h3⟩:=hc;obtain⟨f,m,hf,hm,hg,hfm,hm1⟩:=Dt h1 h2 h3;have hsub:=zz t3 hfm;have hlen:∀ s,t=some s->(uy f m s).length=m:=λs hs=>by exact zC ((t2 s hs).1.symm ▸ hfm)
   refine⟨(t.map (uy f m)).map .str,λv hv=>?_,λd hd=>⟨?_, ?_⟩⟩
   ·cases t with
    | none=>exact du hv
    | some s=>cases hv;refine .str ?_;have:1<=2 ^ n:=Nat.one_le_two_pow;rw[hlen s rfl];lia
   ·refine PX (ee d hd) ?_;simp only[Option.elim_some];refine PX (PY ⟨h1,h2,h3⟩) ?_;have e1:(a:Int)+lo.getD 1 - 1=((a+f:Nat):Int):=(Int.add_sub_assoc ..).trans (congrArg ((a:Int) + ·) hf);unfold cy;rw[e1,hm];refine il (Nat.le_sub_of_add_le (PQ (by decide:3+2<=12+5) (PQ (Nat.add_le_add_right hK 5) hd))) m5 m6 (by rw[m8.1];decide) hm1 (by simp only[m8.1,Nat.add_assoc];exact PQ (Nat.add_le_add_left hfm a) haL) hsub λs hs c hcm=>?_
    induction t with
    | none=>exact du hs
    | some s'=>cases hs;refine(t2 s' rfl).2 c ?_;simp only[uy,cut]at hcm;exact List.mem_of_mem_drop (List.mem_of_mem_take hcm)
   ·refine PX (el d hd) ?_;simp only[Option.elim_some];refine PX (PY ⟨h1,h2,h3⟩) ?_;rw[t1,hf]
    induction t with
    | none=>rfl
    | some s=>
     have hi0:ae .Is (.str s) .none=ret false:=rfl;have hl:=(t2 s rfl).1;simp only[Option.map_some,Option.getD_some,SM,hi0,Bool.false_eq_true,if_false];rw[hg];have l1:ao s.length=true:=decide_eq_true (by rw[hl];exact PQ hL (by decide));have l2:iu (.int (f:Int)) (.int ((f+m:Nat):Int)) s.length=some (f,f+m):=by show(if 0<=(f:Int)/\0<=((f+m:Nat):Int) then some (min f s.length,min (f+m) s.length) else none)=_;refine(PY ⟨Int.natCast_nonneg f,Int.natCast_nonneg _⟩).trans ?_;rw[hl];exact congrArg some (Prod.ext (Nat.min_eq_left (PQ (Nat.le_add_right f m) hfm)) (Nat.min_eq_left hfm))
     show(if ao s.length=true then bnd (ac (iu (.int (f:Int)) (.int ((f+m:Nat):Int)) s.length)) λ(a,b)=>ret (D.str ⟨(cut s.cps.toList a b).toArray⟩) else stuck) σ=_;rw[l1,l2,PY rfl];rfl
  ·exact⟨none,nofun,λd hd=>⟨by refine PX (ee d hd) ?_;simp only[Option.elim_some];exact(PZ hc),by refine PX (el d hd) ?_;simp only[Option.elim_some];exact(PZ hc)⟩⟩
variable{σ:St}{w:Int}{ro ho:D}{V:cx}
inductive vB:D->Prop
 | var:vB (.tup [.str (nm "var"),.int 0,.str (nm "I")])
 | const {c:Int}:c.natAbs<=2048->vB (.tup [.str (nm "const"),.int 0,.int c])
inductive jW:Int->D->Prop
 | const {k:Int} {v:D}:Val k 0 v->jW k (.tup [.str (nm "const"),.int k,v])
 | vI:jW 0 (.tup [.str (nm "var"),.int 0,.str (nm "I")])
 | vJ:jW 0 (.tup [.str (nm "var"),.int 0,.str (nm "J")])
 | vX:jW 1 (.tup [.str (nm "var"),.int 1,.str (nm "X")])
 | vL:jW 4 (.tup [.str (nm "var"),.int 4,.str (nm "L")])
 | vC:jW 5 (.tup [.str (nm "var"),.int 5,.str (nm "C")])
 | eA {ix iy:D}:vB ix->vB iy->jW 0 (.tup [.str (nm "elem"),.int 0,.str (nm "A"),.list [ix,iy]])
 | eB {ix:D}:vB ix->jW 1 (.tup [.str (nm "elem"),.int 1,.str (nm "B"),.list [ix]])
 | eD {ix:D}:vB ix->jW 5 (.tup [.str (nm "elem"),.int 5,.str (nm "D"),.list [ix]])
inductive Tree:Int->Nat->D->Prop
 | leaf {k:Int} {n:Nat} {t:D}:jW k t->Tree k n t
 | not {n:Nat} {a:D}:Tree 4 n a->Tree 4 (n+1) (.tup [.str (nm "not"),.int 4,a])
 | log {n:Nat} {x:String} {a b:D}:x∈["and","or","eqv","neqv"]->Tree 4 n a->Tree 4 n b->Tree 4 (n+1) (.tup [.str (nm x),.int 4,a,b])
 | rel {n:Nat} {x:String} {k:Int} {a b:D}:x∈rels->(k=0\/k=1\/k=5)->Tree k n a->Tree k n b->Tree 4 (n+1) (.tup [.str (nm x),.int 4,a,b])
 | cat {n:Nat} {a b:D}:Tree 5 n a->Tree 5 n b->Tree 5 (n+1) (.tup [.str (nm "cat"),.int 5,a,b])
 | subC {n:Nat} {lo hi:Option Int}:Tree 5 n (.tup [.str (nm "substr"),.int 5,.tup [.str (nm "var"),.int 5,.str (nm "C")],fC lo,fC hi])
 | subD {n:Nat} {ix:D} {lo hi:Option Int}:vB ix->Tree 5 n (.tup [.str (nm "substr"),.int 5,.tup [.str (nm "elem"),.int 5,.str (nm "D"),.list [ix]],fC lo,fC hi])
 | neg {n:Nat} {k:Int} {a:D}:(k=0\/k=1)->Tree k n a->Tree k (n+1) (.tup [.str (nm "neg"),.int k,a])
 | conv1 {n:Nat} {a:D}:Tree 0 n a->Tree 1 (n+1) (.tup [.str (nm "conv"),.int 1,a])
 | conv0 {n:Nat} {a:D}:Tree 1 n a->Tree 0 (n+1) (.tup [.str (nm "conv"),.int 0,a])
 | int {n:Nat} {x:String} {a b:D}:x∈["add","sub","mul","div","powi"]->Tree 0 n a->Tree 0 n b->Tree 0 (n+1) (.tup [.str (nm x),.int 0,a,b])
 | real {n:Nat} {x:String} {a b:D}:x∈["add","sub","mul","div"]->Tree 1 n a->Tree 1 n b->Tree 1 (n+1) (.tup [.str (nm x),.int 1,a,b])
theorem Tree.shape{k:Int}{n:Nat}{t:D}(h:Tree k n t):∃ a r,t=.tup (a::.int k::r):=by
 induction h with
 | leaf h=>induction h <;> exact⟨_,_,rfl⟩
 | _=>exact⟨_,_,rfl⟩
theorem Ev.mono{K K':Nat}{P:D->Prop}{t:D}(h:Ev σ w ro ho K P t)(e:K<=K'):Ev σ w ro ho K' P t:=by refine am h λo p q=>?_;exact⟨o,p,λd hd=>q d (by lia)⟩
theorem rX(W:Wd σ w ro)(H:Md σ ro ho V){ix:D}(h:vB ix):∃ oi,xf σ w ro ho 12 ix oi:=by
 induction h with
 | var=>exact(Et W H (n:=0) (Nat.le_refl _)).int
 | const hc=>exact(rP W (n:=0) (Nat.le_refl _) (.int hc)).int
theorem BJ(W:Wd σ w ro)(H:Md σ ro ho V){n:Nat}{lo hi:Option Int}:Ev σ w ro ho 17 (Val 5 n) (.tup [.str (nm "substr"),.int 5,.tup [.str (nm "var"),.int 5,.str (nm "C")],fC lo,fC hi]):=by
 refine zD W H (x:="C") (L:=4) (loc:=some (0,[])) (K:=12) (Nat.le_refl _) (by decide) (by decide) ⟨0,[],by kernel_rfl⟩ (λd hd=>?_) (λd hd=>?_) (λa q h C hC=>?_)
 ·exact jv H (p:=[.int 5,.int 0,.int 4,.tup []]) (by lia) (by simp[aC,cy])
 ·dsimp only[SM,SI,SF,Dn];rfl
 ·cases h;exact⟨hC.2.1,by decide⟩
theorem BK(W:Wd σ w ro)(H:Md σ ro ho V){n:Nat}{ix:D}{lo hi:Option Int}(h:vB ix):Ev σ w ro ho 19 (Val 5 n) (.tup [.str (nm "substr"),.int 5,.tup [.str (nm "elem"),.int 5,.str (nm "D"),.list [ix]],fC lo,fC hi]):=by
 refine PU (rX W H h) λoi I=>?_;refine zD W H (x:="D") (L:=3) (loc:=cK oi (λi=>if 2<=i/\i<=3 then some ((4+(i - 2)*3).toNat,[i]) else none) none) (K:=14) (by decide) (by decide) (by decide) ⟨4,[rg 2 3],by kernel_rfl⟩ (λd hd=>?_) (λd hd=>?_) (λa q h C hC=>?_)
 ·have hd12:12+2<=d:=PQ (by decide) hd;have hpl:=jJ (k:=5) H (Nat.le_refl 12) hd12 (show(nm "D",cy 5 4 3 [rg 2 3])∈aC by simp[aC,cy]) I;refine PX hpl ?_
  induction oi with
  | none=>rfl
  | some i=>
   simp only[cK];have hb:=I.1 i rfl;have he:=zt (d:=d - 1) (k:=5) (a:=4) (l:=3) (lo:=2) (hi:=3) (i:=i) (u:=3) (Nat.le_sub_of_add_le (PQ (by decide) hd12)) (de hb (by decide)) (λe he=>Cm he) (λq h1 h2 h3=>⟨h3 ▸ de hb (by decide),by decide +kernel⟩) (by decide +kernel);simp only[cy]at he;rw[he]
   by_cases hr:2<=i/\i<=3
   ·rw[PY hr,PY hr];simp only[Option.elim_some];have e:(4:Int)+(i - 2)*3=((4+(i - 2)*3).toNat:Int):=lZ (by decide) (by decide) hr.1;exact(Eq.symm e) ▸ rfl
   ·rw[PZ hr,PZ hr];rfl
 ·dsimp only[SM,SI,SF,Dn,String.reduceEq,decide_false,Bool.false_eq_true,if_false];have hs:=Cn (k:=5) (Nat.le_refl 12) (PQ (by decide) hd:12+1<=d) (show aa aC (nm "D")=some (cy 5 4 3 [rg 2 3]) by kernel_rfl) I;refine PX hs ?_
  induction oi with
  | none=>rfl
  | some i=>
   simp only[cK];rcases P_ (2<=i/\i<=3) with hr | hr
   ·rw[PY hr,PY hr];rfl
   ·rw[PZ hr,PZ hr];rfl
 ·induction oi with
  | none=>injection h
  | some i=>
   simp only[cK]at h;refine PW (P_ (2<=i/\i<=3)) (λhr=>?_) λhr=>?_
   ·replace h:=(PY hr) ▸ h;cases h;exact⟨hC.2.2 i hr.1 hr.2,Nat.add_le_add_right (Nat.le_of_lt_succ (zu (n:=8) (by decide) hr.2 (by decide) (by decide))) 3⟩
   ·exact du ((PZ hr) ▸ h)
theorem BL(W:Wd σ w ro)(H:Md σ ro ho V){k:Int}{n:Nat}{t:D}(h:jW k t):Ev σ w ro ho 20 (Val k n) t:=by
 induction h with
 | const h=>exact(rP W (Nat.le_refl 12) h).mono (by lia)
 | vI=>exact Et W H (by lia)
 | vJ=>exact Fd W H (by lia)
 | vX=>exact Fe W H (by lia)
 | vL=>exact Ff W H (by lia)
 | vC=>exact Fg W H (by lia)
 | eA h1 h2=>obtain⟨oi,I⟩:=rX W H h1;refine PU (rX W H h2) λoj J=>?_;exact(Fj W H (Nat.le_refl 12) I J).mono (by lia)
 | eB h1=>obtain⟨oi,I⟩:=rX W H h1;exact(Fh W H (Nat.le_refl 12) I).mono (by lia)
 | eD h1=>obtain⟨oi,I⟩:=rX W H h1;exact(Fi W H (Nat.le_refl 12) I).mono (by lia)
theorem BM(W:Wd σ w ro)(H:Md σ ro ho V){k:Int}{n:Nat}{t:D}(h:Tree k n t):n<=3->Ev σ w ro ho (20+2*n) (Val k n) t:=by
 induction h with
 | leaf h=>exact λ_=>(BL W H h).mono (by lia)
 | not _ ih=>exact λhn=>(zr W (by lia) (ih (by lia))).mono (by lia)
 | log hx _ _ ia ib=>exact λhn=>(zk W (by lia) hx (ia (by lia)) (ib (by lia))).mono (by lia)
 | rel hx hk ha _ ia ib=>intro hn;refine gD ha.shape λa1 ra z1=>?_;obtain rfl:=z1;exact(zl W (by lia) (by lia) hx hk (ia (by lia)) (ib (by lia))).mono (by lia)
 | cat _ _ ia ib=>exact λhn=>(zm W (by lia) (by lia) (ia (by lia)) (ib (by lia))).mono (by lia)
 | subC=>exact λ_=>(BJ W H).mono (by lia)
 | subD h=>exact λ_=>(BK W H h).mono (by lia)
 | neg hk _ ih=>
  intro hn;rcases hk with rfl | rfl
  ·exact(xc W (by lia) (ih (by lia))).mono (by lia)
  ·exact(xd W (by lia) (by lia) (ih (by lia))).mono (by lia)
 | conv1 ha ih=>intro hn;refine gD ha.shape λa1 ra z2=>?_;obtain rfl:=z2;exact(uw W (by lia) (by lia) (ih (by lia))).mono (by lia)
 | conv0 ha ih=>intro hn;refine gD ha.shape λa1 ra z3=>?_;obtain rfl:=z3;exact(ux W (by lia) (by lia) (ih (by lia))).mono (by lia)
 | int hx _ _ ia ib=>exact λhn=>(zo W (by lia) hx (ia (by lia)) (ib (by lia))).mono (by lia)
 | real hx _ _ ia ib=>exact λhn=>(xb W (by lia) (by lia) hx (ia (by lia)) (ib (by lia))).mono (by lia)
noncomputable def Pool(p:Nat)(σ:St):Prop:=∃ ns:List Int,σ[p]?=some (.list (ns.map .int))/\ns.length<=24/\∀ n∈ns,0<=n/\n<10 ^ 60
noncomputable def Same(p:Nat)(σ σ':St):Prop:=σ'.length=σ.length/\∀ i,i≠p->σ'[i]?=σ[i]?
noncomputable def Gen{α:Type}(p:Nat)(m:M α)(P:α->Prop):Prop:=∀ σ,Pool p σ->∃ a σ',m σ=.ok a σ'/\P a/\Pool p σ'/\Same p σ σ'
theorem Same.refl(p:Nat)(σ:St):Same p σ σ:=⟨rfl,λ_ _=>rfl⟩
theorem Same.trans{p:Nat}{σ σ' σ'':St}(h:Same p σ σ')(h':Same p σ' σ''):Same p σ σ'':=⟨h'.1.trans h.1,λi hi=>(h'.2 i hi).trans (h.2 i hi)⟩
theorem Gen.ret{α:Type}{p:Nat}{a:α}{P:α->Prop}(h:P a):Gen p (Mine.ret a) P:=λσ hσ=>⟨a,σ,rfl,h,hσ,.refl _ _⟩
theorem Gen.bnd{α β:Type}{p:Nat}{m:M α}{f:α->M β}{P:α->Prop}{Q:β->Prop}(h:Gen p m P)(hf:∀ a,P a->Gen p (f a) Q):Gen p (Mine.bnd m f) Q:=λσ hσ=>by refine aH (h σ hσ) λa σ' e pa g s=>?_;refine aH (hf a pa σ' g) λb σ'' e' pb g' s'=>?_;exact⟨b,σ'',by rw[aE e];exact e',pb,g',s.trans s'⟩
theorem Gen.mono{α:Type}{p:Nat}{m:M α}{P Q:α->Prop}(h:Gen p m P)(hp:∀ a,P a->Q a):Gen p m Q:=λσ hσ=>by refine aH (h σ hσ) λa σ' e pa g s=>?_;exact⟨a,σ',e,hp a pa,g,s⟩
theorem Gen.ite{α:Type}{p:Nat}{c:Prop}[Decidable c]{a b:M α}{P:α->Prop}(ha:c->Gen p a P)(hb:¬ c->Gen p b P):Gen p (if c then a else b) P:=by
 split
 ·exact ha ‹_›
 ·exact hb ‹_›
theorem uz{σ:St}{p:Nat}{c c':Cell}(h:σ[p]?=some c):(σ.set p c')[p]?=some c':=by have:=(List.getElem?_eq_some_iff.mp h).1;exact(List.getElem?_set_self this)
theorem rY(p:Nat)(σ:St)(c:Cell):Same p σ (σ.set p c):=⟨List.length_set ..,λi hi=>List.getElem?_set_ne (Ne.symm hi)⟩
noncomputable def FZ(many:Int)(v:D):Prop:=∃ i:Int,v=.int i/\0<=i/\i<many
theorem dW{p d:Nat}{many:Int}(hd:1<=d)(hm:0<many)(hm':many<=1000):Gen p (run d (nm "_law_take") [.ref p,.int many]) (FZ many):=by
 refine am (ak hd) λd z1 _=>?_;obtain rfl:=z1;intro σ hσ;refine bk hσ λns h1 h2 h3=>?_;rw[tO];have hl:=vq h1 (by simp;lia)
 induction ns using List.casesOn with
 | nil=>refine⟨.int 0,σ, ?_,⟨0,rfl,by decide,hm⟩,⟨[],h1,h2,h3⟩,.refl _ _⟩;walk_at "u"
 | cons n ns=>
  obtain⟨n0,n60⟩:=h3 n List.mem_cons_self;have fm:fits many=true:=aN (bZ (k:=4) (by decide) (PS (yS (n:=1000) (Int.le_trans (by decide) (Int.le_of_lt hm)) hm') (by decide)));have hm0:many≠0:=Int.ne_of_gt hm;have fn:fits n=true:=aN (bZ (k:=60) (by decide) (by lia));have hns:ns.length<=100:=by simp at h2;lia
  have s0:∀ {σ':St} {v:D},σ'[p]?=some (.list (v::ns.map .int))->subD (.ref p) (.int 0) σ'=.ok v σ':=λ{σ' v} h=>vr (a:=0) h rfl (by simp;lia);have e0:subD (.ref p) (.int 0) σ=.ok (.int n) σ:=s0 h1;have q0:0<=n.fdiv many:=by rw[Int.fdiv_eq_ediv_of_nonneg _ (Int.le_of_lt hm)];exact Int.ediv_nonneg n0 (Int.le_of_lt hm)
  have q1:n.fdiv many<=n:=by rw[Int.fdiv_eq_ediv_of_nonneg _ (Int.le_of_lt hm)];exact Int.ediv_le_self _ n0
  have r0:=Int.fmod_nonneg_of_pos n hm;have r1:=Int.fmod_lt_of_pos n hm;have hset:cM (.ref p) (.int 0) (.int (n.fdiv many)) σ=.ok () (σ.set p (.list (.int (n.fdiv many)::ns.map .int))):=by refine bd (aS h1) (Eg ⟨by decide,Nat.succ_pos _, ?_⟩ rfl);unfold ao;simp;lia
  have h1':=uz (c':=.list (.int (n.fdiv many)::ns.map .int)) h1;have sm1:=rY p σ (.list (.int (n.fdiv many)::ns.map .int));generalize σ.set p (.list (.int (n.fdiv many)::ns.map .int))=σ2 at *
  have e0':=s0 h1';rcases P_ (n.fdiv many=0) with hz | hz
  ·have hp:a_ (.ref p) (nm "pop") σ2=.ok .pop σ2:=bd (aS h1') rfl;have hmm:be (run d) (.ref p) .pop [.int 0] σ2=.ok (.int (n.fdiv many)) (σ2.set p (.list (ns.map .int))):=bd (aS h1') (Eg (by unfold ao;simp;lia) rfl);refine⟨.int (n.fmod many),σ2.set p (.list (ns.map .int)), ?_,⟨_,rfl,r0,r1⟩,⟨ns,uz h1',Nat.le_of_succ_le h2,λm hm=>h3 m (.tail _ hm)⟩,sm1.trans (rY ..)⟩;clear h1 h2 h3 n0 n60 hns s0 q0 q1 r0 r1 sm1 h1';walk_at "u"
  ·refine⟨.int (n.fmod many),σ2, ?_,⟨_,rfl,r0,r1⟩,⟨n.fdiv many::ns,h1',h2,λm hm=>?_⟩,sm1⟩
   ·clear h1 h2 h3 n0 n60 hns s0 q0 q1 r0 r1 sm1 h1';walk_at "u"
   ·rcases P9 hm with rfl | hm
    ·exact⟨q0,by lia⟩
    ·exact h3 m (.tail _ hm)
theorem Gen.is{α:Type}{p:Nat}{m m':M α}{P:α->Prop}(e:m=m')(h:Gen p m' P):Gen p m P:=e ▸ h
theorem GA{α β γ:Type}{p:Nat}{m:M α}{f:α->M β}{g:β->M γ}{Q:γ->Prop}(h:Gen p (Mine.bnd m λa=>Mine.bnd (f a) g) Q):Gen p (Mine.bnd (Mine.bnd m f) g) Q:=.is (lE m f g) h
theorem Gi{p:Nat}{m:M Flow'}{P:D->Prop}(h:Gen p (aq m) P):Gen p (aq m) P:=h
theorem GE{α:Type}{p:Nat}{m:M α}{f:α->M Flow'}{Q:D->Prop}(h:Gen p (Mine.bnd m λa=>aq (f a)) Q):Gen p (aq (Mine.bnd m f)) Q:=.is (e9 m f) h
theorem GT{p:Nat}{m:M D}{Q:D->Prop}(h:Gen p m Q):Gen p (aq (Mine.bnd m λt=>Mine.ret (.ret t))) Q:=.is (ET rfl) h
theorem G1{α β:Type}{p:Nat}{m:M α}{f:α->M β}{a:α}{Q:β->Prop}(e:m=Mine.ret a)(h:Gen p (f a) Q):Gen p (Mine.bnd m f) Q:=.is (B1 e rfl) h
theorem gT{α:Type}{p:Nat}{c:Prop}[Decidable c]{A B:M α}{Q:α->Prop}(e:c)(h:Gen p A Q):Gen p (if c then A else B) Q:=.is (PY e) h
theorem gF{α:Type}{p:Nat}{c:Prop}[Decidable c]{A B:M α}{Q:α->Prop}(e:¬ c)(h:Gen p B Q):Gen p (if c then A else B) Q:=.is (PZ e) h
theorem Gj{p:Nat}{c:Prop}[Decidable c]{A B:M Flow'}{Q:D->Prop}(e:c)(h:Gen p (aq A) Q):Gen p (aq (if c then A else B)) Q:=.is (congrArg aq (PY e)) h
theorem Gk{p:Nat}{c:Prop}[Decidable c]{A B:M Flow'}{Q:D->Prop}(e:¬ c)(h:Gen p (aq B) Q):Gen p (aq (if c then A else B)) Q:=.is (congrArg aq (PZ e)) h
theorem gO{α:Type}{p:Nat}{b:Bool}{x:M Bool}{g:Bool->M α}{Q:α->Prop}(e:b=false)(h:Gen p (Mine.bnd x g) Q):Gen p (Mine.bnd (bj .Or b x) g) Q:=.is (by subst e;rfl) h
theorem gN{α:Type}{p:Nat}{b:Bool}{x:M Bool}{g:Bool->M α}{Q:α->Prop}(e:b=true)(h:Gen p (Mine.bnd x g) Q):Gen p (Mine.bnd (bj .And b x) g) Q:=.is (by rw[e];rfl) h
theorem gt{β:Type}{p d:Nat}{many:Int}{f:D->M β}{Q:β->Prop}(hd:1<=d)(hm:0<many)(hm':many<=1000)(h:∀ j:Int,0<=j->j<many->Gen p (f (.int j)) Q):Gen p (Mine.bnd (run d (nm "_law_take") [.ref p,.int many]) f) Q:=
 .bnd (dW hd hm hm') λ_ ⟨j,e,h0,h1⟩=>e ▸ h j h0 h1
theorem F1{α β:Type}{p:Nat}{c:Prop}[Decidable c]{A B:M α}{f:α->M β}{Q:β->Prop}(e:c)(h:Gen p (Mine.bnd A f) Q):Gen p (Mine.bnd (if c then A else B) f) Q:=.is (by rw[PY e]) h
theorem Gl{α β:Type}{p:Nat}{c:Prop}[Decidable c]{A B:M α}{f:α->M β}{Q:β->Prop}(e:¬ c)(h:Gen p (Mine.bnd B f) Q):Gen p (Mine.bnd (if c then A else B) f) Q:=.is (by rw[PZ e]) h
theorem F6{j:Int}(h0:0<=j)(h1:j<2):j=0\/j=1:=by refine PU (Int.eq_ofNat_of_zero_le h0) λn e=>?_;subst e;exact(by decide:∀ n:Nat,n<2->((n:Int)=0\/(n:Int)=1)) n (Int.ofNat_lt.mp h1)
theorem EL{j:Int}(h0:0<=j)(h1:j<3):j=0\/j=1\/j=2:=by refine PU (Int.eq_ofNat_of_zero_le h0) λn e=>?_;subst e;exact(by decide:∀ n:Nat,n<3->((n:Int)=0\/(n:Int)=1\/(n:Int)=2)) n (Int.ofNat_lt.mp h1)
theorem Ew{j:Int}(h0:0<=j)(h1:j<4):j=0\/j=1\/j=2\/j=3:=by refine PU (Int.eq_ofNat_of_zero_le h0) λn e=>?_;subst e;exact(by decide:∀ n:Nat,n<4->((n:Int)=0\/(n:Int)=1\/(n:Int)=2\/(n:Int)=3)) n (Int.ofNat_lt.mp h1)
theorem F8{j:Int}(h0:0<=j)(h1:j<6):j=0\/j=1\/j=2\/j=3\/j=4\/j=5:=by refine PU (Int.eq_ofNat_of_zero_le h0) λn e=>?_;subst e;exact(by decide:∀ n:Nat,n<6->((n:Int)=0\/(n:Int)=1\/(n:Int)=2\/(n:Int)=3\/(n:Int)=4\/(n:Int)=5)) n (Int.ofNat_lt.mp h1)
theorem pn{p:Nat}{x y:D}{m:M D}{P Q:D->Prop}(h:Gen p m P)(k:∀ a,P a->Q (.tup [x,y,a])):Gen p (aI [ret x,ret y,m]) Q:=
 .is (m':=bnd m λa=>ret (.tup [x,y,a])) (by simp only[aI,ah,SM];rfl) (.bnd h λa ha=>.ret (k a ha))
theorem xh{p:Nat}{x y:D}{m m':M D}{P P' Q:D->Prop}(h:Gen p m P)(h':Gen p m' P')(k:∀ a b,P a->P' b->Q (.tup [x,y,a,b])):Gen p (aI [ret x,ret y,m,m']) Q:=
 .is (m':=bnd m λa=>bnd m' λb=>ret (.tup [x,y,a,b])) (by simp only[aI,ah,SM];rfl) (.bnd h λa ha=>.bnd h' λb hb=>.ret (k a b ha hb))
theorem Du{p:Nat}{x y z:D}{m m':M D}{P Q:D->Prop}(e:m=ret z)(h:Gen p m' P)(k:∀ a,P a->Q (.tup [x,y,z,a])):Gen p (aI [ret x,ret y,m,m']) Q:=
 .is (m':=bnd m' λa=>ret (.tup [x,y,z,a])) (by subst e;simp only[aI,ah,SM];rfl) (.bnd h λa ha=>.ret (k a ha))
theorem nC{p d:Nat}(hd:2<=d):Gen p (run d (nm "_law_number") [.ref p]) (λv=>∃ i:Int,v=.int i/\i.natAbs<=110):=by
 refine am (ak hd) λd z1 hd'=>?_;obtain rfl:=z1;rw[oO];walk_at "g";refine gt hd' (by decide) (by decide) λi h0 h1=>?_;walk_at "g";refine gt hd' (by decide) (by decide) λj g0 g1=>?_;have hi:(i - 11).natAbs<=11:=yS (n:=11) (Int.sub_le_sub_right h0 11) (Int.sub_le_sub_right (show i<=22 from Int.le_of_lt_add_one h1) 11);have fi:fits (i - 11)=true:=aN (bZ (k:=4) (by decide) (PS hi (by decide)));obtain⟨t,e,ht⟩ : ∃ t:Int,subD (.tup [.int 1,.int 1,.int 1,.int 10]) (.int j)=ret (.int t)/\(t=1\/t=10):=by
  obtain rfl | rfl | rfl | rfl:=Ew g0 g1
  all_goals exact⟨_,rfl,by decide⟩
 have ft:fits t=true:=by
  rcases ht with rfl | rfl
  ·exact f1
  ·exact mG
 exact G1 e (G1 (oR fi ft) (Gen.ret (a:=D.int ((i - 11)*t)) ⟨_,rfl,PQ (PT (Int.natAbs_mul _ _)) (Nat.mul_le_mul hi (ht.elim (λq=>q ▸ by decide) λq=>q ▸ (by decide:(10:Int).natAbs<=10)))⟩))
theorem i9{d:Nat}{n:Int}{u:Nat}{c:Int}(hd:1<=d)(hn:n.natAbs<=110)(hu:0<u)(hu':u<=100)(hc:c*u=100)(hc':c.natAbs<=100):∃ r,Rl 3 r/\run d (nm "_law_fit") [.int n,.int u,.int 3]=ret (pr r):=by
 have hb:(n*c).natAbs<=11000:=by
  rw[Int.natAbs_mul]
  calc n.natAbs*c.natAbs<=110*100:=Nat.mul_le_mul hn hc'
   _=11000:=rfl
 have h5:cd (n*c).natAbs<=5:=bl (by lia);refine⟨bo (n*c) (-2),oZ (by decide) (by lia),gz hd hu (by lia) (by lia) (pl:=0) (nl:=2) (rfl) ?_⟩;simp only[Int.pow_zero,Int.mul_one,Int.mul_assoc,hc];rfl
theorem BN{p d:Nat}(hd:3<=d):Gen p (run d (nm "_law_real") [.ref p]) (λv=>∃ r,v=pr r/\Rl 3 r):=by
 refine am (ak hd) λd z2 hd'=>?_;obtain rfl:=z2;rw[tP];simp only[ly,SM];refine Gen.bnd (nC hd') λv hv=>?_;refine am hv λn z3 hn=>?_;obtain rfl:=z3;refine Gen.bnd (dW (by lia) (by decide) (by decide)) λv hv=>?_;refine bk hv λj z4 g0 g1=>?_;obtain rfl:=z4;obtain rfl | rfl | rfl | rfl:=Ew (j:=j) (by assumption) (by assumption)
 ·refine am (i9 (d:=d) (n:=n) (u:=1) (c:=100) (by lia) hn (by decide) (by decide) (rfl) (by decide)) λr hr e=>?_;simp only[Dn,SM];rw[show(1:Int)=((1:Nat):Int) from rfl,e];exact Gen.ret ⟨r,rfl,hr⟩
 ·refine am (i9 (d:=d) (n:=n) (u:=4) (c:=25) (by lia) hn (by decide) (by decide) (rfl) (by decide)) λr hr e=>?_;simp only[Do,SM];rw[show(4:Int)=((4:Nat):Int) from rfl,e];exact Gen.ret ⟨r,rfl,hr⟩
 ·refine am (i9 (d:=d) (n:=n) (u:=10) (c:=10) (by lia) hn (by decide) (by decide) (rfl) (by decide)) λr hr e=>?_;simp only[Er,SM];rw[show(10:Int)=((10:Nat):Int) from rfl,e];exact Gen.ret ⟨r,rfl,hr⟩
 ·refine am (i9 (d:=d) (n:=n) (u:=100) (c:=1) (by lia) hn (by decide) (by decide) (rfl) (by decide)) λr hr e=>?_;simp only[Fb,SM];rw[show(100:Int)=((100:Nat):Int) from rfl,e];exact Gen.ret ⟨r,rfl,hr⟩
noncomputable def FL(m:Nat)(v:D):Prop:=∃ s:Str,v=.str s/\s.length<=m/\∀ c∈s.cps.toList,c<128
theorem BO{j:Int}(h0:0<=j)(h1:j<4):∃ c,c<128/\subD (.str (nm " AB0")) (.int j)=ret (.str ⟨#[c]⟩):=by
 obtain rfl | rfl | rfl | rfl:=Ew (j:=j) (by assumption) (by assumption)
 ·exact⟨32,by decide,by kernel_rfl⟩
 ·exact⟨65,by decide,by kernel_rfl⟩
 ·exact⟨66,by decide,by kernel_rfl⟩
 ·exact⟨48,by decide,by kernel_rfl⟩
theorem nD{p d:Nat}(hd:1<=d):∀ (items:List D) (l:List Nat),l.length+items.length<=10->(∀ c∈l,c<128) →
  Gen p (aM (λd7 KA=>bnd (run d (nm "_law_take") [.ref p,.int 4]) λt9=>bnd (subD (.str (nm " AB0")) t9) λIL=>if ao (KA).length then ret (KA++[IL]) else stuck) items (l.map λc=>.str ⟨#[c]⟩)) (λv=>∃ l':List Nat,v=l'.map (λc=>D.str ⟨#[c]⟩)/\l'.length=l.length+items.length/\∀ c∈l',c<128)
 | [],l,_,hl=>Gen.ret ⟨l,rfl,by dsimp,hl⟩
 | it::items,l,hn,hl=>by
  simp only[aM];simp only[SM];refine Gen.bnd (dW hd (by lia) (by lia)) λv hv=>?_;refine bk hv λj z5 h0 h1=>?_;obtain rfl:=z5;refine am (BO h0 h1) λc hc e=>?_;have lo:ao (l.map λc=>D.str ⟨#[c]⟩).length=true:=by unfold ao;simp at hn ⊢;lia
  simp only[e,SM,lo,if_true];have:=nD hd items (l++[c]) (by simp at hn ⊢;lia) (λx hx=>by
   refine PW (List.mem_append.mp hx) (λh=>?_) λh=>?_
   ·exact hl x h
   ·simp at h;lia) (p:=p)
  simp only[List.map_append]at this;refine this.mono λv hv=>?_;refine bk hv λl' e1 e2 e3=>?_;exact⟨l',e1,by simp at e2 ⊢;lia,e3⟩
theorem BP{p d:Nat}(hd:2<=d):Gen p (run d (nm "_law_text") [.ref p]) (FL 3):=by
 refine am (ak hd) λd zz1 hd'=>?_;obtain rfl:=zz1;rw[tQ];have hp:a_ (.str (nm "")) (nm "join")=ret .join:=by kernel_rfl
 simp only[lz,SM,hp];refine Gen.bnd (dW hd' (by decide) (by decide)) λv hv=>?_;refine bk hv λi zz1 h0 h1=>?_;obtain rfl:=zz1;have c1:1+i<=100000:=by lia
 have c2:-100000<=1+i:=by lia
 simp[SI,SB,SL,SM,c1,c2,if_true,and_self,show(-100000:Int)<=0 from by decide,show(0:Int)<=100000 from by decide];have hl:(range 0 (1+i)).length=(1+i).toNat:=by rw[nj];congr 1;lia
 refine Gen.bnd (nD hd' (range 0 (1+i)) [] (by simp[hl];lia) (by decide)) λv hv=>?_;obtain⟨l',rfl,e2,e3⟩:=hv;have:=lY (call:=run d) (s:=⟨l'.toArray⟩) (by simp[Str.length]at e2 ⊢;lia);simp only at this;exact this ▸ (Gen.ret ⟨⟨l'.toArray⟩,rfl,by simp[Str.length]at e2 ⊢;lia,e3⟩)
noncomputable def F9(k:Int)(v:D):Prop:=Val k 0 v/\(k=5->FL 3 v)
theorem jw{p d:Nat}{k:Int}(hd:4<=d)(hk:k=0\/k=1\/k=4\/k=5):Gen p (run d (nm "_law_const") [.ref p,.int k]) (F9 k):=by
 refine am (ak hd) λd z9 hd'=>?_;obtain rfl:=z9;rw[qS];rcases hk with rfl | rfl | rfl | rfl
 ·walk_at "g";exact(nC (by lia)).mono λv ⟨i,e,h⟩=>⟨e ▸ .int (by lia),by lia⟩
 ·walk_at "g";exact(BN (by omega)).mono λv ⟨r,e,h⟩=>⟨e ▸ .real h,by lia⟩
 ·walk_at "g";exact gt (by lia) (by decide) (by decide) λj _ _=>Gen.ret (a:=D.bool (decide (j=1))) ⟨.bool,by lia⟩
 ·walk_at "g";exact(BP (by lia)).mono λv hv=>by refine bk hv λs z10 h1 h2=>?_;obtain rfl:=z10;exact⟨.str (by lia),λ_=>⟨s,rfl,h1,h2⟩⟩
theorem EM(l:List D)(h:l.length<=30):ao l.length=true:=by unfold ao;simp;lia
theorem i_{p d:Nat}{k:Int}(hd:2<=d)(hk:k.natAbs<=5):Gen p (run d (nm "_law_index") [.ref p,.int k]) vB:=by
 refine am (ak hd) λd z11 hd'=>?_;obtain rfl:=z11;rw[qU];walk_at "g";refine gt hd' (by decide) (by decide) λj g0 g1=>?_;rcases P_ (j=0) with h | h
 ·walk_at "g";exact Gen.ret .var
 ·walk_at "g";refine .is (m':=bnd (run d (nm "_law_take") [.ref p,.int 3]) λt=>bnd (ag .Sub t (.int k)) λa=>ret (.tup [.str (nm "const"),.int 0,a])) (by simp only[aI,ah,SM];rfl) ?_;exact gt hd' (by decide +kernel) (by decide +kernel) λi h0 h1=>.ret (.const (PQ (Int.natAbs_sub_le i k) (PQ (Nat.add_le_add (Nat.le_of_lt (Int.natAbs_lt_natAbs_of_nonneg_of_lt h0 h1)) hk) (by decide))))
theorem uA{p d:Nat}{k:Int}{P:D->Prop}(hd:1<=d)(h:∀ x,(x=.str (nm "I")\/x=.str (nm "J"))->∃ v,subD (.list [x,.str (nm "X"),.str (nm ""),.str (nm ""),.str (nm ""),.str (nm "C")]) (.int k)=ret v/\P v) :
  Gen p (bnd (dk [bnd (run d (nm "_law_take") [.ref p,.int 2]) λt6=>subD (.str (nm "IJ")) t6,ret (.str (nm "X")),ret (.str (nm "")),ret (.str (nm "")),ret (.str (nm "")),ret (.str (nm "C"))]) λt7=>subD t7 (.int k)) P:=by
 refine .is (m':=bnd (run d (nm "_law_take") [.ref p,.int 2]) λt=>bnd (subD (.str (nm "IJ")) t) λx=>subD (.list [x,.str (nm "X"),.str (nm ""),.str (nm ""),.str (nm ""),.str (nm "C")]) (.int k)) (by simp only[dk,ah,SM];rfl) ?_;refine gt hd (by decide) (by decide) λj _ _=>?_;obtain⟨x,e,hx⟩ : ∃ x,subD (.str (nm "IJ")) (.int j)=ret x/\(x=.str (nm "I")\/x=.str (nm "J")):=by
  obtain rfl | rfl:=F6 (j:=j) (by assumption) (by assumption)
  ·exact⟨_,by kernel_rfl,.inl rfl⟩
  ·exact⟨_,by kernel_rfl,.inr rfl⟩
 refine am (h x hx) λv e2 pv=>?_;exact G1 e (.is e2 (.ret pv))
theorem Co{p d:Nat}{m:M D}(hd:2<=d)(e:m=bnd (bnd (bnd (run d (nm "_law_index") [.ref p,.int 0]) λt=>ret [t]) λacc=>ret acc) λl=>ret (.list l)):Gen p m (λv=>∃ ix,vB ix/\v=.list [ix]):=
 .is e (GA (GA (.bnd (i_ hd (by decide)) λix hx=>.ret ⟨ix,hx,rfl⟩)))
theorem BQ{p d:Nat}{k:Int}(hd:5<=d)(hk:k=0\/k=1\/k=4\/k=5):Gen p (run d (nm "_law_leaf") [.ref p,.int k]) (jW k):=by
 refine am (ak hd) λd z12 hd'=>?_;obtain rfl:=z12;have d1:1<=d:=by omega
 have d2:2<=d:=by omega
 simp only[tT];walk_at "g";refine gt d1 (by decide) (by decide) λj g0 g1=>?_
 by_cases h0:j=0
 ·walk_at "g";exact pn (jw hd' hk) λa ha=>.const ha.1
 rcases hk with rfl | rfl | rfl | rfl
 ·by_cases h1:j=1
  ·walk_at "g";exact pn (P:=λv=>v=.str (nm "I")\/v=.str (nm "J")) (uA d1 λx hx=>⟨x,rfl,hx⟩) λa ha=>by
    rcases ha with rfl | rfl
    ·exact .vI
    ·exact .vJ
  ·walk_at "g";refine Du (z:=.str (nm "A")) (by kernel_rfl) (P:=λv=>∃ ix iy,vB ix/\vB iy/\v=.list [ix,iy]) ?_ λb ⟨ix,iy,hx,hy,e⟩=>e ▸ .eA hx hy;refine .is (m':=bnd (bnd (bnd (run d (nm "_law_index") [.ref p,.int 0]) λt=>ret [t]) λacc=>bnd (bnd (run d (nm "_law_index") [.ref p,.int 1]) λt=>if ao acc.length then ret (acc++[t]) else stuck) λacc=>ret acc) λl=>ret (.list l)) (by kernel_rfl) ?_;exact GA (GA (.bnd (i_ d2 (by decide)) λix hx=>GA (GA (.bnd (i_ d2 (by decide)) λiy hy=>F1 (EM _ (Nat.le_of_ble_eq_true rfl)) (.ret ⟨ix,iy,hx,hy,rfl⟩)))))
 ·by_cases h1:j=1
  ·walk_at "g";exact pn (P:=λv=>v=.str (nm "X")) (uA d1 λx hx=>⟨_,rfl,rfl⟩) λa ha=>ha ▸ .vX
  ·walk_at "g";exact Du (z:=.str (nm "B")) (by kernel_rfl) (Co d2 (by kernel_rfl)) λb ⟨ix,hx,e⟩=>e ▸ .eB hx
 ·walk_at "g";exact Gen.ret .vL
 ·by_cases h1:j=1
  ·walk_at "g";exact pn (P:=λv=>v=.str (nm "C")) (uA d1 λx hx=>⟨_,rfl,rfl⟩) λa ha=>ha ▸ .vC
  ·walk_at "g";exact Du (z:=.str (nm "D")) (by kernel_rfl) (Co d2 (by kernel_rfl)) λb ⟨ix,hx,e⟩=>e ▸ .eD hx
theorem zE{l:List String}{j:Int}{a b c e:String}(h0:0<=j)(h1:j<4):∃ x,x∈[a,b,c,e]/\subD (.list [.str (nm a),.str (nm b),.str (nm c),.str (nm e)]) (.int j)=ret (.str (nm x)):=by
 obtain rfl | rfl | rfl | rfl:=Ew (j:=j) (by assumption) (by assumption)
 ·exact⟨a,by simp,rfl⟩
 ·exact⟨b,by simp,rfl⟩
 ·exact⟨c,by simp,rfl⟩
 ·exact⟨e,by simp,rfl⟩
noncomputable def zF:D:=.list (rels.map λx=>.str (nm x))
theorem pp{d:Nat}(hd:1<=d):run d (nm "_law_relations") []=ret zF:=by
 refine am (ak hd) λd z1 _=>?_;obtain rfl:=z1;rw[jQ];have e:fz (run d)=ret (.ret zF):=by kernel_rfl
 exact congrArg _ e
theorem Dv{j:Int}(h0:0<=j)(h1:j<6):∃ x,x∈rels/\subD zF (.int j)=ret (.str (nm x)):=by
 obtain rfl | rfl | rfl | rfl | rfl | rfl:=F8 (j:=j) (by assumption) (by assumption)
 ·exact⟨"eq",by decide,rfl⟩
 ·exact⟨"ne",by decide,rfl⟩
 ·exact⟨"lt",by decide,rfl⟩
 ·exact⟨"le",by decide,rfl⟩
 ·exact⟨"gt",by decide,rfl⟩
 ·exact⟨"ge",by decide,rfl⟩
theorem Ex{j:Int}(h0:0<=j)(h1:j<3):∃ k:Int,(k=0\/k=1\/k=5)/\subD (.tup [(.int 0),(.int 1),(.int 5)]) (.int j)=ret (.int k):=by
 obtain rfl | rfl | rfl:=EL (j:=j) (by assumption) (by assumption)
 ·exact⟨0,by decide,rfl⟩
 ·exact⟨1,by decide,rfl⟩
 ·exact⟨5,by decide,rfl⟩
theorem Cp{p d:Nat}(hd:1<=d)(acc:List D)(hl:ao acc.length=true):Gen p (bnd (bnd (bnd (run d (nm "_law_take") [.ref p,.int 4]) λKe=>ae .Eq Ke (.int 0)) λLR=>if LR then ret (.none) else aI [ret (.str (nm "const")),ret (.int 0),bnd (run d (nm "_law_take") [.ref p,.int 4]) λKf=>ag .Add (.int 1) Kf]) λJ2=>if ao (acc).length then ret (acc++[J2]) else stuck) (λl=>∃ b:Option Int,l=acc++[fC b]):=by
 walk_at "g";refine gt hd (by decide) (by decide) λj j0 j1=>?_;rcases P_ (j=0) with hj | hj
 ·walk_at "g";exact Gen.ret ⟨none,rfl⟩
 ·walk_at "g";refine .bnd (P:=λv=>∃ i,v=D.tup [.str (nm "const"),.int 0,.int (1+i)]) ?_ λv ⟨i,e⟩=>e ▸ ?_
  ·refine .is (m':=bnd (run d (nm "_law_take") [.ref p,.int 4]) λt=>bnd (ag .Add (.int 1) t) λa=>ret (.tup [.str (nm "const"),.int 0,a])) (by simp only[aI,ah,SM];rfl) ?_;exact gt hd (by decide) (by decide) λi i0 i1=>.ret ⟨i,rfl⟩
  ·walk_at "g";exact Gen.ret ⟨some (1+i),rfl⟩
theorem Dw{p d:Nat}(hd:1<=d)(x y:D):Gen p (aM (λ_ JQ=>bnd (bnd (bnd (run d (nm "_law_take") [.ref p,.int 4]) λKe=>ae .Eq Ke (.int 0)) λLR=>if LR then ret (.none) else aI [ret (.str (nm "const")),ret (.int 0),bnd (run d (nm "_law_take") [.ref p,.int 4]) λKf=>ag .Add (.int 1) Kf]) λJ2=>if ao (JQ).length then ret (JQ++[J2]) else stuck) [x,y] []) (λl=>∃ lo hi:Option Int,l=[fC lo,fC hi]):=
 Gen.bnd (Cp hd [] rfl) λ_ ⟨lo,e⟩=>e ▸ Gen.bnd (Cp hd [fC lo] rfl) λ_ ⟨hi,e⟩=>e ▸ Gen.ret ⟨lo,hi,rfl⟩
theorem kb{p d:Nat}{l:List D}{n:Int}{f:D->M D}{P:String->Prop}{Q:D->Prop}(hd:1<=d)(h0:0<n)(h1:n<=1000)(hs:∀ j:Int,0<=j->j<n->∃ x,P x/\subD (.list l) (.int j)=ret (.str (nm x)))(h:∀ x,P x->Gen p (f (.str (nm x))) Q) :
  Gen p (bnd (run d (nm "_law_take") [.ref p,.int n]) λt=>bnd (subD (.list l) t) f) Q:=
 (gt hd h0 h1 λj j0 j1=>let ⟨x,px,e⟩:=hs j j0 j1;G1 e (h x px))
theorem rZ{p d n:Nat}{k:Int}(hd:5<=d)(hk:k=0\/k=1\/k=4\/k=5):Gen p (run d (nm "_law_leaf") [.ref p,.int k]) (Tree k n):=(BQ hd hk).mono λ_ hv=>.leaf hv
theorem zG{p d:Nat}(hd:2<=d):Gen p (dk [ret ((.tup [(.str (nm "var")),(.int 5),(.str (nm "C"))])),aI [ret (.str (nm "elem")),ret (.int 5),ret (.str (nm "D")),dk [run d (nm "_law_index") [.ref p,.int 0]]]]) (λv=>∃ ix,vB ix/\v=.list [.tup [.str (nm "var"),.int 5,.str (nm "C")],.tup [.str (nm "elem"),.int 5,.str (nm "D"),.list [ix]]]):=
 .is (m':=bnd (run d (nm "_law_index") [.ref p,.int 0]) λix=>ret (.list [.tup [.str (nm "var"),.int 5,.str (nm "C")],.tup [.str (nm "elem"),.int 5,.str (nm "D"),.list [ix]]])) (by simp only[dk,aI,ah,SM];rfl) (Gen.bnd (i_ hd (by decide)) λix hx=>Gen.ret ⟨ix,hx,rfl⟩)
theorem vD{p:Nat}:∀ (n d:Nat) (k:Int),n+6<=d->(k=0\/k=1\/k=4\/k=5)->Gen p (run d (nm "_law_tree") [.ref p,.int k,.int n]) (Tree k n)
 | 0,d,k,hd,hk=>by refine am (ak (show 5+1<=d from hd)) λd z2 hd'=>?_;obtain rfl:=z2;rw[lA];walk_at "g";exact rZ hd' hk
 | n+1,d,k,hd,hk=>by
  refine am (ak (show n+6+1<=d by lia)) λd z3 hd'=>?_;obtain rfl:=z3;have e0:¬ ((n+1:Nat):Int)=0:=by lia
  have d1:1<=d:=by lia
  have d5:5<=d:=by lia
  have ih:∀ k,(k=0\/k=1\/k=4\/k=5)->Gen p (bnd (ah [ret (.ref p),ret (.int k),ag .Sub (.int (n+1:Nat)) (.int 1)]) λl=>run d (nm "_law_tree") l) (Tree k n):=λk hk=>by
   have e1:((n+1:Nat):Int) - 1=n:=by lia
   have:=vD (p:=p) n d k hd' hk;rw[<-e1]at this;exact this
  rw[lA];walk_at "g";refine gt d1 (by decide) (by decide) λj _ _=>?_
  by_cases hj:j=0
  ·walk_at "g";exact rZ d5 hk
  walk_at "g";clear hj e0;refine gt d1 (by decide) (by decide) λi _ _=>?_;rcases hk with rfl | rfl | rfl | rfl
  ·walk_at "g"
   by_cases h0:i=0
   ·walk_at "g";exact pn (ih 0 (by decide)) λa ha=>.neg (by decide) ha
   by_cases h1:i=1
   ·walk_at "g";exact pn (ih 1 (by decide)) λa ha=>.conv0 ha
   by_cases h2:i=2
   ·walk_at "g";exact xh (ih 0 (by decide)) (ih 0 (by decide)) λa b ha hb=>.int (by decide) ha hb
   walk_at "g";refine kb (P:=λx=>x∈["add","sub","mul","div"]) d1 (by decide) (by decide) (λj h0 h1=>zE (l:=[]) h0 h1) λx hx=>?_;exact GT (xh (ih 0 (by decide)) (ih 0 (by decide)) λa b ha hb=>.int ((show ∀ x∈["add","sub","mul","div"],x∈["add","sub","mul","div","powi"] by decide) x hx) ha hb)
  ·walk_at "g"
   by_cases h0:i=0
   ·walk_at "g";exact pn (ih 1 (by decide)) λa ha=>.neg (by decide) ha
   by_cases h1:i=1
   ·walk_at "g";exact pn (ih 0 (by decide)) λa ha=>.conv1 ha
   walk_at "g";refine kb (P:=λx=>x∈["add","sub","mul","div"]) d1 (by decide) (by decide) (λj h0 h1=>zE (l:=[]) h0 h1) λx hx=>?_;exact GT (xh (ih 1 (by decide)) (ih 1 (by decide)) λa b ha hb=>.real hx ha hb)
  ·walk_at "g"
   by_cases h0:i=0
   ·walk_at "g";exact pn (ih 4 (by decide)) λa ha=>.not ha
   by_cases h3:i<3
   ·walk_at "g";refine kb (P:=λx=>x∈["and","or","eqv","neqv"]) d1 (by decide) (by decide) (λj h0 h1=>zE (l:=[]) h0 h1) λx hx=>?_;exact GT (xh (ih 4 (by decide)) (ih 4 (by decide)) λa b ha hb=>.log hx ha hb)
   have hr:=pp d1;walk_at "g";refine kb (P:=λx=>x∈rels) d1 (by decide) (by decide) (λj h0 h1=>Dv h0 h1) λx hx=>?_;walk_at "g";refine gt d1 (by decide) (by decide) λo o0 o1=>?_;refine am (Ex o0 o1) λkk hkk e=>?_;have hk:kk=0\/kk=1\/kk=4\/kk=5:=hkk.elim .inl λq=>.inr (q.elim .inl λq=>.inr (.inr q));refine G1 e (GT (xh (ih kk hk) (ih kk hk) λa b ha hb=>.rel hx hkk ha hb))
  ·walk_at "g"
   by_cases h3:i<3
   ·walk_at "g";exact xh (ih 5 (by decide)) (ih 5 (by decide)) λa b ha hb=>.cat ha hb
   walk_at "g";refine Gen.bnd (zG (by lia)) λ_ ⟨ix,hx,e⟩=>e ▸ ?_;walk_at "g";refine gt d1 (by decide) (by decide) λm m0 m1=>?_;have hb:∃ b,subD (D.list [D.tup [D.str (nm "var"),D.int 5,D.str (nm "C")],D.tup [D.str (nm "elem"),D.int 5,D.str (nm "D"),D.list [ix]]]) (.int m)=ret b/\∀ lo hi,Tree 5 (n+1) (.tup [.str (nm "substr"),.int 5,b,fC lo,fC hi]):=by
    obtain rfl | rfl:m=0\/m=1:=by lia
    ·exact⟨_,rfl,λlo hi=>.subC⟩
    ·exact⟨_,rfl,λlo hi=>.subD hx⟩
   refine am hb λb e ht=>?_;refine G1 e ?_;walk_at "g";refine Gen.bnd (Dw d1 _ _) λ_ ⟨lo,hi,e⟩=>e ▸ ?_;walk_at "g";exact Gen.ret (ht lo hi)
variable{σ:St}
theorem Ey(s:Str):xA (.str s)=if ao s.length then ret (.int s.length) else stuck:=rfl
theorem Fk(l:List D):xA (.list l)=if ao l.length then ret (.int l.length) else stuck:=rfl
theorem vE{i:Nat}{N:List D}{a:Nat}{v:D}(h:σ[i]?=some (.list N))(ha:a<N.length)(hl:N.length<=1000):cM (.ref i) (.int a) v σ=.ok () (σ.set i (.list (N.set a v))):=by
 show bnd (cell i) _ σ=_;rw[aE (aS h)];have lo:ao N.length=true:=by unfold ao;simp;lia
 show(if 0<=(a:Int)/\(a:Int).toNat<N.length/\ao N.length=true then xp i (.list (N.set (a:Int).toNat v)) else stuck) σ=_;rw[PY ⟨by lia,by lia,lo⟩];rfl
theorem xi{d iN a:Nat}{k:Int}{N:List D}{m v:D}{r:List D}(hd:3<=d)(hk:k=0\/k=1\/k=4)(hm:aB m (nm "numeric") σ=.ok (.ref iN) σ)(h:σ[iN]?=some (.list N))(ha:a<N.length)(hl:N.length<=1000) :
  run d (nm "Memory.store") [m,.tup (.int k::.int a::r),v] σ=.ok .none (σ.set iN (.list (N.set a (.tup [.int k,v])))):=by
 refine am (ak hd) λd z1 hd'=>?_;obtain rfl:=z1;rw[f9];have h5:¬ k=5:=by lia
 have h3:¬ k=3:=by lia
 have h2:¬ k=2:=by lia
 refine am (ak hd') λd z2 hd''=>?_;obtain rfl:=z2;have e:run (d+1) (nm "store_number") [.ref iN,.int k,.int a,v] σ=.ok .none (σ.set iN (.list (N.set a (.tup [.int k,v])))):=by rw[lg];have hu:=js hd'' hk;have hn1:=c_ (d:=d) (a:=a) (n:=1) (by lia) h hl (by lia);rw[show((1:Nat):Int)=1 from rfl]at hn1;have hst:=vE (v:=.tup [.int k,v]) h ha hl;clear hm hd hd' hd'' h ha hl hk;walk_at "u"
 clear hd hd' hd'' h ha hl hk;walk_at "u"
noncomputable def wr(C:List D)(a:Nat):List D->List D
 | []=>C
 | v::vs=>wr (C.set a v) (a+1) vs
theorem zH:∀ (l C:List D) (a:Nat),(wr C a l).length=C.length
 | [],_,_=>rfl
 | v::vs,C,a=>by simp only[wr,zH vs];simp
theorem Cq(l:List D):∀ (C:List D) (a j:Nat),a+l.length<=C.length->(wr C a l)[j]?=if a<=j/\j<a+l.length then l[j - a]? else C[j]?:=by
 induction l with
 | nil=>intro C a j _;refine PX ?_ (Eq.symm (PZ (λq=>absurd q.2 (Nat.not_lt.mpr q.1))));rfl
 | cons v vs ih=>
  intro C a j h;have e:a+1+vs.length=a+(vs.length+1):=Nat.add_right_comm a 1 vs.length;refine PX (ih (C.set a v) (a+1) j (by simp only[List.length_set,e];exact h)) ?_;rw[e];refine PW (Nat.lt_or_ge a j) (λq=>?_) λq=>?_
  ·refine PW (P_ (j<a+(vs.length+1))) (λz=>?_) λz=>?_
   ·rw[PY ⟨q,z⟩,PY ⟨Nat.le_of_lt q,z⟩,<-Nat.succ_pred_eq_of_pos (Nat.sub_pos_of_lt q)];rfl
   ·rw[PZ λy=>z y.2,PZ λy=>z y.2];exact List.getElem?_set_ne (Nat.ne_of_lt q)
  ·refine PX (PZ λy=>Nat.not_lt.mpr q y.1) ?_;refine PW (Nat.eq_or_lt_of_le q) (λz=>?_) λz=>?_
   ·rw[z,PY ⟨Nat.le_refl _,Nat.lt_add_of_pos_right (Nat.succ_pos _)⟩,Nat.sub_self];exact List.getElem?_set_self (PR (Nat.lt_add_of_pos_right (Nat.succ_pos _)) h)
   ·rw[PZ λy=>Nat.not_lt.mpr y.1 z];exact List.getElem?_set_ne (Nat.ne_of_gt z)
theorem pq(l:List D)(a b j:Nat):(cut l a b)[j]?=if j<b - a then l[a+j]? else none:=by
 unfold cut;refine PX List.getElem?_take ?_
 split
 ·exact List.getElem?_drop
 ·rfl
theorem Dx{l C:List D}{a:Nat}(h:a+l.length<=C.length):cut (wr C a l) a (a+l.length)=l:=by
 apply List.ext_getElem?
 intro j;rw[pq]
 by_cases hj:j<l.length
 ·refine PX (PY (by lia)) (PX (Cq _ _ _ _ h) ?_);refine PX (PY (by lia)) ?_;rw[Nat.add_sub_cancel_left]
 ·refine PX (PZ (by lia)) ?_;rw[List.getElem?_eq_none (by lia)]
theorem xj{l C:List D}{a b c:Nat}(h:a+l.length<=C.length)(hd:c<=a\/a+l.length<=b):cut (wr C a l) b c=cut C b c:=by
 apply List.ext_getElem?
 intro j;simp only[pq,pq]
 by_cases hj:j<c - b
 ·rw[PY hj,PY hj,Cq _ _ _ _ h];exact(PZ (by lia))
 ·rw[PZ hj,PZ hj]
noncomputable def xk(s:Str):List D:=s.cps.toList.map λc=>.str ⟨#[c]⟩
theorem fg(s:Str):(xk s).length=s.length:=by simp[xk,Str.length]
theorem BR{s:Str}{j:Nat}{c:D}(h:(xk s)[j]?=some c)(hs:s.length<=1000):subD (.str s) (.int j)=ret c:=by
 have h1:=(List.getElem?_eq_some_iff.mp h).1;rw[fg]at h1;unfold xk at h;replace h:=PX (Eq.symm List.getElem?_map) h;show bnd (ac (so s.cps.toList (j:Int))) _=_;have:so s.cps.toList (j:Int)=s.cps.toList[j]?:=by unfold so;refine PX (PY (by lia)) ?_;simp
 rw[this]
 induction q:s.cps.toList[j]? with
 | none=>exact du (q ▸ h)
 | some x=>replace h:=q ▸ h;cases h;rfl
theorem mc{call:Str->List D->M D}{iC a:Nat}{s:Str}{K:K'}(hs:s.length<=100)(st:af->D->M af)(hst:st=λfr v=>ret (aj fr (nm "k") v))(hK:∀ fr,K fr=ret (.next fr)) :
  ∀ (m j:Nat) (C:List D) (t:af) (σ:St),j+m=s.length->C.length<=1000->a+s.length<=C.length->σ[iC]?=some (.list C)->(t=[]\/∃ v,t=[(nm "k",v)]) →
  ∃ fr,aG (dq call) st ((List.range' j m).map λi=>D.int (i:Nat)) ((nm "cells",.ref iC)::(nm "address",.int a)::(nm "text",.str s)::t) K σ=.ok (.next fr) (if m=0 then σ else σ.set iC (.list (wr C (a+j) ((xk s).drop j))))
 | 0,j,C,t,σ,hj,hl,ha,hσ,ht=>⟨_,by simp[aG,hK,ret];rfl⟩
 | m+1,j,C,t,σ,hj,hl,ha,hσ,ht=>by
  obtain⟨c,hc⟩ : ∃ c,(xk s)[j]?=some c:=⟨_,List.getElem?_eq_getElem (by rw[fg];lia)⟩;have hsub:=BR hc (by lia);have hset:=vE (v:=c) hσ (show a+j<C.length by lia) hl;have e1:(a:Int)+j=((a+j:Nat):Int):=by lia
  obtain⟨fr,e⟩:=mc (call:=call) (a:=a) (K:=K) hs st hst hK m (j+1) (C.set (a+j) c) [(nm "k",.int j)] (σ.set iC (.list (C.set (a+j) c))) (by lia) (by simpa using hl) (by simpa using ha) (uz hσ) (.inr ⟨_,rfl⟩);refine⟨fr, ?_⟩;have key:aG (dq call) st ((List.range' j (m+1)).map λi=>D.int (i:Nat)) ((nm "cells",.ref iC)::(nm "address",.int a)::(nm "text",.str s)::t) K σ
    = aG (dq call) st ((List.range' (j+1) m).map λi=>D.int (i:Nat)) ((nm "cells",.ref iC)::(nm "address",.int a)::(nm "text",.str s)::[(nm "k",.int j)]) K (σ.set iC (.list (C.set (a+j) c))):=by
   simp only[List.range'_succ,List.map_cons,aG];rw[hst];rw[<-e1]at hset;rcases ht with rfl | ⟨v0,rfl⟩ <;> exact bd rfl (bd (by walk_at "s") (by walk_at "s"))
  refine PX key (PX e ?_);have hdrop:(xk s).drop j=c::(xk s).drop (j+1):=by have h1:=(List.getElem?_eq_some_iff.mp hc);obtain⟨h1,h2⟩:=h1;refine PX (List.drop_eq_getElem_cons h1) ?_;rw[h2]
  rw[PZ (show ¬ m+1=0 by lia),hdrop,wr]
  congr 1
  by_cases hm:m=0
  ·rw[PY hm];have:(xk s).drop (j+1)=[]:=List.drop_eq_nil_of_le (by rw[fg];lia);simp only[this,wr]
  ·rw[PZ hm,List.set_set,Nat.add_assoc]
theorem xl{d iC a:Nat}{C:List D}{m:D}{r:List D}{s:Str}{L:Nat}(hd:3<=d)(hm:aB m (nm "characters") σ=.ok (.ref iC) σ)(h:σ[iC]?=some (.list C))(hsL:s.length=L)(hL:1<=L)(hL':L<=100)(ha:a+L<=C.length)(hl:C.length<=1000) :
  run d (nm "Memory.store") [m,.tup (.int 5::.int a::.int L::r),.str s] σ=.ok .none (σ.set iC (.list (wr C a (xk s)))):=by
 refine am (ak hd) λd z3 hd'=>?_;obtain rfl:=z3;rw[f9];refine am (ak hd') λd z4 hd''=>?_;obtain rfl:=z4;have ls:ao s.length=true:=by unfold ao;simp;lia
 have ep:run (d+1) (nm "pad") [.str s,.int L]=ret (.str s):=by
  rw[Ef];have el:au (nm "len") [.str s]=ret (.int s.length):=(SB.1 _).trans ((Ey s).trans (PY ls));have e1:bu (.str s) .none (.int L)=ret (.str s):=by
   refine PX (PY ls) ?_;have:iu .none (.int (L:Int)) s.length=some (0,L):=by
    show(if 0<=(L:Int) then some (0,min (L:Int).toNat s.length) else none)=_;refine PX (PY (by lia)) ?_
    congr 2;lia
   rw[this];show ret (D.str ⟨(cut s.cps.toList 0 L).toArray⟩)=_;have:cut s.cps.toList 0 L=s.cps.toList:=by unfold cut;rw[List.drop_zero,Nat.sub_zero,List.take_of_length_le];simp[Str.length]at hsL;simp;lia
   rw[this]
  have e2:ag .Mult (.str (nm " ")) (.int (L - s.length:Int))=ret (.str ⟨#[]⟩):=by
   show(if nm " " = nm " " ∧ -1000000<=(L - s.length:Int)/\(L - s.length:Int)<=1000000 then ret (D.str ⟨Array.replicate (L - s.length:Int).toNat 32⟩) else stuck)=_;refine PX (PY ⟨rfl,by lia,by lia⟩) ?_;have:(L - s.length:Int).toNat=0:=by lia
   exact this ▸ rfl
  have e3:ag .Add (.str s) (.str ⟨#[]⟩)=ret (.str s):=by
   show(if ao s.length&&ao (⟨#[]⟩ : Str).length then ret (D.str (s++⟨#[]⟩)) else stuck)=_;have l0:ao (⟨#[]⟩ : Str).length=true:=by decide +kernel
   simp only[ls,l0];have:s++(⟨#[]⟩ : Str)=s:=by show Str.append s ⟨#[]⟩=s;unfold Str.append;simp
   rw[this];rfl
  walk_at "e"
 have et:run (d+1) (nm "store_text") [.ref iC,.int a,.str s] σ=.ok .none (σ.set iC (.list (wr C a (xk s)))):=by
  rw[oA];have hr:range 0 (s.length:Int)=(List.range' 0 s.length).map λi=>D.int (i:Nat):=by unfold range;rw[List.range_eq_range'];simp
  have c1:(s.length:Int)<=100000:=by lia
  have c2:-100000<=(s.length:Int):=by lia
  simp[iO,SM,SB,Ey,ls,if_true];rw[aE (c_ (by omega) h hl (by lia))];simp[c1,c2,if_true,SM,SL,and_self,show(-100000:Int)<=0 from by decide,show(0:Int)<=100000 from by decide];refine PU (mc (call:=run d) (a:=a) (K:=λJY=>ret (.next JY)) (iC:=iC) (show s.length<=100 by lia) _ rfl (λ_=>rfl) s.length 0 C [] σ (by lia) hl (by lia) h (.inl rfl)) λfr e=>?_;rw[hr];show bnd _ _ σ=_;rw[aE e,PZ (by lia)];simp[ret]
 clear h hl ha hd hd' hd'' hL hL' hsL;walk_at "u"
noncomputable def eN:D:=.inst (nm "Memory") 1
noncomputable def dH:List (Str×D):=[(nm "numeric",.ref 2),(nm "characters",.ref 3)]
noncomputable def names:List String:=["I","J","A","X","B","L","C","D"]
noncomputable def dI:List (String×List Int×Nat×Int):=[("I",[],0,0),("J",[],1,0),("A",[0,-1],2,0),("A",[1,-1],3,0),("A",[2,-1],4,0),("A",[0,0],5,0),("A",[1,0],6,0),("A",[2,0],7,0),("X",[],8,1),("B",[1],9,1),("B",[2],10,1),("L",[],11,4)]
noncomputable def d9:List (String×List Int×Nat×Nat):=[("C",[],0,4),("D",[2],4,3),("D",[3],7,3)]
noncomputable def jK(σ:St)(j:Nat)(f:List Int->Option D)(c:Nat):Prop:=(σ[j]?=some (.sdict [])/\∀ q,f q=none)\/∃ T,σ[j]?=some (.tdict T)/\T.length<=c/\∀ q,dA T q=f q
structure FI(σ:St)(V:cx)(n c:Nat):Prop where
 pool:Pool 0 σ
 len:σ.length=5+n
 mem:σ[1]?=some (.sdict dH)
 num:∃ N,σ[2]?=some (.list N)/\N.length=12/\∀ e∈dI,N[e.2.2.1]?=some (jt e.2.2.2 (V e.1 e.2.1))
 txt:∃ C,σ[3]?=some (.list C)/\C.length=10/\∀ e∈d9,Tx C e.2.2.1 e.2.2.2 (V e.1 e.2.1)
 held:∃ H,σ[4]?=some (.sdict H)/\H.length<=n/\∀ i x,i<n->names[i]?=some x->aa H (nm x)=some (.ref (5+i))/\jK σ (5+i) (V x) (if i+1=n then c else 10)
 rest:∀ i x,n<=i->names[i]?=some x->∀ q,V x q=none
 val:∀ x∈bi,∀ q v,V x.1 q=some v->Val x.2 0 v
noncomputable def uB(V:cx)(x:String)(q:List Int)(v:D):cx:=λy r=>if y=x/\r=q then some v else V y r
theorem im:∀ (l:List (List Int×D)) (q:List Int) (v:D) (r:List Int),dA (gI l q v) r=if r=q then some v else dA l r
 | [],q,v,r=>by
  simp only[gI,dA]
  by_cases h:r=q
  ·simp[h]
  ·have:¬ q=r:=λe=>h e.symm;simp[h,this]
 | (y,e)::l,q,v,r=>by
  simp only[gI]
  by_cases h:y=q
  ·rw[PY h];subst h;simp only[dA]
   by_cases h':r=y
   ·simp[h']
   ·have:¬ y=r:=λe=>h' e.symm;simp[h',this]
  ·rw[PZ h];simp only[dA]
   by_cases h':y=r
   ·subst h';simp[h]
   ·refine PX (PZ h') ?_;rw[PZ h'];exact(im l q v r)
theorem r_:∀ (l:List (List Int×D)) (q:List Int) (v:D),(gI l q v).length<=l.length+1
 | [],q,v=>by simp[gI]
 | (y,e)::l,q,v=>by
  simp only[gI]
  split
  ·simp
  ·have:=r_ l q v;simp;omega
theorem vF{σ:St}{j c:Nat}{f:List Int->Option D}{q:List Int}{v:D}(h:jK σ j f c)(hc:c<=100):∃ T,cM (.ref j) (.tup (q.map .int)) v σ=.ok () (σ.set j (.tdict T))/\T.length<=c+1/\(∀ r,dA T r=if r=q then some v else f r)/\j<σ.length:=by
 rcases h with⟨h1,h2⟩ | ⟨T,h1,h2,h3⟩
 ·refine⟨[(q,v)], ?_,by simp,λr=>?_,(List.getElem?_eq_some_iff.mp h1).1⟩
  ·show bnd (cell j) _ σ=_;rw[aE (aS h1)];show bnd (ac (dK (q.map .int))) (λq=>xp j (.tdict [(q,v)])) σ=_;rw[gC];rfl
  ·have:=im [] q v r;simp only[gI]at this;refine PX this ?_;rw[h2 r];rfl
 ·refine⟨gI T q v, ?_,by have:=r_ T q v;lia,λr=>by rw[im,h3],(List.getElem?_eq_some_iff.mp h1).1⟩;show bnd (cell j) _ σ=_;rw[aE (aS h1)];have lo:ao T.length=true:=by unfold ao;simp;lia
  have e:∀ T':List (List Int×D),(match (Cell.tdict T',D.tup (q.map .int)) with | (.tdict l,.tup t)=>bnd (ac (dK t)) (λq=>if ao l.length then xp j (.tdict (gI l q v)) else stuck) | _=>stuck) σ=bnd (ac (dK (q.map .int))) (λq=>if ao T'.length then xp j (.tdict (gI T' q v)) else stuck) σ:=λ_=>rfl;show bnd (ac (dK (q.map .int))) (λq=>if ao T.length then xp j (.tdict (gI T q v)) else stuck) σ=_;rw[gC,lo];rfl
theorem jx:∀ {i j:Nat} {x:String},names[i]?=some x->names[j]?=some x->i=j:=by
 have key:∀ i<8,∀ j<8,names[i]?=names[j]?->i=j:=by decide
 intro i j x h1 h2;have a1:=(List.getElem?_eq_some_iff.mp h1).1;have a2:=(List.getElem?_eq_some_iff.mp h2).1;exact key i a1 j a2 (by simp only[h1,h2])
theorem uD{σ:St}(h:σ[1]?=some (.sdict dH)):aB eN (nm "numeric") σ=.ok (.ref 2) σ:=by
 show bnd (cell 1) _ σ=_;rw[aE (aS h)];have e:(eP (nm "Memory")).contains (nm "numeric")=true:=by decide +kernel
 show(if (eP (nm "Memory")).contains (nm "numeric") then bnd (ac (aa dH (nm "numeric"))) λd=>if mL d then ret d else stuck else stuck) σ=_;rw[e];kernel_rfl
theorem uE{σ:St}(h:σ[1]?=some (.sdict dH)):aB eN (nm "characters") σ=.ok (.ref 3) σ:=by
 show bnd (cell 1) _ σ=_;rw[aE (aS h)];have e:(eP (nm "Memory")).contains (nm "characters")=true:=by decide +kernel
 show(if (eP (nm "Memory")).contains (nm "characters") then bnd (ac (aa dH (nm "characters"))) λd=>if mL d then ret d else stuck else stuck) σ=_;rw[e];kernel_rfl
theorem pt{σ:St}(h:σ[1]?=some (.sdict dH)):a_ eN (nm "store") σ=.ok (.user (nm "Memory.store")) σ/\a_ eN (nm "load") σ=.ok (.user (nm "Memory.load")) σ:=by
 constructor
 ·show bnd (cell 1) _ σ=_;rw[aE (aS h)];kernel_rfl
 ·show bnd (cell 1) _ σ=_;rw[aE (aS h)];kernel_rfl
theorem Pool.eq{p:Nat}{σ σ':St}(h:Pool p σ)(e:σ'[p]?=σ[p]?):Pool p σ':=by refine bk h λns a b c=>?_;exact⟨ns,by exact e.trans a,b,c⟩
theorem FI.draw{σ σ':St}{V:cx}{n c:Nat}(h:FI σ V n c)(hp:Pool 0 σ')(s:Same 0 σ σ'):FI σ' V n c:=by have e:∀ i,i≠0->σ'[i]?=σ[i]?:=s.2;refine bk h.held λH h1 h2 h3=>?_;refine⟨hp,by exact s.1.trans h.len,by exact(e 1 (by lia)).trans h.mem,by exact(e 2 (by lia)) ▸ h.num,by exact(e 3 (by lia)) ▸ h.txt,⟨H,by exact(e 4 (by lia)).trans h1,h2,λi x hi hx=>?_⟩,h.rest,h.val⟩;obtain⟨a,b⟩:=h3 i x hi hx;refine⟨a, ?_⟩;unfold jK at b ⊢;rw[e _ (by lia)];exact b
theorem zI:∀ e∈dI,∀ f∈dI,(e.2.2.1=f.2.2.1 ↔ (e.1=f.1/\e.2.1=f.2.1))/\(e.2.2.1=f.2.2.1->e.2.2.2=f.2.2.2):=by decide
theorem vG:∀ e∈dI,∀ f∈d9,¬ (f.1=e.1/\f.2.1=e.2.1):=by decide
theorem zJ:∀ e∈d9,∀ f∈d9,(e.1=f.1/\e.2.1=f.2.1/\e.2.2=f.2.2)\/(¬ (f.1=e.1/\f.2.1=e.2.1)/\(f.2.2.1+f.2.2.2<=e.2.2.1\/e.2.2.1+e.2.2.2<=f.2.2.1)):=by decide
theorem uF:∀ e∈dI,e.2.2.1<12:=by decide
theorem uG:∀ e∈d9,e.2.2.1+e.2.2.2<=10/\1<=e.2.2.2/\e.2.2.2<=4:=by decide
theorem nE{σ σ2:St}{V:cx}{n c:Nat}{x:String}{q:List Int}{v:D}{T:List (List Int×D)}{H:List (Str×D)}(hx:names[n]?=some x)(hH:∀ i y,i<n+1->names[i]?=some y->aa H (nm y)=some (.ref (5+i))/\jK σ (5+i) (V y) (if i+1=n+1 then c else 10))
  (hT:T.length<=c+1) (hl:∀ r,dA T r=if r=q then some v else V x r) (h2:σ2[5+n]?=some (.tdict T)) (hs:∀ i,i<n->σ2[5+i]?=σ[5+i]?) :
  ∀ i y,i<n+1->names[i]?=some y->aa H (nm y)=some (.ref (5+i))/\jK σ2 (5+i) (uB V x q v y) (if i+1=n+1 then c+1 else 10):=by
 intro i y hi hy;obtain⟨a,b⟩:=hH i y hi hy;refine⟨a, ?_⟩
 by_cases hin:i=n
 ·subst hin;replace hy:=PX (Eq.symm hx) hy;cases hy;refine .inr ⟨T,h2,by rw[PY rfl];exact hT,λr=>?_⟩;rw[hl];unfold uB;simp
 ·have hyx:y≠x:=λe=>hin (jx hy (e ▸ hx));have hf:uB V x q v y=V y:=by funext r;unfold uB;simp[hyx]
  rw[hf,PZ (by lia)];rw[PZ (by lia)]at b;unfold jK at b ⊢;exact(hs i (by lia)) ▸ b
theorem nG{V:cx}{n:Nat}{x:String}{q:List Int}{v:D}(hx:names[n]?=some x)(h:∀ i y,n+1<=i->names[i]?=some y->∀ q,V y q=none):∀ i y,n+1<=i->names[i]?=some y->∀ r,uB V x q v y r=none:=by
 intro i y hi hy r;have hyx:y≠x:=λe=>by have:=jx hy (e ▸ hx);lia
 unfold uB;refine PX (PZ (by simp[hyx])) ?_;exact h i y hi hy r
theorem sa{V:cx}{x:String}{k:Int}{q:List Int}{v:D}(hk:(x,k)∈bi)(hv:Val k 0 v)(h:∀ x∈bi,∀ q v,V x.1 q=some v->Val x.2 0 v):∀ y∈bi,∀ r u,uB V x q v y.1 r=some u->Val y.2 0 u:=by
 intro y hy r u hu;unfold uB at hu
 split at hu
 ·rename_i hc;cases hu;have:∀ a∈bi,∀ b∈bi,a.1=b.1->a.2=b.2:=by decide
  have:=this y hy (x,k) hk hc.1;exact this ▸ hv
 ·exact h y hy r u hu
theorem FI.put_num{σ:St}{V:cx}{n c d:Nat}{x:String}{q:List Int}{a:Nat}{k:Int}{v:D}{r:List D}(hd:3<=d)(h:FI σ V (n+1) c)(hx:names[n]?=some x)(he:(x,q,a,k)∈dI)(hk:(x,k)∈bi)(hk':k=0\/k=1\/k=4)(hv:Val k 0 v)(hc:c<=9) :
  ∃ σ1 σ2,cM (.ref (5+n)) (.tup (q.map .int)) v σ=.ok () σ1/\run d (nm "Memory.store") [eN,.tup (.int k::.int a::r),v] σ1=.ok .none σ2/\FI σ2 (uB V x q v) (n+1) (c+1)/\σ1[1]?=some (.sdict dH):=by
 refine bk h.num λN n1 n2 n3=>?_;refine bk h.txt λC c1 c2 c3=>?_;refine bk h.held λH h1 h2 h3=>?_;obtain⟨e1,e2⟩:=h3 n x (by lia) hx;rw[PY rfl]at e2;refine dj (vF (q:=q) (v:=v) e2 (by lia)) λT t1 t2 t3 t4=>?_;have g:∀ i,i≠5+n->(σ.set (5+n) (.tdict T))[i]?=σ[i]?:=λi hi=>List.getElem?_set_ne (Ne.symm hi);have ha:=uF _ he;dsimp only at ha;have m1:(σ.set (5+n) (.tdict T))[1]?=some (.sdict dH):=by exact(g 1 (by lia)).trans h.mem
 have hs:=xi (σ:=σ.set (5+n) (.tdict T)) (d:=d) (a:=a) (v:=v) (r:=r) hd hk' (uD m1) (show _=some (Cell.list N) by exact(g 2 (by lia)).trans n1) (by lia) (by lia);refine⟨_,_,t1,hs, ?_,m1⟩;have g2:∀ i,i≠5+n->i≠2->((σ.set (5+n) (.tdict T)).set 2 (.list (N.set a (.tup [.int k,v]))))[i]?=σ[i]?:=λi hi hi2=>by exact(List.getElem?_set_ne (Ne.symm hi2)).trans ((g i hi))
 refine⟨h.pool.eq (g2 0 (by lia) (by lia)),by simp[h.len],by exact(g2 1 (by lia) (by lia)).trans h.mem,⟨_,List.getElem?_set_self (by simp;lia),by simpa using n2,λf hf=>?_⟩,⟨C,by exact(g2 3 (by lia) (by lia)).trans c1,c2,λf hf=>?_⟩,⟨H,by exact(g2 4 (by lia) (by lia)).trans h1,h2,nE hx h3 t2 t3 ?_ λi hi=>g2 _ (by lia) (by lia)⟩,nG hx h.rest,sa hk hv h.val⟩
 ·obtain⟨b1,b2⟩:=zI _ he f hf;dsimp only at b1 b2;unfold uB
  by_cases hb:a=f.2.2.1
  ·obtain⟨u1,u2⟩:=b1.mp hb;rw[PY ⟨u1.symm,u2.symm⟩,<-hb,<-b2 hb,List.getElem?_set_self (by lia)];rfl
  ·refine PX (List.getElem?_set_ne hb) ?_;rw[PZ (λz=>hb (b1.mpr ⟨z.1.symm,z.2.symm⟩))];exact n3 f hf
 ·unfold uB;rw[PZ (vG _ he f hf)];exact c3 f hf
 ·exact(List.getElem?_set_ne (by lia)).trans ((List.getElem?_set_self (by lia)))
theorem FI.put_txt{σ:St}{V:cx}{n c d:Nat}{x:String}{q:List Int}{a L:Nat}{s:Str}{r:List D}(hd:3<=d)(h:FI σ V (n+1) c)(hx:names[n]?=some x)(he:(x,q,a,L)∈d9)(hk:(x,5)∈bi)(hs:s.length=L)(ha:∀ u∈s.cps.toList,u<128)(hc:c<=9) :
  ∃ σ1 σ2,cM (.ref (5+n)) (.tup (q.map .int)) (.str s) σ=.ok () σ1/\run d (nm "Memory.store") [eN,.tup (.int 5::.int a::.int L::r),.str s] σ1=.ok .none σ2/\FI σ2 (uB V x q (.str s)) (n+1) (c+1)/\σ1[1]?=some (.sdict dH):=by
 refine bk h.num λN n1 n2 n3=>?_;refine bk h.txt λC c1 c2 c3=>?_;refine bk h.held λH h1 h2 h3=>?_;obtain⟨e1,e2⟩:=h3 n x (by lia) hx;rw[PY rfl]at e2;refine dj (vF (q:=q) (v:=.str s) e2 (by lia)) λT t1 t2 t3 t4=>?_;have g:∀ i,i≠5+n->(σ.set (5+n) (.tdict T))[i]?=σ[i]?:=λi hi=>List.getElem?_set_ne (Ne.symm hi);refine jb (uG _ he) λl1 l2 l3=>?_;dsimp only at l1 l2 l3;have m1:(σ.set (5+n) (.tdict T))[1]?=some (.sdict dH):=by exact(g 1 (by lia)).trans h.mem
 have hst:=xl (σ:=σ.set (5+n) (.tdict T)) (d:=d) (a:=a) (r:=r) (s:=s) hd (uE m1) (show _=some (Cell.list C) by refine PX (g 3 (by lia)) ?_;rw[c1]) hs l2 (by lia) (by lia) (by lia);refine⟨_,_,t1,hst, ?_,m1⟩;have g2:∀ i,i≠5+n->i≠3->((σ.set (5+n) (.tdict T)).set 3 (.list (wr C a (xk s))))[i]?=σ[i]?:=λi hi hi2=>by exact(List.getElem?_set_ne (Ne.symm hi2)).trans ((g i hi))
 refine⟨h.pool.eq (g2 0 (by lia) (by decide)),by simp[h.len],by exact(g2 1 (by lia) (by decide)).trans h.mem,⟨N,by exact(g2 2 (by lia) (by lia)).trans n1,n2,λf hf=>?_⟩,⟨_,List.getElem?_set_self (by simp;lia),by rw[zH];exact c2,λf hf=>?_⟩,⟨H,by exact(g2 4 (by lia) (by lia)).trans h1,h2,nE hx h3 t2 t3 ?_ λi hi=>g2 _ (by lia) (by lia)⟩,nG hx h.rest,sa hk (.str (by lia)) h.val⟩
 ·unfold uB;rw[PZ (λz=>vG f hf _ he ⟨z.1.symm,z.2.symm⟩)];exact n3 f hf
 ·rcases zJ _ he f hf with⟨u1,u2,u3⟩ | ⟨u1,u2⟩
  ·dsimp only at u1 u2 u3;unfold uB;rw[PY ⟨u1.symm,u2.symm⟩,<-u3];refine⟨some s,rfl,λs' hs'=>by cases hs';exact⟨hs,ha⟩, ?_⟩;have:=Dx (l:=xk s) (C:=C) (a:=a) (by rw[fg];lia);rw[fg,hs]at this;exact this
  ·dsimp only at u1 u2;unfold uB;rw[PZ u1];refine bk (c3 f hf) λt w1 w2 w3=>?_;refine⟨t,w1,w2, ?_⟩;refine PX (xj (by rw[fg];lia) (by rw[fg];lia)) ?_;exact w3
 ·exact(List.getElem?_set_ne (by lia)).trans ((List.getElem?_set_self (by lia)))
theorem b_{a b:String}(h:¬ a=b):¬ nm a=nm b:=λe=>h ((u9 a b).mp e)
theorem io(cs:Sc):∀ (fr:af) (y:Str),aa (aU cs fr) y=if (cs.lookup y==some .free)=true then aa fr y else none
 | [],y=>by simp[aU,aa]
 | (z,e)::fr,y=>by
  have ih:=io cs fr y;unfold aU at ih ⊢;rw[List.filter_cons]
  by_cases h:(cs.lookup z==some .free)=true
  ·rw[PY h];simp only[aa]
   by_cases h':z=y
   ·subst h';refine PX (PY rfl) ?_;rw[PY h,PY rfl]
   ·rw[PZ h',PZ h',ih]
  ·rw[PZ h];simp only[aa]
   by_cases h':z=y
   ·subst h';refine PX ih (PX (PZ h) ?_);rw[PZ h]
   ·rw[PZ h',ih]
structure FP(fr:af)(x:String)(k a L:Int)(seats:List D):Prop where
 pool:aa fr (nm "pool")=some (.ref 0)
 memory:aa fr (nm "memory")=some eN
 held:aa fr (nm "held")=some (.ref 4)
 name:aa fr (nm "name")=some (.str (nm x))
 kind:aa fr (nm "kind")=some (.int k)
 address:aa fr (nm "address")=some (.int a)
 length:aa fr (nm "length")=some (.int L)
 seats:aa fr (nm "seats")=some (.list seats)
theorem FP.set{fr:af}{x:String}{k a L:Int}{seats:List D}(P:FP fr x k a L seats)(y:String)(v:D)(hy:y∉["pool","memory","held","name","kind","address","length","seats"]):FP (aj fr (nm y) v) x k a L seats:=by
 simp only[List.mem_cons,List.not_mem_nil,or_false,not_or]at hy;refine bp hy λh1 h2 h3 h4 z1=>?_;refine cO z1 λh5 h6 h7 h8=>?_;refine⟨?_, ?_, ?_, ?_, ?_, ?_, ?_, ?_⟩ <;> rw[cw]
 ·refine PX (PZ (b_ h1)) ?_;exact P.pool
 ·refine PX (PZ (b_ h2)) ?_;exact P.memory
 ·refine PX (PZ (b_ h3)) ?_;exact P.held
 ·refine PX (PZ (b_ h4)) ?_;exact P.name
 ·refine PX (PZ (b_ h5)) ?_;exact P.kind
 ·refine PX (PZ (b_ h6)) ?_;exact P.address
 ·refine PX (PZ (b_ h7)) ?_;exact P.length
 ·refine PX (PZ (b_ h8)) ?_;exact P.seats
theorem FI.more{σ:St}{V:cx}{n c c':Nat}(h:FI σ V n c)(e:c<=c'):FI σ V n c':=by
 refine bk h.held λH h1 h2 h3=>?_;refine⟨h.pool,h.len,h.mem,h.num,h.txt,⟨H,h1,h2,λi x hi hx=>?_⟩,h.rest,h.val⟩;obtain⟨a,b⟩:=h3 i x hi hx;refine⟨a, ?_⟩
 split at b
 ·rename_i hin;rw[PY hin];rcases b with b | ⟨T,b1,b2,b3⟩
  ·exact .inl b
  ·exact .inr ⟨T,b1,by lia,b3⟩
 ·rename_i hin;rw[PZ hin];exact b
theorem vH{σ:St}{V:cx}{n c:Nat}{x:String}(h:FI σ V (n+1) c)(hx:names[n]?=some x):subD (.ref 4) (.str (nm x)) σ=.ok (.ref (5+n)) σ:=by refine bk h.held λH h1 h2 h3=>?_;obtain⟨a,_⟩:=h3 n x (by lia) hx;show bnd (cell 4) _ σ=_;rw[aE (aS h1)];show ac (aa H (nm x)) σ=_;rw[a];rfl
theorem vK{l:List D}{i:Nat}{v:D}(h:l[i]?=some v)(hl:l.length<=100):subD (.list l) (.int i)=ret v:=by
 have h1:=(List.getElem?_eq_some_iff.mp h).1;show ac (so l (i:Int))=_;have:so l (i:Int)=some v:=by
  unfold so;refine PX (PY (by lia)) ?_
  simpa using h
 exact congrArg _ this
theorem nH{call:Str->List D->M D}{f:Str}{as:List D}:be call eN (.user f) as=call f (eN::as):=rfl
theorem bX{d n:Nat}{x:String}{k:Int}{a i c:Nat}{q:List Int}{seats:List D}{fr:af}{σ:St}{V:cx}(K:K')(hd:6<=d)(P:FP fr x k a 0 seats)(hat:aa fr (nm "at")=some (.int i))(hse:seats[i]?=some (.tup (q.map .int)))(hsl:seats.length<=100)
  (hx:names[n]?=some x) (he:(x,q,a+i,k)∈dI) (hk:(x,k)∈bi) (hk':k=0\/k=1\/k=4) (h:FI σ V (n+1) c) (hc:c<=9) :
  ∃ fr' σ' V',bE (run d) fr K σ=K fr' σ'/\FP fr' x k a 0 seats/\FI σ' V' (n+1) (c+1):=by
 refine aH (jw (p:=0) (d:=d) (k:=k) (by lia) (by lia) σ h.pool) λv σ1 e1 pv p1 s1=>?_;refine aH (dW (p:=0) (d:=d) (many:=9) (by lia) (by lia) (by lia) σ1 p1) λw σ2 e2 pw p2 s2=>?_;refine bk pw λj z2 j0 j1=>?_;obtain rfl:=z2;have h2:=(h.draw p1 s1).draw p2 s2;have P1:=P.set "value" v (by decide);have P2:=P1.set "value" v (by decide);have Eo:aa (aj fr (nm "value") v) (nm "at")=some (.int i):=by rw[cw,PZ (b_ (by decide))];exact hat
 have at2:aa (aj (aj fr (nm "value") v) (nm "value") v) (nm "at")=some (.int i):=by rw[cw,PZ (b_ (by decide))];exact Eo
 have v1:aa (aj fr (nm "value") v) (nm "value")=some v:=by rw[cw];exact(PY rfl)
 have v2:aa (aj (aj fr (nm "value") v) (nm "value") v) (nm "value")=some v:=by rw[cw];exact(PY rfl)
 have k5:¬ k=5:=by lia
 by_cases hj:j=8
 ·refine⟨_,σ2,V, ?_,P1,h2.more (by lia)⟩;obtain⟨a1,a2,a3,a4,a5,a6,a7,a8⟩:=P;have b1:=P1.pool;exact bd (by walk_at "s") (by walk_at "s")
 ·have ai:a+i<12:=uF _ he;have fi:fits (i:Int)=true:=dG (k:=3) (by lia) (by lia);have mx:au (nm "max") [.int 0,.int 1]=ret (.int 1):=by kernel_rfl
  refine aH (FI.put_num (d:=d) (r:=[.int 0,.tup []]) (by lia) h2 hx he hk hk' pv.1 hc) λσ3 σ4 t1 t2 t3 t4=>?_;have ea:(a:Int)+i=((a+i:Nat):Int):=by lia
  rw[<-ea]at t2;refine⟨_,σ4,_, ?_,P2,t3⟩;rw[<-nH (call:=run d),<-Int.mul_one (i:Int)]at t2;have t5:=(pt t4).1;have t6:=vH h2 hx;have t7:=vK hse hsl;have f1:=f1;clear h h2 hx he hk hk' hc hse hsl pv p1 s1 p2 s2 t3 t4 ea ai j0 j1;obtain⟨a1,a2,a3,a4,a5,a6,a7,a8⟩:=P;obtain⟨b1,b2,b3,b4,b5,b6,b7,b8⟩:=P1;obtain⟨c1,c2,c3,c4,c5,c6,c7,c8⟩:=P2;exact bd (by walk_at "s") (by walk_at "s")
theorem jy{d n:Nat}{x:String}{a i c L:Nat}{q:List Int}{seats:List D}{fr:af}{σ:St}{V:cx}(K:K')(hd:6<=d)(P:FP fr x 5 a L seats)(hat:aa fr (nm "at")=some (.int i))(hse:seats[i]?=some (.tup (q.map .int)))(hsl:seats.length<=100)
  (hx:names[n]?=some x) (he:(x,q,a+i*L,L)∈d9) (hL3:3<=L) (hk:(x,5)∈bi) (h:FI σ V (n+1) c) (hc:c<=9) :
  ∃ fr' σ' V',bE (run d) fr K σ=K fr' σ'/\FP fr' x 5 a L seats/\FI σ' V' (n+1) (c+1):=by
 refine aH (jw (p:=0) (d:=d) (k:=5) (by lia) (by decide) σ h.pool) λv σ1 e1 pv p1 s1=>?_;refine aH (dW (p:=0) (d:=d) (many:=9) (by lia) (by lia) (by lia) σ1 p1) λw σ2 e2 pw p2 s2=>?_;refine bk pw λj z3 j0 j1=>?_;obtain rfl:=z3;refine bk (pv.2 rfl) λs z4 sl sc=>?_;obtain rfl:=z4;have h2:=(h.draw p1 s1).draw p2 s2;refine jb (uG _ he) λl1 l2 l3=>?_;dsimp only at l1 l2 l3;have P1:=P.set "value" (.str s) (by decide);have P2:=P1.set "value" (.str (bD s L)) (by decide);have v2:aa (aj (aj fr (nm "value") (.str s)) (nm "value") (.str (bD s L))) (nm "value")=some (.str (bD s L)):=by rw[cw];exact(PY rfl)
 by_cases hj:j=8
 ·refine⟨_,σ2,V, ?_,P1,h2.more (by lia)⟩;obtain⟨a1,a2,a3,a4,a5,a6,a7,a8⟩:=P;have b1:=P1.pool;exact bd (by walk_at "s") (by walk_at "s")
 ·have hiL:i*L<=10:=by lia
  have hi:i<=10:=by have:=Nat.le_mul_of_pos_right i (show 0<L by lia);lia
  have fi:fits (i:Int)=true:=dG (k:=3) (by lia) (by lia);have fL:fits (L:Int)=true:=dG (k:=3) (by lia) (by lia);have mx:au (nm "max") [.int L,.int 1]=ret (.int L):=by rw[SB.2.2.2.1,PZ (by lia)]
  have es:bu (.str s) .none (.int L)=ret (.str s):=by
   have ls:ao s.length=true:=by unfold ao;simp;lia
   show(if ao s.length=true then bnd (ac (iu .none (.int (L:Int)) s.length)) λ(a,b)=>ret (D.str ⟨(cut s.cps.toList a b).toArray⟩) else stuck)=_;refine PX (PY ls) ?_;have:iu .none (.int (L:Int)) s.length=some (0,s.length):=by
    show(if 0<=(L:Int) then some (0,min (L:Int).toNat s.length) else none)=_;refine PX (PY (by lia)) ?_
    congr 2;lia
   rw[this];show ret (D.str ⟨(cut s.cps.toList 0 s.length).toArray⟩)=_;have:cut s.cps.toList 0 s.length=s.cps.toList:=by unfold cut;rw[List.drop_zero,Nat.sub_zero,List.take_of_length_le];simp[Str.length]
   rw[this]
  have ep:a_ (.str s) (nm "ljust")=ret .ljust:=by kernel_rfl
  have em:be (run d) (.str s) .ljust [.int L]=ret (.str (bD s L)):=by
   have pk:PadOk (L:Int)=true:=by
    obtain rfl | rfl:L=3\/L=4:=by lia
    ·decide +kernel
    ·decide +kernel
   show(if PadOk (L:Int)=true then ret (D.str (Txt.ljust s L)) else stuck)=_;refine PX (PY pk) ?_;rw[nx (by lia)]
  have hpl:(bD s L).length=L:=by simp[bD,Str.length];simp[Str.length]at sl;lia
  have hpc:∀ u∈(bD s L).cps.toList,u<128:=λu hu=>by
   rw[eK]at hu;rcases List.mem_append.mp hu with hu | hu
   ·exact sc u hu
   ·have:=(List.mem_replicate.mp hu).2;lia
  refine aH (FI.put_txt (d:=d) (r:=[.tup []]) (by lia) h2 hx he hk hpl hpc hc) λσ3 σ4 t1 t2 t3 t4=>?_;have ea:(a:Int)+i*L=((a+i*L:Nat):Int):=by simp
  rw[<-ea]at t2;refine⟨_,σ4,_, ?_,P2,t3⟩;rw[<-nH (call:=run d)]at t2;have t5:=(pt t4).1;have t6:=vH h2 hx;have t7:=vK hse hsl;clear h h2 hx he hk hc hse hsl pv p1 s1 p2 s2 t3 t4 ea j0 j1 l1 l2 l3 sl sc hpl hpc hiL hi hL3;obtain⟨a1,a2,a3,a4,a5,a6,a7,a8⟩:=P;obtain⟨b1,b2,b3,b4,b5,b6,b7,b8⟩:=P1;obtain⟨c1,c2,c3,c4,c5,c6,c7,c8⟩:=P2;exact bd (by walk_at "s") (by walk_at "s")
noncomputable def zK(Io:af):M D:=bnd (bnd (bnd (ah [bnd (bnd (ac (aa Io (nm "dims"))) λI1=>subD I1 (.int 0)) λI2=>subD I2 (.int 0),bnd (bnd (bnd (ac (aa Io (nm "dims"))) λI9=>subD I9 (.int 0)) λJB=>subD JB (.int 1)) λJC=>ag .Add JC (.int 1)]) λLd=>au (nm "range") Ld) λJs=>bnd (aZ Js) λLO=>aM (λOg JU=>(λI_=>bnd (aI [ac (aa I_ (nm "k"))]) λJt=>if ao (JU).length then ret (JU++[Jt]) else stuck) (aj (aU [(nm ".0",.local),(nm "k",.local)] Io) (nm "k") Og)) LO []) λKL=>ret (.list KL)
noncomputable def uH(Io:af):M D:=bnd (bnd (bnd (ah [bnd (bnd (ac (aa Io (nm "dims"))) λLm=>subD Lm (.int 1)) λLn=>subD Ln (.int 0),bnd (bnd (bnd (ac (aa Io (nm "dims"))) λLo=>subD Lo (.int 1)) λLp=>subD Lp (.int 1)) λLq=>ag .Add Lq (.int 1)]) λLr=>au (nm "range") Lr) λLs=>bnd (aZ Ls) λLu=>aM (λLv Ka=>(λI6=>if (aa I6 (nm "k")).isNone then bnd (bnd (ah [bnd (bnd (ac (aa I6 (nm "dims"))) λLw=>subD Lw (.int 0)) λLx=>subD Lx (.int 0),bnd (bnd (bnd (ac (aa I6 (nm "dims"))) λLy=>subD Ly (.int 0)) λLz=>subD Lz (.int 1)) λLA=>ag .Add LA (.int 1)]) λLB=>au (nm "range") LB) λLC=>bnd (aZ LC) λLD=>aM (λLE Jq=>(λJV=>bnd (aI [ac (aa JV (nm "k")),ac (aa JV (nm "n"))]) λLF=>if ao (Jq).length then ret (Jq++[LF]) else stuck) (aj I6 (nm "k") LE)) LD Ka else stuck) (aj (aU [(nm ".0",.local),(nm "n",.local),(nm "k",.local),(nm "range",.globalImplicit),(nm "dims",.free)] Io) (nm "n") Lv)) Lu []) λLG=>ret (.list LG)
noncomputable def pA:af->D->M af:=λfr d=>ret (aj fr (nm "at") d)
noncomputable def ci(call:Str->List D->M D)(fr:af)(K:K'):M Flow':=bnd (fk []) λKT=>bnd (bnd (ac (aa fr (nm "held"))) λK8=>bnd (ac (aa fr (nm "name"))) λK9=>bnd (cM K8 K9 KT) λ_=>ret fr) λI5=>bnd (bnd (ah [bnd (ah [ac (aa I5 (nm "seats"))]) λLe=>au (nm "len") Le]) λLg=>au (nm "range") Lg) λLh=>dL Lh λOi=>aG (bE call) pA Oi I5 λLi=>K Li
theorem md{call:Str->List D->M D}{bT:af}{K:K'}:bm call bT K=bnd (bnd (call (nm "_law_places") []) λt8=>bnd (ac (aa bT (nm "name"))) λt9=>subD t8 t9) λIL=>bnd (dg bT [(nm "kind"),(nm "address"),(nm "length"),(nm "dims")] IL) λJo=>bnd (dk [ret ((.tup []))]) λIO=>bnd (ret (aj Jo (nm "seats") IO)) λIo=>
  bnd (bnd (bnd (ah [ac (aa Io (nm "dims"))]) λKz=>au (nm "len") Kz) λIR=>ae .Eq IR (.int 1)) λKy=>if Ky then bnd (zK Io) λJu=>bnd (ret (aj Io (nm "seats") Ju)) λJb=>bnd (bnd (bnd (ah [ac (aa Jb (nm "dims"))]) λKQ=>au (nm "len") KQ) λJD=>ae .Eq JD (.int 2)) λOh=>if Oh then bnd (uH Jb) λKt=>bnd (ret (aj Jb (nm "seats") Kt)) λIY=>ci call IY K else ci call Jb K
  else bnd (bnd (bnd (ah [ac (aa Io (nm "dims"))]) λLj=>au (nm "len") Lj) λLk=>ae .Eq Lk (.int 2)) λLl=>if Ll then bnd (uH Io) λLH=>bnd (ret (aj Io (nm "seats") LH)) λJW=>ci call JW K else ci call Io K:=by kernel_rfl
theorem me{d n:Nat}{x:String}{k a L:Int}{seats:List D}(K:K')(hbody:∀ i,i<seats.length->∀ (K:K') fr σ V c,c<=9->FP fr x k a L seats->aa fr (nm "at")=some (.int (i:Nat))->FI σ V (n+1) c->∃ fr' σ' V',bE (run d) fr K σ=K fr' σ'/\FP fr' x k a L seats/\FI σ' V' (n+1) (c+1)) :
  ∀ (m j c:Nat) (fr:af) (σ:St) (V:cx),j+m=seats.length->c+m<=10->FP fr x k a L seats->FI σ V (n+1) c →
   ∃ fr' σ' V',aG (bE (run d)) pA ((List.range' j m).map λi=>D.int (i:Nat)) fr K σ=K fr' σ'/\FP fr' x k a L seats/\FI σ' V' (n+1) 10
 | 0,j,c,fr,σ,V,hj,hc,P,h=>⟨fr,σ,V,rfl,P,h.more (by lia)⟩
 | m+1,j,c,fr,σ,V,hj,hc,P,h=>by
  have P1:=P.set "at" (.int (j:Nat)) (by decide);have Eo:aa (aj fr (nm "at") (.int (j:Nat))) (nm "at")=some (.int (j:Nat)):=by rw[cw];exact(PY rfl)
  refine bA (hbody j (by lia) (λfr''=>aG (bE (run d)) pA ((List.range' (j+1) m).map λi=>D.int (i:Nat)) fr'' K) _ σ V c (by lia) P1 Eo h) λfr' σ' V' e P' h'=>?_;refine bA (me K hbody m (j+1) (c+1) fr' σ' V' (by lia) (by lia) P' h') λbT σ2 V2 e2 P2 h2=>?_;refine⟨bT,σ2,V2, ?_,P2,h2⟩;simp only[<-e2,<-e,List.range'_succ,List.map_cons,aG];rfl
theorem ip:∀ (l:List (Str×D)) (x:Str) (d:D) (y:Str),aa (fJ l x d) y=if x=y then some d else aa l y
 | [],x,d,y=>rfl
 | (z,e)::l,x,d,y=>by
  dsimp only[fJ]
  by_cases h:z=x
  ·rw[PY h];subst h;simp only[aa]
   by_cases h':z=y
   ·simp[h']
   ·simp[h']
  ·rw[PZ h];simp only[aa]
   by_cases h':z=y
   ·subst h';simp[h];intro q;exact absurd q.symm h
   ·refine PX (PZ h') ?_;rw[PZ h'];exact(ip l x d y)
theorem sd:∀ (l:List (Str×D)) (x:Str) (d:D),(fJ l x d).length<=l.length+1
 | [],x,d=>by simp[fJ]
 | (y,e)::l,x,d=>by
  simp only[fJ]
  split
  ·simp
  ·have:=sd l x d;simp;omega
theorem FI.begin{σ:St}{V:cx}{n c:Nat}{x:String}(h:FI σ V n c)(hc:c<=10)(hx:names[n]?=some x)(hn:n<8):∃ σ',(bnd (fk []) λt=>cM (.ref 4) (.str (nm x)) t) σ=.ok () σ'/\FI σ' V (n+1) 0:=by
 refine bk h.held λH h1 h2 h3=>?_;have hd:fk []=bnd (d_ (.sdict [])) λi=>ret (.ref i):=by kernel_rfl
 have ha:(d_ (.sdict []):M Nat) σ=.ok (5+n) (σ++[Cell.sdict []]):=by show R.ok σ.length (σ++[Cell.sdict []])=_;rw[h.len]
 have lt4:4<σ.length:=by rw[h.len];lia
 have h1':(σ++[Cell.sdict []])[4]?=some (.sdict H):=by exact(List.getElem?_append_left lt4).trans h1
 have lo:ao H.length=true:=by unfold ao;simp;lia
 refine⟨(σ++[Cell.sdict []]).set 4 (.sdict (fJ H (nm x) (.ref (5+n)))), ?_, ?_⟩
 ·rw[hd];simp only[SM];rw[aE ha];show bnd (cell 4) _ _=_;rw[aE (aS h1')];show(if ao H.length then xp 4 (.sdict (fJ H (nm x) (.ref (5+n)))) else stuck) _=_;rw[PY lo];rfl
 ·have g:∀ i,i<σ.length->i≠4->((σ++[Cell.sdict []]).set 4 (.sdict (fJ H (nm x) (.ref (5+n)))))[i]?=σ[i]?:=λi hi hi4=>by exact(List.getElem?_set_ne (Ne.symm hi4)).trans ((List.getElem?_append_left hi))
  have hl:=h.len;refine⟨h.pool.eq (g 0 (by lia) (by decide)),by simp[hl];lia,by exact(g 1 (by lia) (by decide)).trans h.mem,by exact(g 2 (by lia) (by decide)) ▸ h.num,by exact(g 3 (by lia) (by decide)) ▸ h.txt,
   ⟨_,List.getElem?_set_self (by simp;lia),by have:=sd H (nm x) (.ref (5+n));lia,λi y hi hy=>?_⟩,λi y hi hy=>h.rest i y (by lia) hy,h.val⟩
  by_cases hin:i=n
  ·subst hin;replace hy:=(hx) ▸ hy;cases hy;refine⟨by rw[ip];exact(PY rfl),.inl ⟨?_,h.rest i x (Nat.le_refl _) hx⟩⟩;refine PX (List.getElem?_set_ne (by lia)) (PX (List.getElem?_append_right (by lia)) ?_);rw[hl,Nat.sub_self];rfl
  ·obtain⟨a,b⟩:=h3 i y (by lia) hy;have hyx:¬ x=y:=λe=>hin (jx hy (e ▸ hx));refine⟨by rw[ip,PZ (b_ hyx)];exact a, ?_⟩;rw[PZ (by lia)];have b':jK σ (5+i) (V y) 10:=by
    rcases b with b | ⟨T,b1,b2,b3⟩
    ·exact .inl b
    ·exact .inr ⟨T,b1,by split at b2 <;> lia,b3⟩
   unfold jK at b' ⊢;exact(g (5+i) (by lia) (by lia)) ▸ b'
theorem ja{d n c:Nat}{x:String}{k a L:Int}{seats:List D}{fr:af}{σ:St}{V:cx}(K:K')(P:FP fr x k a L seats)(hx:names[n]?=some x)(hn:n<8)(hsl:seats.length<=10)(h:FI σ V n c)(hc:c<=10)
  (hbody:∀ i,i<seats.length->∀ (K:K') fr σ V c,c<=9->FP fr x k a L seats->aa fr (nm "at")=some (.int (i:Nat))->FI σ V (n+1) c->∃ fr' σ' V',bE (run d) fr K σ=K fr' σ'/\FP fr' x k a L seats/\FI σ' V' (n+1) (c+1)) :
  ∃ fr' σ' V',ci (run d) fr K σ=K fr' σ'/\FP fr' x k a L seats/\FI σ' V' (n+1) 10:=by
 refine am (h.begin hc hx hn) λσ1 e1 h1=>?_;refine bA (me K hbody seats.length 0 0 fr σ1 V (by lia) (by lia) P h1) λbT σ2 V2 e2 P2 h2=>?_;refine⟨bT,σ2,V2, ?_,P2,h2⟩;have lo:ao seats.length=true:=by unfold ao;simp;lia
 have hr:range 0 (seats.length:Int)=(List.range' 0 seats.length).map λi=>D.int (i:Nat):=by unfold range;rw[List.range_eq_range'];simp
 have c1:(seats.length:Int)<=100000:=by lia
 have c2:-100000<=(seats.length:Int):=by lia
 have e:ci (run d) fr K=bnd (bnd (fk []) λt=>cM (.ref 4) (.str (nm x)) t) λ_=>aG (bE (run d)) pA ((List.range' 0 seats.length).map λi=>D.int (i:Nat)) fr K:=by simp only[ci,SM,P.held,P.name,P.seats,SB,Fk,lo,if_true,c1,c2,SL,and_self,show(-100000:Int)<=0 from by decide,show(0:Int)<=100000 from by decide,hr]
 rw[e,aE e1];exact e2
structure FQ(fr:af):Prop where
 pool:aa fr (nm "pool")=some (.ref 0)
 memory:aa fr (nm "memory")=some eN
 held:aa fr (nm "held")=some (.ref 4)
theorem FP.q{fr:af}{x:String}{k a L:Int}{seats:List D}(P:FP fr x k a L seats):FQ fr:=⟨P.pool,P.memory,P.held⟩
theorem uI:dk [ret (D.tup [])]=ret (.list [.tup []]):=by kernel_rfl
theorem Ez{d:Nat}{x:String}{k a L:Int}{fr:af}(K:K')(hd:1<=d)(Q:FQ fr)(hp:subD (.sdict aC) (.str (nm x))=ret (cy k a L [])) :
  ∃ fr',FP fr' x k a L [.tup []]/\bm (run d) (aj fr (nm "name") (.str (nm x))) K=ci (run d) fr' K:=by
 obtain⟨q1,q2,q3⟩:=Q;have hpl:=eM hd;have m1:=uI;refine⟨aj (aj (aj (aj (aj (aj fr (nm "name") (.str (nm x))) (nm "kind") (.int k)) (nm "address") (.int a)) (nm "length") (.int L)) (nm "dims") (.tup [])) (nm "seats") (.list [.tup []]),⟨by walk_at "l",by walk_at "l",by walk_at "l",by walk_at "l",by walk_at "l",by walk_at "l",by walk_at "l",by walk_at "l"⟩, ?_⟩;refine PX md ?_;walk_at "e"
theorem EA{d:Nat}{x:String}{k a L lo:Int}{fr:af}(K:K')(hd:1<=d)(Q:FQ fr)(hlo:lo=1\/lo=2)(hp:subD (.sdict aC) (.str (nm x))=ret (cy k a L [rg lo (lo+1)])) :
  ∃ fr',FP fr' x k a L [.tup [.int lo],.tup [.int (lo+1)]]/\bm (run d) (aj fr (nm "name") (.str (nm x))) K=ci (run d) fr' K:=by
 obtain⟨q1,q2,q3⟩:=Q;have hpl:=eM hd;have m1:=uI;refine⟨aj (aj (aj (aj (aj (aj (aj fr (nm "name") (.str (nm x))) (nm "kind") (.int k)) (nm "address") (.int a)) (nm "length") (.int L)) (nm "dims") (.tup [rg lo (lo+1)])) (nm "seats") (.list [.tup []])) (nm "seats") (.list [.tup [.int lo],.tup [.int (lo+1)]]),⟨by walk_at "l",by walk_at "l",by walk_at "l",by walk_at "l",by walk_at "l",by walk_at "l",by walk_at "l",by walk_at "l"⟩, ?_⟩
 ·have s1:∀ Io,aa Io (nm "dims")=some (.tup [rg lo (lo+1)])->zK Io=ret (.list [.tup [.int lo],.tup [.int (lo+1)]]):=λIo h13=>by
   rcases hlo with z | z <;> subst z
   all_goals
    refine B1 (B1 (B1 (eV (B1 (B1 (lk h13) rfl) rfl) (eV (B1 (B1 (B1 (lk h13) rfl) rfl) rfl) rfl)) rfl) (B1 rfl ?_)) rfl;exact eC (B1 (tU (eV (lk ua) rfl) rfl) rfl) (eC (B1 (tU (eV (lk ua) rfl) rfl) rfl) rfl)
  have s:=s1 (aj (aj (aj (aj (aj (aj fr (nm "name") (.str (nm x))) (nm "kind") (.int k)) (nm "address") (.int a)) (nm "length") (.int L)) (nm "dims") (.tup [rg lo (lo+1)])) (nm "seats") (.list [.tup []])) (by walk_at "l");clear s1 hlo;refine PX md ?_;walk_at "e"
noncomputable def pB:List D:=[.tup [.int 0,.int (-1)],.tup [.int 1,.int (-1)],.tup [.int 2,.int (-1)],.tup [.int 0,.int 0],.tup [.int 1,.int 0],.tup [.int 2,.int 0]]
theorem Fl{d:Nat}{x:String}{k a L:Int}{fr:af}(K:K')(hd:1<=d)(Q:FQ fr)(hp:subD (.sdict aC) (.str (nm x))=ret (cy k a L [rg 0 2,rg (-1) 0])) :
  ∃ fr',FP fr' x k a L pB/\bm (run d) (aj fr (nm "name") (.str (nm x))) K=ci (run d) fr' K:=by
 obtain⟨q1,q2,q3⟩:=Q;have e:aa (aj fr (nm "name") (.str (nm x))) (nm "name")=some (.str (nm x)):=ua;have hpl:=eM hd;have m1:=uI;refine⟨aj (aj (aj (aj (aj (aj (aj fr (nm "name") (.str (nm x))) (nm "kind") (.int k)) (nm "address") (.int a)) (nm "length") (.int L)) (nm "dims") (.tup [rg 0 2,rg (-1) 0])) (nm "seats") (.list [.tup []])) (nm "seats") (.list pB),⟨by walk_at "l",by walk_at "l",by walk_at "l",by walk_at "l",by walk_at "l",by walk_at "l",by walk_at "l",by walk_at "l"⟩, ?_⟩
 ·have s2:∀ Io,aa Io (nm "dims")=some (.tup [rg 0 2,rg (-1) 0])->uH Io=ret (.list pB):=λIo h13=>by
   have l1:aa (aU [(nm ".0",.local),(nm "n",.local),(nm "k",.local),(nm "range",.globalImplicit),(nm "dims",.free)] Io) (nm "k")=none:=by
    rw[io];have:(List.lookup (nm "k") [(nm ".0",NameKind.local),(nm "n",.local),(nm "k",.local),(nm "range",.globalImplicit),(nm "dims",.free)]==some .free)=false:=by decide +kernel
    rw[this];rfl
   have l2:aa (aU [(nm ".0",.local),(nm "n",.local),(nm "k",.local),(nm "range",.globalImplicit),(nm "dims",.free)] Io) (nm "dims")=some (.tup [rg 0 2,rg (-1) 0]):=by
    rw[io];have:(List.lookup (nm "dims") [(nm ".0",NameKind.local),(nm "n",.local),(nm "k",.local),(nm "range",.globalImplicit),(nm "dims",.free)]==some .free)=true:=by decide +kernel
    rw[this,PY rfl];exact h13
   refine B1 (B1 (B1 (eV (B1 (B1 (lk h13) rfl) rfl) (eV (B1 (B1 (B1 (lk h13) rfl) rfl) rfl) rfl)) rfl) (B1 rfl (eC (a:=[.tup [.int 0,.int (-1)],.tup [.int 1,.int (-1)],.tup [.int 2,.int (-1)]]) (iT ?_ ?_) (eC (a:=pB) (iT ?_ ?_) rfl)))) rfl
   ·rw[cw,PZ (b_ (by decide)),l1];rfl
   ·exact B1 (B1 (eV (B1 (B1 (lk (zX (by decide) l2)) rfl) rfl) (eV (B1 (B1 (B1 (lk (zX (by decide) l2)) rfl) rfl) rfl) rfl)) rfl) (B1 rfl (eC (B1 (tU (eV (lk ua) (eV (lk (zX (by decide) ua)) rfl)) rfl) rfl) (eC (B1 (tU (eV (lk ua) (eV (lk (zX (by decide) ua)) rfl)) rfl) rfl) (eC (B1 (tU (eV (lk ua) (eV (lk (zX (by decide) ua)) rfl)) rfl) rfl) rfl))))
   ·rw[cw,PZ (b_ (by decide)),l1];rfl
   ·exact B1 (B1 (eV (B1 (B1 (lk (zX (by decide) l2)) rfl) rfl) (eV (B1 (B1 (B1 (lk (zX (by decide) l2)) rfl) rfl) rfl) rfl)) rfl) (B1 rfl (eC (B1 (tU (eV (lk ua) (eV (lk (zX (by decide) ua)) rfl)) rfl) rfl) (eC (B1 (tU (eV (lk ua) (eV (lk (zX (by decide) ua)) rfl)) rfl) rfl) (eC (B1 (tU (eV (lk ua) (eV (lk (zX (by decide) ua)) rfl)) rfl) rfl) rfl))))
  have s:=s2 (aj (aj (aj (aj (aj (aj fr (nm "name") (.str (nm x))) (nm "kind") (.int k)) (nm "address") (.int a)) (nm "length") (.int L)) (nm "dims") (.tup [rg 0 2,rg (-1) 0])) (nm "seats") (.list [.tup []])) (by walk_at "l");clear s2;refine PX md ?_;walk_at "e"
noncomputable def se(d n:Nat)(x:String):Prop:=∀ (fr:af) (σ:St) (V:cx) (K:K'),FQ fr->FI σ V n 10->∃ fr' σ' V',bm (run d) (aj fr (nm "name") (.str (nm x))) K σ=K fr' σ'/\FQ fr'/\FI σ' V' (n+1) 10
theorem vM{d n:Nat}{x:String}{k:Int}{a:Nat}(hd:6<=d)(hx:names[n]?=some x)(hn:n<8)(hp:subD (.sdict aC) (.str (nm x))=ret (cy k a 0 []))(he:(x,[],a,k)∈dI)(hk:(x,k)∈bi)(hk':k=0\/k=1\/k=4):se d n x:=by
 intro fr σ V K Q h;refine am (Ez K (PQ (by decide) hd) Q hp) λJK P e1=>?_;refine bA (ja (d:=d) K P hx hn (by simp) h (Nat.le_refl _) λi hi K fr σ V c hc P hat h=>by
  obtain rfl:i=0:=by simp at hi;omega
  exact bX (q:=[]) K hd P hat rfl (by simp) hx he hk hk' h hc) λbT σ2 V2 e2 P2 h2=>?_
 exact⟨bT,σ2,V2,by rw[e1];exact e2,P2.q,h2⟩
theorem Dy{d:Nat}(hd:6<=d):se d 6 "C":=by
 intro fr σ V K Q h;refine am (Ez (x:="C") (k:=5) (a:=0) (L:=4) K (PQ (by decide) hd) Q (by kernel_rfl)) λJK P e1=>?_;refine bA (ja (d:=d) K P (n:=6) rfl (by decide) (by decide) h (Nat.le_refl _) λi hi K fr σ V c hc P hat h=>by
  obtain rfl:i=0:=by simp at hi;lia
  exact jy (q:=[]) (a:=0) (L:=4) K hd P hat rfl (by decide) rfl (by decide) (by decide) (by decide) h hc) λbT σ2 V2 e2 P2 h2=>?_
 exact⟨bT,σ2,V2,by rw[e1];exact e2,P2.q,h2⟩
theorem Dz{d:Nat}(hd:6<=d):se d 4 "B":=by
 intro fr σ V K Q h;refine am (EA (x:="B") (k:=1) (a:=9) (L:=0) (lo:=1) K (PQ (by decide) hd) Q (.inl rfl) (by kernel_rfl)) λJK P e1=>?_;refine bA (ja (d:=d) K P (n:=4) rfl (by decide) (by decide) h (Nat.le_refl _) λi hi K fr σ V c hc P hat h=>by
  obtain rfl | rfl:=(by decide:∀ n:Nat,n<2->n=0\/n=1) i hi
  ·exact bX (q:=[1]) (a:=9) K hd P hat rfl (by decide) rfl (by decide) (by decide) (.inr (.inl rfl)) h hc
  ·exact bX (q:=[2]) (a:=9) K hd P hat rfl (by decide) rfl (by decide) (by decide) (.inr (.inl rfl)) h hc) λbT σ2 V2 e2 P2 h2=>?_
 exact⟨bT,σ2,V2,by rw[e1,e2],P2.q,h2⟩
theorem DA{d:Nat}(hd:6<=d):se d 7 "D":=by
 intro fr σ V K Q h;refine am (EA (x:="D") (k:=5) (a:=4) (L:=3) (lo:=2) K (PQ (by decide) hd) Q (.inr rfl) (by kernel_rfl)) λJK P e1=>?_;refine bA (ja (d:=d) K P (n:=7) rfl (by decide) (by decide) h (Nat.le_refl _) λi hi K fr σ V c hc P hat h=>by
  obtain rfl | rfl:=(by decide:∀ n:Nat,n<2->n=0\/n=1) i hi
  ·exact jy (q:=[2]) (a:=4) (L:=3) K hd P hat rfl (by decide) rfl (by decide) (by decide) (by decide) h hc
  ·exact jy (q:=[3]) (a:=4) (L:=3) K hd P hat rfl (by decide) rfl (by decide) (by decide) (by decide) h hc) λbT σ2 V2 e2 P2 h2=>?_
 exact⟨bT,σ2,V2,by rw[e1,e2],P2.q,h2⟩
theorem DB{d:Nat}(hd:6<=d):se d 2 "A":=by
 intro fr σ V K Q h;refine am (Fl (x:="A") (k:=0) (a:=2) (L:=0) K (PQ (by decide) hd) Q (by kernel_rfl)) λJK P e1=>?_;refine bA (ja (d:=d) K P (n:=2) rfl (by decide) (by decide) h (Nat.le_refl _) λi hi K fr σ V c hc P hat h=>by
  obtain rfl | rfl | rfl | rfl | rfl | rfl:=(by decide:∀ n:Nat,n<6->n=0\/n=1\/n=2\/n=3\/n=4\/n=5) i hi
  ·exact bX (q:=[0,-1]) (a:=2) K hd P hat rfl (by decide) rfl (by decide) (by decide) (.inl rfl) h hc
  ·exact bX (q:=[1,-1]) (a:=2) K hd P hat rfl (by decide) rfl (by decide) (by decide) (.inl rfl) h hc
  ·exact bX (q:=[2,-1]) (a:=2) K hd P hat rfl (by decide) rfl (by decide) (by decide) (.inl rfl) h hc
  ·exact bX (q:=[0,0]) (a:=2) K hd P hat rfl (by decide) rfl (by decide) (by decide) (.inl rfl) h hc
  ·exact bX (q:=[1,0]) (a:=2) K hd P hat rfl (by decide) rfl (by decide) (by decide) (.inl rfl) h hc
  ·exact bX (q:=[2,0]) (a:=2) K hd P hat rfl (by decide) rfl (by decide) (by decide) (.inl rfl) h hc) λbT σ2 V2 e2 P2 h2=>?_
 exact⟨bT,σ2,V2,by rw[e1,e2],P2.q,h2⟩
theorem xm{d:Nat}(hd:6<=d):∀ n x,names[n]?=some x->se d n x:=by
 have k:∀ {n:Nat} {y:String},names[n]?=some y->se d n y->∀ x,names[n]?=some x->se d n x:=λh t x hx=>P7 (h.symm.trans hx) ▸ t;intro n
 induction n using Nat.casesOn with
 | zero=>refine k (y:="I") rfl ?_;exact vM (a:=0) (k:=0) hd rfl (by decide) (by kernel_rfl) (by decide) (by decide) (.inl rfl)
 | succ n=>
 induction n using Nat.casesOn with
 | zero=>refine k (n:=1) (y:="J") rfl ?_;exact vM (a:=1) (k:=0) hd rfl (by decide) (by kernel_rfl) (by decide) (by decide) (.inl rfl)
 | succ n=>
 induction n using Nat.casesOn with
 | zero=>refine k (n:=2) (y:="A") rfl ?_;exact DB hd
 | succ n=>
 induction n using Nat.casesOn with
 | zero=>refine k (n:=3) (y:="X") rfl ?_;exact vM (a:=8) (k:=1) hd rfl (by decide) (by kernel_rfl) (by decide) (by decide) (.inr (.inl rfl))
 | succ n=>
 induction n using Nat.casesOn with
 | zero=>refine k (n:=4) (y:="B") rfl ?_;exact Dz hd
 | succ n=>
 induction n using Nat.casesOn with
 | zero=>refine k (n:=5) (y:="L") rfl ?_;exact vM (a:=11) (k:=4) hd rfl (by decide) (by kernel_rfl) (by decide) (by decide) (by decide)
 | succ n=>
 induction n using Nat.casesOn with
 | zero=>refine k (n:=6) (y:="C") rfl ?_;exact Dy hd
 | succ n=>
 induction n using Nat.casesOn with
 | zero=>refine k (n:=7) (y:="D") rfl ?_;exact DA hd
 | succ n=>exact λx hx=>du hx
theorem nI{d:Nat}(hd:6<=d)(K:K'):∀ (m j:Nat) (fr:af) (σ:St) (V:cx),j+m=8->FQ fr->FI σ V j 10 →
  ∃ fr' σ' V',aG (bm (run d)) (λKn d7=>ret (aj Kn (nm "name") d7)) ((names.drop j).map λx=>D.str (nm x)) fr K σ=K fr' σ'/\FQ fr'/\FI σ' V' 8 10
 | 0,j,fr,σ,V,hj,Q,h=>by
  obtain rfl:j=8:=by omega
  exact⟨fr,σ,V,rfl,Q,h⟩
 | m+1,j,fr,σ,V,hj,Q,h=>by
  obtain⟨x,hx⟩ : ∃ x,names[j]?=some x:=⟨_,List.getElem?_eq_getElem (show j<names.length by show j<8;lia)⟩;refine bA (xm hd j x hx fr σ V (λfr''=>aG (bm (run d)) (λKn d7=>ret (aj Kn (nm "name") d7)) ((names.drop (j+1)).map λx=>D.str (nm x)) fr'' K) Q h) λJK σ1 V1 e1 Q1 h1=>?_;refine bA (nI hd K m (j+1) JK σ1 V1 (by lia) Q1 h1) λbT σ2 V2 e2 Q2 h2=>?_;refine⟨bT,σ2,V2, ?_,Q2,h2⟩;have hdrop:names.drop j=x::names.drop (j+1):=by refine PU (List.getElem?_eq_some_iff.mp hx) λh1 h2=>?_;simp only[List.drop_eq_getElem_cons h1,h2]
  simp only[<-e2,<-e1,hdrop,List.map_cons,aG];rfl
noncomputable def vN(call:Str->List D->M D)(I5:af):M Flow':=bnd (ac (aa I5 (nm "trees"))) λK1=>dL K1 λK_=>aG (ic call) (λJJ KY=>ret (aj JJ (nm "tree") KY)) K_ I5 λIz=>bnd (bnd (aI [bnd (ac (aa Iz (nm "memory"))) λKp=>aB Kp (nm "numeric"),bnd (ac (aa Iz (nm "memory"))) λJ8=>aB J8 (nm "characters")]) λJ9=>bnd (bnd (ac (aa Iz (nm "before"))) λJ_=>ae .Eq J9 J_) λb98=>ret (.bool b98)) λIZ=>ret (.ret IZ)
noncomputable def BS(call:Str->List D->M D)(Iw t9 IK I2 I9 JB:D):M Flow':=bnd (call (nm "base_expressions") []) λJC=>bnd (bnd (call (nm "char_expressions") []) λJZ=>bnd (a_ JZ (nm "items")) λk34=>be call JZ k34 []) λJ0=>sF J0 λOT=>aG (Ci call) (λLI OU=>dg LI [(nm "word"),(nm "handler")] OU) OT [(nm "script",Iw),(nm "pool",t9),(nm "trees",IK),(nm "width",I2),(nm "memory",I9),(nm "held",JB),(nm "expressions",JC)] λJI=>bnd (bnd (ah [ac (aa JI (nm "memory")),bnd (ah [ac (aa JI (nm "width")),ret (.int 3),ret (.int 5),ret (.int 90)]) λL5=>bP call (.fn (nm "Limits")) L5,fj [],ret (.none),ac (aa JI (nm "expressions")),fj []]) λL_=>bP call (.fn (nm "Run")) L_) λIN=>bnd (ret (aj JI (nm "run") IN)) λI4=>bnd (call (nm "all_operations") []) λKc=>bnd (bnd (ac (aa I4 (nm "run"))) λJR=>bnd (ef JR (nm "operations") Kc) λ_=>ret I4) λLJ=>bnd (call (nm "_law_places") []) λJ3=>dL J3 λOV=>aG (zh call) (λLK OW=>ret (aj LK (nm "name") OW)) OV LJ λIE=>bnd (aI [bnd (ah [bnd (ac (aa IE (nm "memory"))) λKm=>aB Km (nm "numeric")]) λOX=>au (nm "list") OX,bnd (ah [bnd (ac (aa IE (nm "memory"))) λKt=>aB Kt (nm "characters")]) λLV=>au (nm "list") LV]) λKT=>bnd (ret (aj IE (nm "before") KT)) λI5=>bnd (ac (aa I5 (nm "trees"))) λK1=>dL K1 λK_=>aG (ic call) (λJJ KY=>ret (aj JJ (nm "tree") KY)) K_ I5 λIz=>bnd (bnd (aI [bnd (ac (aa Iz (nm "memory"))) λKp=>aB Kp (nm "numeric"),bnd (ac (aa Iz (nm "memory"))) λJ8=>aB J8 (nm "characters")]) λJ9=>bnd (bnd (ac (aa Iz (nm "before"))) λJ_=>ae .Eq J9 J_) λb98=>ret (.bool b98)) λIZ=>ret (.ret IZ)
noncomputable def zL:List (Str×D):=([("const","eval_const"),("var","eval_place"),("elem","eval_place"),("add","eval_binary"),("sub","eval_binary"),("mul","eval_binary"),("div","eval_binary"),("pow","eval_binary"),("powi","eval_binary"),("and","eval_binary"),("or","eval_binary"),("eqv","eval_binary"),("neqv","eval_binary"),
 ("eq","eval_compare"),("ne","eval_compare"),("lt","eval_compare"),("le","eval_compare"),("gt","eval_compare"),("ge","eval_compare"),("conv","eval_conv"),("neg","eval_unary"),("not","eval_unary"),("substr","eval_place"),("cat","eval_cat")]:List (String×String)).map λx=>(nm x.1,.fn (nm x.2))
noncomputable def DC:List (Int×D):=[(0,.fn (nm "int_binary")),(1,.fn (nm "real_binary")),(2,.fn (nm "real_binary")),(3,.fn (nm "complex_binary")),(4,.fn (nm "logic_binary")),(5,.fn (nm "text_binary"))]
noncomputable def Fo(w:Int):List (Str×D):=[(nm "width",.int w),(nm "real_digits",.int 3),(nm "double_digits",.int 5),(nm "top_exponent",.int 90),(nm "steps",.int 1000000),(nm "continuations",.int 19),(nm "columns",.int 72),(nm "depth",.int 40)]
noncomputable def Fp:List (Str×D):=[(nm "memory",eN),(nm "limits",.inst (nm "Limits") 14),(nm "units",.sdict []),(nm "world",.none),(nm "expressions",.ref 13),(nm "statements",.sdict []),(nm "frame",.ref 16),(nm "depth",.int 0),(nm "steps",.int 0),(nm "places",.ref 17),(nm "flows",.ref 18),(nm "clears",.ref 19),(nm "active",.list []),(nm "loops",.ref 20),(nm "operations",.idict DC)]
noncomputable def pD:D:=.inst (nm "Run") 15
noncomputable def Fq(script trees:D)(w:Int)(N C:List D):af:=[(nm "script",script),(nm "pool",.ref 0),(nm "trees",trees),(nm "width",.int w),(nm "memory",eN),(nm "held",.ref 4),(nm "expressions",.ref 13),(nm "word",.str (nm "cat")),(nm "handler",.fn (nm "eval_cat")),(nm "run",pD),(nm "name",.str (nm "D")),(nm "before",.tup [.list N,.list C])]
noncomputable def more(w:Int):St:=[.sdict zL,.sdict (Fo w),.sdict Fp,.sdict aC,.sdict [],.sdict [],.sdict [],.sdict [],.sdict []]
theorem BU(d:Nat)(script trees:D)(w:Int)(c0 c4 c5 c6 c7 c8 c9 IT Ji Jx:Cell)(n0 n1 n2 n3 n4 n5 n6 n7 n8 n9 n10 n11:D)(k0 k1 k2 k3 k4 k5 k6 k7 k8 k9:D) :
  BS (run (d+4)) script (.ref 0) trees (.int w) eN (.ref 4) [c0,.sdict dH,.list [n0,n1,n2,n3,n4,n5,n6,n7,n8,n9,n10,n11],.list [k0,k1,k2,k3,k4,k5,k6,k7,k8,k9],c4,c5,c6,c7,c8,c9,IT,Ji,Jx]
  = vN (run (d+4)) (Fq script trees w [n0,n1,n2,n3,n4,n5,n6,n7,n8,n9,n10,n11] [k0,k1,k2,k3,k4,k5,k6,k7,k8,k9]) ([c0,.sdict dH,.list [n0,n1,n2,n3,n4,n5,n6,n7,n8,n9,n10,n11],.list [k0,k1,k2,k3,k4,k5,k6,k7,k8,k9],c4,c5,c6,c7,c8,c9,IT,Ji,Jx]++more w):=by kernel_rfl
theorem BV{d:Nat}{c0:Cell}(hd:7<=d)(hp:Pool 0 [c0]):∃ σ' V,run d (nm "_law_fill") [.ref 0,eN] [c0,.sdict dH,.list (List.replicate 12 .none),.list (List.replicate 10 .none)]=.ok (.ref 4) σ'/\FI σ' V 8 10:=by
 refine am (ak hd) λd z1 hd'=>?_;obtain rfl:=z1;have h0:FI [c0,.sdict dH,.list (List.replicate 12 .none),.list (List.replicate 10 .none),.sdict []] (λ_ _=>none) 0 10:=by
  refine⟨hp.eq rfl,rfl,rfl,⟨_,rfl,rfl,λe he=>?_⟩,⟨_,rfl,rfl,λe he=>?_⟩,⟨[],rfl,Nat.le_refl _,λi x hi=>absurd hi (Nat.not_lt_zero _)⟩,λi x _ _ q=>rfl,λx _ q v h=>du h⟩
  ·exact List.getElem?_replicate_of_lt (uF e he)
  ·refine jb (uG e he) λa1 a2 a3=>?_;refine⟨none,rfl,nofun, ?_⟩;delta cut i8;simp only[List.drop_replicate,List.take_replicate];exact congrArg (λk=>List.replicate k D.none) ((congrArg (min · _) (Nat.add_sub_cancel_left ..)).trans (Nat.min_eq_left (Nat.le_sub_of_add_le' a1)))
 refine bA (nI hd' (λIQ=>bnd (ac (aa IQ (nm "held"))) λKF=>ret (.ret KF)) 8 0 [(nm "pool",.ref 0),(nm "memory",eN),(nm "held",.ref 4)] _ _ rfl ⟨by kernel_rfl,by kernel_rfl,by kernel_rfl⟩ h0) λfr' σ' V' e Q h=>?_;refine⟨σ',V', ?_,h⟩;rw[ur];have e2:lR (run d) (.ref 0) eN=bnd (fk []) λt1=>aG (bm (run d)) (λKn d7=>ret (aj Kn (nm "name") d7)) ((names.drop 0).map λx=>D.str (nm x)) [(nm "pool",.ref 0),(nm "memory",eN),(nm "held",t1)] λIQ=>bnd (ac (aa IQ (nm "held"))) λKF=>ret (.ret KF):=by kernel_rfl
 rw[e2];have e3:fk [] [c0,.sdict dH,.list (List.replicate 12 .none),.list (List.replicate 10 .none)]=.ok (.ref 4) [c0,.sdict dH,.list (List.replicate 12 .none),.list (List.replicate 10 .none),.sdict []]:=by kernel_rfl
 show bnd (bnd (fk []) _) _ _=_;rw[lE,aE e3];rw[Q.held]at e;exact aE (a:=Flow'.ret (.ref 4)) (σ':=σ') e _
noncomputable def FM{α:Type}:Nat->(List α->Prop)->Prop
 | 0,P=>P []
 | n+1,P=>∃ a,FM n λt=>P (a::t)
theorem EN{α:Type}:∀ {n:Nat} {P:List α->Prop} {l:List α},l.length=n->P l->FM n P
 | 0,_,[],_,p=>p
 | n+1,_,a::_,h,p=>⟨a,EN (Nat.succ.inj h) p⟩
theorem EB{σ:St}(h:σ.length=13):∃ c0 c1 c2 c3 c4 c5 c6 c7 c8 c9 IT Ji Jx,σ=[c0,c1,c2,c3,c4,c5,c6,c7,c8,c9,IT,Ji,Jx]:=EN (P:=λx=>σ=x) h rfl
theorem EC{N:List D}(h:N.length=12):∃ n0 n1 n2 n3 n4 n5 n6 n7 n8 n9 n10 n11,N=[n0,n1,n2,n3,n4,n5,n6,n7,n8,n9,n10,n11]:=EN (P:=λx=>N=x) h rfl
theorem ED{C:List D}(h:C.length=10):∃ k0 k1 k2 k3 k4 k5 k6 k7 k8 k9,C=[k0,k1,k2,k3,k4,k5,k6,k7,k8,k9]:=EN (P:=λx=>C=x) h rfl
theorem sf:∀ p∈aC,aa aC p.1=some p.2:=by
 repeat refine xa (by kernel_rfl) ?_
 exact cP
theorem xn:∀ p∈cH,aa zL (nm p.1)=some (.fn (nm p.2)):=by
 repeat refine xa (by kernel_rfl) ?_
 exact cP
theorem zM:∀ p∈jq,gK DC p.1=some (.fn (nm p.2)):=by
 repeat refine xa (by kernel_rfl) ?_
 exact cP
theorem EE{w:Int}(h5:5<=w)(h12:w<=12)(c0 c1 c2 c3 c4 c5 c6 c7 c8 c9 IT Ji Jx:Cell):Wd ([c0,c1,c2,c3,c4,c5,c6,c7,c8,c9,IT,Ji,Jx]++more w) w pD:=by refine⟨h5,h12,⟨13,zL,by kernel_rfl,by kernel_rfl,xn⟩,⟨DC,by kernel_rfl,zM⟩,⟨.inst (nm "Limits") 14,by kernel_rfl,by kernel_rfl,by kernel_rfl,by kernel_rfl⟩⟩
theorem zN:∀ x∈bi,∃ i,i<8/\names[i]?=some x.1:=by decide
theorem DD{N:List D}{V:cx}(hl:N.length=12)(h:∀ e∈dI,N[e.2.2.1]?=some (jt e.2.2.2 (V e.1 e.2.1))):vx N V:=by
 refine⟨hl,h ("I",[],0,0) (by decide),h ("J",[],1,0) (by decide),λi j i0 i1 j0 j1=>?_,h ("X",[],8,1) (by decide),λi i0 i1=>?_,h ("L",[],11,4) (by decide)⟩
 ·obtain rfl | rfl:j = -1\/j=0:=by lia
  ·obtain rfl | rfl | rfl:=EL i0 (Int.lt_add_one_of_le i1)
   ·exact h ("A",[0,-1],2,0) (by decide)
   ·exact h ("A",[1,-1],3,0) (by decide)
   ·exact h ("A",[2,-1],4,0) (by decide)
  ·obtain rfl | rfl | rfl:=EL i0 (Int.lt_add_one_of_le i1)
   ·exact h ("A",[0,0],5,0) (by decide)
   ·exact h ("A",[1,0],6,0) (by decide)
   ·exact h ("A",[2,0],7,0) (by decide)
 ·obtain rfl | rfl:i=1\/i=2:=by lia
  ·exact h ("B",[1],9,1) (by decide)
  ·exact h ("B",[2],10,1) (by decide)
theorem DE{C:List D}{V:cx}(hl:C.length=10)(h:∀ e∈d9,Tx C e.2.2.1 e.2.2.2 (V e.1 e.2.1)):vA C V:=by
 refine⟨hl,h ("C",[],0,4) (by decide),λi i0 i1=>?_⟩;obtain rfl | rfl:i=2\/i=3:=by lia
 ·exact h ("D",[2],4,3) (by decide)
 ·exact h ("D",[3],7,3) (by decide)
theorem EG{w:Int}{V:cx}{c0 c1 c2 c3 c4 c5 c6 c7 c8 c9 IT Ji Jx:Cell}(h:FI [c0,c1,c2,c3,c4,c5,c6,c7,c8,c9,IT,Ji,Jx] V 8 10):Md ([c0,c1,c2,c3,c4,c5,c6,c7,c8,c9,IT,Ji,Jx]++more w) pD (.ref 4) V:=by
 have g:∀ i,i<13->([c0,c1,c2,c3,c4,c5,c6,c7,c8,c9,IT,Ji,Jx]++more w)[i]?=[c0,c1,c2,c3,c4,c5,c6,c7,c8,c9,IT,Ji,Jx][i]?:=λi hi=>List.getElem?_append_left hi;refine bk h.num λN n1 n2 n3=>?_;refine bk h.txt λC k1 k2 k3=>?_;refine bk h.held λH h1 h2 h3=>?_;have m1:([c0,c1,c2,c3,c4,c5,c6,c7,c8,c9,IT,Ji,Jx]++more w)[1]?=some (.sdict dH):=by exact(g 1 (by decide)).trans h.mem
 refine⟨⟨nm "Memory",1,2,N,3,C,by kernel_rfl,(pt m1).2,uD m1,by exact(g 2 (by decide)).trans n1,uE m1,by exact(g 3 (by decide)).trans k1,DD n2 n3,DE k2 k3⟩,⟨16,aC,by kernel_rfl,by kernel_rfl,sf⟩,⟨4,H,rfl,by exact(g 4 (by decide)).trans h1,λx hx=>?_⟩,h.val⟩;refine am (zN x hx) λi hi hn=>?_;obtain⟨a,b⟩:=h3 i x.1 hi hn;refine⟨5+i,a, ?_,λcall t q hq=>?_⟩
 ·show bnd (cell (5+i)) _ _=_;rcases b with⟨b1,b2⟩ | ⟨T,b1,b2,b3⟩
  ·rw[aE (aS (by exact(g (5+i) (by lia)).trans b1))];kernel_rfl
  ·rw[aE (aS (by exact(g (5+i) (by lia)).trans b1))];kernel_rfl
 ·show bnd (cell (5+i)) _ _=_;rcases b with⟨b1,b2⟩ | ⟨T,b1,b2,b3⟩
  ·rw[aE (aS (by exact(g (5+i) (by lia)).trans b1))];show bnd (ac (dK t)) (λ_=>ret D.none) _=_;rw[hq,b2 q];rfl
  ·rw[aE (aS (by exact(g (5+i) (by lia)).trans b1))];show bnd (ac (dK t)) (λq=>ret ((dA T q).getD D.none)) _=_;rw[hq,<-b3 q];rfl
variable{σ:St}{w:Int}{V:cx}
noncomputable def Py(σ:St)(d:D)(k:Nat):Prop:=∃ x,fE σ d=some x/\PyData.canLay0 x=true/\PyData.depth x<=k/\PyData.eqv x x=true
noncomputable def Pys(σ:St)(l:List D)(k:Nat):Prop:=∃ xs,bO σ l=some xs/\PyData.canLayAll0 xs=true/\PyData.depthAll xs<=k/\PyData.eqvAll xs xs=true
theorem Pys.nil{k:Nat}:Pys σ [] k:=⟨[],rfl,rfl,Nat.zero_le _,rfl⟩
theorem Pys.cons{k:Nat}{a:D}{l:List D}(h:Py σ a k)(h':Pys σ l k):Pys σ (a::l) k:=by
 refine dj h λx a1 a2 a3 a4=>?_;refine dj h' λxs b1 b2 b3 b4=>?_;refine⟨x::xs, ?_, ?_, ?_, ?_⟩
 ·show(match fE σ a,bO σ l with | some a,some b=>some (a::b) | _,_=>none)=_;simp only[a1,b1]
 ·simp only[PyData.canLayAll0,a2,b2,Bool.and_self]
 ·simp only[PyData.depthAll];lia
 ·simp only[PyData.eqvAll,a4,b4,Bool.and_self]
theorem Pys.all{k:Nat}:∀ {l:List D},(∀ d∈l,Py σ d k)->Pys σ l k
 | [],_=>.nil
 | a::l,h=>.cons (h a List.mem_cons_self) (Pys.all λd hd=>h d (by simp[hd]))
theorem Py.tup{k:Nat}{l:List D}(h:Pys σ l k):Py σ (.tup l) (k+1):=by
 refine dj h λxs b1 b2 b3 b4=>?_;refine⟨.tuple xs, ?_, ?_, ?_, ?_⟩
 ·show(bO σ l).map PyData.tuple=_;exact congrArg _ b1
 ·simp only[PyData.canLay0,b2]
 ·simp[PyData.depth];omega
 ·simp only[PyData.eqv,b4]
theorem Py.list{k:Nat}{l:List D}(h:Pys σ l k):Py σ (.list l) (k+1):=by
 refine dj h λxs b1 b2 b3 b4=>?_;refine⟨.list xs, ?_, ?_, ?_, ?_⟩
 ·show(bO σ l).map PyData.list=_;exact congrArg _ b1
 ·simp only[PyData.canLay0,b2]
 ·simp[PyData.depth];omega
 ·simp only[PyData.eqv,b4]
theorem Py.none{k:Nat}:Py σ .none k:=⟨.none,rfl,rfl,Nat.zero_le _,rfl⟩
theorem Py.int{k:Nat}{i:Int}:Py σ (.int i) k:=⟨.int i,rfl,rfl,Nat.zero_le _,by simp[PyData.eqv]⟩
theorem Py.bool{k:Nat}{b:Bool}:Py σ (.bool b) k:=⟨.bool b,rfl,rfl,Nat.zero_le _,by simp[PyData.eqv]⟩
theorem Py.sign{k:Nat}{c:Nat}(h:c<128):Py σ (.str ⟨#[c]⟩) k:=⟨.str ⟨#[c]⟩,rfl,by simp only[PyData.canLay0,zs h],Nat.zero_le _,by simp[PyData.eqv]⟩
theorem Py.eq{a b d:D}{k:Nat}(h:Py σ d k)(hk:k<=64)(ha:fI σ a=d)(hb:fI σ b=d):sj a b σ=.ok true σ:=by
 refine dj h λx h1 h2 h3 h4=>?_;unfold sj;rw[ha,hb,h1];have hs:SeqAt.shaped x=true:=by unfold SeqAt.shaped;rw[h2,decide_eq_true (by lia)];rfl
 simp[hs,h4,Bool.and_self,if_true]
set_option tactic.hygienic true in
theorem zO{k:Int}{n:Nat}{v:D}(h:v=.none\/Val k n v):ae .NotEq v v σ=.ok false σ/\∃ b,au (nm "isinstance") [v,.blt (nm "bool")]=ret (.bool b):=by
 rcases h with rfl | h
 ·refine⟨?_,false,by kernel_rfl⟩;show bnd (sj .none .none) (λr=>ret (!r)) σ=_;rw[aE (Py.eq (Py.none (k:=0)) (by decide) rfl rfl)];rfl
 ·induction h with
  | int _=>rename_i i _;exact⟨by rw[SI.2.1];simp[ret],false,by kernel_rfl⟩
  | bool=>rename_i b;exact⟨by rw[SI.2.2.2.2.2.2.2.1];simp[ret],true,by kernel_rfl⟩
  | str _=>rename_i s _;exact⟨by rw[SI.2.2.2.2.2.2.2.2.2.1];simp[ret],false,by kernel_rfl⟩
  | real _=>rename_i x _;refine⟨?_,false,by kernel_rfl⟩;show bnd (sj (pr x) (pr x)) (λr=>ret (!r)) σ=_;rw[aE (Py.eq (Py.tup (.cons (Py.int (i:=x.1)) (.cons (Py.int (i:=x.2)) .nil)) (k:=0)) (by decide) rfl rfl)];rfl
structure FR(fr:af)(w:Int):Prop where
 held:aa fr (nm "held")=some (.ref 4)
 width:aa fr (nm "width")=some (.int w)
 run:aa fr (nm "run")=some pD
 memory:aa fr (nm "memory")=some eN
theorem FR.set{fr:af}(P:FR fr w)(y:String)(v:D)(hy:y∉["held","width","run","memory"]):FR (aj fr (nm y) v) w:=by
 simp only[List.mem_cons,List.not_mem_nil,or_false,not_or]at hy;refine cO hy λh1 h2 h3 h4=>?_;refine⟨?_, ?_, ?_, ?_⟩ <;> rw[cw]
 ·refine PX (PZ (b_ h1)) ?_;exact P.held
 ·refine PX (PZ (b_ h2)) ?_;exact P.width
 ·refine PX (PZ (b_ h3)) ?_;exact P.run
 ·refine PX (PZ (b_ h4)) ?_;exact P.memory
theorem Fs{fr:af}{v:D}{b:Bool}(K:K')(u1:aa fr (nm "told")=some v)(u2:aa fr (nm "due")=some v)(s1:ae .NotEq v v σ=.ok false σ)(s2:au (nm "isinstance") [v,.blt (nm "bool")]=ret (.bool b)) :
  (bnd (bnd (bnd (ac (aa fr (nm "told"))) λOP=>bnd (ac (aa fr (nm "due"))) λMb=>ae .NotEq OP Mb) λb76=>bj .Or b76 (bnd (bnd (bnd (ah [ac (aa fr (nm "told")),ret (.blt (nm "bool"))]) λOQ=>au (nm "isinstance") OQ) λLL=>bnd (bnd (ah [ac (aa fr (nm "due")),ret (.blt (nm "bool"))]) λOR=>au (nm "isinstance") OR) λL0=>ae .NotEq LL L0) λb79=>bj .Or b79 (ret false))) λOS=>if OS then ret (.ret (.bool false)) else K fr) σ=K fr σ:=by
 have s3:ae .NotEq (.bool b) (.bool b)=ret false:=by induction b <;> rfl
 refine(aE (a:=false) (σ':=σ) ?_ _).trans (congrFun (PZ Bool.false_ne_true) σ)
 repeat' walk_at "s1"
theorem nJ(W:Wd σ w pD)(H:Md σ pD (.ref 4) V){d:Nat}{k:Int}{t:D}{fr:af}(K:K')(hd:26<=d)(ht:Tree k 3 t)(P:FR fr w){bf:D}(hb:aa fr (nm "before")=some bf) :
  ∃ fr',ic (run d) (aj fr (nm "tree") t) K σ=K fr' σ/\FR fr' w/\aa fr' (nm "before")=some bf:=by
 refine am (BM W H ht (Nat.le_refl _)) λo po h=>?_;refine PV (λhe hl=>?_) (h d (by omega));rw[gA]at he;have hv:o.getD .none=.none\/Val k 3 (o.getD .none):=by
  induction o with
  | none=>exact .inl rfl
  | some v=>exact .inr (po v rfl)
 refine FN (zO (σ:=σ) hv) λs1 b s2=>?_;have P1:=P.set "tree" t (by decide);have P2:=P1.set "due" (o.getD .none) (by decide);have P3:=P2.set "told" (o.getD .none) (by decide);have t1:aa (aj fr (nm "tree") t) (nm "tree")=some t:=by rw[cw];exact(PY rfl)
 have t2:aa (aj (aj fr (nm "tree") t) (nm "due") (o.getD .none)) (nm "tree")=some t:=by rw[cw,PZ (b_ (by decide))];exact t1
 have u1:aa (aj (aj (aj fr (nm "tree") t) (nm "due") (o.getD .none)) (nm "told") (o.getD .none)) (nm "told")=some (o.getD .none):=by rw[cw];exact(PY rfl)
 have u2:aa (aj (aj (aj fr (nm "tree") t) (nm "due") (o.getD .none)) (nm "told") (o.getD .none)) (nm "due")=some (o.getD .none):=by rw[cw,PZ (b_ (by decide)),cw];exact(PY rfl)
 refine⟨aj (aj (aj fr (nm "tree") t) (nm "due") (o.getD .none)) (nm "told") (o.getD .none), ?_,P3, ?_⟩
 ·have e1:(bnd (ah [ac (aa (aj fr (nm "tree") t) (nm "held")),ac (aa (aj fr (nm "tree") t) (nm "tree")),ac (aa (aj fr (nm "tree") t) (nm "width"))]) λON=>run d (nm "_law_value") ON)=run d (nm "_law_value") [.ref 4,t,.int w]:=by simp only[P1.held,t1,P1.width,SM]
  have e2:(bnd (ah [ac (aa (aj (aj fr (nm "tree") t) (nm "due") (o.getD .none)) (nm "run")),ac (aa (aj (aj fr (nm "tree") t) (nm "due") (o.getD .none)) (nm "tree"))]) λOO=>run d (nm "evaluate") OO)=run d (nm "evaluate") [pD,t]:=by simp only[P2.run,t2,SM]
  unfold ic;rw[e1,aE hl,rb,e2];dsimp only[vU];rw[he]
  induction o with
  | none=>exact Fs K u1 u2 s1 s2
  | some v=>exact Fs K u1 u2 s1 s2
 ·rw[cw,PZ (b_ (by decide)),cw,PZ (b_ (by decide)),cw,PZ (b_ (by decide))];exact hb
theorem DF{N:List D}(hl:N.length=12)(h:∀ e∈dI,N[e.2.2.1]?=some (jt e.2.2.2 (V e.1 e.2.1)))(hv:∀ x∈bi,∀ q v,V x.1 q=some v->Val x.2 0 v):Pys σ N 2:=by
 refine Pys.all λd hd=>?_;obtain⟨i,hi,rfl⟩:=List.getElem_of_mem hd;have hc:∀ i<12,∃ e∈dI,e.2.2.1=i/\(e.1,e.2.2.2)∈bi/\(e.2.2.2=0\/e.2.2.2=1\/e.2.2.2=4):=by decide
 refine dj (hc i (Nat.lt_of_lt_of_eq hi hl)) λe he z1 hm hk=>?_;obtain rfl:=z1;have h1:=h e he;rw[List.getElem?_eq_getElem hi]at h1;have h2:N[e.2.2.1]=jt e.2.2.2 (V e.1 e.2.1):=by injection h1
 rw[h2]
 induction q:V e.1 e.2.1 with
 | none=>exact Py.none
 | some v=>
  have hval:=hv _ hm _ _ q;refine Py.tup (.cons Py.int (.cons ?_ .nil));dsimp only at hval;rcases hk with hk | hk | hk <;> replace hval:=hk ▸ hval <;> cases hval
  ·exact Py.int
  ·exact Py.tup (.cons Py.int (.cons Py.int .nil))
  ·exact Py.bool
theorem DG{C:List D}(hl:C.length=10)(h:∀ e∈d9,Tx C e.2.2.1 e.2.2.2 (V e.1 e.2.1)):Pys σ C 2:=by
 refine Pys.all λd hd=>?_;obtain⟨i,hi,rfl⟩:=List.getElem_of_mem hd;have hc:∀ i<10,∃ e∈d9,e.2.2.1<=i/\i<e.2.2.1+e.2.2.2:=by decide
 refine bk (hc i (Nat.lt_of_lt_of_eq hi hl)) λe he h1 h2=>?_;refine bk (h e he) λt t1 t2 t3=>?_;have h3:(cut C e.2.2.1 (e.2.2.1+e.2.2.2))[i - e.2.2.1]?=some C[i]:=by rw[pq,PY (Nat.sub_lt_sub_right h1 h2),Nat.add_sub_of_le h1];exact(List.getElem?_eq_getElem hi)
 replace h3:=(t3) ▸ h3
 induction t with
 | none=>have:=List.mem_of_getElem? h3;rw[(List.mem_replicate.mp this).2];exact Py.none
 | some s=>have:=List.mem_of_getElem? h3;refine am (List.mem_map.mp this) λc hc e2=>?_;rw[<-e2];exact Py.sign ((t2 s rfl).2 c hc)
theorem BW(W:Wd σ w pD)(H:Md σ pD (.ref 4) V){d:Nat}{k1 k2:Int}{t1 t2:D}{fr:af}{N C:List D}(hd:26<=d)(h1:Tree k1 3 t1)(h2:Tree k2 3 t2)(P:FR fr w)(hb:aa fr (nm "before")=some (.tup [.list N,.list C]))(ht:aa fr (nm "trees")=some (.list [t1,t2]))
  (hm:σ[1]?=some (.sdict dH)) (hN:σ[2]?=some (.list N)) (hC:σ[3]?=some (.list C)) (pN:Pys σ N 2) (pC:Pys σ C 2):vN (run d) fr σ=.ok (.ret (.bool true)) σ:=by
 unfold vN;rw[ht];have e0:∀ K:D->M Flow',bnd (ac (some (D.list [t1,t2]))) K=K (.list [t1,t2]):=λ_=>rfl;rw[e0,SL.2.1];refine bk (nJ W H (λfr'=>aG (ic (run d)) (λJJ KY=>ret (aj JJ (nm "tree") KY)) [t2] fr' λIz=>bnd (bnd (aI [bnd (ac (aa Iz (nm "memory"))) λKp=>aB Kp (nm "numeric"),bnd (ac (aa Iz (nm "memory"))) λJ8=>aB J8 (nm "characters")]) λJ9=>bnd (bnd (ac (aa Iz (nm "before"))) λJ_=>ae .Eq J9 J_) λb98=>ret (.bool b98)) λIZ=>ret (.ret IZ)) hd h1 P hb) λJK a1 P1 b1=>?_;refine bk (nJ W H (λIz=>bnd (bnd (aI [bnd (ac (aa Iz (nm "memory"))) λKp=>aB Kp (nm "numeric"),bnd (ac (aa Iz (nm "memory"))) λJ8=>aB J8 (nm "characters")]) λJ9=>bnd (bnd (ac (aa Iz (nm "before"))) λJ_=>ae .Eq J9 J_) λb98=>ret (.bool b98)) λIZ=>ret (.ret IZ)) hd h2 P1 b1) λbT a2 P2 b2=>?_;have g1:aG (ic (run d)) (λJJ KY=>ret (aj JJ (nm "tree") KY)) [t1,t2] fr (λIz=>bnd (bnd (aI [bnd (ac (aa Iz (nm "memory"))) λKp=>aB Kp (nm "numeric"),bnd (ac (aa Iz (nm "memory"))) λJ8=>aB J8 (nm "characters")]) λJ9=>bnd (bnd (ac (aa Iz (nm "before"))) λJ_=>ae .Eq J9 J_) λb98=>ret (.bool b98)) λIZ=>ret (.ret IZ)) σ
   = (λIz=>bnd (bnd (aI [bnd (ac (aa Iz (nm "memory"))) λKp=>aB Kp (nm "numeric"),bnd (ac (aa Iz (nm "memory"))) λJ8=>aB J8 (nm "characters")]) λJ9=>bnd (bnd (ac (aa Iz (nm "before"))) λJ_=>ae .Eq J9 J_) λb98=>ret (.bool b98)) λIZ=>ret (.ret IZ)) bT σ:=by
  exact a1.trans a2
 refine g1.trans ?_;have n1:=uD hm;have n2:=uE hm;simp only[P2.memory,b2,SM,aI];rw[aE n1,aE n2,PY (EM _ (by decide))];have q:ae .Eq (.tup [.ref 2,.ref 3]) (.tup [.list N,.list C]) σ=.ok true σ:=by
  refine Py.eq (Py.tup (.cons (Py.list pN) (.cons (Py.list pC) .nil))) (by decide) ?_ rfl;show D.tup [fH σ (.ref 2),fH σ (.ref 3)]=_;have d1:∀ (i:Nat) (l:List D),σ[i]?=some (.list l)->fH σ (.ref i)=.list l:=λi l h=>by show(match σ[i]? with | some (.list l)=>D.list l | _=>.ref i)=_;rw[h]
  simp only[d1 2 N hN,d1 3 C hC]
 rw[aE q];rfl
noncomputable def zP(Iw:D):M D:=bnd (bnd (bu Iw .none (.int 24)) λt2=>bnd (aZ t2) λl3=>aM (λd4 Jp=>bnd (bnd (au (nm "abs") [d4]) λt6=>bnd (ag .Pow (.int 10) (.int 60)) λt7=>ag .Mod t6 t7) λt8=>if ao (Jp).length then ret (Jp++[t8]) else stuck) l3 []) λl1=>bnd (d_ (.list l1)) λi=>ret (.ref i)
noncomputable def uJ(call:Str->List D->M D)(t9:D):M D:=bnd (bnd (aZ (.tup [(.int 0),(.int 1)])) λKP=>aM (λPO JX=>bnd (bnd (ah [ret t9,bnd (call (nm "_law_take") [t9,(.int 4)]) λI8=>subD (.tup [(.int 4),(.int 0),(.int 1),(.int 5)]) I8,ret (.int 3)]) λKz=>call (nm "_law_tree") Kz) λIR=>if ao (JX).length then ret (JX++[IR]) else stuck) KP []) λKj=>ret (.list Kj)
noncomputable def zQ(call:Str->List D->M D)(t9:D):M D:=bnd (call (nm "_law_take") [t9,(.int 3)]) λI1=>subD (.tup [(.int 8),(.int 5),(.int 12)]) I1
theorem DH{call:Str->List D->M D}{s:D}:Cj call s=bnd (zP s) λt9=>bnd (uJ call t9) λIK=>bnd (zQ call t9) λI2=>bnd (bP call (.fn (nm "Memory")) [(.int 12),(.int 10)]) λI9=>bnd (call (nm "_law_fill") [t9,I9]) λJB=>BS call s t9 IK I2 I9 JB:=by kernel_rfl
theorem nK:∀ (l:List Int) (acc:List D),acc.length+l.length<=30 →
  aM (λd4 Jp=>bnd (bnd (au (nm "abs") [d4]) λt6=>bnd (ag .Pow (.int 10) (.int 60)) λt7=>ag .Mod t6 t7) λt8=>if ao (Jp).length then ret (Jp++[t8]) else stuck) (l.map D.int) acc=ret (acc++l.map λn=>D.int ((n.natAbs:Int).fmod (10 ^ 60)))
 | [],acc,_=>by simp[aM]
 | n::l,acc,h=>by
  have hz:¬ (10:Int) ^ (60:Int).toNat=0:=lH _;simp[List.map_cons,aM];have e:∀ K:List D->M (List D),bnd (bnd (bnd (au (nm "abs") [D.int n]) λt6=>bnd (ag .Pow (.int 10) (.int 60)) λt7=>ag .Mod t6 t7) λt8=>if ao (acc).length then ret (acc++[t8]) else stuck) K=K (acc++[D.int ((n.natAbs:Int).fmod (10 ^ 60))]):=λK=>by simp only[SM,SB,SI,mG,hz,EM acc (by simp at h;lia),show(0:Int)<=60 from by decide,show(60:Int)<=4000 from by decide,and_self,if_true,ne_eq,not_false_eq_true];rfl
  simp only[e,nK l (acc++[D.int ((n.natAbs:Int).fmod (10 ^ 60))]) (by simp at h ⊢;lia)];simp
theorem BX{ns:List Int}(h:ns.length<=63):∃ ms:List Int,zP (.list (ns.map .int)) []=.ok (.ref 0) [.list (ms.map .int)]/\Pool 0 [.list (ms.map .int)]:=by
 refine⟨(ns.take 24).map λn=>(n.natAbs:Int).fmod (10 ^ 60), ?_,_,rfl,by simp;lia,λm hm=>?_⟩
 ·have e1:bu (.list (ns.map .int)) .none (.int 24)=ret (.list ((ns.take 24).map .int)):=by
   have lo:ao (ns.map D.int).length=true:=by unfold ao;simp;lia
   refine PX (PY lo) ?_;show ret (D.list (cut (ns.map D.int) 0 (min (24:Int).toNat (ns.map D.int).length)))=_;have:cut (ns.map D.int) 0 (min (24:Int).toNat (ns.map D.int).length)=(ns.take 24).map .int:=by
    unfold cut;simp only[List.drop_zero,Nat.sub_zero,List.map_take,List.length_map];rw[show(24:Int).toNat=24 from rfl];refine PW (Nat.le_total 24 ns.length) (λq=>?_) λq=>?_
    ·rw[Nat.min_eq_left q]
    ·rw[Nat.min_eq_right q,List.take_of_length_le (by simp),List.take_of_length_le (by simpa using q)]
   rw[this]
  unfold zP;simp only[e1,rb,SL];rw[nK (ns.take 24) [] (by simp;lia)];simp only[rb,List.nil_append];exact List.map_map ▸ rfl
 ·refine am (List.mem_map.mp hm) λn _ z1=>?_;obtain rfl:=z1;have p:(0:Int)<10 ^ 60:=Int.pow_pos (by decide);exact⟨Int.fmod_nonneg_of_pos _ p,Int.fmod_lt_of_pos _ p⟩
theorem BY{j:Int}(h0:0<=j)(h1:j<4):∃ k:Int,(k=0\/k=1\/k=4\/k=5)/\subD (.tup [(.int 4),(.int 0),(.int 1),(.int 5)]) (.int j)=ret (.int k):=by
 obtain rfl | rfl | rfl | rfl:=Ew (j:=j) (by assumption) (by assumption)
 ·exact⟨4,by decide,rfl⟩
 ·exact⟨0,by decide,rfl⟩
 ·exact⟨1,by decide,rfl⟩
 ·exact⟨5,by decide,rfl⟩
theorem si{d:Nat}(hd:9<=d)(acc:List D)(hl:acc.length<=5):Gen 0 (bnd (bnd (ah [ret (.ref 0),bnd (run d (nm "_law_take") [.ref 0,(.int 4)]) λI8=>subD (.tup [(.int 4),(.int 0),(.int 1),(.int 5)]) I8,ret (.int 3)]) λKz=>run d (nm "_law_tree") Kz) λIR=>if ao (acc).length then ret (acc++[IR]) else stuck) (λl=>∃ k t,l=acc++[t]/\Tree k 3 t):=by simp[SM,EM acc (by lia),if_true];refine Gen.bnd (dW (by lia) (by decide) (by decide)) λv hv=>?_;refine bk hv λj z2 j0 j1=>?_;obtain rfl:=z2;refine am (BY j0 j1) λk hk e=>?_;simp only[e,SM];refine Gen.bnd (vD 3 d k (by omega) hk) λt ht=>?_;exact Gen.ret ⟨k,t,rfl,ht⟩
theorem zR{d:Nat}(hd:9<=d):Gen 0 (uJ (run d) (.ref 0)) (λv=>∃ k1 t1 k2 t2,v=.list [t1,t2]/\Tree k1 3 t1/\Tree k2 3 t2):=by
 unfold uJ;simp only[SL,rb,aM];refine Gen.bnd (P:=λl=>∃ k1 t1 k2 t2,l=[t1,t2]/\Tree k1 3 t1/\Tree k2 3 t2) (Gen.bnd (si hd [] (by simp)) λl1 hl1=>?_) λl hl=>?_
 ·refine aJ hl1 λk1 t1 z3 h1=>?_;obtain rfl:=z3;refine Gen.bnd (si hd ([]++[t1]) (by simp)) λl2 hl2=>?_;refine aJ hl2 λk2 t2 z4 h2=>?_;exact z4 ▸ (Gen.ret ⟨k1,t1,k2,t2,rfl,h1,h2⟩)
 ·refine zZ hl λk1 t1 k2 t2 z5 h1 h2=>?_;exact z5 ▸ (Gen.ret ⟨k1,t1,k2,t2,rfl,h1,h2⟩)
theorem zS{d:Nat}(hd:1<=d):Gen 0 (zQ (run d) (.ref 0)) (λv=>∃ w:Int,v=.int w/\5<=w/\w<=12):=by
 refine Gen.bnd (dW (by omega) (by decide) (by decide)) λv hv=>?_;refine bk hv λj z6 j0 j1=>?_;obtain rfl:=z6;obtain rfl | rfl | rfl:=EL (j:=j) (by assumption) (by assumption)
 ·exact Gen.ret (P:=λv=>∃ w:Int,v=D.int w/\5<=w/\w<=12) ⟨8,rfl,by decide,by decide⟩
 ·exact Gen.ret (P:=λv=>∃ w:Int,v=D.int w/\5<=w/\w<=12) ⟨5,rfl,by decide,by lia⟩
 ·exact Gen.ret (P:=λv=>∃ w:Int,v=D.int w/\5<=w/\w<=12) ⟨12,rfl,by lia,by assumption⟩
theorem xo(d:Nat)(c0:Cell):bP (run (d+2)) (.fn (nm "Memory")) [.int 12,.int 10] [c0]=.ok eN [c0,.sdict dH,.list (List.replicate 12 .none),.list (List.replicate 10 .none)]:=by kernel_rfl
theorem zT{c:Cell}{σ:St}(h:Same 0 [c] σ):∃ c',σ=[c']:=by
 have:=h.1
 match σ,this with
 | [c'],_=>exact⟨c',rfl⟩
theorem zU(d:Nat)(script trees:D)(w:Int)(c0 c4 c5 c6 c7 c8 c9 IT Ji Jx:Cell){N C:List D}(hN:N.length=12)(hC:C.length=10) :
  BS (run (d+4)) script (.ref 0) trees (.int w) eN (.ref 4) [c0,.sdict dH,.list N,.list C,c4,c5,c6,c7,c8,c9,IT,Ji,Jx]
  = vN (run (d+4)) (Fq script trees w N C) ([c0,.sdict dH,.list N,.list C,c4,c5,c6,c7,c8,c9,IT,Ji,Jx]++more w):=by
 refine bq (EC hN) λm0 m1 m2 m3 z8=>?_;refine bq z8 λm4 m5 m6 m7 z9=>?_;refine bq z9 λm8 m9 m10 m11 z7=>?_;rw[z7];refine bq (ED hC) λb0 b1 b2 b3 z11=>?_;refine uM z11 λb4 b5 b6 b7 b8 b9 z10=>?_;obtain rfl:=z10;exact BU ..
theorem BZ{σ:St}{x y z:Cell}(hl:σ.length=13)(h1:σ[1]?=some x)(h2:σ[2]?=some y)(h3:σ[3]?=some z):∃ a0 a4 a5 a6 a7 a8 a9 a10 a11 a12,σ=[a0,x,y,z,a4,a5,a6,a7,a8,a9,a10,a11,a12]:=by refine bq (EB hl) λa0 a1 a2 a3 z13=>?_;refine bq z13 λa4 a5 a6 a7 z14=>?_;refine xu z14 λa8 a9 a10 a11 a12 z12=>?_;obtain rfl:=z12;simp only[<-P7 h1,<-P7 h2,<-P7 h3];exact⟨_,_,_,_,_,_,_,_,_,_,rfl⟩
theorem B0{d:Nat}{ns:List Int}(h:ns.length<=63):∃ σ,tg (d+31) ns=.ok (.bool true) σ:=by unfold tg;simp only[show d+31=(d+26+4)+1 from rfl,Ep,DH];refine am (BX h) λms e1 p1=>?_;refine aH (zR (d:=d+26+4) (by lia) _ p1) λv σ1 e2 z15 p2 s2=>?_;obtain⟨k1,t1,k2,t2,rfl,ht1,ht2⟩:=z15;refine aH (zS (d:=d+26+4) (by lia) _ p2) λv σ2 e3 z16 p3 s3=>?_;obtain⟨w,rfl,w5,w12⟩:=z16;obtain⟨c0,rfl⟩:=zT (s2.trans s3);refine aJ (BV (d:=d+26+4) (c0:=c0) (by lia) p3) λσ3 V e5 hF=>?_;refine bk hF.num λN n1 n2 n3=>?_;refine bk hF.txt λC q1 q2 q3=>?_;have hm:=hF.mem;refine bq (BZ hF.len hm n1 q1) λa0 a4 a5 a6 z18=>?_;refine uM z18 λa7 a8 a9 a10 a11 a12 z17=>?_;obtain rfl:=z17;have W:=EE w5 w12 a0 (.sdict dH) (.list N) (.list C) a4 a5 a6 a7 a8 a9 a10 a11 a12;have H:=EG (w:=w) hF;have hl:=BW W H (d:=d+26+4) (fr:=Fq (.list (ns.map .int)) (.list [t1,t2]) w N C) (by lia) ht1 ht2 ⟨by kernel_rfl,by kernel_rfl,by kernel_rfl,by kernel_rfl⟩ (by kernel_rfl) (by kernel_rfl) (by kernel_rfl) (by kernel_rfl) (by kernel_rfl) (DF n2 n3 hF.val) (DG q2 q3);rw[<-zU _ _ _ _ _ _ _ _ _ _ _ _ _ _ n2 q2]at hl;refine⟨[a0,.sdict dH,.list N,.list C,a4,a5,a6,a7,a8,a9,a10,a11,a12]++more w, ?_⟩;rw[e9,aE e1,e9,aE e2,e9,aE e3,e9,aE (xo (d+26+2) c0),e9,aE e5];show bnd (BS _ _ _ _ _ _ _) _ _=_;rw[aE hl];rfl
theorem holds:rw'.Holds:=wG 40 (by lia) λns h=>B0 (d:=10) h
end
end Mine
end
theorem PySem.Challenge.cw_no0284_01_holds : PySem.Challenge.rw_no0284_01.Holds :=
  Mine.holds
