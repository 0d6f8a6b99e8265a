import PyProof.Rows.All
import Wide.All
import OpenK.AllK
import Wide.FinOn
import Lean
import PySem.Challenge.RW_nz0507_01
open PySem PySem.W PyProof.Rows
set_option Elab.async false
set_option linter.all false
set_option maxRecDepth 100000
set_option maxHeartbeats 4000000
section
open PySem.Calls
set_option tactic.hygienic false
namespace Bc
section
variable{α β:Type}{P:Prop}
theorem cz0{a:α}(h:Option.none=some a):P:=nomatch h
theorem cz1{a:α}(h:some a=Option.none):P:=nomatch h
theorem cz2(h:false=true):P:=nomatch h
theorem cz3(h:true=false):P:=nomatch h
@[elab_as_elim] theorem cz4{a:α}{s:β}{P:α→β→Prop}{b:α}{t:β}(h:some (a,s)=some (b,t))(z:P a s):P b t:=by cases h;exact z
@[elab_as_elim] theorem cz5{a:α}{P:α→Prop}{b:α}(h:some a=some b)(z:P a):P b:=by cases h;exact z
end
section
universe u v w1 z
theorem xE11{α:Sort u}{p0:α→Prop}{C:Prop}(h:∃a0,p0 a0)(k:∀a0,p0 a0→C):C:=h.elim fun a0 h=>k a0 h
theorem xE03{p0 p1 p2:Prop}{C:Prop}(h:p0∧p1∧p2)(k:p0→p1→p2→C):C:=k h.1 h.2.1 h.2.2
theorem xE12{α:Sort u}{p0 p1:α→Prop}{C:Prop}(h:∃a0,p0 a0∧p1 a0)(k:∀a0,p0 a0→p1 a0→C):C:=h.elim fun a0 h=>k a0 h.1 h.2
theorem xE21{α:Sort u}{β:Sort v}{p0:α→β→Prop}{C:Prop}(h:∃a0 a1,p0 a0 a1)(k:∀a0 a1,p0 a0 a1→C):C:=h.elim fun a0 h=>h.elim fun a1 h=>k a0 a1 h
theorem xE04{p0 p1 p2 p3:Prop}{C:Prop}(h:p0∧p1∧p2∧p3)(k:p0→p1→p2→p3→C):C:=k h.1 h.2.1 h.2.2.1 h.2.2.2
theorem xE13{α:Sort u}{p0 p1 p2:α→Prop}{C:Prop}(h:∃a0,p0 a0∧p1 a0∧p2 a0)(k:∀a0,p0 a0→p1 a0→p2 a0→C):C:=h.elim fun a0 h=>k a0 h.1 h.2.1 h.2.2
theorem xE22{α:Sort u}{β:Sort v}{p0 p1:α→β→Prop}{C:Prop}(h:∃a0 a1,p0 a0 a1∧p1 a0 a1)(k:∀a0 a1,p0 a0 a1→p1 a0 a1→C):C:=h.elim fun a0 h=>h.elim fun a1 h=>k a0 a1 h.1 h.2
theorem xE31{α:Sort u}{β:Sort v}{γ:Sort w1}{p0:α→β→γ→Prop}{C:Prop}(h:∃a0 a1 a2,p0 a0 a1 a2)(k:∀a0 a1 a2,p0 a0 a1 a2→C):C:=h.elim fun a0 h=>h.elim fun a1 h=>h.elim fun a2 h=>k a0 a1 a2 h
theorem xE14{α:Sort u}{p0 p1 p2 p3:α→Prop}{C:Prop}(h:∃a0,p0 a0∧p1 a0∧p2 a0∧p3 a0)(k:∀a0,p0 a0→p1 a0→p2 a0→p3 a0→C):C:=h.elim fun a0 h=>k a0 h.1 h.2.1 h.2.2.1 h.2.2.2
theorem xE23{α:Sort u}{β:Sort v}{p0 p1 p2:α→β→Prop}{C:Prop}(h:∃a0 a1,p0 a0 a1∧p1 a0 a1∧p2 a0 a1)(k:∀a0 a1,p0 a0 a1→p1 a0 a1→p2 a0 a1→C):C:=h.elim fun a0 h=>h.elim fun a1 h=>k a0 a1 h.1 h.2.1 h.2.2
theorem xE32{α:Sort u}{β:Sort v}{γ:Sort w1}{p0 p1:α→β→γ→Prop}{C:Prop}(h:∃a0 a1 a2,p0 a0 a1 a2∧p1 a0 a1 a2)(k:∀a0 a1 a2,p0 a0 a1 a2→p1 a0 a1 a2→C):C:=h.elim fun a0 h=>h.elim fun a1 h=>h.elim fun a2 h=>k a0 a1 a2 h.1 h.2
theorem xE41{α:Sort u}{β:Sort v}{γ:Sort w1}{δ:Sort z}{p0:α→β→γ→δ→Prop}{C:Prop}(h:∃a0 a1 a2 a3,p0 a0 a1 a2 a3)(k:∀a0 a1 a2 a3,p0 a0 a1 a2 a3→C):C:=h.elim fun a0 h=>h.elim fun a1 h=>h.elim fun a2 h=>h.elim fun a3 h=>k a0 a1 a2 a3 h
theorem xE06{p0 p1 p2 p3 p4 p5:Prop}{C:Prop}(h:p0∧p1∧p2∧p3∧p4∧p5)(k:p0→p1→p2→p3→p4→p5→C):C:=k h.1 h.2.1 h.2.2.1 h.2.2.2.1 h.2.2.2.2.1 h.2.2.2.2.2
theorem xE15{α:Sort u}{p0 p1 p2 p3 p4:α→Prop}{C:Prop}(h:∃a0,p0 a0∧p1 a0∧p2 a0∧p3 a0∧p4 a0)(k:∀a0,p0 a0→p1 a0→p2 a0→p3 a0→p4 a0→C):C:=h.elim fun a0 h=>k a0 h.1 h.2.1 h.2.2.1 h.2.2.2.1 h.2.2.2.2
theorem xE24{α:Sort u}{β:Sort v}{p0 p1 p2 p3:α→β→Prop}{C:Prop}(h:∃a0 a1,p0 a0 a1∧p1 a0 a1∧p2 a0 a1∧p3 a0 a1)(k:∀a0 a1,p0 a0 a1→p1 a0 a1→p2 a0 a1→p3 a0 a1→C):C:=h.elim fun a0 h=>h.elim fun a1 h=>k a0 a1 h.1 h.2.1 h.2.2.1 h.2.2.2
theorem xE33{α:Sort u}{β:Sort v}{γ:Sort w1}{p0 p1 p2:α→β→γ→Prop}{C:Prop}(h:∃a0 a1 a2,p0 a0 a1 a2∧p1 a0 a1 a2∧p2 a0 a1 a2)(k:∀a0 a1 a2,p0 a0 a1 a2→p1 a0 a1 a2→p2 a0 a1 a2→C):C:=h.elim fun a0 h=>h.elim fun a1 h=>h.elim fun a2 h=>k a0 a1 a2 h.1 h.2.1 h.2.2
theorem xE42{α:Sort u}{β:Sort v}{γ:Sort w1}{δ:Sort z}{p0 p1:α→β→γ→δ→Prop}{C:Prop}(h:∃a0 a1 a2 a3,p0 a0 a1 a2 a3∧p1 a0 a1 a2 a3)(k:∀a0 a1 a2 a3,p0 a0 a1 a2 a3→p1 a0 a1 a2 a3→C):C:=h.elim fun a0 h=>h.elim fun a1 h=>h.elim fun a2 h=>h.elim fun a3 h=>k a0 a1 a2 a3 h.1 h.2
theorem xE25{α:Sort u}{β:Sort v}{p0 p1 p2 p3 p4:α→β→Prop}{C:Prop}(h:∃a0 a1,p0 a0 a1∧p1 a0 a1∧p2 a0 a1∧p3 a0 a1∧p4 a0 a1)(k:∀a0 a1,p0 a0 a1→p1 a0 a1→p2 a0 a1→p3 a0 a1→p4 a0 a1→C):C:=h.elim fun a0 h=>h.elim fun a1 h=>k a0 a1 h.1 h.2.1 h.2.2.1 h.2.2.2.1 h.2.2.2.2
theorem xE34{α:Sort u}{β:Sort v}{γ:Sort w1}{p0 p1 p2 p3:α→β→γ→Prop}{C:Prop}(h:∃a0 a1 a2,p0 a0 a1 a2∧p1 a0 a1 a2∧p2 a0 a1 a2∧p3 a0 a1 a2)(k:∀a0 a1 a2,p0 a0 a1 a2→p1 a0 a1 a2→p2 a0 a1 a2→p3 a0 a1 a2→C):C:=h.elim fun a0 h=>h.elim fun a1 h=>h.elim fun a2 h=>k a0 a1 a2 h.1 h.2.1 h.2.2.1 h.2.2.2
theorem xE43{α:Sort u}{β:Sort v}{γ:Sort w1}{δ:Sort z}{p0 p1 p2:α→β→γ→δ→Prop}{C:Prop}(h:∃a0 a1 a2 a3,p0 a0 a1 a2 a3∧p1 a0 a1 a2 a3∧p2 a0 a1 a2 a3)(k:∀a0 a1 a2 a3,p0 a0 a1 a2 a3→p1 a0 a1 a2 a3→p2 a0 a1 a2 a3→C):C:=h.elim fun a0 h=>h.elim fun a1 h=>h.elim fun a2 h=>h.elim fun a3 h=>k a0 a1 a2 a3 h.1 h.2.1 h.2.2
theorem xE35{α:Sort u}{β:Sort v}{γ:Sort w1}{p0 p1 p2 p3 p4:α→β→γ→Prop}{C:Prop}(h:∃a0 a1 a2,p0 a0 a1 a2∧p1 a0 a1 a2∧p2 a0 a1 a2∧p3 a0 a1 a2∧p4 a0 a1 a2)(k:∀a0 a1 a2,p0 a0 a1 a2→p1 a0 a1 a2→p2 a0 a1 a2→p3 a0 a1 a2→p4 a0 a1 a2→C):C:=h.elim fun a0 h=>h.elim fun a1 h=>h.elim fun a2 h=>k a0 a1 a2 h.1 h.2.1 h.2.2.1 h.2.2.2.1 h.2.2.2.2
theorem xE44{α:Sort u}{β:Sort v}{γ:Sort w1}{δ:Sort z}{p0 p1 p2 p3:α→β→γ→δ→Prop}{C:Prop}(h:∃a0 a1 a2 a3,p0 a0 a1 a2 a3∧p1 a0 a1 a2 a3∧p2 a0 a1 a2 a3∧p3 a0 a1 a2 a3)(k:∀a0 a1 a2 a3,p0 a0 a1 a2 a3→p1 a0 a1 a2 a3→p2 a0 a1 a2 a3→p3 a0 a1 a2 a3→C):C:=h.elim fun a0 h=>h.elim fun a1 h=>h.elim fun a2 h=>h.elim fun a3 h=>k a0 a1 a2 a3 h.1 h.2.1 h.2.2.1 h.2.2.2
@[elab_as_elim] theorem rwE{α:Sort u}{a b:α}{P:α→Prop}(e:a=b)(h:P b):P a:=e▸h
@[elab_as_elim] theorem rwB{α:Sort u}{a b:α}{P:α→Prop}(e:a=b)(h:P a):P b:=e▸h
theorem optE{α:Type u}(o:Option α){C:Prop}(k:o=Option.none→C)(f:∀a,o=some a→C):C:=match o with
 |Option.none=>k rfl
 |some a=>f a rfl
theorem elE{α:Type u}{β:Type v}{o:Option α}{b y:β}{f:α→β}{C:Prop}(h:o.elim b f=y)(k:o=Option.none→b=y→C)(g:∀a,o=some a→f a=y→C):C:=match o with
 |Option.none=>k rfl h
 |some a=>g a rfl h
theorem iteE{α:Type u}{c:Prop}[Decidable c]{a b z:α}{C:Prop}(h:(if c then a else b)=z)(f:c→a=z→C)(k:¬c→b=z→C):C :=
 if q:c then f q ((if_pos q).symm.trans h) else k q ((if_neg q).symm.trans h)
end
theorem hld{G:Prop}(h:∀P:Prop,(G→P)→P):G:=h G id
theorem beq_kind{a b:NameKind}(h:(a==b)=true):a=b:=of_decide_eq_true h
theorem bne_kind{a b:NameKind}(h:(a != b)=true):a≠b:=bne_iff_ne.mp h
theorem beq_okind{a:Option NameKind}{b:NameKind}(h:(a==some b)=true):a=some b:=beq_iff_eq.mp h
inductive PV where
 |none
 |bool (b:Bool)
 |int (i:Int)
 |str (s:Str)
 |tup (l:List PV)
 |lst (l:List PV)
 |dct (es:List (Str × PV))
 |inst (c:Str) (fs:List (Str × PV))
 |rng (n:Nat)
 |glb (x:Str)
inductive AV where
 |pv (d:PV)
 |cell (k:Nat)
 |exn (d:PV)
inductive MO where
 |lst (l:List PV)
 |dct (es:List (Str × PV))
 |inst (c:Str) (fs:List (Str × AV))
 |dead
abbrev Vars:=List (Str × Option AV)
structure St where
 vars:Vars
 cells:List MO
structure Cx where
 names:List (Str × NameKind)
 lp:Bool
inductive Fl where
 |next | cont | brk
 |ret (d:PV)
 |exc (d:PV)
inductive Rs where
 |ok (a:AV)
 |exc (d:PV)
structure Rc where
 ev:Cx→Expr→St→Option (AV × St)
 ex:Cx→Stmt→St→Option (Fl × St)
 call:Str→List AV→List MO→Option (Rs × List MO)
noncomputable def ob{α β:Type}(x:Option α)(f:α→Option β):Option β:=match x with
 |some a=>f a
 |Option.none=>Option.none
noncomputable def gd{α:Type}(c:Bool)(x:α):Option α:=bif c then some x else Option.none
noncomputable def unc{α:Type}:List α→Option (α × List α)
 |[]=>Option.none
 |a::r=>some (a,r)
noncomputable def instMO(d_:MO):Option (Str × List (Str × AV)):=MO.casesOn d_ (fun _=>Option.none) (fun _=>Option.none) (fun c fs=>some (c,fs)) Option.none
noncomputable def instAt(cs:List MO)(k:Nat):Option (Str × List (Str × AV)):=ob cs[k]? instMO
noncomputable def flatPV(d_:MO):Option PV:=MO.casesOn d_ (fun l=>some (.lst l)) (fun es=>some (.dct es)) (fun _ _=>Option.none) Option.none
noncomputable def frz1(cs:List MO):AV→Option (PV × List MO)
 | .pv d=>some (d,cs)
 | .cell k=>ob cs[k]? fun o=>ob (flatPV o) fun d=>some (d,cs.set k .dead)
 | .exn _=>Option.none
noncomputable def frzFs(cs:List MO):List (Str × AV)→Option (List (Str × PV) × List MO)
 |[]=>some ([],cs)
 |f::r=>ob (frz1 cs f.2) fun p=>ob (frzFs p.2 r) fun q=>some ((f.1,p.1)::q.1,q.2)
noncomputable def frz(cs:List MO):AV→Option (PV × List MO)
 | .pv d=>some (d,cs)
 | .exn _=>Option.none
 | .cell k=>match instAt cs k with
  |some c=>ob (frzFs (cs.set k .dead) c.2) fun q=>some (.inst c.1 q.1,q.2)
  |Option.none=>frz1 cs (.cell k)
noncomputable def setV(x:Str)(a:AV):Vars→Vars
 |[]=>[]
 |(y,b)::r=>if x==y then (y,some a)::r else (y,b)::setV x a r
noncomputable def unsetV(x:Str):Vars→Vars
 |[]=>[]
 |(y,b)::r=>if x==y then (y,Option.none)::r else (y,b)::unsetV x r
noncomputable def getV(x:Str):Vars→Option AV
 |[]=>Option.none
 |(y,b)::r=>if x==y then b else getV x r
noncomputable def hasV(x:Str):Vars→Bool
 |[]=>false
 |(y,_)::r=>if x==y then true else hasV x r
noncomputable def keepsCell(x:Str):Bool:=x==("hand" : Str)||x==("notes" : Str)
noncomputable def biNames:List Str:=["len","list","max","abs","str","range","isinstance","sum"]
noncomputable def knownGlb(fns:List DefRec)(x:Str):Bool :=
 biNames.contains x||x==("Vector" : Str)||x==("Null" : Str)||x==("number_text" : Str)||fns.any (fun d=>d.name==x)
noncomputable def isLocalK:Option NameKind→Bool
 |some .local=>true
 |some .cell=>true
 |some .free=>true
 |_=>false
noncomputable def evName(fns:List DefRec)(cx:Cx)(x:Str)(st:St):Option (AV × St) :=
 bif x==("__debug__" : Str) then Option.none else ob (cx.names.lookup x) fun k=>match k with
 | .local=>ob (getV x st.vars) fun a=>some (a,st)
 | .cell=>ob (getV x st.vars) fun a=>some (a,st)
 | .free=>bif x==("__classdict__" : Str) then Option.none else ob (getV x st.vars) fun a=>some (a,st)
 | .globalImplicit=>bif knownGlb fns x then some (.pv (.glb x),st) else Option.none
 | .globalExplicit=>Option.none
noncomputable def evConst:Const→Option PV
 | .none=>some .none
 | .bool b=>some (.bool b)
 | .int i=>some (.int i)
 | .str s=>gd (decide (s.length≤1000)) (.str s)
 |_=>Option.none
mutual
noncomputable def toPy:PV→Option PyData
 | .none=>some .none
 | .bool b=>some (.bool b)
 | .int i=>some (.int i)
 | .str s=>some (.str s)
 | .tup l=>ob (toPyL l) fun r=>some (.tuple r)
 | .lst l=>ob (toPyL l) fun r=>some (.list r)
 | .dct _=>Option.none
 | .inst _ _=>Option.none
 | .rng _=>Option.none
 | .glb _=>Option.none
noncomputable def toPyL:List PV→Option (List PyData)
 |[]=>some []
 |d::r=>ob (toPy d) fun p=>ob (toPyL r) fun q=>some (p::q)
end
noncomputable def asInt(d_:PV):Option Int:=PV.casesOn d_ Option.none (fun _=>Option.none) (fun i=>some i) (fun _=>Option.none) (fun _=>Option.none) (fun _=>Option.none) (fun _=>Option.none) (fun _ _=>Option.none) (fun _=>Option.none) (fun _=>Option.none)
noncomputable def asStr(d_:PV):Option Str:=PV.casesOn d_ Option.none (fun _=>Option.none) (fun _=>Option.none) (fun i=>some i) (fun _=>Option.none) (fun _=>Option.none) (fun _=>Option.none) (fun _ _=>Option.none) (fun _=>Option.none) (fun _=>Option.none)
noncomputable def asLst(d_:PV):Option (List PV):=PV.casesOn d_ Option.none (fun _=>Option.none) (fun _=>Option.none) (fun _=>Option.none) (fun _=>Option.none) (fun i=>some i) (fun _=>Option.none) (fun _ _=>Option.none) (fun _=>Option.none) (fun _=>Option.none)
noncomputable def asTup(d_:PV):Option (List PV):=PV.casesOn d_ Option.none (fun _=>Option.none) (fun _=>Option.none) (fun _=>Option.none) (fun i=>some i) (fun _=>Option.none) (fun _=>Option.none) (fun _ _=>Option.none) (fun _=>Option.none) (fun _=>Option.none)
noncomputable def asDct(d_:PV):Option (List (Str × PV)):=PV.casesOn d_ Option.none (fun _=>Option.none) (fun _=>Option.none) (fun _=>Option.none) (fun _=>Option.none) (fun _=>Option.none) (fun i=>some i) (fun _ _=>Option.none) (fun _=>Option.none) (fun _=>Option.none)
noncomputable def asRng(d_:PV):Option Nat:=PV.casesOn d_ Option.none (fun _=>Option.none) (fun _=>Option.none) (fun _=>Option.none) (fun _=>Option.none) (fun _=>Option.none) (fun _=>Option.none) (fun _ _=>Option.none) (fun i=>some i) (fun _=>Option.none)
noncomputable def asGlb(d_:PV):Option Str:=PV.casesOn d_ Option.none (fun _=>Option.none) (fun _=>Option.none) (fun _=>Option.none) (fun _=>Option.none) (fun _=>Option.none) (fun _=>Option.none) (fun _ _=>Option.none) (fun _=>Option.none) (fun i=>some i)
noncomputable def isNoneP(d_:PV):Bool:=PV.casesOn d_ true (fun _=>false) (fun _=>false) (fun _=>false) (fun _=>false) (fun _=>false) (fun _=>false) (fun _ _=>false) (fun _=>false) (fun _=>false)
noncomputable def oo{α:Type}(x y:Option α):Option α:=match x with
 |some a=>some a
 |Option.none=>y
noncomputable def arg1{α:Type}:List α→Option α
 |[a]=>some a
 |_=>Option.none
noncomputable def arg2{α:Type}:List α→Option (α × α)
 |[a,b]=>some (a,b)
 |_=>Option.none
noncomputable def ii{α:Type}(f:Int→Int→Option α)(a b:PV):Option α:=ob (asInt a) fun i=>ob (asInt b) fun j=>f i j
noncomputable def ssP(f:Str→Str→Option PV)(a b:PV):Option PV:=ob (asStr a) fun i=>ob (asStr b) fun j=>f i j
noncomputable def llP(f:List PV→List PV→Option PV)(a b:PV):Option PV:=ob (asLst a) fun i=>ob (asLst b) fun j=>f i j
noncomputable def liP(f:List PV→Int→Option PV)(a b:PV):Option PV:=ob (asLst a) fun i=>ob (asInt b) fun j=>f i j
noncomputable def siP(f:Str→Int→Option PV)(a b:PV):Option PV:=ob (asStr a) fun i=>ob (asInt b) fun j=>f i j
noncomputable def eqPV(a b:PV):Option Bool:=ob (toPy a) fun p=>ob (toPy b) fun q=>gd (SeqAt.shaped p&&SeqAt.shaped q) (PyData.eqv p q)
noncomputable def strIn(s:Str):List PV→Option Bool
 |[]=>some false
 |a::r=>ob (asStr a) fun t=>ob (strIn s r) fun b=>some (s==t||b)
noncomputable def hasKey(s:Str):List (Str × PV)→Bool
 |[]=>false
 |(x,_)::r=>s==x||hasKey s r
noncomputable def inPV(a b:PV):Option Bool:=ob (asStr a) fun s=>oo (ob (asTup b) fun l=>strIn s l) (ob (asDct b) fun es=>some (hasKey s es))
noncomputable def notO(x:Option Bool):Option Bool:=ob x fun r=>some (!r)
noncomputable def isPV(a b:PV):Option Bool:=bif isNoneP b&&(asGlb a).isNone then some (isNoneP a) else Option.none
noncomputable def cmpPV:CmpOp→PV→PV→Option Bool
 | .Eq=>eqPV
 | .NotEq=>fun a b=>notO (eqPV a b)
 | .Lt=>ii fun a b=>some (decide (a < b))
 | .LtE=>ii fun a b=>some (decide (a≤b))
 | .Gt=>ii fun a b=>some (decide (b < a))
 | .GtE=>ii fun a b=>some (decide (b≤a))
 | .Is=>isPV
 | .IsNot=>fun a b=>notO (isPV a b)
 | .In=>inPV
 | .NotIn=>fun a b=>notO (inPV a b)
noncomputable def smallI(a:Int):Bool:=decide (a.natAbs < 2 ^ 62)
noncomputable def repL{α:Type}(l:List α):Nat→List α
 |0=>[]
 |n+1=>l++repL l n
noncomputable def addPV(a b:PV):Option PV:=oo (ii (fun i j=>some (.int (i+j))) a b) (oo (ssP (fun x y=>gd (decide (x.length≤1000∧y.length≤1000)) (.str (x++y))) a b)
 (llP (fun x y=>gd (decide (x.length≤1000∧y.length≤1000)) (.lst (x++y))) a b))
noncomputable def mulPV(a b:PV):Option PV:=oo (ii (fun i j=>gd (smallI i&&smallI j) (.int (i * j))) a b) (oo (liP (fun x n=>gd (decide (x.length≤1000∧0≤n∧n≤1000)) (.lst (repL x n.toNat))) a b)
 (siP (fun x n=>gd (decide (x.length≤1000∧0≤n∧n≤1000)) (.str (Txt.mul x n))) a b))
noncomputable def binPV:Operator→PV→PV→Option PV
 | .Add=>addPV
 | .Sub=>ii fun i j=>some (.int (i - j))
 | .Mult=>mulPV
 | .FloorDiv=>ii fun i j=>gd (decide (0 < j∧j < 1000000000)) (.int (Int.fdiv i j))
 | .Mod=>ii fun i j=>gd (decide (0 < j)) (.int (Int.fmod i j))
 | .Pow=>ii fun i j=>gd (decide (i=10∧0≤j∧j≤18)) (.int (10 ^ j.toNat))
 |_=>fun _ _=>Option.none
noncomputable def items(d:PV):Option (List PV):=oo (ob (asLst d) fun l=>gd (decide (l.length≤1000)) l) (oo (ob (asTup d) fun l=>gd (decide (l.length≤1000)) l) (ob (asRng d) fun n=>some ((List.range n).map fun (i:Nat)=>PV.int (i:Int))))
noncomputable def fieldNames:List Str:=["kind","items","attrs","shared","loose"]
noncomputable def lookA{α:Type}(x:Str):List (Str × α)→Option α
 |[]=>Option.none
 |(y,a)::r=>if x==y then some a else lookA x r
noncomputable def plainCls(c:Str):Bool:=c==("Vector" : Str)||c==("Null" : Str)
noncomputable def instOf(d_:PV):Option (Str × List (Str × PV)):=PV.casesOn d_ Option.none (fun _=>Option.none) (fun _=>Option.none) (fun _=>Option.none) (fun _=>Option.none) (fun _=>Option.none) (fun _=>Option.none) (fun c fs=>some (c,fs)) (fun _=>Option.none) (fun _=>Option.none)
noncomputable def attrPV(d:PV)(x:Str):Option AV:=ob (instOf d) fun c=>bif fieldNames.contains x&&plainCls c.1 then ob (lookA x c.2) fun d=>some (.pv d) else Option.none
noncomputable def attrOf(a:AV)(x:Str):Option AV:=match a with
 | .pv d=>attrPV d x
 | .exn d=>bif x==("message" : Str) then some (.pv d) else Option.none
 | .cell _=>Option.none
noncomputable def fieldOf(cs:List MO)(k:Nat)(x:Str):Option AV:=ob (instAt cs k) fun c=>bif fieldNames.contains x&&plainCls c.1 then lookA x c.2 else Option.none
noncomputable def nthPV(l:List PV)(i:Int):Option PV:=bif decide (0≤i∧i < 100000) then l[i.toNat]? else Option.none
noncomputable def subPV(a b:PV):Option PV:=oo (ob (asInt b) fun i=>oo (ob (asLst a) fun l=>nthPV l i) (oo (ob (asTup a) fun l=>nthPV l i) (ob (asStr a) fun s=>bif decide (0≤i∧i < 100000) then ob s.cps.toList[i.toNat]? fun c=>some (.str ⟨#[c]⟩) else Option.none)))
 (ob (asStr b) fun s=>ob (asDct a) fun es=>lookA s es)
noncomputable def sliceL{α:Type}(l:List α)(lo hi:Nat):List α:=(l.take hi).drop lo
noncomputable def hiOf(n:Nat):Option Int→Nat
 |some h=>h.toNat
 |Option.none=>n
noncomputable def slOk(n:Nat)(lo hi:Option Int):Bool:=decide (n≤1000∧0≤lo.getD 0∧0≤hi.getD 0∧lo.getD 0≤100000∧hi.getD 0≤100000)
noncomputable def slicePV(d:PV)(lo hi:Option Int):Option PV:=oo (ob (asLst d) fun l=>gd (slOk l.length lo hi) (.lst (sliceL l (lo.getD 0).toNat (hiOf l.length hi)))) (ob (asStr d) fun s=>gd (slOk s.length lo hi) (.str (Txt.slice s lo hi)))
noncomputable def intsOf:List PV→Option (List Int)
 |[]=>some []
 |a::r=>ob (asInt a) fun i=>ob (intsOf r) fun l=>some (i::l)
noncomputable def strsOf:List PV→Option (List Str)
 |[]=>some []
 |a::r=>ob (asStr a) fun i=>ob (strsOf r) fun l=>some (i::l)
noncomputable def maxI(a:Int):List Int→Int
 |[]=>a
 |b::r=>maxI (if a < b then b else a) r
noncomputable def sumI:List Int→Int
 |[]=>0
 |a::r=>a+sumI r
noncomputable def lenB(a:PV):Option PV:=oo (ob (asLst a) fun l=>gd (decide (l.length≤100000)) (.int l.length)) (ob (asStr a) fun s=>gd (decide (s.length≤100000)) (.int s.length))
noncomputable def listB(a:PV):Option PV:=ob (asLst a) fun l=>gd (decide (l.length≤1000)) (.lst l)
noncomputable def maxB(args:List PV):Option PV:=oo (ob (arg2 args) fun p=>ii (fun a b=>some (.int (maxI a [b]))) p.1 p.2) (ob (arg1 args) fun a=>ob (asLst a) fun l=>ob (intsOf l) fun is=>ob (unc is) fun p=>gd (decide (p.2.length≤1000)) (.int (maxI p.1 p.2)))
noncomputable def absB(a:PV):Option PV:=ob (asInt a) fun i=>some (.int (i.natAbs:Int))
noncomputable def strB(a:PV):Option PV:=ob (asInt a) fun i=>gd (decide (i.natAbs < 10 ^ 18)) (.str (Str.ofString (toString i)))
noncomputable def rangeB(a:PV):Option PV:=ob (asInt a) fun i=>gd (decide (0≤i∧i≤1000)) (.rng i.toNat)
noncomputable def isiB(args:List PV):Option PV:=ob (arg2 args) fun p=>ob (instOf p.1) fun c=>ob (asGlb p.2) fun d=>gd (c.1==("Vector" : Str)&&d==("Vector" : Str)) (.bool true)
noncomputable def sumB(a:PV):Option PV:=ob (asLst a) fun l=>ob (intsOf l) fun r=>gd (decide (r.length≤1000)) (.int (sumI r))
noncomputable def biPV(x:Str)(args:List PV):Option PV :=
 bif x==("len" : Str) then ob (arg1 args) lenB
 else bif x==("list" : Str) then ob (arg1 args) listB
 else bif x==("max" : Str) then maxB args
 else bif x==("abs" : Str) then ob (arg1 args) absB
 else bif x==("str" : Str) then ob (arg1 args) strB
 else bif x==("range" : Str) then ob (arg1 args) rangeB
 else bif x==("isinstance" : Str) then isiB args
 else bif x==("sum" : Str) then ob (arg1 args) sumB
 else Option.none
noncomputable def idxS(s:Str):List Str→Option Nat
 |[]=>Option.none
 |t::r=>bif t==s then some 0 else ob (idxS s r) fun n=>some (n+1)
noncomputable def getB(d:PV)(args:List PV):Option PV:=ob (asDct d) fun es=>ob (arg1 args) fun a=>ob (asStr a) fun s=>some ((lookA s es).getD .none)
noncomputable def idxB(args l:List PV):Option PV:=ob (arg1 args) fun a=>ob (asStr a) fun s=>ob (strsOf l) fun ss=>ob (idxS s ss) fun n=>gd (decide (l.length≤1000)) (.int n)
noncomputable def indexB(d:PV)(args:List PV):Option PV:=oo (ob (asTup d) (idxB args)) (ob (asLst d) (idxB args))
noncomputable def joinB(d:PV)(args:List PV):Option PV:=ob (asStr d) fun sep=>ob (arg1 args) fun a=>ob (asLst a) fun l=>ob (strsOf l) fun ss=>gd (decide (sep.length≤1000∧ss.length≤100∧(ss.all fun s=>s.length≤1000)=true)) (.str (Builtin.Str.glued sep ss))
noncomputable def rjustB(d:PV)(args:List PV):Option PV:=ob (asStr d) fun s=>ob (arg2 args) fun p=>ob (asInt p.1) fun n=>ob (asStr p.2) fun f=>gd (decide (f.length=1∧s.length≤1000∧n≤s.length∧0≤n)) (.str s)
noncomputable def methPV(d:PV)(x:Str)(args:List PV):Option PV :=
 bif x==("get" : Str) then getB d args
 else bif x==("index" : Str) then indexB d args
 else bif x==("join" : Str) then joinB d args
 else bif x==("rjust" : Str) then rjustB d args
 else Option.none
noncomputable def lstMO(d_:MO):Option (List PV):=MO.casesOn d_ (fun l=>some l) (fun _=>Option.none) (fun _ _=>Option.none) Option.none
noncomputable def methMO(o:MO)(x:Str)(args:List PV):Option MO:=ob (lstMO o) fun l =>
 bif x==("append" : Str) then ob (arg1 args) fun d=>gd (decide (l.length≤1000)) (.lst (l++[d]))
 else bif x==("extend" : Str) then ob (arg1 args) fun d=>ob (asLst d) fun r=>gd (decide (l.length≤1000∧r.length≤1000)) (.lst (l++r))
 else bif x==("reverse" : Str) then bif args.isEmpty then gd (decide (l.length≤1000)) (.lst l.reverse) else Option.none
 else Option.none
noncomputable def putA{α:Type}(x:Str)(a:α):List (Str × α)→List (Str × α)
 |[]=>[(x,a)]
 |(y,b)::r=>if x==y then (y,a)::r else (y,b)::putA x a r
noncomputable def asCell(d_:AV):Option Nat:=AV.casesOn d_ (fun _=>Option.none) (fun k=>some k) (fun _=>Option.none)
noncomputable def asPV(d_:AV):Option PV:=AV.casesOn d_ (fun d=>some d) (fun _=>Option.none) (fun _=>Option.none)
noncomputable def notExn(d_:AV):Bool:=AV.casesOn d_ (fun _=>true) (fun _=>true) (fun _=>false)
noncomputable def isNoneA(d_:AV):Bool:=AV.casesOn d_ (fun d=>isNoneP d) (fun _=>false) (fun _=>false)
noncomputable def dctMO(d_:MO):Option (List (Str × PV)):=MO.casesOn d_ (fun _=>Option.none) (fun es=>some es) (fun _ _=>Option.none) Option.none
noncomputable def lstAt(cs:List MO)(k:Nat):Option (List PV):=ob cs[k]? lstMO
noncomputable def dctAt(cs:List MO)(k:Nat):Option (List (Str × PV)):=ob cs[k]? dctMO
noncomputable def sx(s:Stmt):Nat × List Expr × List Stmt × List Stmt × Pos × Option DefRec:=Stmt.casesOn s (fun n a b _ _ _ sc _ _ p=>(6,[],[],[],p,some ⟨n,a,b,sc,p⟩)) (fun _ _ _ _ _ _ _ _ _ _=>(0,[],[],[],default,Option.none)) (fun _ _ _ _ _ _ _ _ _ _ _=>(0,[],[],[],default,Option.none)) (fun e p=>(4,e.toList,[],[],p,Option.none)) (fun _ _=>(0,[],[],[],default,Option.none)) (fun ts v p=>(1,v::ts,[],[],p,Option.none)) (fun _ _ _ _ _ _ _=>(0,[],[],[],default,Option.none)) (fun _ _ _ _=>(0,[],[],[],default,Option.none)) (fun _ _ _ _ _=>(0,[],[],[],default,Option.none)) (fun t i b o p=>(2,[t,i],b,o,p,Option.none)) (fun _ _ _ _ _=>(0,[],[],[],default,Option.none)) (fun _ _ _ _=>(0,[],[],[],default,Option.none)) (fun c b o p=>(3,[c],b,o,p,Option.none)) (fun _ _ _=>(0,[],[],[],default,Option.none)) (fun _ _ _=>(0,[],[],[],default,Option.none)) (fun _ _ _=>(0,[],[],[],default,Option.none)) (fun _ _ _=>(0,[],[],[],default,Option.none)) (fun b _ o _ p=>(5,[],b,o,p,Option.none)) (fun _ _ _ _ _=>(0,[],[],[],default,Option.none)) (fun _ _ _=>(0,[],[],[],default,Option.none)) (fun _ _=>(0,[],[],[],default,Option.none)) (fun _ _ _ _=>(0,[],[],[],default,Option.none)) (fun _ _=>(0,[],[],[],default,Option.none)) (fun _ _=>(0,[],[],[],default,Option.none)) (fun _ _=>(0,[],[],[],default,Option.none)) (fun _=>(0,[],[],[],default,Option.none)) (fun _=>(0,[],[],[],default,Option.none)) (fun _=>(0,[],[],[],default,Option.none))
inductive EK where
 |name (x:Str)
 |tup (ts:List Expr)
 |lst (es:List Expr)
 |call (f:Expr) (as:List Expr) (ks:List Keyword)
 |attr (o:Expr) (x:Str) (p:Pos)
 |con (c:Const)
 |slice (a b c:Option Expr)
 |star | set
 |fmt (e:Expr) (c:Int)
 |lc (e:Expr) (g:List Comprehension) (s:Scope)
 |bad | other
noncomputable def ek(e:Expr):EK:=Expr.casesOn e (fun _ _ _=>.other) (fun _ _ _=>.other) (fun _ _ _ _=>.other) (fun _ _ _=>.other) (fun _ _ _ _=>.other) (fun _ _ _ _=>.other) (fun _ _ _=>.other) (fun _ _ _=>.set) (fun e g s _=>.lc e g s) (fun _ _ _ _=>.bad) (fun _ _ _ _ _=>.bad) (fun _ _ _ _=>.other) (fun _ _=>.other) (fun _ _=>.other) (fun _ _=>.other) (fun _ _ _ _=>.other) (fun f a k _=>.call f a k) (fun e c s _=>s.casesOn (.fmt e c) fun _=>.other) (fun _ _=>.other) (fun c _ _=>.con c) (fun o m p=>.attr o m p) (fun _ _ _=>.other) (fun _ _=>.star) (fun x _=>.name x) (fun es _=>.lst es) (fun ts _ _=>.tup ts) (fun a b c _=>.slice a b c)
noncomputable def sliceOfK(d_:EK):Option (Option Expr × Option Expr × Option Expr):=EK.casesOn d_ (fun _=>Option.none) (fun _=>Option.none) (fun _=>Option.none) (fun _ _ _=>Option.none) (fun _ _ _=>Option.none) (fun _=>Option.none) (fun a b c=>some (a,b,c)) Option.none Option.none (fun _ _=>Option.none) (fun _ _ _=>Option.none) Option.none Option.none
noncomputable def sliceOf(e:Expr):Option (Option Expr × Option Expr × Option Expr):=sliceOfK (ek e)
noncomputable def attrK(d_:EK):Option (Expr × Str × Pos):=EK.casesOn d_ (fun _=>Option.none) (fun _=>Option.none) (fun _=>Option.none) (fun _ _ _=>Option.none) (fun o m p=>some (o,m,p)) (fun _=>Option.none) (fun _ _ _=>Option.none) Option.none Option.none (fun _ _=>Option.none) (fun _ _ _=>Option.none) Option.none Option.none
noncomputable def attrE(e:Expr):Option (Expr × Str × Pos):=attrK (ek e)
noncomputable def nameK(d_:EK):Option Str:=EK.casesOn d_ (fun x=>some x) (fun _=>Option.none) (fun _=>Option.none) (fun _ _ _=>Option.none) (fun _ _ _=>Option.none) (fun _=>Option.none) (fun _ _ _=>Option.none) Option.none Option.none (fun _ _=>Option.none) (fun _ _ _=>Option.none) Option.none Option.none
noncomputable def nameE(e:Expr):Option Str:=nameK (ek e)
noncomputable def conK(d_:EK):Option Const:=EK.casesOn d_ (fun _=>Option.none) (fun _=>Option.none) (fun _=>Option.none) (fun _ _ _=>Option.none) (fun _ _ _=>Option.none) (fun c=>some c) (fun _ _ _=>Option.none) Option.none Option.none (fun _ _=>Option.none) (fun _ _ _=>Option.none) Option.none Option.none
noncomputable def strC:Const→Option Str
 | .str s=>some s
 |_=>Option.none
noncomputable def strK(k:EK):Option Str:=ob (conK k) strC
noncomputable def strE(e:Expr):Option Str:=strK (ek e)
noncomputable def callK(d_:EK):Option (Expr × List Expr × List Keyword):=EK.casesOn d_ (fun _=>Option.none) (fun _=>Option.none) (fun _=>Option.none) (fun f a k=>some (f,a,k)) (fun _ _ _=>Option.none) (fun _=>Option.none) (fun _ _ _=>Option.none) Option.none Option.none (fun _ _=>Option.none) (fun _ _ _=>Option.none) Option.none Option.none
noncomputable def callE(e:Expr):Option (Expr × List Expr × List Keyword):=callK (ek e)
noncomputable def tupK(d_:EK):Option (List Expr):=EK.casesOn d_ (fun _=>Option.none) (fun l=>some l) (fun _=>Option.none) (fun _ _ _=>Option.none) (fun _ _ _=>Option.none) (fun _=>Option.none) (fun _ _ _=>Option.none) Option.none Option.none (fun _ _=>Option.none) (fun _ _ _=>Option.none) Option.none Option.none
noncomputable def tupE(e:Expr):Option (List Expr):=tupK (ek e)
noncomputable def listK(d_:EK):Option (List Expr):=EK.casesOn d_ (fun _=>Option.none) (fun _=>Option.none) (fun l=>some l) (fun _ _ _=>Option.none) (fun _ _ _=>Option.none) (fun _=>Option.none) (fun _ _ _=>Option.none) Option.none Option.none (fun _ _=>Option.none) (fun _ _ _=>Option.none) Option.none Option.none
noncomputable def listE(e:Expr):Option (List Expr):=listK (ek e)
noncomputable def fmtK(d_:EK):Option (Expr × Int):=EK.casesOn d_ (fun _=>Option.none) (fun _=>Option.none) (fun _=>Option.none) (fun _ _ _=>Option.none) (fun _ _ _=>Option.none) (fun _=>Option.none) (fun _ _ _=>Option.none) Option.none Option.none (fun x c=>some (x,c)) (fun _ _ _=>Option.none) Option.none Option.none
noncomputable def fmtE(e:Expr):Option (Expr × Int):=fmtK (ek e)
noncomputable def isS(e:Expr):Bool:=EK.casesOn (ek e) (fun _=>false) (fun _=>false) (fun _=>false) (fun _ _ _=>false) (fun _ _ _=>false) (fun _=>false) (fun _ _ _=>false) true false (fun _ _=>false) (fun _ _ _=>false) false false
noncomputable def isSliceE(e:Expr):Bool:=EK.casesOn (ek e) (fun _=>false) (fun _=>false) (fun _=>false) (fun _ _ _=>false) (fun _ _ _=>false) (fun _=>false) (fun _ _ _=>true) false false (fun _ _=>false) (fun _ _ _=>false) false false
noncomputable def isSetE(e:Expr):Bool:=EK.casesOn (ek e) (fun _=>false) (fun _=>false) (fun _=>false) (fun _ _ _=>false) (fun _ _ _=>false) (fun _=>false) (fun _ _ _=>false) false true (fun _ _=>false) (fun _ _ _=>false) false false
inductive VK where
 |lc (elt:Expr) (gens:List Comprehension) (sc:Scope)
 |bad | tup | plain
noncomputable def vkOf(e:Expr):VK:=EK.casesOn (ek e) (fun _=>.plain) (fun _=>.tup) (fun _=>.plain) (fun _ _ _=>.plain) (fun _ _ _=>.plain) (fun _=>.plain) (fun _ _ _=>.plain) .plain .plain (fun _ _=>.plain) (fun e g s=>.lc e g s) .bad .plain
noncomputable def augI:Operator→Int→Int→Option Int
 | .Add,i,j=>some (i+j)
 | .Sub,i,j=>some (i - j)
 |_,_,_=>Option.none
noncomputable def isAddO:Operator→Bool
 | .Add=>true
 |_=>false
noncomputable def okRs:Rs→St→Option (AV × St)
 | .ok a,st=>some (a,st)
 | .exc _,_=>Option.none
section
variable(fns:List DefRec)(R:Rc)
noncomputable def nmV(e:Expr)(d:PV)(vs:Vars):Vars:=match nameE e with
 |some x=>setV x (.pv d) vs
 |Option.none=>vs
noncomputable def evP0(cx:Cx)(e:Expr)(st:St):Option (PV × St):=ob (R.ev cx e st) fun p=>match p.1 with
 | .pv d=>some (d,p.2)
 | .cell k=>ob (frz p.2.cells (.cell k)) fun q=>some (q.1,⟨nmV e q.1 p.2.vars,q.2⟩)
 | .exn _=>Option.none
noncomputable def evL{α:Type}(f:Expr→St→Option (α × St)):List Expr→St→Option (List α × St)
 |[],st=>some ([],st)
 |e::r,st=>ob (f e st) fun p=>ob (evL f r p.2) fun q=>some (p.1::q.1,q.2)
noncomputable def evPs0(cx:Cx)(es:List Expr)(st:St):Option (List PV × St):=evL (evP0 R cx) es st
noncomputable def evP(cx:Cx)(e:Expr)(st:St):Option (PV × St):=match listE e with
 |some es=>bif es.any isS||decide (1000 < es.length) then Option.none else ob (evPs0 R cx es st) fun p=>some (.lst p.1,p.2)
 |Option.none=>evP0 R cx e st
noncomputable def evPs(cx:Cx)(es:List Expr)(st:St):Option (List PV × St):=evL (evP R cx) es st
noncomputable def liftP(x:Option (PV × St)):Option (AV × St):=ob x fun p=>some (.pv p.1,p.2)
noncomputable def rawE(raw:Bool)(e:Expr):Bool:=match ek e with
 | .name x=>raw||keepsCell x
 | .call _ _ _=>true
 |_=>false
noncomputable def evArg(raw:Bool)(cx:Cx)(e:Expr)(st:St):Option (AV × St):=bif rawE raw e then R.ev cx e st else liftP (evP R cx e st)
noncomputable def evArgs(raw:Bool)(cx:Cx)(es:List Expr)(st:St):Option (List AV × St):=evL (evArg R raw cx) es st
noncomputable def allPV:List AV→Option (List PV)
 |[]=>some []
 |a::r=>ob (asPV a) fun d=>ob (allPV r) fun l=>some (d::l)
noncomputable def vecFields(k i a:AV):List (Str × AV):=[("kind",k),("items",i),("attrs",a),("shared",.pv (.bool false)),("loose",.pv (.bool false))]
noncomputable def nullFields:List (Str × AV):=[("kind",.pv (.str "NULL")),("attrs",.pv .none)]
noncomputable def callG(cx:Cx)(x:Str)(as:List AV)(cs:List MO):Option (Rs × List MO) :=
 bif biNames.contains x then (bif cx.lp||x==("str" : Str) then ob (allPV as) fun ds=>ob (biPV x ds) fun d=>some (.ok (.pv d),cs) else Option.none)
 else bif !cx.lp then Option.none
 else bif x==("Vector" : Str) then ob (allPV as) fun ds=>ob (arg2 ds) fun p=>some (.ok (.cell cs.length),cs++[.inst "Vector" (vecFields (.pv p.1) (.pv p.2) (.pv .none))])
 else bif x==("Null" : Str) then (bif as.isEmpty then some (.ok (.cell cs.length),cs++[.inst "Null" nullFields]) else Option.none)
 else R.call x as cs
noncomputable def evCall(cx:Cx)(f:Expr)(args:List Expr)(st:St):Option (Rs × St) :=
 bif args.any isS||decide (30 < args.length) then Option.none else ob (R.ev cx f st) fun p=>ob (asPV p.1) fun d=>ob (asGlb d) fun x =>
  ob (evArgs R (x==("_law_named" : Str)) cx args p.2) fun q=>ob (callG R cx x q.1 q.2.cells) fun r=>some (r.1,⟨q.2.vars,r.2⟩)
noncomputable def okR(x:Option (AV × St)):Option (Rs × St):=ob x fun p=>some (.ok p.1,p.2)
noncomputable def evR(cx:Cx)(e:Expr)(st:St):Option (Rs × St):=match callE e with
 |some c=>bif (attrE c.1).isSome||!c.2.2.isEmpty then okR (R.ev cx e st) else evCall R cx c.1 c.2.1 st
 |Option.none=>bif (nameE e).isSome then okR (liftP (evP R cx e st)) else okR (R.ev cx e st)
noncomputable def asBool(d_:PV):Option Bool:=PV.casesOn d_ Option.none (fun b=>some b) (fun _=>Option.none) (fun _=>Option.none) (fun _=>Option.none) (fun _=>Option.none) (fun _=>Option.none) (fun _ _=>Option.none) (fun _=>Option.none) (fun _=>Option.none)
noncomputable def evT(cx:Cx)(e:Expr)(st:St):Option (Bool × St):=ob (R.ev cx e st) fun p=>ob (asPV p.1) fun d=>ob (asBool d) fun b=>some (b,p.2)
noncomputable def evAnd(cx:Cx):List Expr→St→Option (Bool × St)
 |[],st=>some (true,st)
 |e::r,st=>ob (evT R cx e st) fun p=>bif p.1 then evAnd cx r p.2 else some (false,p.2)
noncomputable def evOr(cx:Cx):List Expr→St→Option (Bool × St)
 |[],st=>some (false,st)
 |e::r,st=>ob (evT R cx e st) fun p=>bif p.1 then some (true,p.2) else evOr cx r p.2
noncomputable def isExnO:Option (AV × St)→Bool
 |some (.exn _,_)=>true
 |_=>false
noncomputable def evBase(cx:Cx)(e:Expr)(st:St):Option (AV × St):=match nameE e with
 |some x=>bif keepsCell x||isExnO (R.ev cx e st) then R.ev cx e st else liftP (evP R cx e st)
 |Option.none=>liftP (evP R cx e st)
noncomputable def setVL(names:List (Str × NameKind))(x:Str)(d:PV)(st:St):Option St :=
 gd (isLocalK (names.lookup x)&&names.lookup x != some .free&&hasV x st.vars&&x != ("__debug__" : Str)) ⟨setV x (.pv d) st.vars,st.cells⟩
noncomputable def bindTs(names:List (Str × NameKind)):List Expr→List PV→St→Option St
 |[],ds,st=>gd ds.isEmpty st
 |t::ts,ds,st=>ob (nameE t) fun x=>ob (unc ds) fun p=>ob (setVL names x p.1 st) fun st1=>bindTs names ts p.2 st1
noncomputable def bindT(names:List (Str × NameKind))(t:Expr)(d:PV)(st:St):Option St:=match nameE t with
 |some x=>setVL names x d st
 |Option.none=>ob (tupE t) fun ts=>bif (asRng d).isSome then Option.none else ob (items d) fun l=>bindTs names ts l st
noncomputable def rlN(outer inner:List (Str × NameKind)):List (Str × NameKind) :=
 inner.map fun x=>if (x.2==.free&&outer.lookup x.1==some .cell) then (x.1,.cell) else x
noncomputable def comp1(cx:Cx)(elt target:Expr)(ifs:List Expr):List PV→List PV→St→Option (List PV × St)
 |[],acc,st=>some (acc,st)
 |d::r,acc,st=>ob (bindT cx.names target d st) fun st1=>ob (evAnd R cx ifs st1) fun p =>
  bif p.1 then ob (evP R cx elt p.2) fun q=>bif decide (acc.length≤1000) then comp1 cx elt target ifs r (acc++[q.1]) q.2 else Option.none
  else comp1 cx elt target ifs r acc p.2
noncomputable def comp2(cx:Cx)(elt t1 t2 i2:Expr):List PV→List PV→St→Option (List PV × St)
 |[],acc,st=>some (acc,st)
 |d::r,acc,st=>ob (bindT cx.names t1 d st) fun st1=>ob (evP R cx i2 st1) fun p=>ob (items p.1) fun ds=>ob (comp1 R cx elt t2 [] ds acc p.2) fun q=>comp2 cx elt t1 t2 i2 r q.1 q.2
noncomputable def oNm(scope:Scope):List Str:=(scope.names.filter fun x=>(x.2==.local||x.2==.cell)).map (·.1)
noncomputable def scO(outer:List (Str × NameKind))(scope:Scope):Bool :=
 scope.kind==.function&&(scope.names.all fun x=>(x.2 != .local||scope.names.lookup x.1==some .local)&&(x.2 != .cell||scope.names.lookup x.1==some .cell) &&
  (x.2==.local||x.2==.cell||x.2==.free||x.2==.globalImplicit) &&
  (x.2 != .free||((outer.lookup x.1==some .cell||outer.lookup x.1==some .free)&&x.1 != ("__classdict__" : Str))))
noncomputable def tnames:List Expr→List Str
 |[]=>[]
 |t::r=>match nameE t with
  |some x=>x::tnames r
  |Option.none=>tnames r
noncomputable def tname(t:Expr):List Str:=match nameE t with
 |some x=>[x]
 |Option.none=>match tupE t with
  |some ts=>tnames ts
  |Option.none=>[]
noncomputable def ownT(scope:Scope)(t:Expr):Bool:=(tname t).all fun x=>(oNm scope).any fun y=>x==y
noncomputable def nodupS:List Str→Bool
 |[]=>true
 |x::r=>!(r.any fun y=>x==y)&&nodupS r
noncomputable def compOk(scope:Scope)(vars:Vars):Bool :=
 (scope.names.all fun x=>x.2 != .free||hasV x.1 vars)&&scope.names.lookup (".0" : Str)==some .local&&nodupS (oNm scope)
noncomputable def compIn(scope:Scope)(st:St):St:=⟨(oNm scope).map (fun n=>(n,Option.none))++st.vars,st.cells⟩
noncomputable def compOut(scope:Scope)(p:List PV × St):Option (AV × St):=some (.pv (.lst p.1),⟨p.2.vars.drop (oNm scope).length,p.2.cells⟩)
noncomputable def evComp1(cx:Cx)(elt:Expr)(g:Comprehension)(scope:Scope)(st:St):Option (AV × St) :=
 bif isSetE g.iter||!ownT scope g.target then Option.none else ob (evP R cx g.iter st) fun p=>ob (items p.1) fun ds =>
  ob (comp1 R ⟨rlN cx.names scope.names,cx.lp⟩ elt g.target g.ifs ds [] (compIn scope p.2)) (compOut scope)
noncomputable def evComp2(cx:Cx)(elt:Expr)(g g2:Comprehension)(scope:Scope)(st:St):Option (AV × St) :=
 bif isSetE g.iter||isSetE g2.iter||!ownT scope g.target||!ownT scope g2.target then Option.none else ob (evP R cx g.iter st) fun p=>ob (items p.1) fun ds =>
  ob (comp2 R ⟨rlN cx.names scope.names,cx.lp⟩ elt g.target g2.target g2.iter ds [] (compIn scope p.2)) (compOut scope)
noncomputable def evComp(cx:Cx)(elt:Expr)(gens:List Comprehension)(scope:Scope)(st:St):Option (AV × St) :=
 bif !(cx.lp&&scO cx.names scope&&compOk scope st.vars) then Option.none else
 match gens with
 |[]=>Option.none
 |g::r=>match r with
  |[]=>bif g.is_async==0 then evComp1 R cx elt g scope st else Option.none
  |g2::r2=>bif g.is_async==0&&g2.is_async==0&&g.ifs.isEmpty&&g2.ifs.isEmpty&&r2.isEmpty then evComp2 R cx elt g g2 scope st else Option.none
noncomputable def keysOf:List (Option Expr)→Option (List Str)
 |[]=>some []
 |o::r=>ob o fun e=>ob (strE e) fun s=>ob (keysOf r) fun l=>some (s::l)
noncomputable def zipA:List Str→List PV→List (Str × PV)
 |x::r,d::s=>(x,d)::zipA r s
 |_,_=>[]
noncomputable def partS(out:Str)(d:PV):Option Str:=oo (ob (asStr d) fun s=>gd (decide (s.length≤1000∧out.length≤1000)) (out++s)) (ob (asInt d) fun i=>gd (decide (i.natAbs < 10 ^ 18∧out.length≤1000)) (out++Str.ofString (toString i)))
noncomputable def evParts(cx:Cx):List Expr→Str→St→Option (Str × St)
 |[],out,st=>some (out,st)
 |e::r,out,st=>(strE e).elim (ob (fmtE e) fun f=>bif f.2==-1 then ob (evP R cx f.1 st) fun p=>ob (partS out p.1) fun out1=>evParts cx r out1 p.2 else Option.none)
  fun s=>bif decide (s.length≤1000∧out.length≤1000) then evParts cx r (out++s) st else Option.none
noncomputable def boundOf(cx:Cx)(o:Option Expr)(st:St):Option (Option Int × St):=match o with
 |Option.none=>some (Option.none,st)
 |some e=>ob (evP R cx e st) fun p=>ob (asInt p.1) fun i=>some (some i,p.2)
noncomputable def nSC(e:Expr):Bool:=match callE e with
 |some c=>!((nameE c.1).isSome&&c.2.1.isEmpty&&c.2.2.isEmpty)
 |Option.none=>true
noncomputable def turner(m:Str):Bool:=m==("append" : Str)||m==("extend" : Str)||m==("reverse" : Str)
noncomputable def isLst(cs:List MO)(k:Nat):Bool:=(lstAt cs k).isSome
noncomputable def evMeth(cx:Cx)(o:Expr)(m:Str)(args:List Expr)(st:St):Option (AV × St) :=
 bif args.any isS||decide (20 < args.length)||!nSC o then Option.none else
 bif turner m then ob (R.ev cx o st) fun p=>ob (asCell p.1) fun k=>bif isLst p.2.cells k then ob (evPs R cx args p.2) fun q=>ob q.2.cells[k]? fun o=>ob (methMO o m q.1) fun o'=>some (.pv .none,⟨q.2.vars,q.2.cells.set k o'⟩) else Option.none
 else ob (evP R cx o st) fun p=>ob (evPs R cx args p.2) fun q=>ob (methPV p.1 m q.1) fun r=>some (.pv r,q.2)
noncomputable def evConstE(c:Const)(st:St):Option (AV × St):=ob (evConst c) fun d=>some (.pv d,st)
noncomputable def evBinE(cx:Cx)(l:Expr)(op:Operator)(r:Expr)(st:St):Option (AV × St):=ob (evP R cx l st) fun p=>ob (evP R cx r p.2) fun q=>ob (binPV op p.1 q.1) fun d=>some (.pv d,q.2)
noncomputable def evUnE(cx:Cx)(op:UnaryOp)(x:Expr)(st:St):Option (AV × St):=match op with
 | .USub=>ob (evP R cx x st) fun p=>ob (asInt p.1) fun i=>some (.pv (.int (-i)),p.2)
 | .Not=>ob (evT R cx x st) fun p=>some (.pv (.bool (!p.1)),p.2)
 |_=>Option.none
noncomputable def evIfE(cx:Cx)(t b o:Expr)(st:St):Option (AV × St):=ob (evT R cx t st) fun p=>bif p.1 then R.ev cx b p.2 else R.ev cx o p.2
noncomputable def evBoolE(cx:Cx)(op:BoolOp)(vs:List Expr)(st:St):Option (AV × St):=bif vs.isEmpty then Option.none else match op with
 | .And=>ob (evAnd R cx vs st) fun p=>some (.pv (.bool p.1),p.2)
 | .Or=>ob (evOr R cx vs st) fun p=>some (.pv (.bool p.1),p.2)
noncomputable def evCmpE(cx:Cx)(l:Expr)(op:CmpOp)(r:Expr)(st:St):Option (AV × St):=bif behindInMarks op r then Option.none else ob (evP R cx l st) fun p=>ob (evP R cx r p.2) fun q=>ob (cmpPV op p.1 q.1) fun d=>some (.pv (.bool d),q.2)
noncomputable def evListE(cx:Cx)(es:List Expr)(st:St):Option (AV × St):=bif es.any isS||decide (1000 < es.length) then Option.none else ob (evPs R cx es st) fun p=>some (.cell p.2.cells.length,⟨p.2.vars,p.2.cells++[.lst p.1]⟩)
noncomputable def evTupE(cx:Cx)(es:List Expr)(st:St):Option (AV × St):=bif es.any isS||decide (1000 < es.length) then Option.none else ob (evPs R cx es st) fun p=>some (.pv (.tup p.1),p.2)
noncomputable def evDictE(cx:Cx)(ks:List (Option Expr))(vs:List Expr)(st:St):Option (AV × St):=ob (keysOf ks) fun ns=>bif nodupS ns&&ns.length==vs.length&&decide (ns.length≤15)&&decide (0 < ns.length) then ob (evPs R cx vs st) fun p=>some (.cell p.2.cells.length,⟨p.2.vars,p.2.cells++[.dct (zipA ns p.1)]⟩) else Option.none
noncomputable def evStrE(cx:Cx)(ps:List Expr)(st:St):Option (AV × St):=bif decide (2≤ps.length) then ob (evParts R cx ps Str.empty st) fun p=>some (.pv (.str p.1),p.2) else Option.none
noncomputable def evAttrE(cx:Cx)(o:Expr)(x:Str)(st:St):Option (AV × St):=bif nSC o then ob (evBase R cx o st) fun p=>ob (attrOf p.1 x) fun b=>some (b,p.2) else Option.none
noncomputable def evSliceE(cx:Cx)(o:Expr)(lo hi:Option Expr)(st:St):Option (AV × St):=ob (evBase R cx o st) fun p=>ob (asPV p.1) fun d=>ob (boundOf R cx lo p.2) fun q=>ob (boundOf R cx hi q.2) fun r=>ob (slicePV d q.1 r.1) fun x=>some (.pv x,r.2)
noncomputable def evItemE(cx:Cx)(o i:Expr)(st:St):Option (AV × St):=ob (evBase R cx o st) fun p=>match p.1 with
 | .pv d=>ob (evP R cx i p.2) fun q=>ob (subPV d q.1) fun r=>some (.pv r,q.2)
 | .cell k=>ob (evP R cx i p.2) fun q=>ob (asInt q.1) fun j=>ob (lstAt q.2.cells k) fun l=>ob (nthPV l j) fun r=>some (.pv r,q.2)
 | .exn _=>Option.none
noncomputable def evSubE(cx:Cx)(o i:Expr)(st:St):Option (AV × St):=match sliceOf i with
 |some (lo,hi,Option.none)=>evSliceE R cx o lo hi st
 |some (_,_,some _)=>Option.none
 |Option.none=>evItemE R cx o i st
noncomputable def evCallE(cx:Cx)(f:Expr)(args:List Expr)(pos:Pos)(st:St):Option (AV × St):=match attrE f with
 |some (o,m,ap)=>bif ap.endLine==pos.line then evMeth R cx o m args st else Option.none
 |Option.none=>ob (evCall R cx f args st) fun p=>okRs p.1 p.2
noncomputable def stepEv(cx:Cx)(e:Expr)(st:St):Option (AV × St):=Expr.casesOn e (fun op vs _=>evBoolE R cx op vs st) (fun _ _ _=>Option.none) (fun l op r _=>evBinE R cx l op r st) (fun op x _=>evUnE R cx op x st) (fun _ _ _ _=>Option.none) (fun t b o _=>evIfE R cx t b o st) (fun ks vs _=>evDictE R cx ks vs st) (fun _ _ _=>Option.none) (fun elt gens scope _=>evComp R cx elt gens scope st) (fun _ _ _ _=>Option.none) (fun _ _ _ _ _=>Option.none) (fun _ _ _ _=>Option.none) (fun _ _=>Option.none) (fun _ _=>Option.none) (fun _ _=>Option.none) (fun l ops rs _=>ops.casesOn none fun op o2=>o2.casesOn (rs.casesOn none fun r r2=>r2.casesOn (evCmpE R cx l op r st) fun _ _=>none) fun _ _=>none) (fun f args ks pos=>ks.casesOn (evCallE R cx f args pos st) fun _ _=>none) (fun _ _ _ _=>Option.none) (fun parts _=>evStrE R cx parts st) (fun c _ _=>evConstE c st) (fun o x _=>evAttrE R cx o x st) (fun o i _=>evSubE R cx o i st) (fun _ _=>Option.none) (fun x _=>evName fns cx x st) (fun es _=>evListE R cx es st) (fun es _ _=>evTupE R cx es st) (fun _ _ _ _=>Option.none)
noncomputable def isNextF(d_:Fl):Bool:=Fl.casesOn d_ true false false (fun _=>false) (fun _=>false)
noncomputable def exs(cx:Cx):List Stmt→St→Option (Fl × St)
 |[],st=>some (.next,st)
 |s::r,st=>ob (R.ex cx s st) fun p=>bif isNextF p.1 then exs cx r p.2 else some p
noncomputable def loopK(p:Fl × St)(k:St→Option (Fl × St)):Option (Fl × St):=match p.1 with
 | .next=>k p.2
 | .cont=>k p.2
 | .brk=>some (.next,p.2)
 | .ret d=>some (.ret d,p.2)
 | .exc d=>some (.exc d,p.2)
noncomputable def loop(cx:Cx)(t:Expr)(body:List Stmt):List PV→St→Option (Fl × St)
 |[],st=>some (.next,st)
 |d::r,st=>ob (bindT cx.names t d st) fun st1=>ob (exs R cx body st1) fun p=>loopK p fun st2=>loop cx t body r st2
noncomputable def whl(cx:Cx)(t:Expr)(body:List Stmt):Nat→St→Option (Fl × St)
 |0,_=>Option.none
 |n+1,st=>ob (evT R cx t st) fun q=>bif q.1 then ob (exs R cx body q.2) fun p=>loopK p fun st2=>whl cx t body n st2 else some (.next,q.2)
noncomputable def hasKeyA(x:Str):List (Str × AV)→Bool
 |[]=>false
 |(y,_)::r=>x==y||hasKeyA x r
noncomputable def sOk(names:List (Str × NameKind))(x:Str)(vars:Vars):Bool :=
 isLocalK (names.lookup x)&&names.lookup x != some .free&&hasV x vars&&x != ("__debug__" : Str)
noncomputable def exReturn(cx:Cx)(eo:Option Expr)(st:St):Option (Fl × St):=match eo with
 |Option.none=>some (.ret .none,st)
 |some e=>ob (evR R cx e st) fun p=>match p.1 with
  | .ok a=>ob (frz p.2.cells a) fun q=>some (.ret q.1,⟨p.2.vars,q.2⟩)
  | .exc d=>some (.exc d,p.2)
noncomputable def exIf(cx:Cx)(t:Expr)(b o:List Stmt)(st:St):Option (Fl × St):=ob (evT R cx t st) fun p=>bif p.1 then exs R cx b p.2 else exs R cx o p.2
noncomputable def exFor(cx:Cx)(t i:Expr)(body:List Stmt)(st:St):Option (Fl × St):=bif !cx.lp||isSetE i then Option.none else ob (evP R cx i st) fun p=>ob (items p.1) fun ds=>loop R cx t body ds p.2
noncomputable def exWhile(cx:Cx)(t:Expr)(body:List Stmt)(st:St):Option (Fl × St):=bif !cx.lp then Option.none else whl R cx t body 40 st
noncomputable def exExpr(cx:Cx)(e:Expr)(st:St):Option (Fl × St):=bif (callE e).isSome then ob (evR R cx e st) fun p=>match p.1 with
  | .ok a=>bif isNoneA a then some (.next,p.2) else Option.none
  | .exc d=>some (.exc d,p.2)
 else Option.none
noncomputable def exAug(cx:Cx)(x:Str)(op:Operator)(v:Expr)(st:St):Option (Fl × St):=bif !sOk cx.names x st.vars then Option.none else ob (evName fns cx x st) fun p=>match p.1 with
 | .pv a=>ob (evP R cx v p.2) fun q=>ob (asInt a) fun i=>ob (asInt q.1) fun j=>ob (augI op i j) fun k=>some (.next,⟨setV x (.pv (.int k)) q.2.vars,q.2.cells⟩)
 | .cell k=>ob (evP R cx v p.2) fun q=>ob (asLst q.1) fun r=>ob (lstAt q.2.cells k) fun l=>bif isAddO op&&decide (l.length≤1000∧r.length≤1000) then some (.next,⟨setV x (.cell k) q.2.vars,q.2.cells.set k (.lst (l++r))⟩) else Option.none
 | .exn _=>Option.none
noncomputable def exAsgN(cx:Cx)(x:Str)(v:Expr)(st:St):Option (Fl × St):=bif !sOk cx.names x st.vars then Option.none else match vkOf v with
 | .lc elt gens sc=>ob (evComp R cx elt gens sc st) fun p=>some (.next,⟨setV x p.1 p.2.vars,p.2.cells⟩)
 | .bad=>Option.none
 |_=>ob (evR R cx v st) fun p=>match p.1 with
  | .ok a=>some (.next,⟨setV x a p.2.vars,p.2.cells⟩)
  | .exc d=>some (.exc d,p.2)
noncomputable def isTupV(d_:VK):Bool:=VK.casesOn d_ (fun _ _ _=>false) false true false
noncomputable def exAsgT(cx:Cx)(t v:Expr)(st:St):Option (Fl × St):=bif !cx.lp||isTupV (vkOf v) then Option.none else ob (evP R cx v st) fun p=>ob (bindT cx.names t p.1 p.2) fun st2=>some (.next,st2)
noncomputable def exAsgA(cx:Cx)(o:Expr)(x:Str)(v:Expr)(st:St):Option (Fl × St):=bif (nameE o).isSome then ob (R.ev cx v st) fun p=>ob (R.ev cx o p.2) fun q=>ob (asCell q.1) fun k=>ob (instAt q.2.cells k) fun r=>bif fieldNames.contains x&&plainCls r.1&&hasKeyA x r.2&&notExn p.1 then some (.next,⟨q.2.vars,q.2.cells.set k (.inst r.1 (putA x p.1 r.2))⟩) else Option.none
 else Option.none
noncomputable def exItem(cx:Cx)(o i v:Expr)(st:St):Option (Fl × St):=bif isSliceE i then Option.none else ob (evP R cx v st) fun p=>ob (R.ev cx o p.2) fun q=>ob (asCell q.1) fun k=>ob (evP R cx i q.2) fun r=>ob (asInt r.1) fun j=>ob (lstAt r.2.cells k) fun l =>
 bif decide (0≤j∧j.toNat < l.length∧j < 100000) then some (.next,⟨r.2.vars,r.2.cells.set k (.lst (l.set j.toNat p.1))⟩) else Option.none
noncomputable def exEntry(cx:Cx)(o:Expr)(x key:Str)(v:Expr)(st:St):Option (Fl × St):=ob (evP R cx v st) fun p=>ob (R.ev cx o p.2) fun q=>ob (asCell q.1) fun k=>ob (fieldOf q.2.cells k x) fun a=>ob (asCell a) fun j=>ob (dctAt q.2.cells j) fun es =>
 bif decide (es.length≤100∧key.length≤1000∧nodupS (es.map (·.1))=true) then some (.next,⟨q.2.vars,q.2.cells.set j (.dct (putA key p.1 es))⟩) else Option.none
noncomputable def exAsgS(cx:Cx)(o i v:Expr)(st:St):Option (Fl × St):=match attrE o with
 |some (o2,x,_)=>bif (nameE o2).isSome then ob (strE i) fun key=>exEntry R cx o2 x key v st else Option.none
 |Option.none=>bif (nameE o).isSome then exItem R cx o i v st else Option.none
noncomputable def exAsg1(cx:Cx)(t v:Expr)(st:St):Option (Fl × St):=Expr.casesOn t (fun _ _ _=>Option.none) (fun _ _ _=>Option.none) (fun _ _ _ _=>Option.none) (fun _ _ _=>Option.none) (fun _ _ _ _=>Option.none) (fun _ _ _ _=>Option.none) (fun _ _ _=>Option.none) (fun _ _ _=>Option.none) (fun _ _ _ _=>Option.none) (fun _ _ _ _=>Option.none) (fun _ _ _ _ _=>Option.none) (fun _ _ _ _=>Option.none) (fun _ _=>Option.none) (fun _ _=>Option.none) (fun _ _=>Option.none) (fun _ _ _ _=>Option.none) (fun _ _ _ _=>Option.none) (fun _ _ _ _=>Option.none) (fun _ _=>Option.none) (fun _ _ _=>Option.none) (fun o x _=>exAsgA R cx o x v st) (fun o i _=>exAsgS R cx o i v st) (fun _ _=>Option.none) (fun x _=>exAsgN R cx x v st) (fun _ _=>Option.none) (fun _ _ _=>exAsgT R cx t v st) (fun _ _ _ _=>Option.none)
noncomputable def exRaise(cx:Cx)(e:Expr)(st:St):Option (Fl × St):=ob (callE e) fun c=>match c.2.1,c.2.2 with
 |[a],[]=>ob (nameE c.1) fun x=>bif cx.lp&&!isS a&&x==("Refusal" : Str)&&cx.names.lookup x==some .globalImplicit then ob (evP R cx a st) fun p=>ob (asStr p.1) fun m=>some (.exc (.str m),p.2) else Option.none
 |_,_=>Option.none
noncomputable def excOf(d_:Fl):Option PV:=Fl.casesOn d_ Option.none Option.none Option.none (fun _=>Option.none) (fun d=>some d)
noncomputable def hand1:ExceptHandler→Option (Str × Str × List Stmt)
 | .ExceptHandler t n b _=>ob t fun t=>ob (nameE t) fun x=>ob n fun n=>bif b.isEmpty then Option.none else some (x,n,b)
noncomputable def handOf(hs:List ExceptHandler):Option (Str × Str × List Stmt):=ob (arg1 hs) hand1
noncomputable def exTry(cx:Cx)(body:List Stmt)(hs:List ExceptHandler)(st:St):Option (Fl × St):=ob (handOf hs) fun h=>bif !(cx.lp&&h.1==("Refusal" : Str)&&cx.names.lookup h.1==some .globalImplicit&&cx.names.lookup h.2.1==some .local&&hasV h.2.1 st.vars) then Option.none else
 ob (exs R cx body st) fun p=>match excOf p.1 with
  |some d=>ob (exs R ⟨cx.names,false⟩ h.2.2 ⟨setV h.2.1 (.exn d) p.2.vars,p.2.cells⟩) fun q=>bif (excOf q.1).isSome then Option.none else some (q.1,⟨unsetV h.2.1 q.2.vars,q.2.cells⟩)
  |Option.none=>some p
noncomputable def stepEx(cx:Cx)(s:Stmt)(st:St):Option (Fl × St):=Stmt.casesOn s (fun _ _ _ _ _ _ _ _ _ _=>Option.none) (fun _ _ _ _ _ _ _ _ _ _=>Option.none) (fun _ _ _ _ _ _ _ _ _ _ _=>Option.none) (fun eo _=>exReturn R cx eo st) (fun _ _=>Option.none) (fun ts v _=>ts.casesOn none fun t r=>r.casesOn (exAsg1 R cx t v st) fun _ _=>none) (fun _ _ _ _ _ _ _=>Option.none) (fun t op v _=>ob (nameE t) fun x=>exAug fns R cx x op v st) (fun _ _ _ _ _=>Option.none) (fun t i body oe _=>oe.casesOn (exFor R cx t i body st) fun _ _=>none) (fun _ _ _ _ _=>Option.none) (fun t body oe _=>oe.casesOn (exWhile R cx t body st) fun _ _=>none) (fun t b o _=>exIf R cx t b o st) (fun _ _ _=>Option.none) (fun _ _ _=>Option.none) (fun _ _ _=>Option.none) (fun eo co _=>eo.casesOn none fun e=>co.casesOn (exRaise R cx e st) fun _=>none) (fun body hs oe fb _=>oe.casesOn (fb.casesOn (exTry R cx body hs st) fun _ _=>none) fun _ _=>none) (fun _ _ _ _ _=>Option.none) (fun _ _ _=>Option.none) (fun _ _=>Option.none) (fun _ _ _ _=>Option.none) (fun _ _=>Option.none) (fun _ _=>Option.none) (fun e _=>exExpr R cx e st) (fun _=>some (.next,st)) (fun _=>some (.brk,st)) (fun _=>some (.cont,st))
noncomputable def paramVars:List Arg→List AV→Option Vars
 |[],vs=>gd vs.isEmpty []
 |a::r,vs=>ob (unc vs) fun p=>ob (paramVars r p.2) fun l=>some ((a.arg,some p.1)::l)
noncomputable def frV(names:List (Str × NameKind))(ps:Vars):Vars :=
 ps++(names.filterMap fun x=>if (x.2==.local||x.2==.cell)&&!hasV x.1 ps then some (x.1,Option.none) else Option.none)
noncomputable def plF(d:DefRec):Bool :=
 d.params.posonlyargs.isEmpty&&d.params.kwonlyargs.isEmpty&&d.params.vararg.isNone&&d.params.kwarg.isNone&&nodupS (d.params.args.map (·.arg)) &&
  d.scope.kind==.function&&!d.scope.isCoroutine&&!d.scope.isGenerator
noncomputable def goodVars(names:List (Str × NameKind))(vs:List Str):Bool :=
 nodupS vs&&vs.all fun x=>names.lookup x==some .local||names.lookup x==some .cell
noncomputable def endFn(p:Fl × St):Option (Rs × List MO):=match p.1 with
 | .ret d=>some (.ok (.pv d),p.2.cells)
 | .next=>some (.ok (.pv .none),p.2.cells)
 | .exc d=>some (.exc d,p.2.cells)
 | .cont=>Option.none
 | .brk=>Option.none
noncomputable def runFn(params:List Arg)(body:List Stmt)(names:List (Str × NameKind))(as:List AV)(cs:List MO):Option (Rs × List MO) :=
 ob (paramVars params as) fun ps=>bif goodVars names ((frV names ps).map (·.1)) then ob (exs R ⟨names,true⟩ body ⟨frV names ps,cs⟩) endFn else Option.none
noncomputable def aCs:List AV→List Nat
 |[]=>[]
 | .cell k::r=>k::aCs r
 |_::r=>aCs r
noncomputable def renum:Nat→List AV→List AV
 |_,[]=>[]
 |i,.cell _::r=>.cell i::renum (i+1) r
 |i,a::r=>a::renum i r
noncomputable def flatMO:MO→Bool
 | .lst _=>true
 | .dct _=>true
 | .inst _ fs=>fs.all fun f=>match f.2 with
  | .pv _=>true
  |_=>false
 | .dead=>false
noncomputable def isDead(d_:MO):Bool:=MO.casesOn d_ (fun _=>false) (fun _=>false) (fun _ _=>false) true
noncomputable def takeMO(cs:List MO):List Nat→Option (List MO)
 |[]=>some []
 |k::r=>ob cs[k]? fun o=>bif flatMO o then ob (takeMO cs r) fun l=>some (o::l) else Option.none
noncomputable def putMO:List Nat→List MO→List MO→Option (List MO)
 |[],_,cs=>some cs
 |k::ks,os,cs=>ob (unc os) fun p=>bif flatMO p.1||isDead p.1 then putMO ks p.2 (cs.set k p.1) else Option.none
noncomputable def nodupN:List Nat→Bool
 |[]=>true
 |x::r=>!(r.any fun y=>x==y)&&nodupN r
noncomputable def callFn(params:List Arg)(body:List Stmt)(names:List (Str × NameKind))(as:List AV)(cs:List MO):Option (Rs × List MO) :=
 bif nodupN (aCs as) then ob (takeMO cs (aCs as)) fun ins=>ob (runFn R params body names (renum 0 as) ins) fun q=>ob (putMO (aCs as) q.2 cs) fun cs'=>some (q.1,cs') else Option.none
noncomputable def stepCall(x:Str)(as:List AV)(cs:List MO):Option (Rs × List MO):=ob (fns.find? (fun d=>d.name==x)) fun d=>bif plF d then callFn R d.params.args d.body d.scope.names as cs else Option.none
end
noncomputable def step(fns:List DefRec)(R:Rc):Rc:=⟨stepEv fns R,stepEx fns R,stepCall fns R⟩
noncomputable def bot:Rc:=⟨fun _ _ _=>Option.none,fun _ _ _=>Option.none,fun _ _ _=>Option.none⟩
noncomputable def run(fns:List DefRec):Nat→Rc
 |0=>bot
 |n+1=>step fns (run fns n)
section
variable{α β γ:Type}{C:Prop}
theorem obE{x:Option α}{f:α→Option β}{y:β}(h:ob x f=some y)(k:∀a,x=some a→f a=some y→C):C:=by
 cases x with
 |none=>exact cz0 h
 |some a=>exact k a rfl h
theorem obE2{x:Option (α × γ)}{f:α × γ→Option β}{y:β}(h:ob x f=some y)(k:∀a c,x=some (a,c)→f (a,c)=some y→C):C:=obE h fun a=>k a.1 a.2
theorem ooE{x z:Option α}{y:α}(h:oo x z=some y)(k1:x=some y→C)(k2:z=some y→C):C:=by
 cases x with
 |none=>exact k2 h
 |some a=>exact k1 h
@[elab_as_elim] theorem gdE{c:Bool}{x:α}{P:α→Prop}{y:α}(h:gd c x=some y)(k:c=true→P x):P y:=by
 cases c with
 |false=>exact cz0 h
 |true=>exact cz5 h (k rfl)
theorem bifE{c:Bool}{x z:Option α}{y:α}(h:(bif c then x else z)=some y)(k1:c=true→x=some y→C)(k2:z=some y→C):C:=by
 cases c with
 |false=>exact k2 h
 |true=>exact k1 rfl h
theorem bifT{c:Bool}{x:Option α}{y:α}(h:(bif c then x else none)=some y)(k1:c=true→x=some y→C):C:=bifE h k1 cz0
theorem bifF{c:Bool}{x:Option α}{y:α}(h:(bif c then none else x)=some y)(k1:c=false→x=some y→C):C:=by
 cases c with
 |false=>exact k1 rfl h
 |true=>exact cz0 h
@[elab_as_elim] theorem notOE{x:Option Bool}{P:Bool→Prop}{y:Bool}(h:notO x=some y)(k:∀b,x=some b→P (!b)):P y:=obE h fun b h1 h2=>cz5 h2 (k b h1)
theorem asIntE{d:PV}{i:Int}(h:asInt d=some i):d=.int i:=by cases d<;>first | exact cz0 h | exact cz5 h rfl
theorem asStrE{d:PV}{i:Str}(h:asStr d=some i):d=.str i:=by cases d<;>first | exact cz0 h | exact cz5 h rfl
theorem asLstE{d:PV}{i:List PV}(h:asLst d=some i):d=.lst i:=by cases d<;>first | exact cz0 h | exact cz5 h rfl
theorem asTupE{d:PV}{i:List PV}(h:asTup d=some i):d=.tup i:=by cases d<;>first | exact cz0 h | exact cz5 h rfl
theorem asDctE{d:PV}{i:List (Str × PV)}(h:asDct d=some i):d=.dct i:=by cases d<;>first | exact cz0 h | exact cz5 h rfl
theorem asRngE{d:PV}{i:Nat}(h:asRng d=some i):d=.rng i:=by cases d<;>first | exact cz0 h | exact cz5 h rfl
theorem asGlbE{d:PV}{i:Str}(h:asGlb d=some i):d=.glb i:=by cases d<;>first | exact cz0 h | exact cz5 h rfl
theorem instOfE{d:PV}{i:Str × List (Str × PV)}(h:instOf d=some i):d=.inst i.1 i.2:=by cases d<;>first | exact cz0 h | exact cz5 h rfl
theorem arg1E{l:List α}{a:α}(h:arg1 l=some a):l=[a]:=by
 cases l with
 |nil=>exact cz0 h
 |cons b r=>cases r with
  |nil=>exact cz5 h rfl
  |cons=>exact cz0 h
theorem arg2E{l:List α}{a:α × α}(h:arg2 l=some a):l=[a.1,a.2]:=by
 cases l with
 |nil=>exact cz0 h
 |cons b r=>cases r with
  |nil=>exact cz0 h
  |cons c r=>cases r with
   |nil=>exact cz5 h rfl
   |cons=>exact cz0 h
theorem uncE{l:List α}{a:α × List α}(h:unc l=some a):l=a.1::a.2:=by
 cases l with
 |nil=>exact cz0 h
 |cons b r=>exact cz5 h rfl
end
noncomputable def EKD(e:Expr):EK→Prop
 | .name x=>∃p,e=.Name x p
 | .tup ts=>∃c p,e=.Tuple ts c p
 | .lst es=>∃p,e=.List es p
 | .call f a k=>∃p,e=.Call f a k p
 | .attr o m q=>e=.Attribute o m q
 | .con c=>∃k p,e=.Constant c k p
 | .slice a b c=>∃p,e=.Slice a b c p
 | .fmt x c=>∃p,e=.FormattedValue x c none p
 | .lc x g s=>∃p,e=.ListComp x g s p
 | .star=>True
 | .set=>True
 | .bad=>True
 | .other=>True
theorem ekd(e:Expr):EKD e (ek e):=by
 cases e with
 |FormattedValue e c s p=>cases s with
  |none=>exact ⟨p,rfl⟩
  |some _=>exact trivial
 |Name=>exact ⟨_,rfl⟩
 |Tuple=>exact ⟨_,_,rfl⟩
 |List=>exact ⟨_,rfl⟩
 |Call=>exact ⟨_,rfl⟩
 |Attribute=>exact rfl
 |Constant=>exact ⟨_,_,rfl⟩
 |Slice=>exact ⟨_,rfl⟩
 |ListComp=>exact ⟨_,rfl⟩
 |_=>exact trivial
theorem nameK_some{k:EK}{x:Str}(h:nameK k=some x):k=.name x:=by
 cases k with
 |name=>exact cz5 h rfl
 |_=>exact cz0 h
theorem nameE_some{e:Expr}{x:Str}(h:nameE e=some x):∃p,e=.Name x p:=by
 have q:=ekd e
 rw [nameK_some h] at q;exact q
theorem tupK_some{k:EK}{x:List Expr}(h:tupK k=some x):k=.tup x:=by
 cases k with
 |tup=>exact cz5 h rfl
 |_=>exact cz0 h
theorem tupE_some{e:Expr}{x:List Expr}(h:tupE e=some x):∃c p,e=.Tuple x c p:=by
 have q:=ekd e
 rw [tupK_some h] at q;exact q
theorem listK_some{k:EK}{x:List Expr}(h:listK k=some x):k=.lst x:=by
 cases k with
 |lst=>exact cz5 h rfl
 |_=>exact cz0 h
theorem listE_some{e:Expr}{x:List Expr}(h:listE e=some x):∃p,e=.List x p:=by
 have q:=ekd e
 rw [listK_some h] at q;exact q
theorem callK_some{k:EK}{x:Expr × List Expr × List Keyword}(h:callK k=some x):k=.call x.1 x.2.1 x.2.2:=by
 cases k with
 |call=>exact cz5 h rfl
 |_=>exact cz0 h
theorem callE_some{e:Expr}{x:Expr × List Expr × List Keyword}(h:callE e=some x):∃p,e=.Call x.1 x.2.1 x.2.2 p:=by
 have q:=ekd e
 rw [callK_some h] at q;exact q
theorem attrK_some{k:EK}{x:Expr × Str × Pos}(h:attrK k=some x):k=.attr x.1 x.2.1 x.2.2:=by
 cases k with
 |attr=>exact cz5 h rfl
 |_=>exact cz0 h
theorem attrE_some{e:Expr}{x:Expr × Str × Pos}(h:attrE e=some x):e=.Attribute x.1 x.2.1 x.2.2:=by
 have q:=ekd e
 rw [attrK_some h] at q;exact q
theorem conK_some{k:EK}{x:Const}(h:conK k=some x):k=.con x:=by
 cases k with
 |con=>exact cz5 h rfl
 |_=>exact cz0 h
theorem conE_some{e:Expr}{x:Const}(h:conK (ek e)=some x):∃k p,e=.Constant x k p:=by
 have q:=ekd e
 rw [conK_some h] at q;exact q
theorem strC_some{c:Const}{x:Str}(h:strC c=some x):c=.str x:=by
 cases c with
 |str=>exact cz5 h rfl
 |_=>exact cz0 h
theorem strE_some{e:Expr}{x:Str}(h:strE e=some x):∃k p,e=.Constant (.str x) k p:=obE h fun c h1 h2=>strC_some h2▸conE_some h1
theorem sliceOfK_some{k:EK}{x:Option Expr × Option Expr × Option Expr}(h:sliceOfK k=some x):k=.slice x.1 x.2.1 x.2.2:=by
 cases k with
 |slice=>exact cz5 h rfl
 |_=>exact cz0 h
theorem sliceOf_some{e:Expr}{x:Option Expr × Option Expr × Option Expr}(h:sliceOf e=some x):∃p,e=.Slice x.1 x.2.1 x.2.2 p:=by
 have q:=ekd e
 rw [sliceOfK_some h] at q;exact q
theorem fmtK_some{k:EK}{x:Expr × Int}(h:fmtK k=some x):k=.fmt x.1 x.2:=by
 cases k with
 |fmt=>exact cz5 h rfl
 |_=>exact cz0 h
theorem fmtE_some{e:Expr}{x:Expr × Int}(h:fmtE e=some x):∃p,e=.FormattedValue x.1 x.2 none p:=by
 have q:=ekd e
 rw [fmtK_some h] at q;exact q
theorem evL_cons{α:Type}{f:Expr→St→Option (α × St)}{e:Expr}{r:List Expr}{st:St}{ds:List α}{st':St}{C:Prop}(h:evL f (e::r) st=some (ds,st'))(k:∀d st1 ds',f e st=some (d,st1)→evL f r st1=some (ds',st')→ds=d::ds'→C):C :=
 obE2 h fun d st1 h1 h=>obE2 h fun ds' st2 h2 h=>by
  have e1:=congrArg Prod.fst (Option.some.inj h)
  have e2:st2=st':=congrArg Prod.snd (Option.some.inj h)
  subst e2
  exact k d st1 ds' h1 h2 e1.symm
theorem evL_nil{α:Type}{f:Expr→St→Option (α × St)}{st:St}{ds:List α}{st':St}{P:List α→St→Prop}(h:evL f [] st=some (ds,st'))(k:P [] st):P ds st':=cz4 h k
theorem evL_len{α:Type}{f:Expr→St→Option (α × St)}:∀{es:List Expr} {st:St} {ds:List α} {st':St},evL f es st=some (ds,st')→ds.length=es.length
 |[],_,_,_,h=>evL_nil (P:=fun ds _=>ds.length=0) h rfl
 |_::_,_,_,_,h=>evL_cons h fun _ _ _ _ h2 e=>by rw [e];exact congrArg (·+1) (evL_len h2)
end Bc
local macro_rules
 | `(tactic| cases $x:ident)=>`(tactic| first | with_reducible exact Bc.cz0 $x | with_reducible exact Bc.cz1 $x | with_reducible exact Bc.cz2 $x | with_reducible exact Bc.cz3 $x | (with_reducible refine Bc.cz4 $x ?_;clear $x) | (with_reducible refine Bc.cz5 $x ?_;clear $x) | cases ($x))
namespace Bc
noncomputable def gval(K:Frag)(x:Str):Option Value:=match nsIn K mainGlobals x with
 |some (some v)=>some v
 |some none=>if x==("__name__" : Str) then none else bootBuiltins x
 |none=>none
noncomputable def clsA(K:Frag)(c:Str):Option Addr:=match nsIn K mainGlobals c with
 |some (some (.ref a))=>some a
 |_=>none
mutual
inductive Rep(K:Frag)(w:World)(h:Heap)(fz:Addr→Prop):Value→PV→Prop
 |none:Rep K w h fz .none .none
 |bool (b:Bool):Rep K w h fz (.bool b) (.bool b)
 |int (i:Int) (t:Tok):Rep K w h fz (.int i t) (.int i)
 |str (s:Str) (t:Tok):Rep K w h fz (.str s t) (.str s)
 |tup {a:Addr} {vs:List Value} {l:List PV} {n:Nat}:fz a→h.get? a=some { cls:=.type "tuple",data:=.seq vs.toArray n }→RepL K w h fz vs l→Rep K w h fz (.ref a) (.tup l)
 |lst {a:Addr} {vs:List Value} {l:List PV} {n:Nat}:fz a→h.get? a=some { cls:=.type "list",data:=.seq vs.toArray n }→RepL K w h fz vs l→Rep K w h fz (.ref a) (.lst l)
 |dct {a:Addr} {es:List DictEntry} {l:List (Str × PV)} {n:Nat}:fz a→h.get? a=some (dictOf es n)→RepE K w h fz es l→a≠sysModules→Rep K w h fz (.ref a) (.dct l)
 |inst {a dx C:Addr} {es:List DictEntry} {c:Str} {fs:List (Str × PV)} {n:Nat}:fz a→fz dx→h.get? a=some (instObj C dx)→h.get? dx=some (dictOf es n)→clsA K c=some C →
   RepE K w h fz es fs→Rep K w h fz (.ref a) (.inst c fs)
 |rng {a:Addr} {t u v:Tok} {n:Nat}:fz a→h.get? a=some { cls:=.type "range",data:=.fields #[.int 0 t,.int n u,.int 1 v] }→n≤1000→Rep K w h fz (.ref a) (.rng n)
 |glb {x:Str} {v:Value}:gval K x=some v→Rep K w h fz v (.glb x)
inductive RepL(K:Frag)(w:World)(h:Heap)(fz:Addr→Prop):List Value→List PV→Prop
 |nil:RepL K w h fz [] []
 |cons {v:Value} {d:PV} {vs:List Value} {ds:List PV}:Rep K w h fz v d→RepL K w h fz vs ds→RepL K w h fz (v::vs) (d::ds)
inductive RepE(K:Frag)(w:World)(h:Heap)(fz:Addr→Prop):List DictEntry→List (Str × PV)→Prop
 |nil:RepE K w h fz [] []
 |cons {x:Str} {t:Tok} {v:Value} {d:PV} {es:List DictEntry} {fs:List (Str × PV)}:Rep K w h fz v d→RepE K w h fz es fs →
   RepE K w h fz (⟨PyData.keyHash w.params x,.str x t,v⟩::es) ((x,d)::fs)
end
section
variable{K:Frag}{w:World}{h h':Heap}{fz fz':Addr→Prop}
theorem RepL.ind{Q:List Value→List PV→Prop}(h0:Q [] [])(h1:∀{v d vs ds},Rep K w h fz v d→RepL K w h fz vs ds→Q vs ds→Q (v::vs) (d::ds)){vs:List Value}{ds:List PV}(r:RepL K w h fz vs ds):Q vs ds :=
 RepL.rec (motive_1:=fun _ _ _=>True) (motive_2:=fun vs ds _=>Q vs ds) (motive_3:=fun _ _ _=>True) trivial (fun _=>trivial) (fun _ _=>trivial) (fun _ _=>trivial) (fun _ _ _ _=>trivial) (fun _ _ _ _=>trivial) (fun _ _ _ _ _=>trivial) (fun _ _ _ _ _ _ _=>trivial) (fun _ _ _=>trivial) (fun _=>trivial) h0 (fun a r _ b=>h1 a r b) trivial (fun _ _ _ _=>trivial) r
theorem RepE.ind{Q:List DictEntry→List (Str × PV)→Prop}(h0:Q [] [])(h1:∀{x t v d vs ds},Rep K w h fz v d→RepE K w h fz vs ds→Q vs ds→Q (⟨PyData.keyHash w.params x,.str x t,v⟩::vs) ((x,d)::ds)){vs:List DictEntry}{ds:List (Str × PV)}(r:RepE K w h fz vs ds):Q vs ds :=
 RepE.rec (motive_1:=fun _ _ _=>True) (motive_2:=fun _ _ _=>True) (motive_3:=fun vs ds _=>Q vs ds) trivial (fun _=>trivial) (fun _ _=>trivial) (fun _ _=>trivial) (fun _ _ _ _=>trivial) (fun _ _ _ _=>trivial) (fun _ _ _ _ _=>trivial) (fun _ _ _ _ _ _ _=>trivial) (fun _ _ _=>trivial) (fun _=>trivial) trivial (fun _ _ _ _=>trivial) h0 (fun a r _ b=>h1 a r b) r
theorem Rep.mono(m:∀a,fz a→fz' a∧h'.get? a=h.get? a){v:Value}{d:PV}(r:Rep K w h fz v d):Rep K w h' fz' v d :=
 Rep.rec (motive_1:=fun v d _=>Rep K w h' fz' v d) (motive_2:=fun v d _=>RepL K w h' fz' v d) (motive_3:=fun v d _=>RepE K w h' fz' v d) .none .bool .int .str
  (fun f g _ r=>.tup (m _ f).1 ((m _ f).2.trans g) r) (fun f g _ r=>.lst (m _ f).1 ((m _ f).2.trans g) r) (fun f g _ n r=>.dct (m _ f).1 ((m _ f).2.trans g) r n)
  (fun f f2 g g2 c _ r=>.inst (m _ f).1 (m _ f2).1 ((m _ f).2.trans g) ((m _ f2).2.trans g2) c r) (fun f g b=>.rng (m _ f).1 ((m _ f).2.trans g) b) .glb .nil (fun _ _ a b=>.cons a b) .nil (fun _ _ a b=>.cons a b) r
theorem RepL.mono(m:∀a,fz a→fz' a∧h'.get? a=h.get? a){v:List Value}{d:List PV}(r:RepL K w h fz v d):RepL K w h' fz' v d:=r.ind .nil fun a _ b=>.cons (a.mono m) b
theorem RepE.mono(m:∀a,fz a→fz' a∧h'.get? a=h.get? a){v:List DictEntry}{d:List (Str × PV)}(r:RepE K w h fz v d):RepE K w h' fz' v d:=r.ind .nil fun a _ b=>.cons (a.mono m) b
theorem RepL.length{vs:List Value}{ds:List PV}(r:RepL K w h fz vs ds):vs.length=ds.length:=r.ind (Q:=fun vs ds=>vs.length=ds.length) rfl fun _ _ e=>congrArg (·+1) e
theorem RepL.get{vs:List Value}{ds:List PV}{i:Nat}{d:PV}(r:RepL K w h fz vs ds):ds[i]? = some d→∃v,vs[i]? = some v∧Rep K w h fz v d :=
 r.ind (Q:=fun vs ds=>∀i d,ds[i]? = some d→∃v,vs[i]? = some v∧Rep K w h fz v d) (fun i d e=>by cases i<;>exact cz0 e)
  (fun {v d vs ds} a _ ih i d' e=>by
   cases i with
   |zero=>exact cz5 (P:=fun d=>∃u,(v::vs)[0]? = some u∧Rep K w h fz u d) e ⟨v,rfl,a⟩
   |succ i=>exact ih i d' e) i d
theorem RepL.append{vs ws:List Value}{ds es:List PV}(r:RepL K w h fz vs ds)(q:RepL K w h fz ws es):RepL K w h fz (vs++ws) (ds++es):=r.ind (Q:=fun vs ds=>RepL K w h fz (vs++ws) (ds++es)) q fun a _ b=>.cons a b
theorem RepL.take{vs:List Value}{ds:List PV}(n:Nat)(r:RepL K w h fz vs ds):RepL K w h fz (vs.take n) (ds.take n) :=
 r.ind (Q:=fun vs ds=>∀n,RepL K w h fz (vs.take n) (ds.take n)) (fun n=>by cases n<;>exact .nil) (fun a _ ih n=>by cases n with | zero=>exact .nil | succ n=>exact .cons a (ih n)) n
theorem RepL.drop{vs:List Value}{ds:List PV}(n:Nat)(r:RepL K w h fz vs ds):RepL K w h fz (vs.drop n) (ds.drop n) :=
 r.ind (Q:=fun vs ds=>∀n,RepL K w h fz (vs.drop n) (ds.drop n)) (fun n=>by cases n<;>exact .nil) (fun a r ih n=>by cases n with | zero=>exact .cons a r | succ n=>exact ih n) n
theorem RepL.reverse{vs:List Value}{ds:List PV}(r:RepL K w h fz vs ds):RepL K w h fz vs.reverse ds.reverse :=
 r.ind (Q:=fun vs ds=>RepL K w h fz vs.reverse ds.reverse) .nil fun a _ ih=>by refine rwE List.reverse_cons (rwE List.reverse_cons ?_);exact ih.append (.cons a .nil)
theorem RepL.set{vs:List Value}{ds:List PV}{v:Value}{d:PV}(i:Nat)(r:RepL K w h fz vs ds)(q:Rep K w h fz v d):RepL K w h fz (vs.set i v) (ds.set i d) :=
 r.ind (Q:=fun vs ds=>∀i,RepL K w h fz (vs.set i v) (ds.set i d)) (fun i=>.nil) (fun a r ih i=>by cases i with | zero=>exact .cons q r | succ i=>exact .cons a (ih i)) i
theorem RepL.rep{vs:List Value}{ds:List PV}(n:Nat)(r:RepL K w h fz vs ds):RepL K w h fz (repL vs n) (repL ds n):=by
 induction n with
 |zero=>exact .nil
 |succ n ih=>exact r.append ih
noncomputable def RepD(K:Frag)(w:World)(h:Heap)(fz:Addr→Prop)(v:Value):PV→Prop
 | .none=>v=.none
 | .bool b=>v=.bool b
 | .int i=>∃t,v=.int i t
 | .str x=>∃t,v=.str x t
 | .tup l=>∃a vs n,v=.ref a∧fz a∧h.get? a=some { cls:=.type "tuple",data:=.seq vs.toArray n }∧RepL K w h fz vs l
 | .lst l=>∃a vs n,v=.ref a∧fz a∧h.get? a=some { cls:=.type "list",data:=.seq vs.toArray n }∧RepL K w h fz vs l
 | .dct es=>∃a vs n,v=.ref a∧fz a∧h.get? a=some (dictOf vs n)∧RepE K w h fz vs es∧a≠sysModules
 | .inst c fs=>∃a dx C es n,v=.ref a∧fz a∧fz dx∧h.get? a=some (instObj C dx)∧h.get? dx=some (dictOf es n)∧clsA K c=some C∧RepE K w h fz es fs
 | .rng n=>∃a t u z,v=.ref a∧fz a∧h.get? a=some { cls:=.type "range",data:=.fields #[.int 0 t,.int n u,.int 1 z] }∧n≤1000
 | .glb x=>gval K x=some v
theorem Rep.inv{v:Value}{d:PV}(r:Rep K w h fz v d):RepD K w h fz v d :=
 Rep.casesOn (motive_1:=fun v d _=>RepD K w h fz v d) r rfl (fun _=>rfl) (fun _ t=>⟨t,rfl⟩) (fun _ t=>⟨t,rfl⟩) (fun f g r=>⟨_,_,_,rfl,f,g,r⟩) (fun f g r=>⟨_,_,_,rfl,f,g,r⟩) (fun f g r n=>⟨_,_,_,rfl,f,g,r,n⟩)
  (fun f f2 g g2 c r=>⟨_,_,_,_,_,rfl,f,f2,g,g2,c,r⟩) (fun f g b=>⟨_,_,_,_,rfl,f,g,b⟩) fun g=>g
theorem rep_lst{v:Value}{l:List PV}(r:Rep K w h fz v (.lst l)):∃a vs n,v=.ref a∧fz a∧h.get? a=some { cls:=.type "list",data:=.seq vs.toArray n }∧RepL K w h fz vs l:=r.inv
theorem rep_tup{v:Value}{l:List PV}(r:Rep K w h fz v (.tup l)):∃a vs n,v=.ref a∧fz a∧h.get? a=some { cls:=.type "tuple",data:=.seq vs.toArray n }∧RepL K w h fz vs l:=r.inv
theorem rep_int{v:Value}{i:Int}(r:Rep K w h fz v (.int i)):∃t,v=.int i t:=r.inv
theorem rep_str{v:Value}{i:Str}(r:Rep K w h fz v (.str i)):∃t,v=.str i t:=r.inv
theorem rep_bool{v:Value}{b:Bool}(r:Rep K w h fz v (.bool b)):v=.bool b:=r.inv
theorem rep_none{v:Value}(r:Rep K w h fz v .none):v=.none:=r.inv
theorem rep_dct{v:Value}{es:List (Str × PV)}(r:Rep K w h fz v (.dct es)):∃a vs n,v=.ref a∧fz a∧h.get? a=some (dictOf vs n)∧RepE K w h fz vs es∧a≠sysModules:=r.inv
theorem repL_inv{us:List Value}{ds:List PV}(r:RepL K w h fz us ds):(us=[]∧ds=[])∨∃u us' d ds',us=u::us'∧ds=d::ds'∧Rep K w h fz u d∧RepL K w h fz us' ds' :=
 r.ind (Q:=fun us ds=>(us=[]∧ds=[])∨∃u us' d ds',us=u::us'∧ds=d::ds'∧Rep K w h fz u d∧RepL K w h fz us' ds') (.inl ⟨rfl,rfl⟩) fun a r _=>.inr ⟨_,_,_,_,rfl,rfl,a,r⟩
theorem rep_cons{us:List Value}{d:PV}{ds:List PV}(r:RepL K w h fz us (d::ds)):∃u us',us=u::us'∧Rep K w h fz u d∧RepL K w h fz us' ds:=by
 rcases repL_inv r with ⟨_,e⟩ | ⟨u,us',d',ds',e1,e2,a,b⟩
 ·cases e
 ·injection e2 with e2 e3;refine Bc.rwE e2 ?_;refine Bc.rwE e3 ?_;exact ⟨u,us',e1,a,b⟩
theorem rep_nil{us:List Value}(r:RepL K w h fz us []):us=[]:=by
 rcases repL_inv r with ⟨e,_⟩ | ⟨u,us',d',ds',e1,e2,a,b⟩
 ·exact e
 ·cases e2
theorem rep_one{us:List Value}{d:PV}(r:RepL K w h fz us [d]):∃u,us=[u]∧Rep K w h fz u d :=
 let ⟨u,_,e,a,r⟩:=rep_cons r;⟨u,by refine rwE e (rwE (rep_nil r) rfl),a⟩
end
structure Gh where
 fz:Addr→Prop
 ad:List (Addr × Addr)
noncomputable def Gh.mut(G:Gh)(b:Addr):Prop:=∃p∈G.ad,b=p.1∨b=p.2
inductive ExnOk(K:Frag)(fz:Addr→Prop)(h:Heap)(ea:Addr)(d:PV):Prop
 |mk (oe:Obj) (dx:Addr) (od:Obj) (C:Addr) (s:Str) (t:Tok):fz ea→fz dx→h.get? ea=some oe→clsA K "Refusal" = some C→oe.cls=.ref C→notCls oe=true→oe.dict=some dx→h.get? dx=some od →
  lookIn ("message" : Str) od=some (some (.str s t))→d=.str s→ExnOk K fz h ea d
noncomputable def RepA(K:Frag)(w:World)(G:Gh)(h:Heap)(v:Value):AV→Prop
 | .pv d=>Rep K w h G.fz v d
 | .cell k=>∃p,G.ad[k]? = some p∧v=.ref p.1
 | .exn d=>∃ea,v=.ref ea∧ExnOk K G.fz h ea d
noncomputable def RepFA(K:Frag)(w:World)(G:Gh)(h:Heap):List DictEntry→List (Str × AV)→Prop
 |[],[]=>True
 |e::es,(x,a)::fs=>e.hash=PyData.keyHash w.params x∧(∃t,e.key=.str x t)∧RepA K w G h e.val a∧RepFA K w G h es fs
 |_,_=>False
@[elab_as_elim] theorem RepFA.ind{K:Frag}{w:World}{G:Gh}{h:Heap}{P:List DictEntry→List (Str × AV)→Prop}{es:List DictEntry}{fs:List (Str × AV)}(r:RepFA K w G h es fs)(hn:P [] [])
  (hc:∀y t v a es fs,RepA K w G h v a→RepFA K w G h es fs→P es fs→P (⟨PyData.keyHash w.params y,.str y t,v⟩::es) ((y,a)::fs)):P es fs:=by
 induction es generalizing fs with
 |nil =>
  cases fs with
  |nil=>exact hn
  |cons=>exact r.elim
 |cons e es ih =>
  cases fs with
  |nil=>exact r.elim
  |cons f fs =>
   refine xE11 r.2.1 fun t e2=>?_
   have z:=hc f.1 t e.val f.2 es fs r.2.2.1 r.2.2.2 (ih r.2.2.2)
   rw [← e2,← show e.hash=PyData.keyHash w.params f.1 from r.1] at z
   exact z
inductive CellL(K:Frag)(w:World)(G:Gh)(h:Heap)(p:Addr × Addr)(l:List PV):Prop
 |mk (n1:¬ G.fz p.1) (e:p.2=p.1) (vs:List Value) (n:Nat):h.get? p.1=some { cls:=.type "list",data:=.seq vs.toArray n }→RepL K w h G.fz vs l→CellL K w G h p l
inductive CellD(K:Frag)(w:World)(G:Gh)(h:Heap)(p:Addr × Addr)(l:List (Str × PV)):Prop
 |mk (n1:¬ G.fz p.1) (e:p.2=p.1) (ns:p.1≠sysModules) (es:List DictEntry) (n:Nat):h.get? p.1=some (dictOf es n)→RepE K w h G.fz es l→CellD K w G h p l
inductive CellI(K:Frag)(w:World)(G:Gh)(h:Heap)(p:Addr × Addr)(c:Str)(fs:List (Str × AV)):Prop
 |mk (n1:¬ G.fz p.1) (n2:¬ G.fz p.2) (ne:p.1≠p.2) (C:Addr) (es:List DictEntry) (n:Nat):clsA K c=some C→h.get? p.1=some (instObj C p.2)→h.get? p.2=some (dictOf es n)→RepFA K w G h es fs→es.length≤10→CellI K w G h p c fs
noncomputable def CellOk(K:Frag)(w:World)(G:Gh)(h:Heap)(p:Addr × Addr):MO→Prop
 | .lst l=>CellL K w G h p l
 | .dct l=>CellD K w G h p l
 | .inst c fs=>CellI K w G h p c fs
 | .dead=>True
inductive Loc where
 |dict (L:Addr) (x:Str)
 |cell (c:Addr)
noncomputable def Loc.addr:Loc→Addr
 | .dict L _=>L
 | .cell c=>c
noncomputable def Loc.apart:Loc→Loc→Prop
 | .dict L x,.dict M y=>L=M→x≠y
 | .dict L _,.cell c=>L≠c
 | .cell c,.dict L _=>c≠L
 | .cell c,.cell d=>c≠d
noncomputable def SlotOk(K:Frag)(w:World)(G:Gh)(h:Heap)(e:Str × Option AV):Loc→Prop
 | .dict L x=>x=e.1∧∃m,h.Ns L m∧∀a,e.2=some a→∃v,m x=some v∧RepA K w G h v a
 | .cell c=>∃o,h.IsCell c o∧∀a,e.2=some a→∃v,o=some v∧RepA K w G h v a
inductive FrOk(H0:Heap)(G:Gh)(h:Heap)(env:Env):Prop
 |mk (k:env.scope.kind≠.module) (L:Addr) (m:Str→Option Value):env.frame=some L→H0.get? L=none→h.Ns L m→¬ G.fz L→¬ G.mut L→FrOk H0 G h env
structure Rel(K:Frag)(w:World)(H0:Heap)(fr:List Env)(G:Gh)(st:Bc.St)(locs:List Loc)(h:Heap):Prop where
 base:∀a o,H0.get? a=some o→G.fz a∧h.get? a=some o
 dom:∀a,G.fz a→∃o,h.get? a=some o
 len:G.ad.length=st.cells.length
 cells:∀(k:Nat) (p:Addr × Addr) (o:MO),G.ad[k]? = some p→st.cells[k]? = some o→CellOk K w G h p o
 sep:∀(j k:Nat) (p q:Addr × Addr),j≠k→G.ad[j]? = some p→G.ad[k]? = some q→p.1≠q.1∧p.1≠q.2∧p.2≠q.1∧p.2≠q.2
 lt:∀b,G.mut b→∃o,h.get? b=some o
 nloc:locs.length=st.vars.length
 slot:∀(i:Nat) (e:Str × Option AV) (l:Loc),st.vars[i]? = some e→locs[i]? = some l→SlotOk K w G h e l
 own:∀l∈locs,¬ G.fz l.addr∧¬ G.mut l.addr
 dis:∀(i j:Nat) (l m:Loc),i≠j→locs[i]? = some l→locs[j]? = some m→l.apart m
 frames:∀env∈fr,FrOk H0 G h env
structure Ext(fr:List Env)(G:Gh)(h:Heap)(G':Gh)(h':Heap)(P:Addr→Prop):Prop where
 fz:∀a,G.fz a→G'.fz a∧h'.get? a=h.get? a
 keep:∀b o,h.get? b=some o→¬ G.mut b→¬ P b→∃sl,h'.get? b=some { o with slots:=sl }∧((∀env∈fr,env.frame≠some b)→sl=o.slots)
 nofz:∀b o,h.get? b=some o→¬ G.mut b→G'.fz b→G.fz b
 ad:∃more,G'.ad=G.ad++more∧∀p∈more,h.get? p.1=none∧h.get? p.2=none
 live:∀b o,h.get? b=some o→∃o',h'.get? b=some o'
noncomputable def None_:Addr→Prop:=fun _=>False
section
variable{fr:List Env}
theorem Ext.refl(G:Gh)(h:Heap)(P:Addr→Prop):Ext fr G h G h P :=
 ⟨fun _ f=>⟨f,rfl⟩,fun _ o e _ _=>⟨o.slots,e,fun _=>rfl⟩,fun _ _ _ _ f=>f,⟨[],by simp,fun _ hp=>nomatch hp⟩,fun _ o e=>⟨o,e⟩⟩
theorem Ext.mutLt{G:Gh}{h:Heap}{G':Gh}{h':Heap}{P:Addr→Prop}(x:Ext fr G h G' h' P){b:Addr}{o:Obj}(hb:h.get? b=some o)(n:¬ G.mut b):¬ G'.mut b:=by
 refine xE12 x.ad fun more e hm=>?_
 rintro ⟨p,hp,q⟩
 rw [e] at hp
 rcases List.mem_append.mp hp with hp | hp
 ·exact n ⟨p,hp,q⟩
 ·have:=hm p hp
  rcases q with q | q
  ·rw [q,this.1] at hb;cases hb
  ·rw [q,this.2] at hb;cases hb
theorem Ext.trans{G G1 G2:Gh}{h h1 h2:Heap}{P:Addr→Prop}(x:Ext fr G h G1 h1 P)(y:Ext fr G1 h1 G2 h2 P):Ext fr G h G2 h2 P:=by
 refine ⟨fun a f=>⟨(y.fz a (x.fz a f).1).1,(y.fz a (x.fz a f).1).2.trans (x.fz a f).2⟩,fun b o e n p=>?_,fun b o hb n f=>?_,?_,fun b o e=>?_⟩
 ·refine xE12 (x.keep b o e n p) fun sl e1 q1=>?_
  refine xE12 (y.keep b _ e1 (x.mutLt e n) p) fun sl' e2 q2=>?_
  exact ⟨sl',e2,fun z=>(q2 z).trans (q1 z)⟩
 ·refine xE11 (x.live b o hb) fun o' e'=>?_
  exact x.nofz b o hb n (y.nofz b o' e' (x.mutLt hb n) f)
 ·refine xE12 x.ad fun m1 e1 k1=>?_
  refine xE12 y.ad fun m2 e2 k2=>?_
  refine ⟨m1++m2,by rw [e2,e1,List.append_assoc],fun p hp=>?_⟩
  rcases List.mem_append.mp hp with hp | hp
  ·exact k1 p hp
  ·have key:∀b,h1.get? b=none→h.get? b=none:=fun b hb=>by
    cases q:h.get? b with
    |none=>rfl
    |some o=>obtain ⟨o',e'⟩:=x.live b o q;rw [hb] at e';cases e'
   exact ⟨key _ (k2 p hp).1,key _ (k2 p hp).2⟩
 ·refine xE11 (x.live b o e) fun o' e'=>?_
  exact y.live b o' e'
theorem Ext.weaken{G G1:Gh}{h h1:Heap}{P Q:Addr→Prop}(x:Ext fr G h G1 h1 P)(q:∀b o,h.get? b=some o→P b→Q b):Ext fr G h G1 h1 Q :=
 ⟨x.fz,fun b o e n p=>x.keep b o e n fun z=>p (q b o e z),x.nofz,x.ad,x.live⟩
theorem Ext.none{G G1:Gh}{h h1:Heap}{P:Addr→Prop}(x:Ext fr G h G1 h1 None_):Ext fr G h G1 h1 P:=x.weaken fun _ _ _ z=>z.elim
theorem sizeNone(h:Heap):h.get? h.objs.size=Option.none:=by
 cases q:h.get? h.objs.size with
 |none=>rfl
 |some o'=>exact absurd (Heap.lt_size q) (Nat.lt_irrefl _)
end
end Bc
namespace Bc
noncomputable def fixS(o:Option Nat):Option Nat:=ob o fun i=>some (i+1)
noncomputable def fix(x:Str):Vars→Option Nat
 |[]=>none
 |(y,_)::r=>if x==y then some 0 else fixS (fix x r)
noncomputable def locOf(env:Env)(x:Str):Option Loc:=match env.scope.names.lookup x with
 |some .local=>some (.dict env.locals x)
 |some .cell=>(match env.cells.lookup x with
   |some c=>some (.cell c)
   |none=>none)
 |some .free=>(match env.cells.lookup x with
   |some c=>some (.cell c)
   |none=>none)
 |_=>none
structure EnvOk(cx:Cx)(env:Env)(vars:Vars)(locs:List Loc):Prop where
 names:env.scope.names=cx.names
 kind:env.scope.kind=.function
 glob:env.globals=mainGlobals
 bi:env.builtins=builtinsNs
 at_:∀(x:Str) (i:Nat),isLocalK (cx.names.lookup x)=true→fix x vars=some i→∃l,locs[i]? = some l∧locOf env x=some l
noncomputable def vnm(v:Vars):List Str:=v.map (·.1)
section
variable{x:Str}{a:AV}
theorem fix_names{v v':Vars}(e:vnm v=vnm v'):fix x v=fix x v':=by
 induction v generalizing v' with
 |nil =>
  cases v' with
  |nil=>rfl
  |cons=>exact nomatch (show ([]:List Str)=_::_ from e)
 |cons p r ih =>
  cases v' with
  |nil=>exact nomatch (show _::_=([]:List Str) from e)
  |cons q s =>
   have e1:=List.cons.inj e
   have z:=congr (congrArg (fun y i=>ite ((x==y)=true) (some 0) (fixS i)) (show p.1=q.1 from e1.1)) (ih e1.2)
   exact z
theorem getV_fix{v:Vars}(e:getV x v=some a):∃i,fix x v=some i∧v[i]? = some (x,some a):=by
 induction v with
 |nil=>exact nomatch e
 |cons p r ih=>exact iteE e (fun q e=>⟨0,if_pos q,by rw [beq_iff_eq.mp q,← e];rfl⟩) fun q e=>xE12 (ih e) fun i h1 h2=>⟨i+1,(if_neg q).trans (congrArg fixS h1),h2⟩
theorem hasV_fix{v:Vars}(e:hasV x v=true):∃i b,fix x v=some i∧v[i]? = some (x,b):=by
 induction v with
 |nil=>exact nomatch e
 |cons p r ih=>exact iteE e (fun q _=>⟨0,p.2,if_pos q,by rw [beq_iff_eq.mp q];rfl⟩) fun q e=>xE22 (ih e) fun i b h1 h2=>⟨i+1,b,(if_neg q).trans (congrArg fixS h1),h2⟩
theorem fix_c{p:Str × Option AV}{r:Vars}{i:Nat}{C:Prop}(e:fix x (p::r)=some i)(k:(x==p.1)=true→i=0→C)(f:¬(x==p.1)=true→∀j,fix x r=some j→i=j+1→C):C :=
 iteE e (fun q e=>k q (Option.some.inj e).symm) fun q e=>optE (fix x r) (fun h=>nomatch (congrArg fixS h).symm.trans e) fun j h=>f q j h (Option.some.inj ((congrArg fixS h).symm.trans e)).symm
theorem setV_fix{v:Vars}{i:Nat}(e:fix x v=some i):setV x a v=v.set i (x,some a):=by
 induction v generalizing i with
 |nil=>exact nomatch e
 |cons p r ih=>exact fix_c e (fun q e=>e▸(if_pos q).trans (by rw [beq_iff_eq.mp q];rfl)) fun q j h e=>e▸(if_neg q).trans (congrArg (p::·) (ih h))
theorem unsetV_fix{v:Vars}{i:Nat}(e:fix x v=some i):unsetV x v=v.set i (x,none):=by
 induction v generalizing i with
 |nil=>exact nomatch e
 |cons p r ih=>exact fix_c e (fun q e=>e▸(if_pos q).trans (by rw [beq_iff_eq.mp q];rfl)) fun q j h e=>e▸(if_neg q).trans (congrArg (p::·) (ih h))
theorem names_setV(v:Vars):vnm (setV x a v)=vnm v:=by
 induction v with
 |nil=>rfl
 |cons p r ih=>exact if q:(x==p.1)=true then (congrArg vnm (if_pos q)).trans rfl else (congrArg vnm (if_neg q)).trans (congrArg (p.1::·) ih)
theorem names_unsetV(v:Vars):vnm (unsetV x v)=vnm v:=by
 induction v with
 |nil=>rfl
 |cons p r ih=>exact if q:(x==p.1)=true then (congrArg vnm (if_pos q)).trans rfl else (congrArg vnm (if_neg q)).trans (congrArg (p.1::·) ih)
end
theorem EnvOk.of_names{cx:Cx}{env:Env}{v v':Vars}{locs:List Loc}(e:EnvOk cx env v locs)(h:vnm v'=vnm v):EnvOk cx env v' locs :=
 ⟨e.names,e.kind,e.glob,e.bi,fun x i k f=>e.at_ x i k ((fix_names h).symm.trans f)⟩
section
variable{K:Frag}{w:World}{G G':Gh}{h h':Heap}
theorem ExnOk.mono{fz fz':Addr→Prop}{ea:Addr}{d:PV}(m:∀a,fz a→fz' a∧h'.get? a=h.get? a)(x:ExnOk K fz h ea d):ExnOk K fz' h' ea d:=by
 obtain ⟨oe,dx,od,C,s,t,f1,f2,e1,e2,e3,e4,e5,e6,e7,e8⟩:=x
 exact ⟨oe,dx,od,C,s,t,(m _ f1).1,(m _ f2).1,(m _ f1).2.trans e1,e2,e3,e4,e5,(m _ f2).2.trans e6,e7,e8⟩
structure Grow(G:Gh)(h:Heap)(G':Gh)(h':Heap):Prop where
 fz:∀a,G.fz a→G'.fz a∧h'.get? a=h.get? a
 ad:∃more,G'.ad=G.ad++more
theorem Grow.at(x:Grow G h G' h'){k:Nat}{p:Addr × Addr}(e:G.ad[k]? = some p):G'.ad[k]? = some p:=by
 refine xE11 x.ad fun more q=>?_
 refine rwE q (rwE (List.getElem?_append_left (List.getElem?_eq_some_iff.mp e).1) ?_);exact e
theorem Ext.grow{fr:List Env}{P:Addr→Prop}(x:Ext fr G h G' h' P):Grow G h G' h':=⟨x.fz,let ⟨m,e,_⟩:=x.ad;⟨m,e⟩⟩
theorem RepA.mono(x:Grow G h G' h'){v:Value}{a:AV}(r:RepA K w G h v a):RepA K w G' h' v a:=by
 cases a with
 |pv d=>exact Rep.mono x.fz r
 |cell k=>exact xE12 r fun p e q=>⟨p,x.at e,q⟩
 |exn d=>exact xE12 r fun ea e q=>⟨ea,e,q.mono x.fz⟩
theorem RepFA.mono(x:Grow G h G' h'){es:List DictEntry}{fs:List (Str × AV)}(r:RepFA K w G h es fs):RepFA K w G' h' es fs:=r.ind trivial fun y t v a es fs r _ q=>⟨rfl,⟨t,rfl⟩,RepA.mono x r,q⟩
theorem Ns_of_slots{h h':Heap}{L:Addr}{m:Str→Option Value}(n:h.Ns L m)(k:∀o,h.get? L=some o→(∀vs,o.data≠.fields vs)→∃sl,h'.get? L=some { o with slots:=sl }):h'.Ns L m:=by
 refine xE33 n fun o es ep e d r=>?_
 obtain ⟨sl,e'⟩:=k o e (fun vs q=>by rw [d] at q;cases q)
 exact ⟨_,es,ep,e',d,r⟩
theorem IsCell_of_slots{h h':Heap}{c:Addr}{v:Option Value}(n:h.IsCell c v)(k:∀o,h.get? c=some o→(∀vs,o.data≠.fields vs)→∃sl,h'.get? c=some { o with slots:=sl }):h'.IsCell c v:=by
 refine xE12 n fun o e d=>?_
 obtain ⟨sl,e'⟩:=k o e (fun vs q=>by rw [d] at q;cases q)
 exact ⟨_,e',d⟩
theorem SlotOk.mono(x:Grow G h G' h'){e:Str × Option AV}{l:Loc}(r:SlotOk K w G h e l)(k:∀o,h.get? l.addr=some o→(∀vs,o.data≠.fields vs)→∃sl,h'.get? l.addr=some { o with slots:=sl }):SlotOk K w G' h' e l:=by
 cases l with
 |dict a y=>exact xE12 r.2 fun m n r2=>⟨r.1,m,Ns_of_slots n k,fun a' ha=>xE12 (r2 a' ha) fun v p q=>⟨v,p,RepA.mono x q⟩⟩
 |cell c=>exact xE12 r fun o n r2=>⟨o,IsCell_of_slots n k,fun a' ha=>xE12 (r2 a' ha) fun v p q=>⟨v,p,RepA.mono x q⟩⟩
theorem CellOk.mono(x:Grow G h G' h'){p:Addr × Addr}(f1:¬ G.fz p.1→¬ G'.fz p.1)(f2:¬ G.fz p.2→¬ G'.fz p.2)(k1:h'.get? p.1=h.get? p.1)(k2:h'.get? p.2=h.get? p.2){o:MO}(r:CellOk K w G h p o):CellOk K w G' h' p o:=by
 cases o with
 |lst l=>obtain ⟨a,b,vs,n,e,r⟩:=r;exact ⟨f1 a,b,vs,n,k1.trans e,RepL.mono x.fz r⟩
 |dct l=>obtain ⟨a,b,s,es,n,e,r⟩:=r;exact ⟨f1 a,b,s,es,n,k1.trans e,RepE.mono x.fz r⟩
 |inst c fs=>obtain ⟨a,b,ne,C,es,n,c,e1,e2,r,sz⟩:=r;exact ⟨f1 a,f2 b,ne,C,es,n,c,k1.trans e1,k2.trans e2,RepFA.mono x r,sz⟩
 |dead=>trivial
end
section
variable{K:Frag}{w:World}{H0:Heap}{fr:List Env}{G:Gh}{st:Bc.St}{locs:List Loc}{h h':Heap}
theorem Rel.keeps(R:Rel K w H0 fr G st locs h)(hk:∀b o,h.get? b=some o→G.fz b∨G.mut b→h'.get? b=some o)
  (hs:∀b o,h.get? b=some o→(∀vs,o.data≠.fields vs)→∃sl,h'.get? b=some { o with slots:=sl }):Rel K w H0 fr G st locs h':=by
 have same:∀b,G.fz b→h'.get? b=h.get? b:=fun b f=>by obtain ⟨o,e⟩:=R.dom b f;refine rwE e ?_;exact hk b o e (.inl f)
 have sameM:∀b,G.mut b→h'.get? b=h.get? b:=fun b f=>by obtain ⟨o,e⟩:=R.lt b f;refine rwE e ?_;exact hk b o e (.inr f)
 have gr:Grow G h G h':=⟨fun a f=>⟨f,same a f⟩,[],by simp⟩
 refine ⟨fun a o e=>⟨(R.base a o e).1,hk a o (R.base a o e).2 (.inl (R.base a o e).1)⟩,fun a f=>let ⟨o,e⟩:=R.dom a f;⟨o,hk a o e (.inl f)⟩,R.len,fun k p o e1 e2=>?_,R.sep,
  fun b m=>let ⟨o,e⟩:=R.lt b m;⟨o,hk b o e (.inr m)⟩,R.nloc,fun i e l e1 e2=>?_,R.own,R.dis,fun env he=>?_⟩
 ·have hp:p∈G.ad:=List.mem_of_getElem? e1
  exact CellOk.mono gr id id (sameM _ ⟨p,hp,.inl rfl⟩) (sameM _ ⟨p,hp,.inr rfl⟩) (R.cells k p o e1 e2)
 ·exact SlotOk.mono gr (R.slot i e l e1 e2) (fun o e q=>hs _ o e q)
 ·obtain ⟨k,L,m,f,z,n,q,r⟩:=R.frames env he
  exact ⟨k,L,m,f,z,Ns_of_slots n (fun o e q=>hs _ o e q),q,r⟩
theorem Rel.push(R:Rel K w H0 fr G st locs h)(o:Obj):Rel K w H0 fr G st locs (h.push o) :=
 R.keeps (fun z_ z_ e z_=>Heap.get?_push_of_some _ e) fun z_ o' e z_=>⟨o'.slots,Heap.get?_push_of_some _ e⟩
theorem Rel.sizeNot(R:Rel K w H0 fr G st locs h){b:Addr}(hb:h.get? b=none):¬ G.fz b∧¬ G.mut b∧(∀l∈locs,l.addr≠b)∧(∀env∈fr,env.frame≠some b):=by
 refine ⟨fun f=>?_,fun m=>?_,fun l hl e=>?_,fun env he e=>?_⟩
 ·obtain ⟨o,q⟩:=R.dom b f;rw [hb] at q;cases q
 ·obtain ⟨o,q⟩:=R.lt b m;rw [hb] at q;cases q
 ·refine xE11 (List.mem_iff_getElem?.mp hl) fun i hi=>?_
  have hlt:i < st.vars.length:=R.nloc▸(List.getElem?_eq_some_iff.mp hi).1
  have S:=R.slot i _ l (List.getElem?_eq_getElem hlt) hi
  cases l with
  |dict L x=>obtain ⟨_,m,⟨o,_,_,q,_⟩,_⟩:=S;rw [show L=b from e,hb] at q;cases q
  |cell c=>obtain ⟨o,⟨_,q,_⟩,_⟩:=S;rw [show c=b from e,hb] at q;cases q
 ·obtain ⟨_,L,m,f,_,⟨o,_,_,q,_⟩,_⟩:=R.frames env he
  rw [f] at e
  cases (e)
  rw [hb] at q;cases (q)
theorem Rel.freeze(R:Rel K w H0 fr G st locs h)(S:Addr→Prop)(h1:∀a,S a→∃o,h.get? a=some o)(h2:∀a,S a→(∀l∈locs,l.addr≠a)∧∀env∈fr,env.frame≠some a)
  (h3:∀(k:Nat) p o,G.ad[k]? = some p→st.cells[k]? = some o→(∀x,o=x→x=.dead∨(¬ S p.1∧¬ S p.2))):Rel K w H0 fr ⟨fun a=>G.fz a∨S a,G.ad⟩ st locs h:=by
 have gr:Grow G h ⟨fun a=>G.fz a∨S a,G.ad⟩ h:=⟨fun a f=>⟨.inl f,rfl⟩,[],by simp⟩
 refine ⟨fun a o e=>⟨.inl (R.base a o e).1,(R.base a o e).2⟩,fun a f=>f.elim (R.dom a) (h1 a),R.len,fun k p o e1 e2=>?_,R.sep,R.lt,R.nloc,fun i e l e1 e2=>?_,fun l hl=>⟨fun f=>f.elim (R.own l hl).1 fun s=>(h2 _ s).1 l hl rfl,(R.own l hl).2⟩,R.dis,fun env he=>?_⟩
 ·rcases h3 k p o e1 e2 o rfl with rfl | ⟨n1,n2⟩
  ·trivial
  ·exact CellOk.mono gr (fun a f=>f.elim a n1) (fun a f=>f.elim a n2) rfl rfl (R.cells k p o e1 e2)
 ·exact SlotOk.mono gr (R.slot i e l e1 e2) (fun o e z_=>⟨o.slots,e⟩)
 ·obtain ⟨k,L,m,f,z,n,q,r⟩:=R.frames env he
  exact ⟨k,L,m,f,z,n,fun g=>g.elim q fun s=>(h2 _ s).2 env he f,r⟩
theorem Rel.keepAll(R:Rel K w H0 fr G st locs h)(hk:∀b o,h.get? b=some o→h'.get? b=some o):Rel K w H0 fr G st locs h'∧Ext fr G h G h' None_ :=
 ⟨R.keeps (fun b o e z_=>hk b o e) fun b o e z_=>⟨o.slots,hk b o e⟩,fun a f=>⟨f,by obtain ⟨o,e⟩:=R.dom a f;refine rwE e ?_;exact hk a o e⟩,fun b o e z_ z_=>⟨o.slots,hk b o e,fun z_=>rfl⟩,fun z_ z_ z_ z_ f=>f,⟨[],by simp,fun z_ hp=>nomatch hp⟩,fun b o e=>⟨o,hk b o e⟩⟩
theorem Rel.pushF(R:Rel K w H0 fr G st locs h){o:Obj}(ho:o.isFreed=false) :
  Rel K w H0 fr ⟨fun a=>G.fz a∨a=h.objs.size,G.ad⟩ st locs (h.push o)∧Ext fr G h ⟨fun a=>G.fz a∨a=h.objs.size,G.ad⟩ (h.push o) None_:=by
 have hn:h.get? h.objs.size=none:=by
  cases q:h.get? h.objs.size with
  |none=>rfl
  |some o'=>exact absurd (Heap.lt_size q) (Nat.lt_irrefl _)
 refine xE04 (R.sizeNot hn) fun n1 n2 n3 n4=>?_
 refine ⟨(R.push o).freeze (fun a=>a=h.objs.size) (fun a e=>⟨o,e▸Heap.get?_push_size _ ho⟩) (fun a e=>⟨fun l hl q=>n3 l hl (q.trans e),fun env he q=>n4 env he (e▸q)⟩) (fun k p c e1 z_ x z_=>.inr ⟨fun q=>n2 ⟨p,List.mem_of_getElem? e1,.inl q.symm⟩,fun q=>n2 ⟨p,List.mem_of_getElem? e1,.inr q.symm⟩⟩),
  fun a f=>⟨.inl f,?_⟩,fun b o' e z_ z_=>⟨o'.slots,Heap.get?_push_of_some _ e,fun z_=>rfl⟩,fun b o' hb z_ f=>f.elim id fun q=>(by rw [q,hn] at hb;cases hb),⟨[],by simp,fun z_ hp=>nomatch hp⟩,fun b o' e=>⟨o',Heap.get?_push_of_some _ e⟩⟩
 refine xE11 (R.dom a f) fun o' e=>?_
 refine rwE e ?_;exact Heap.get?_push_of_some _ e
theorem Rel.freezeN(R:Rel K w H0 fr G st locs h)(hk:∀b o,h.get? b=some o→h'.get? b=some o){b:Addr}{o:Obj}(hn:h.get? b=none)(ho:h'.get? b=some o) :
  Rel K w H0 fr ⟨fun a=>G.fz a∨a=b,G.ad⟩ st locs h'∧Ext fr G h ⟨fun a=>G.fz a∨a=b,G.ad⟩ h' None_:=by
 refine xE04 (R.sizeNot hn) fun n1 n2 n3 n4=>?_
 obtain ⟨R1,X1⟩:=R.keepAll hk
 refine ⟨R1.freeze (fun a=>a=b) (fun a e=>⟨o,e▸ho⟩) (fun a e=>⟨fun l hl q=>n3 l hl (q.trans e),fun env he q=>n4 env he (e▸q)⟩) (fun k p c e1 z_ x z_=>.inr ⟨fun q=>n2 ⟨p,List.mem_of_getElem? e1,.inl q.symm⟩,fun q=>n2 ⟨p,List.mem_of_getElem? e1,.inr q.symm⟩⟩),
  fun a f=>⟨.inl f,(X1.fz a f).2⟩,X1.keep,fun c o' hc z_ f=>f.elim id fun q=>(by rw [q,hn] at hc;cases hc),⟨[],by simp,fun z_ hp=>nomatch hp⟩,X1.live⟩
theorem Rel.pushJ(R:Rel K w H0 fr G st locs h)(o:Obj):Rel K w H0 fr G st locs (h.push o)∧Ext fr G h G (h.push o) None_:=by
 refine ⟨R.push o,fun a f=>⟨f,?_⟩,fun b o' e z_ z_=>⟨o'.slots,Heap.get?_push_of_some _ e,fun z_=>rfl⟩,fun z_ z_ z_ z_ f=>f,⟨[],by simp,fun z_ hp=>nomatch hp⟩,fun b o' e=>⟨o',Heap.get?_push_of_some _ e⟩⟩
 refine xE11 (R.dom a f) fun o' e=>?_
 refine rwE e ?_;exact Heap.get?_push_of_some _ e
end
end Bc
namespace Bc
section
variable{K:Frag}{w:World}{H0:Heap}{fr:List Env}{G:Gh}{st:Bc.St}{locs:List Loc}{h h':Heap}
theorem get?_set_cases{α:Type}{l:List α}{k j:Nat}{a b:α}(e:(l.set k a)[j]? = some b):(j=k∧b=a)∨(j≠k∧l[j]? = some b):=by
 by_cases q:j=k
 ·subst q
  rw [List.getElem?_set] at e
  simp at e
  exact .inl ⟨rfl,e.2.symm⟩
 ·rw [List.getElem?_set_ne (Ne.symm q)] at e
  exact .inr ⟨q,e⟩
theorem Rel.setC(R:Rel K w H0 fr G st locs h){k:Nat}{p:Addr × Addr}{o':MO}(hp:G.ad[k]? = some p)(hn1:¬ G.fz p.1)(hn2:¬ G.fz p.2)
  (hk:∀b o,h.get? b=some o→b≠p.1→b≠p.2→h'.get? b=some o) (hx:(∃o,h'.get? p.1=some o)∧∃o,h'.get? p.2=some o)
  (hc:CellOk K w G h' p o'):Rel K w H0 fr G ⟨st.vars,st.cells.set k o'⟩ locs h'∧Ext fr G h G h' None_:=by
 have hpm:p∈G.ad:=List.mem_of_getElem? hp
 have nf:∀a,G.fz a→a≠p.1∧a≠p.2:=fun a f=>⟨fun q=>hn1 (q▸f),fun q=>hn2 (q▸f)⟩
 have same:∀a,G.fz a→h'.get? a=h.get? a:=fun a f=>by
  refine xE11 (R.dom a f) fun o e=>?_
  refine rwE e ?_;exact hk a o e (nf a f).1 (nf a f).2
 have gr:Grow G h G h':=⟨fun a f=>⟨f,same a f⟩,[],by simp⟩
 have nm:∀b,¬ G.mut b→b≠p.1∧b≠p.2:=fun b n=>⟨fun q=>n ⟨p,hpm,.inl q⟩,fun q=>n ⟨p,hpm,.inr q⟩⟩
 refine ⟨⟨fun a o e=>⟨(R.base a o e).1,(same a (R.base a o e).1).trans (R.base a o e).2⟩,fun a f=>?_,by simpa using R.len,fun j q o e1 e2=>?_,R.sep,fun b m=>?_,R.nloc,fun i e l e1 e2=>?_,R.own,R.dis,fun env he=>?_⟩,
  fun a f=>⟨f,same a f⟩,fun b o e n _=>⟨o.slots,hk b o e (nm b n).1 (nm b n).2,fun _=>rfl⟩,fun _ _ _ _ f=>f,⟨[],by simp,fun _ hp=>nomatch hp⟩,fun b o e=>?_⟩
 rotate_right
 ·by_cases q1:b=p.1
  ·exact q1▸hx.1
  ·by_cases q2:b=p.2
   ·exact q2▸hx.2
   ·exact ⟨o,hk b o e q1 q2⟩
 ·refine xE11 (R.dom a f) fun o e=>?_
  exact ⟨o,(same a f).trans e⟩
 ·rcases get?_set_cases e2 with ⟨rfl,rfl⟩ | ⟨ne,e2⟩
  ·rw [hp] at e1;refine Bc.rwB (Option.some.inj e1) ?_;exact hc
  ·refine xE04 (R.sep j k q p ne e1 hp) fun s1 s2 s3 s4=>?_
   have hq:q∈G.ad:=List.mem_of_getElem? e1
   refine xE11 (R.lt q.1 ⟨q,hq,.inl rfl⟩) fun o1 g1=>?_
   refine xE11 (R.lt q.2 ⟨q,hq,.inr rfl⟩) fun o2 g2=>?_
   exact CellOk.mono gr id id ((hk _ _ g1 s1 s2).trans g1.symm) ((hk _ _ g2 s3 s4).trans g2.symm) (R.cells j q o e1 e2)
 ·refine xE11 (R.lt b m) fun o e=>?_
  by_cases q1:b=p.1
  ·exact q1▸hx.1
  ·by_cases q2:b=p.2
   ·exact q2▸hx.2
   ·exact ⟨o,hk b o e q1 q2⟩
 ·have hl:=nm _ (R.own l (List.mem_of_getElem? e2)).2
  exact SlotOk.mono gr (R.slot i e l e1 e2) (fun o q _=>⟨o.slots,hk _ o q hl.1 hl.2⟩)
 ·obtain ⟨kk,L,m,f,z,n,q,r⟩:=R.frames env he
  exact ⟨kk,L,m,f,z,Ns_of_slots n (fun o e _=>⟨o.slots,hk _ o e (nm L r).1 (nm L r).2⟩),q,r⟩
theorem Rel.kill(R:Rel K w H0 fr G st locs h){k:Nat}{p:Addr × Addr}(hp:G.ad[k]? = some p)(hn1:¬ G.fz p.1)(hn2:¬ G.fz p.2):Rel K w H0 fr G ⟨st.vars,st.cells.set k .dead⟩ locs h:=by
 have hpm:p∈G.ad:=List.mem_of_getElem? hp
 exact (R.setC (h':=h) (o':=.dead) hp hn1 hn2 (fun _ _ e _ _=>e) ⟨R.lt _ ⟨p,hpm,.inl rfl⟩,R.lt _ ⟨p,hpm,.inr rfl⟩⟩ trivial).1
theorem Rel.bury(R:Rel K w H0 fr G st locs h){k:Nat}{p:Addr × Addr}(hp:G.ad[k]? = some p)(hd:st.cells[k]? = some .dead) :
  Rel K w H0 fr ⟨fun a=>G.fz a∨(a=p.1∨a=p.2),G.ad⟩ st locs h∧Ext fr G h ⟨fun a=>G.fz a∨(a=p.1∨a=p.2),G.ad⟩ h None_:=by
 have hpm:p∈G.ad:=List.mem_of_getElem? hp
 have m1:∀a,(a=p.1∨a=p.2)→G.mut a:=fun a q=>⟨p,hpm,q⟩
 refine ⟨R.freeze (fun a=>a=p.1∨a=p.2) (fun a q=>R.lt a (m1 a q)) (fun a q=>⟨fun l hl e=>(R.own l hl).2 (e▸m1 a q),fun env he e=>?_⟩) (fun j q o e1 e2 x ex=>?_),
  fun a f=>⟨.inl f,rfl⟩,fun _ o e _ _=>⟨o.slots,e,fun _=>rfl⟩,fun b _ _ n f=>f.elim id fun q=>absurd (m1 b q) n,⟨[],by simp,fun _ hp=>nomatch hp⟩,fun _ o e=>⟨o,e⟩⟩
 ·obtain ⟨_,L,m,f,z,n,q',r⟩:=R.frames env he
  rw [f] at e
  cases (e)
  exact r (m1 _ q)
 ·by_cases jk:j=k
  ·subst jk;rw [hd] at e2;refine Bc.rwE (Option.some.inj e2) ?_;exact .inl ex.symm
  ·refine xE04 (R.sep j k q p jk e1 hp) fun s1 s2 s3 s4=>?_
   exact .inr ⟨fun z=>z.elim s1 s2,fun z=>z.elim s3 s4⟩
theorem flat_rep{p:Addr × Addr}{o:MO}{d:PV}(e:flatPV o=some d)(c:CellOk K w G h p o):¬ G.fz p.1∧p.2=p.1∧∀fz':Addr→Prop,(∀a,G.fz a→fz' a)→fz' p.1→Rep K w h fz' (.ref p.1) d:=by
 cases o with
 |lst l =>
  obtain ⟨n1,e2,vs,n,g,rl⟩:=c
  exact cz5 e ⟨n1,e2,fun fz' k k1=>.lst k1 g (RepL.mono (fun a f=>⟨k a f,rfl⟩) rl)⟩
 |dct l =>
  obtain ⟨n1,e2,ns,es,n,g,rl⟩:=c
  exact cz5 e ⟨n1,e2,fun fz' k k1=>.dct k1 g (RepE.mono (fun a f=>⟨k a f,rfl⟩) rl) ns⟩
 |_=>exact cz0 e
theorem set_self{α:Type}{l:List α}{k:Nat}{a b:α}(h:l[k]? = some b):(l.set k a)[k]? = some a:=List.getElem?_set_self (List.getElem?_eq_some_iff.mp h).1
theorem frz1_ok(R:Rel K w H0 fr G st locs h){v:Value}{a:AV}{d:PV}{cs:List MO}(e:frz1 st.cells a=some (d,cs))(r:RepA K w G h v a) :
  ∃G',Rel K w H0 fr G' ⟨st.vars,cs⟩ locs h∧Ext fr G h G' h None_∧Rep K w h G'.fz v d:=by
 cases a with
 |pv d'=>exact cz4 e ⟨G,R,Ext.refl ..,r⟩
 |exn d'=>exact cz0 e
 |cell k =>
  refine xE12 r fun p hp e_2=>?_;refine Bc.rwE e_2 ?_
  refine obE e fun o hl e=>obE e fun d1 hd e=>cz4 e ?_
  refine xE03 (flat_rep hd (R.cells k p o hp hl)) fun n1 e2 q=>?_
  obtain ⟨R2,X2⟩:=(R.kill hp n1 (e2▸n1)).bury (k:=k) (p:=p) hp (set_self hl)
  exact ⟨_,R2,X2,q _ (fun _ f=>.inl f) (.inr (.inl rfl))⟩
theorem frzFs_ok:∀{fs:List (Str × AV)} {es:List DictEntry} {G:Gh} {cells:List MO} {gs:List (Str × PV)} {cs:List MO},Rel K w H0 fr G ⟨st.vars,cells⟩ locs h→RepFA K w G h es fs →
  frzFs cells fs=some (gs,cs)→∃G',Rel K w H0 fr G' ⟨st.vars,cs⟩ locs h∧Ext fr G h G' h None_∧RepE K w h G'.fz es gs:=by
 intro fs
 induction fs with
 |nil =>
  intro es G cells gs cs R r e
  cases es with
  |nil=>exact cz4 (P:=fun gs cs=>∃G',Rel K w H0 fr G' ⟨st.vars,cs⟩ locs h∧Ext fr G h G' h None_∧RepE K w h G'.fz [] gs) e ⟨G,R,Ext.refl ..,.nil⟩
  |cons _ _=>exact r.elim
 |cons f fs ih =>
  intro es G cells gs cs R r e
  cases es with
  |nil=>exact r.elim
  |cons en es =>
   refine obE2 e fun d cs1 h1 e=>obE2 e fun fs' cs2 h2 e=>cz4 (P:=fun gs cs=>∃G',Rel K w H0 fr G' ⟨st.vars,cs⟩ locs h∧Ext fr G h G' h None_∧RepE K w h G'.fz (en::es) gs) e ?_
   obtain ⟨hs,ky,vl⟩:=en
   obtain ⟨x,a⟩:=f
   obtain ⟨e1,⟨t,e2⟩,ra,rest⟩:=r
   refine xE13 (frz1_ok R h1 ra) fun G1 R1 X1 r1=>?_
   refine xE13 (ih R1 (RepFA.mono X1.grow rest) h2) fun G2 R2 X2 r2=>?_
   dsimp only at e1 e2
   refine Bc.rwE e1 ?_;refine Bc.rwE e2 ?_
   exact ⟨G2,R2,X1.trans X2,.cons (Rep.mono X2.fz r1) r2⟩
theorem frz1_dead{c1 c2:List MO}{a:AV}{d:PV}{k:Nat}(e:frz1 c1 a=some (d,c2))(h:c1[k]? = some .dead):c2[k]? = some .dead:=by
 cases a with
 |pv _=>exact cz4 (P:=fun _ c2=>c2[k]? = some MO.dead) e h
 |exn _=>exact cz0 e
 |cell j =>
  refine obE e fun o q e=>obE e fun d1 hd e=>cz4 (P:=fun _ c2=>c2[k]? = some MO.dead) e ?_
  rw [List.getElem?_set_ne fun z=>?_]
  ·exact h
  ·subst z;rw [h] at q;have:=Option.some.inj q;subst this;exact cz0 hd
theorem frzFs_dead{k:Nat}{fs:List (Str × AV)}{c1:List MO}{gs:List (Str × PV)}{c2:List MO}(e:frzFs c1 fs=some (gs,c2))(h:c1[k]? = some .dead):c2[k]? = some .dead:=by
 induction fs generalizing c1 gs c2 with
 |nil=>exact cz4 (P:=fun _ c2=>c2[k]? = some MO.dead) e h
 |cons f fs ih=>exact obE2 e fun _ _ h3 e=>obE2 e fun _ _ h4 e=>cz4 (P:=fun _ c2=>c2[k]? = some MO.dead) e (ih h4 (frz1_dead h3 h))
theorem lstMO_some{o:MO}{l:List PV}(h:lstMO o=some l):o=.lst l:=by
 cases o with
 |lst l=>exact cz5 h rfl
 |_=>exact cz0 h
theorem instMO_some{o:MO}{c:Str × List (Str × AV)}(h:instMO o=some c):o=.inst c.1 c.2:=by
 cases o with
 |inst c fs=>exact cz5 h rfl
 |_=>exact cz0 h
theorem dctMO_some{o:MO}{l:List (Str × PV)}(h:dctMO o=some l):o=.dct l:=by
 cases o with
 |dct l=>exact cz5 h rfl
 |_=>exact cz0 h
theorem lstAt_some{cs:List MO}{k:Nat}{l:List PV}(h:lstAt cs k=some l):cs[k]? = some (.lst l):=obE h fun _ h1 h2=>h1.trans (congrArg some (lstMO_some h2))
theorem instAt_some{cs:List MO}{k:Nat}{l:Str × List (Str × AV)}(h:instAt cs k=some l):cs[k]? = some (.inst l.1 l.2):=obE h fun _ h1 h2=>h1.trans (congrArg some (instMO_some h2))
theorem dctAt_some{cs:List MO}{k:Nat}{l:List (Str × PV)}(h:dctAt cs k=some l):cs[k]? = some (.dct l):=obE h fun _ h1 h2=>h1.trans (congrArg some (dctMO_some h2))
theorem frz_ok(R:Rel K w H0 fr G st locs h){v:Value}{a:AV}{d:PV}{cs:List MO}(e:frz st.cells a=some (d,cs))(r:RepA K w G h v a) :
  ∃G',Rel K w H0 fr G' ⟨st.vars,cs⟩ locs h∧Ext fr G h G' h None_∧Rep K w h G'.fz v d:=by
 cases a with
 |pv d'=>exact cz4 e ⟨G,R,Ext.refl ..,r⟩
 |exn d'=>exact cz0 e
 |cell k =>
  unfold frz at e
  dsimp only at e
  refine Bc.optE (instAt st.cells k) (fun hl=>?_) fun c hl=>?_
  ·rw [hl] at e;exact frz1_ok R e r
  ·
   rw [hl] at e
   refine obE2 e fun gs cs1 h1 e=>cz4 e ?_
   have hl:=instAt_some hl
   refine hld fun gP gk=>?_
   refine xE12 r fun p hp e_2=>?_;subst e_2
   obtain ⟨n1,n2,ne,C,es,n,hc,g1,g2,rf,_⟩:=R.cells k p _ hp hl
   refine gk ?_
   refine xE13 (frzFs_ok (st:=st) (R.kill hp n1 n2) rf h1) fun G2 R2 X2 r2=>?_
   obtain ⟨R3,X3⟩:=R2.bury (k:=k) (p:=p) (X2.grow.at hp) (frzFs_dead h1 (set_self hl))
   exact ⟨_,R3,X2.trans X3,.inst (.inr (.inl rfl)) (.inr (.inr rfl)) g1 g2 hc (RepE.mono (fun a f=>⟨.inl f,rfl⟩) r2)⟩
theorem Rel.addC(R:Rel K w H0 fr G st locs h){p:Addr × Addr}{o:MO}(h1:∃o,h.get? p.1=some o)(h2:∃o,h.get? p.2=some o)
  (n1:¬ G.mut p.1∧(∀l∈locs,l.addr≠p.1)∧∀env∈fr,env.frame≠some p.1) (n2:¬ G.mut p.2∧(∀l∈locs,l.addr≠p.2)∧∀env∈fr,env.frame≠some p.2)
  (hc:CellOk K w ⟨G.fz,G.ad++[p]⟩ h p o):Rel K w H0 fr ⟨G.fz,G.ad++[p]⟩ ⟨st.vars,st.cells++[o]⟩ locs h:=by
 have gr:Grow G h ⟨G.fz,G.ad++[p]⟩ h:=⟨fun a f=>⟨f,rfl⟩,[p],rfl⟩
 have mut':∀b,Gh.mut ⟨G.fz,G.ad++[p]⟩ b→G.mut b∨b=p.1∨b=p.2:=by
  rintro b ⟨q,hq,e⟩
  rcases List.mem_append.mp hq with hq | hq
  ·exact .inl ⟨q,hq,e⟩
  ·rw [List.mem_singleton.mp hq] at e;exact .inr e
 have at':∀(k:Nat) q,(G.ad++[p])[k]? = some q→G.ad[k]? = some q∨(k=G.ad.length∧q=p):=by
  intro k q e
  by_cases hk:k < G.ad.length
  ·rw [List.getElem?_append_left hk] at e;exact .inl e
  ·rw [List.getElem?_append_right (Nat.le_of_not_lt hk)] at e
   have hk':=Nat.le_of_not_lt hk
   cases hm:k - G.ad.length with
   |zero=>rw [hm] at e;simp at e;exact .inr ⟨by omega,e.symm⟩
   |succ n=>rw [hm] at e;simp at e
 refine ⟨R.base,R.dom,by simp [R.len],fun k q o' e1 e2=>?_,fun j k a b ne e1 e2=>?_,fun b m=>?_,R.nloc,fun i e l e1 e2=>?_,fun l hl=>⟨(R.own l hl).1,fun m=>?_⟩,R.dis,fun env he=>?_⟩
 ·rcases at' k q e1 with e1 | ⟨rfl,rfl⟩
  ·have hk:k < st.cells.length:=R.len▸(List.getElem?_eq_some_iff.mp e1).1
   rw [List.getElem?_append_left hk] at e2
   exact CellOk.mono gr id id rfl rfl (R.cells k q o' e1 e2)
  ·rw [R.len] at e2
   simp at e2
   exact e2▸hc
 ·rcases at' j a e1 with e1' | ⟨rfl,rfl⟩<;>rcases at' k b e2 with e2' | ⟨rfl,rfl⟩
  ·exact R.sep j k a b ne e1' e2'
  ·have ma:a∈G.ad:=List.mem_of_getElem? e1'
   exact ⟨fun q=>n1.1 ⟨a,ma,.inl q.symm⟩,fun q=>n2.1 ⟨a,ma,.inl q.symm⟩,fun q=>n1.1 ⟨a,ma,.inr q.symm⟩,fun q=>n2.1 ⟨a,ma,.inr q.symm⟩⟩
  ·have mb:b∈G.ad:=List.mem_of_getElem? e2'
   exact ⟨fun q=>n1.1 ⟨b,mb,.inl q⟩,fun q=>n1.1 ⟨b,mb,.inr q⟩,fun q=>n2.1 ⟨b,mb,.inl q⟩,fun q=>n2.1 ⟨b,mb,.inr q⟩⟩
  ·exact absurd rfl ne
 ·rcases mut' b m with m | rfl | rfl
  ·exact R.lt b m
  ·exact h1
  ·exact h2
 ·exact SlotOk.mono gr (R.slot i e l e1 e2) (fun o q _=>⟨o.slots,q⟩)
 ·rcases mut' _ m with m | m | m
  ·exact (R.own l hl).2 m
  ·exact n1.2.1 l hl m
  ·exact n2.2.1 l hl m
 ·obtain ⟨kk,L,m,f,z,n,q,r⟩:=R.frames env he
  refine ⟨kk,L,m,f,z,n,q,fun mm=>?_⟩
  rcases mut' _ mm with mm | mm | mm
  ·exact r mm
  ·exact n1.2.2 env he (mm▸f)
  ·exact n2.2.2 env he (mm▸f)
theorem Rel.pushC(R:Rel K w H0 fr G st locs h){o:Obj}{c:MO}(ho:o.isFreed=false)(hc:CellOk K w ⟨G.fz,G.ad++[(h.objs.size,h.objs.size)]⟩ (h.push o) (h.objs.size,h.objs.size) c) :
  Rel K w H0 fr ⟨G.fz,G.ad++[(h.objs.size,h.objs.size)]⟩ ⟨st.vars,st.cells++[c]⟩ locs (h.push o)∧Ext fr G h ⟨G.fz,G.ad++[(h.objs.size,h.objs.size)]⟩ (h.push o) None_:=by
 have hn:h.get? h.objs.size=none:=by
  cases q:h.get? h.objs.size with
  |none=>rfl
  |some o'=>exact absurd (Heap.lt_size q) (Nat.lt_irrefl _)
 refine xE04 (R.sizeNot hn) fun n1 n2 n3 n4=>?_
 obtain ⟨R1,X1⟩:=R.pushJ o
 refine ⟨R1.addC (p:=(h.objs.size,h.objs.size)) ⟨o,Heap.get?_push_size _ ho⟩ ⟨o,Heap.get?_push_size _ ho⟩ ⟨n2,n3,n4⟩ ⟨n2,n3,n4⟩ hc,X1.fz,X1.keep,X1.nofz,⟨_,rfl,fun p hp=>?_⟩,X1.live⟩
 rw [List.mem_singleton.mp hp];exact ⟨hn,hn⟩
theorem Ns_unique{L:Addr}{m m':Str→Option Value}(a:h.Ns L m)(b:h.Ns L m'):m=m':=by
 refine xE34 a fun o es ep e d _ f=>?_
 refine xE34 b fun o' es' ep' e' d' _ f'=>?_
 rw [e] at e';cases (e')
 rw [d] at d';cases (d')
 funext x
 rw [← f,← f']
theorem Rel.store(R:Rel K w H0 fr G st locs h){i:Nat}{x:Str}{b:Option AV}{oa:Option AV}{l:Loc}(hv:st.vars[i]? = some (x,b))(hl:locs[i]? = some l)
  (hk:∀c o,h.get? c=some o→c≠l.addr→h'.get? c=some o)
  (hs:match l with
   | .dict L _=>∃m v,h.Ns L m∧h'.Ns L (fun y=>if y=x then v else m y)∧∀a,oa=some a→∃u,v=some u∧RepA K w G h' u a
   | .cell c=>∃o,h'.IsCell c o∧∀a,oa=some a→∃u,o=some u∧RepA K w G h' u a) :
  Rel K w H0 fr G ⟨st.vars.set i (x,oa),st.cells⟩ locs h'∧Ext fr G h G h' (fun a=>l.addr=a):=by
 have hlm:l∈locs:=List.mem_of_getElem? hl
 obtain ⟨o1,o2⟩:=R.own l hlm
 have nf:∀a,G.fz a→a≠l.addr:=fun a f q=>o1 (q▸f)
 have nm:∀a,G.mut a→a≠l.addr:=fun a f q=>o2 (q▸f)
 have same:∀a,G.fz a→h'.get? a=h.get? a:=fun a f=>by
  refine xE11 (R.dom a f) fun o e=>?_
  refine rwE e ?_;exact hk a o e (nf a f)
 have gr:Grow G h G h':=⟨fun a f=>⟨f,same a f⟩,[],by simp⟩
 refine ⟨⟨fun a o e=>⟨(R.base a o e).1,(same a (R.base a o e).1).trans (R.base a o e).2⟩,fun a f=>?_,R.len,fun j q o e1 e2=>?_,R.sep,fun c m=>?_,by simpa using R.nloc,fun j e l' e1 e2=>?_,R.own,R.dis,fun env he=>?_⟩,
  fun a f=>⟨f,same a f⟩,fun c o e _ n=>⟨o.slots,hk c o e fun q=>n q.symm,fun _=>rfl⟩,fun _ _ _ _ f=>f,⟨[],by simp,fun _ hp=>nomatch hp⟩,fun c o e=>?_⟩
 rotate_right
 ·by_cases q:c=l.addr
  ·subst q
   cases l with
   |dict L _=>obtain ⟨_,_,_,⟨o',_,_,e',_⟩,_⟩:=hs;exact ⟨o',e'⟩
   |cell c=>obtain ⟨_,⟨o',e',_⟩,_⟩:=hs;exact ⟨o',e'⟩
  ·exact ⟨o,hk c o e q⟩
 ·refine xE11 (R.dom a f) fun o e=>?_
  exact ⟨o,(same a f).trans e⟩
 ·have hq:q∈G.ad:=List.mem_of_getElem? e1
  refine xE11 (R.lt q.1 ⟨q,hq,.inl rfl⟩) fun p1 g1=>?_
  refine xE11 (R.lt q.2 ⟨q,hq,.inr rfl⟩) fun p2 g2=>?_
  exact CellOk.mono gr id id ((hk _ _ g1 (nm _ ⟨q,hq,.inl rfl⟩)).trans g1.symm) ((hk _ _ g2 (nm _ ⟨q,hq,.inr rfl⟩)).trans g2.symm) (R.cells j q o e1 e2)
 ·refine xE11 (R.lt c m) fun o e=>?_
  exact ⟨o,hk c o e (nm c m)⟩
 ·rcases get?_set_cases e1 with ⟨rfl,rfl⟩ | ⟨ne,e1⟩
  ·rw [hl] at e2;cases e2
   have S:=R.slot _ _ _ hv hl
   cases l with
   |dict L y =>
    obtain ⟨rfl,_⟩:=S
    refine xE23 hs fun m v _ n' f=>?_
    exact ⟨rfl,_,n',fun a ha=>let ⟨u,q,r⟩:=f a ha;⟨u,by simp [q],r⟩⟩
   |cell c =>
    refine xE12 hs fun o n' f=>?_
    exact ⟨o,n',f⟩
  ·have S:=R.slot j e l' e1 e2
   have ap:=R.dis i j l l' (Ne.symm ne) hl e2
   have Sx:=R.slot _ _ _ hv hl
   cases l with
   |dict L y =>
    obtain ⟨rfl,_⟩:=Sx
    refine xE23 hs fun m v n n' f=>?_
    cases l' with
    |dict M z =>
     by_cases LM:L=M
     ·subst LM
      obtain ⟨rfl,m1,n1,f1⟩:=S
      have:=Ns_unique n n1;subst this
      refine ⟨rfl,_,n',fun a ha=>?_⟩
      refine xE12 (f1 a ha) fun u q r=>?_
      exact ⟨u,by refine rwE (if_neg (Ne.symm (ap rfl))) ?_;exact q,RepA.mono gr r⟩
     ·exact SlotOk.mono gr S fun o q _=>⟨o.slots,hk _ o q (Ne.symm LM)⟩
    |cell c=>exact SlotOk.mono gr S fun o q _=>⟨o.slots,hk _ o q (fun z=>ap z.symm)⟩
   |cell c =>
    cases l' with
    |dict M z=>exact SlotOk.mono gr S fun o q _=>⟨o.slots,hk _ o q (fun z=>ap z.symm)⟩
    |cell d=>exact SlotOk.mono gr S fun o q _=>⟨o.slots,hk _ o q (fun z=>ap z.symm)⟩
 ·obtain ⟨kk,M,m',f,z,n,q,r⟩:=R.frames env he
  by_cases LM:M=l.addr
  ·cases l with
   |dict L y =>
    refine xE23 hs fun m v n0 n' _=>?_
    exact ⟨kk,M,_,f,z,(by refine rwE (show M=L from LM) ?_;exact n'),q,r⟩
   |cell c =>
    refine xE12 hs fun o n' _=>?_
    obtain ⟨o0,⟨oo,g,dd⟩,_⟩:=(R.slot _ _ _ hv hl)
    refine xE33 n fun o' _ _ g' d' _=>?_
    rw [show M=c from LM,g] at g';cases (g')
    rw [dd] at d';cases (d')
  ·exact ⟨kk,M,m',f,z,Ns_of_slots n (fun o e _=>⟨o.slots,hk _ o e LM⟩),q,r⟩
end
end Bc
namespace Bc
structure Wd(K:Frag)(w:World)(H0:Heap)(fns:List DefRec)(mg mb:Str→Option Value):Prop where
 kin:K.In H0
 g:H0.Ns mainGlobals mg
 b:H0.Ns builtinsNs mb
 builtins:∀x:Str,x≠"__name__"→mb x=bootBuiltins x
 nolimit:H0.NoLimit
 known:∀x,knownGlb fns x=true→∃v,gval K x=some v
 handed:∀x v,gval K x=some v→handedIn v=true
noncomputable def Sh(s s':Shared):Prop:=∃h tk,s'={ s with heap:=h,toks:=tk }
theorem Sh.refl(s:Shared):Sh s s:=⟨s.heap,s.toks,rfl⟩
theorem Sh.trans{a b c:Shared}(x:Sh a b)(y:Sh b c):Sh a c:=by
 refine xE21 x fun h t e_2=>?_;subst e_2
 refine xE21 y fun h' t' e_2=>?_;refine Bc.rwE e_2 ?_
 exact ⟨h',t',rfl⟩
theorem Sh.mk'(s:Shared)(h:Heap)(t:Nat):Sh s { s with heap:=h,toks:=t }:=⟨h,t,rfl⟩
structure Room(A:Around)(n:Nat):Prop where
 depth:A.depth+2 * n≤940
 units:A.units+16 * n≤9000
theorem Room.le{A:Around}{n m:Nat}(r:Room A n)(h:m≤n):Room A m:=⟨by have:=r.depth;omega,by have:=r.units;omega⟩
theorem Room.pred{A:Around}{n:Nat}(r:Room A (n+1)):Room A n:=r.le (Nat.le_succ n)
section
variable(K:Frag)(w:World)(H0:Heap)(fr:List Env)
inductive OutP(P:Addr→Prop)(G:Gh)(s:Shared)(st':Bc.St)(locs:List Loc)(φ:Gh→Heap→Prop)(s':Shared):Prop
 |mk (G':Gh):Rel K w H0 fr G' st' locs s'.heap→Ext fr G s.heap G' s'.heap P→Sh s s'→φ G' s'.heap→OutP P G s st' locs φ s'
noncomputable abbrev Out(G:Gh)(s:Shared)(st':Bc.St)(locs:List Loc)(φ:Gh→Heap→Prop)(s':Shared):Prop:=OutP K w H0 fr None_ G s st' locs φ s'
noncomputable def W(prog:Program){α:Type}(A:Around)(t:Sem α)(G:Gh)(st':Bc.St)(locs:List Loc)(s:Shared)(φ:α→Gh→Heap→Prop):Prop :=
 wpAny (model prog w) A t (fun v s'=>Out K w H0 fr G s st' locs (φ v) s') (fun _ _=>False) s
end
section
variable{K:Frag}{w:World}{H0:Heap}{fr:List Env}{prog:Program}{α β:Type}{A:Around}{G:Gh}{st st1 st2:Bc.St}{locs:List Loc}{s:Shared}
theorem OutP.el{P:Addr→Prop}{φ:Gh→Heap→Prop}{s':Shared}{C:Prop}(x:OutP K w H0 fr P G s st1 locs φ s')(k:∀G',Rel K w H0 fr G' st1 locs s'.heap→Ext fr G s.heap G' s'.heap P→Sh s s'→φ G' s'.heap→C):C:=let ⟨G',a,b,c,d⟩:=x;k G' a b c d
theorem W.then{t:Sem α}{φ:α→Gh→Heap→Prop}{Q:α→Shared→Prop}{E:Value→Shared→Prop}(h:W K w H0 fr prog A t G st1 locs s φ)
  (k:∀v G1 s1,Rel K w H0 fr G1 st1 locs s1.heap→Ext fr G s.heap G1 s1.heap None_→Sh s s1→φ v G1 s1.heap→Q v s1):wpAny (model prog w) A t Q E s :=
 wpAny_mono h (fun v s1 ⟨G1,R1,X1,S1,p⟩=>k v G1 s1 R1 X1 S1 p) fun _ _ f=>f.elim
theorem W.mono{t:Sem α}{φ ψ:α→Gh→Heap→Prop}(h:W K w H0 fr prog A t G st1 locs s φ)(k:∀v G1 h1,φ v G1 h1→ψ v G1 h1):W K w H0 fr prog A t G st1 locs s ψ :=
 wpAny_mono h (fun v _ ⟨G1,R1,X1,S1,p⟩=>⟨G1,R1,X1,S1,k v _ _ p⟩) fun _ _ f=>f
theorem Out.comp{G1:Gh}{s1 s2:Shared}{φ:Gh→Heap→Prop}(X1:Ext fr G s.heap G1 s1.heap None_)(S1:Sh s s1)(o:Out K w H0 fr G1 s1 st2 locs φ s2):Out K w H0 fr G s st2 locs φ s2:=by
 refine OutP.el o fun G2 R2 X2 S2 q=>?_
 exact ⟨G2,R2,X1.trans X2,S1.trans S2,q⟩
theorem W.comp{G1:Gh}{s1:Shared}{t:Sem α}{φ:α→Gh→Heap→Prop}(X1:Ext fr G s.heap G1 s1.heap None_)(S1:Sh s s1)(o:W K w H0 fr prog A t G1 st2 locs s1 φ) :
  wpAny (model prog w) A t (fun v s'=>Out K w H0 fr G s st2 locs (φ v) s') (fun _ _=>False) s1:=wpAny_mono o (fun _ _ q=>q.comp X1 S1) fun _ _ f=>f
theorem Out.here{φ:Gh→Heap→Prop}(R:Rel K w H0 fr G st locs s.heap)(p:φ G s.heap):Out K w H0 fr G s st locs φ s:=⟨G,R,Ext.refl ..,Sh.refl s,p⟩
theorem Out.tok{φ:Gh→Heap→Prop}{tk:Nat}(R:Rel K w H0 fr G st locs s.heap)(p:φ G s.heap):Out K w H0 fr G s st locs φ { s with toks:=tk }:=⟨G,R,Ext.refl ..,⟨s.heap,tk,rfl⟩,p⟩
theorem Out.of{φ:Gh→Heap→Prop}{G':Gh}{h':Heap}{tk:Nat}(R:Rel K w H0 fr G' st locs h')(X:Ext fr G s.heap G' h' None_)(p:φ G' h'):Out K w H0 fr G s st locs φ { s with heap:=h',toks:=tk }:=⟨G',R,X,⟨h',tk,rfl⟩,p⟩
theorem Out.ofH{φ:Gh→Heap→Prop}{G':Gh}{h':Heap}(R:Rel K w H0 fr G' st locs h')(X:Ext fr G s.heap G' h' None_)(p:φ G' h'):Out K w H0 fr G s st locs φ { s with heap:=h' }:=⟨G',R,X,⟨h',s.toks,rfl⟩,p⟩
end
structure SndE(prog:Program)(K:Frag)(w:World)(H0:Heap)(fns:List DefRec)(n:Nat)(R:Rc):Prop where
 nm:∀cx x p st a st',R.ev cx (.Name x p) st=some (a,st')→evName fns cx x st=some (a,st')
 vars:∀cx e st a st',R.ev cx e st=some (a,st')→vnm st'.vars=vnm st.vars
 ev:∀cx e st a st',R.ev cx e st=some (a,st')→∀(A:Around) (env:Env) (fr:List Env) (G:Gh) (locs:List Loc) (s:Shared),Room A n→(cx.lp=true→A.handled=none)→A.frames=some fr →
  EnvOk cx env st.vars locs→Rel K w H0 fr G st locs s.heap→W K w H0 fr prog A (eval e env) G st' locs s fun v G' h'=>RepA K w G' h' v a
 tr:∀cx e st b st',R.ev cx e st=some (.pv (.bool b),st')→∀(A:Around) (env:Env) (fr:List Env) (G:Gh) (locs:List Loc) (s:Shared),Room A n→(cx.lp=true→A.handled=none)→A.frames=some fr →
  EnvOk cx env st.vars locs→Rel K w H0 fr G st locs s.heap→W K w H0 fr prog A (isTrue e env (eval e env)) G st' locs s fun v _ _=>v=b
section
variable{K:Frag}{w:World}{H0:Heap}{fns:List DefRec}{mg mb:Str→Option Value}{fr:List Env}{prog:Program}{A:Around}{G:Gh}{st st':Bc.St}{locs:List Loc}{s:Shared}{env:Env}{cx:Cx}{x:Str}{a:AV}
theorem Rel.keep0(R:Rel K w H0 fr G st locs s.heap):∀b o,H0.get? b=some o→s.heap.get? b=some o:=fun b o e=>(R.base b o e).2
theorem bslot_of(E:EnvOk cx env st.vars locs)(R:Rel K w H0 fr G st locs s.heap)(hk:isLocalK (cx.names.lookup x)=true)(hg:getV x st.vars=some a) :
  ∃(i:Nat) (l:Loc),st.vars[i]? = some (x,some a)∧locs[i]? = some l∧locOf env x=some l∧SlotOk K w G s.heap (x,some a) l:=by
 refine xE12 (getV_fix hg) fun i f hi=>?_
 refine xE12 (E.at_ x i hk f) fun l hl ho=>?_
 exact ⟨i,l,hi,hl,ho,R.slot i _ l hi hl⟩
set_option tactic.hygienic true in
theorem load_local(E:EnvOk cx env st.vars locs)(R:Rel K w H0 fr G st locs s.heap)(hk:isLocalK (cx.names.lookup x)=true)(hn:cx.names.lookup x=some .free→(x==("__classdict__" : Str))=false)(hg:getV x st.vars=some a) :
  W K w H0 fr prog A (loadName env x) G st locs s fun v G' h'=>RepA K w G' h' v a:=by
 refine xE24 (bslot_of E R hk hg) fun i l hi hl ho S=>?_
 have kd:env.kindOf x=cx.names.lookup x:=by unfold Env.kindOf;refine rwE E.names rfl
 unfold locOf at ho
 rw [E.names] at ho
 refine Bc.optE (cx.names.lookup x) (fun hq=>?_) fun k hq=>?_
 ·rw [hq] at hk;cases hk
 ·
  rw [hq] at ho kd
  cases k with
  | «local» =>
   dsimp only at ho
   cases (ho)
   obtain ⟨_,m,n,f⟩:=S
   refine xE12 (f a rfl) fun v hv r=>?_
   exact wpAny_loadName_local E.kind kd n hv (Out.here R r)
  |cell =>
   dsimp only at ho
   split at ho
   ·rename_i c hc
    cases (ho)
    refine xE12 S fun o n f=>?_
    refine xE12 (f a rfl) fun v e_1 r=>?_;subst e_1
    exact wpAny_loadName_cell E.kind kd hc n (Out.here R r)
   ·cases ho
  |free =>
   dsimp only at ho
   split at ho
   ·rename_i c hc
    cases (ho)
    refine xE12 S fun o n f=>?_
    refine xE12 (f a rfl) fun v e_1 r=>?_;subst e_1
    exact wpAny_loadName_free E.kind kd hc n (Out.here R r) (hn hq)
   ·cases ho
  |globalExplicit=>rw [hq] at hk;cases hk
  |globalImplicit=>rw [hq] at hk;cases hk
set_option tactic.hygienic true in
theorem load_glob(D:Wd K w H0 fns mg mb)(E:EnvOk cx env st.vars locs)(R:Rel K w H0 fr G st locs s.heap){v:Value}(hv:gval K x=some v) :
  W K w H0 fr prog A (loadGlobal env x) G st locs s fun u G' h'=>u=v∧RepA K w G' h' u (.pv (.glb x)):=by
 have kp:=R.keep0
 have G1:s.heap.Ns env.globals mg:=by refine rwE E.glob ?_;exact D.g.keeps kp
 have B1:s.heap.Ns env.builtins mb:=by refine rwE E.bi ?_;exact D.b.keeps kp
 have hv':=hv
 unfold gval at hv
 split at hv
 ·rename_i u hu
  cases (hv)
  exact loadGlobal_global G1 (mg_of D.kin D.g hu) (Out.here R ⟨rfl,.glb hv'⟩)
 ·rename_i hu
  split at hv
  ·cases hv
  ·rename_i hne
   exact loadGlobal_builtin G1 (mg_none_of D.kin D.g hu) B1 ((D.builtins x (by simpa using hne)).trans hv) (Out.here R ⟨rfl,.glb hv'⟩)
 ·cases hv
theorem ev_name(D:Wd K w H0 fns mg mb){p:Pos}(e:evName fns cx x st=some (a,st'))(E:EnvOk cx env st.vars locs)(R:Rel K w H0 fr G st locs s.heap) :
  st'=st∧W K w H0 fr prog A (eval (.Name x p) env) G st' locs s fun v G' h'=>RepA K w G' h' v a:=by
 have kd:env.kindOf x=cx.names.lookup x:=by unfold Env.kindOf;refine rwE E.names rfl
 refine bifF e fun hdb e=>obE e fun k hq e=>?_
 have key:∀{a},isLocalK (some k)=true→(k=.free→(x==("__classdict__" : Str))=false)→getV x st.vars=some a→W K w H0 fr prog A (eval (.Name x p) env) G st locs s fun v G' h'=>RepA K w G' h' v a :=
  fun hk hn hb=>wpAny_Name (load_local E R (by refine rwE hq ?_;exact hk) (fun z=>hn (Option.some.inj (hq.symm.trans z))) hb) hdb
 cases k with
 | «local»=>exact obE e fun b hb e=>cz4 e ⟨rfl,key rfl (fun z=>nomatch z) hb⟩
 |cell=>exact obE e fun b hb e=>cz4 e ⟨rfl,key rfl (fun z=>nomatch z) hb⟩
 |free=>exact bifF e fun hcd e=>obE e fun b hb e=>cz4 e ⟨rfl,key rfl (fun _=>hcd) hb⟩
 |globalImplicit =>
  refine bifT e fun hkn e=>cz4 e ⟨rfl,?_⟩
  refine xE11 (D.known x hkn) fun v hv=>?_
  exact Name_function_global E.kind (kd.trans hq) (W.mono (load_glob D E R hv) fun _ _ _ h=>h.2) hdb
 |globalExplicit=>exact cz0 e
theorem ev_const{c:Const}{k:Nat}{pos:Pos}{d:PV}(e:evConst c=some d)(R:Rel K w H0 fr G st locs s.heap) :
  W K w H0 fr prog A (eval (.Constant c k pos) env) G st locs s fun v G' h'=>RepA K w G' h' v (.pv d):=by
 cases c with
 |none=>exact cz5 e (wpAny_Constant_none (Out.here R .none))
 |bool b=>exact cz5 e (wpAny_Constant_bool (Out.here R (.bool b)))
 |int i=>exact cz5 e (wpAny_Constant_int (Out.tok R (.int i _)))
 |str x=>exact gdE e fun _=>wpAny_Constant_str (Out.tok R (.str x _))
 |_=>exact cz0 e
end
end Bc
namespace Bc
structure Here(K:Frag)(w:World)(H0:Heap)(n:Nat)(cx:Cx)(st:Bc.St)(A:Around)(fr:List Env)(env:Env)(G:Gh)(locs:List Loc)(s:Shared):Prop where
 rm:Room A n
 hh:cx.lp=true→A.handled=none
 hf:A.frames=some fr
 E:EnvOk cx env st.vars locs
 T:Rel K w H0 fr G st locs s.heap
section
variable{K:Frag}{w:World}{H0:Heap}{fns:List DefRec}{mg mb:Str→Option Value}{fr:List Env}{prog:Program}{A:Around}{G G1:Gh}{st st' st1 st2:Bc.St}{locs:List Loc}{s s1:Shared}{env:Env}{cx:Cx}{x:Str}{a:AV}{h:Heap}{n:Nat}{R:Rc}{e:Expr}{d:PV}
theorem Rel.rename(T:Rel K w H0 fr G st locs h){i:Nat}{b oa:Option AV}{l:Loc}(hv:st.vars[i]? = some (x,b))(hl:locs[i]? = some l)(hs:SlotOk K w G h (x,oa) l) :
  Rel K w H0 fr G ⟨st.vars.set i (x,oa),st.cells⟩ locs h:=by
 refine ⟨T.base,T.dom,T.len,T.cells,T.sep,T.lt,by simpa using T.nloc,fun j q l' e1 e2=>?_,T.own,T.dis,T.frames⟩
 rcases get?_set_cases e1 with ⟨rfl,rfl⟩ | ⟨_,e1⟩
 ·rw [hl] at e2;cases e2;exact hs
 ·exact T.slot j q l' e1 e2
theorem Here.pred(H:Here K w H0 (n+1) cx st A fr env G locs s):Here K w H0 n cx st A fr env G locs s:=⟨H.rm.pred,H.hh,H.hf,H.E,H.T⟩
theorem Here.next(H:Here K w H0 n cx st A fr env G locs s)(v:vnm st1.vars=vnm st.vars)(T:Rel K w H0 fr G1 st1 locs s1.heap):Here K w H0 n cx st1 A fr env G1 locs s1:=⟨H.rm,H.hh,H.hf,H.E.of_names v,T⟩
theorem evName_at(e:evName fns cx x st=some (a,st')):(st'=st∧isLocalK (cx.names.lookup x)=true∧getV x st.vars=some a)∨∃y,a=.pv (.glb y) :=
 bifF e fun z_ e=>obE e fun k hq e=>by
  refine rwE hq ?_
  cases k with
  | «local»=>exact obE e fun b hb e=>cz4 e (.inl ⟨rfl,rfl,hb⟩)
  |cell=>exact obE e fun b hb e=>cz4 e (.inl ⟨rfl,rfl,hb⟩)
  |free=>exact bifF e fun z_ e=>obE e fun b hb e=>cz4 e (.inl ⟨rfl,rfl,hb⟩)
  |globalImplicit=>exact bifT e fun z_ e=>cz4 e (.inr ⟨_,rfl⟩)
  |globalExplicit=>exact cz0 e
theorem forIn_stay{α β:Type}{f:α→β→Sem (ForInStep β)}(c:β)(h:∀x,f x c=pure (.yield c)):∀l:List α,forIn l c f=pure c
 |[]=>by refine rwE List.forIn_nil rfl
 |x::r=>by rw [List.forIn_cons,h x,pure_bind];exact forIn_stay c h r
theorem names_nmV{vs:Vars}:vnm (nmV e d vs)=vnm vs:=by
 unfold nmV
 cases nameE e with
 |none=>rfl
 |some x=>exact names_setV _
theorem evP0_names(I:SndE prog K w H0 fns n R)(q:evP0 R cx e st=some (d,st')):vnm st'.vars=vnm st.vars :=
 obE2 q fun a st1 h1 q=>by
  have hv:=I.vars _ _ _ _ _ h1
  cases a with
  |pv d1=>exact cz4 (P:=fun z_ st'=>vnm st'.vars=vnm st.vars) q hv
  |cell k=>exact obE2 q fun d1 cs h2 q=>cz4 (P:=fun z_ st'=>vnm st'.vars=vnm st.vars) q (names_nmV.trans hv)
  |exn _=>exact cz0 q
theorem rename_ok(E:EnvOk cx env st.vars locs)(T:Rel K w H0 fr G ⟨st.vars,st1.cells⟩ locs h){k:Nat}{v:Value}(hk:isLocalK (cx.names.lookup x)=true)(hg:getV x st.vars=some (.cell k))
  (same:∀u,RepA K w G h u (.cell k)→u=v) (r:Rep K w h G.fz v d):Rel K w H0 fr G ⟨setV x (.pv d) st.vars,st1.cells⟩ locs h:=by
 refine xE12 (getV_fix hg) fun i f hi=>xE12 (E.at_ x i hk f) fun l hl z_=>?_
 have S1:=T.slot i _ l hi hl
 refine rwE (setV_fix f) ?_
 refine T.rename (st:=⟨st.vars,st1.cells⟩) hi hl ?_
 cases l with
 |dict L y =>
  obtain ⟨e,m,n',f⟩:=S1
  exact ⟨e,m,n',fun a ha=>let ⟨u,e1,e2⟩:=f _ rfl;⟨u,e1,cz5 (P:=fun a=>RepA K w G h u a) ha (same u e2▸r)⟩⟩
 |cell c =>
  refine xE12 S1 fun o n' f=>?_
  exact ⟨o,n',fun a ha=>let ⟨u,e1,e2⟩:=f _ rfl;⟨u,e1,cz5 (P:=fun a=>RepA K w G h u a) ha (same u e2▸r)⟩⟩
theorem evP0_ok(I:SndE prog K w H0 fns n R)(q:evP0 R cx e st=some (d,st'))(H:Here K w H0 n cx st A fr env G locs s) :
  W K w H0 fr prog A (eval e env) G st' locs s fun v G' h'=>Rep K w h' G'.fz v d :=
 obE2 q fun a st1 h1 q=>by
  have hev:=I.ev _ _ _ _ _ h1 A env fr G locs s H.rm H.hh H.hf H.E H.T
  cases a with
  |pv d1=>exact cz4 q hev
  |exn _=>exact cz0 q
  |cell k =>
   refine obE2 q fun d1 cs h2 q=>cz4 q (W.then hev fun v G1 s1 R1 X1 S1 r=>?_)
   refine xE13 (frz_ok R1 h2 r) fun G2 R2 X2 r2=>⟨G2,?_,X1.trans X2,S1,r2⟩
   unfold nmV
   cases hn:nameE e with
   |none=>exact R2
   |some x =>
    refine xE11 (nameE_some hn) fun p e_1=>?_;subst e_1
    rcases evName_at (I.nm _ _ _ _ _ _ h1) with ⟨hst,hk,hg⟩ | ⟨y,hy⟩
    ·subst hst
     exact rename_ok (st1:=⟨st1.vars,cs⟩) H.E R2 hk hg (fun u ⟨p,e1,e2⟩=>by
      refine xE12 r fun p' e1' e2'=>?_
      rw [X2.grow.at e1'] at e1
      refine rwE e2 (rwE e2' (rwE (Option.some.inj e1) rfl))) r2
    ·exact nomatch hy
theorem starEach_cons{r:List Expr}(hs:isS e=false):starEach (e::r) env=(false,eval e env)::starEach r env:=by
 cases e<;>first | exact rfl | exact cz3 hs
theorem evL_names{α:Type}{f:Expr→Bc.St→Option (α × Bc.St)}(hn:∀e st d st',f e st=some (d,st')→vnm st'.vars=vnm st.vars){es:List Expr}{ds:List α}{st st':Bc.St}(q:evL f es st=some (ds,st')):vnm st'.vars=vnm st.vars:=by
 induction es generalizing ds st with
 |nil=>exact evL_nil (P:=fun z_ st'=>vnm st'.vars=vnm st.vars) q rfl
 |cons e r ih=>exact evL_cons q fun z_ z_ z_ h1 h2 z_=>(ih h2).trans (hn _ _ _ _ h1)
theorem evL_ok{α:Type}{f:Expr→Bc.St→Option (α × Bc.St)}{ρ:Gh→Heap→Value→α→Prop}{Lρ:Gh→Heap→List Value→List α→Prop}{pos:Pos}(hn:∀e st d st',f e st=some (d,st')→vnm st'.vars=vnm st.vars)
  (hw:∀{e d st st' G s},f e st=some (d,st')→Here K w H0 n cx st A fr env G locs s→W K w H0 fr prog A (eval e env) G st' locs s fun v G' h'=>ρ G' h' v d)
  (hnil:∀G h,Lρ G h [] []) (hcons:∀{G h G' h' v d vs ds},Ext fr G h G' h' None_→ρ G h v d→Lρ G' h' vs ds→Lρ G' h' (v::vs) (d::ds)) {es:List Expr} {ds:List α} {st st':Bc.St} {G:Gh} {s:Shared} (q:evL f es st=some (ds,st')) (hs:es.any isS=false)
  (H:Here K w H0 n cx st A fr env G locs s):W K w H0 fr prog A (spliced (backTo pos (starEach es env))) G st' locs s fun vs G' h'=>Lρ G' h' vs ds:=by
 induction es generalizing ds st G s with
 |nil=>exact evL_nil (P:=fun ds st'=>W K w H0 fr prog A (spliced (backTo pos (starEach [] env))) G st' locs s fun vs G' h'=>Lρ G' h' vs ds) q (wpAny_items_nil (Out.here H.T (hnil _ _)))
 |cons e r ih =>
  refine evL_cons q fun d st1 ds' h1 h2 e=>?_
  have hs:=Bool.or_eq_false_iff.mp hs
  exact rwE e (wpAny_items_cons (W.then (hw h1 H) fun v G1 s1 R1 X1 S1 p=>W.then (ih h2 hs.2 (H.next (hn _ _ _ _ h1) R1)) fun vs G2 s2 R2 X2 S2 p2=>⟨G2,R2,X1.trans X2,S1.trans S2,hcons X2 p p2⟩) (starEach_cons hs.1))
theorem sizeOk{n:Nat}(h:n≤2000):n≤sizeLine:=by refine rwE sizeLine_eq ?_;omega
theorem newF_list(T:Rel K w H0 fr G st locs s.heap){vs:List Value}{l:List PV}(r:RepL K w s.heap G.fz vs l) :
  Out K w H0 fr G s st locs (fun G' h'=>Rep K w h' G'.fz (.ref s.heap.objs.size) (.lst l)) { s with heap:=s.heap.push { cls:=.type "list",data:=.seq vs.toArray } }:=by
 obtain ⟨T1,X1⟩:=T.pushF (o:={ cls:=.type "list",data:=.seq vs.toArray }) rfl
 exact Out.ofH T1 X1 (.lst (.inr rfl) (Heap.get?_push_size _ rfl) (RepL.mono X1.fz r))
theorem newF_tuple(T:Rel K w H0 fr G st locs s.heap){vs:List Value}{l:List PV}(r:RepL K w s.heap G.fz vs l) :
  Out K w H0 fr G s st locs (fun G' h'=>Rep K w h' G'.fz (.ref s.heap.objs.size) (.tup l)) { s with heap:=s.heap.push { cls:=.type "tuple",data:=.seq vs.toArray } }:=by
 obtain ⟨T1,X1⟩:=T.pushF (o:={ cls:=.type "tuple",data:=.seq vs.toArray }) rfl
 exact Out.ofH T1 X1 (.tup (.inr rfl) (Heap.get?_push_size _ rfl) (RepL.mono X1.fz r))
theorem ePn(I:SndE prog K w H0 fns n R)(q:evP R cx e st=some (d,st')):vnm st'.vars=vnm st.vars:=by
 unfold evP at q
 refine Bc.optE (listE e) (fun hl=>?_) fun es hl=>?_
 ·rw [hl] at q;exact evP0_names I q
 ·rw [hl] at q;exact bifF q fun z_ q=>obE2 q fun ds st1 h1 q=>cz4 (P:=fun z_ st'=>vnm st'.vars=vnm st.vars) q (evL_names (fun z_ z_ z_ z_=>evP0_names I) h1)
theorem evPs_names(I:SndE prog K w H0 fns n R){es:List Expr}{ds:List PV}(q:evPs R cx es st=some (ds,st')):vnm st'.vars=vnm st.vars:=evL_names (fun z_ z_ z_ z_=>ePn I) q
theorem len_le{a b:Nat}(h:decide (b < a)=false):a≤b:=Nat.not_lt.mp (of_decide_eq_false h)
theorem evP_ok(I:SndE prog K w H0 fns n R)(q:evP R cx e st=some (d,st'))(H:Here K w H0 n cx st A fr env G locs s) :
  W K w H0 fr prog A (eval e env) G st' locs s fun v G' h'=>Rep K w h' G'.fz v d:=by
 unfold evP at q
 refine Bc.optE (listE e) (fun hl=>?_) fun es hl=>?_
 ·rw [hl] at q;exact evP0_ok I q H
 ·
  rw [hl] at q
  refine xE11 (listE_some hl) fun p e_1=>?_;subst e_1
  refine bifF q fun hs q=>obE2 q fun ds st1 h1 q=>cz4 q ?_
  have hs:=Bool.or_eq_false_iff.mp hs
  refine wpAny_List (W.then (evL_ok (Lρ:=fun G h=>RepL K w h G.fz) (fun z_ z_ z_ z_=>evP0_names I) (evP0_ok I) (fun z_ z_=>.nil) (fun X p r=>.cons (Rep.mono X.fz p) r) h1 hs.1 H) fun vs G1 s1 T1 X1 S1 r=>?_)
  exact ⟨sizeOk (Nat.le_trans (Nat.le_of_eq (r.length.trans (evL_len h1))) (Nat.le_trans (len_le hs.2) (by decide))),Out.comp X1 S1 (newF_list T1 r)⟩
theorem evPs_ok(I:SndE prog K w H0 fns n R){pos:Pos}{es:List Expr}{ds:List PV}(q:evPs R cx es st=some (ds,st'))(hs:es.any isS=false)(H:Here K w H0 n cx st A fr env G locs s) :
  W K w H0 fr prog A (spliced (backTo pos (starEach es env))) G st' locs s fun vs G' h'=>RepL K w h' G'.fz vs ds :=
 evL_ok (Lρ:=fun G h=>RepL K w h G.fz) (fun z_ z_ z_ z_=>ePn I) (evP_ok I) (fun z_ z_=>.nil) (fun X p r=>.cons (Rep.mono X.fz p) r) q hs H
theorem asPVE{a:AV}{d:PV}(h:asPV a=some d):a=.pv d:=by
 cases a with
 |pv d=>exact cz5 h rfl
 |_=>exact cz0 h
theorem asBoolE{d:PV}{b:Bool}(h:asBool d=some b):d=.bool b:=by
 cases d with
 |bool b=>exact cz5 h rfl
 |_=>exact cz0 h
theorem evT_ev{b:Bool}(q:evT R cx e st=some (b,st')):R.ev cx e st=some (.pv (.bool b),st') :=
 obE2 q fun a st1 h1 q=>obE q fun d h2 q=>obE q fun c h3 q=>cz4 (P:=fun b st'=>R.ev cx e st=some (.pv (.bool b),st')) q (by have e2:=asPVE h2;have e3:=asBoolE h3;dsimp only at e2;subst e2;refine Bc.rwB e3 ?_;exact h1)
theorem evT_names(I:SndE prog K w H0 fns n R){b:Bool}(q:evT R cx e st=some (b,st')):vnm st'.vars=vnm st.vars:=I.vars _ _ _ _ _ (evT_ev q)
theorem evT_ok(I:SndE prog K w H0 fns n R){b:Bool}(q:evT R cx e st=some (b,st'))(H:Here K w H0 n cx st A fr env G locs s) :
  W K w H0 fr prog A (isTrue e env (eval e env)) G st' locs s (fun v z_ z_=>v=b)∧W K w H0 fr prog A (eval e env) G st' locs s (fun v z_ z_=>v=.bool b) :=
 ⟨I.tr _ _ _ _ _ (evT_ev q) A env fr G locs s H.rm H.hh H.hf H.E H.T,W.mono (I.ev _ _ _ _ _ (evT_ev q) A env fr G locs s H.rm H.hh H.hf H.E H.T) fun v G1 h1 r=>Rep.inv r⟩
theorem evAnd_names(I:SndE prog K w H0 fns n R){es:List Expr}{b:Bool}{st st':Bc.St}(q:evAnd R cx es st=some (b,st')):vnm st'.vars=vnm st.vars:=by
 induction es generalizing st with
 |nil=>exact cz4 (P:=fun z_ st'=>vnm st'.vars=vnm st.vars) q rfl
 |cons e r ih =>
  refine obE2 q fun b st1 h1 q=>?_
  cases b with
  |true=>exact (ih q).trans (evT_names I h1)
  |false=>exact cz4 (P:=fun z_ st'=>vnm st'.vars=vnm st.vars) q (evT_names I h1)
theorem evOr_names(I:SndE prog K w H0 fns n R){es:List Expr}{b:Bool}{st st':Bc.St}(q:evOr R cx es st=some (b,st')):vnm st'.vars=vnm st.vars:=by
 induction es generalizing st with
 |nil=>exact cz4 (P:=fun z_ st'=>vnm st'.vars=vnm st.vars) q rfl
 |cons e r ih =>
  refine obE2 q fun b st1 h1 q=>?_
  cases b with
  |false=>exact (ih q).trans (evT_names I h1)
  |true=>exact cz4 (P:=fun z_ st'=>vnm st'.vars=vnm st.vars) q (evT_names I h1)
theorem boolOp_step{pos:Pos}{op:BoolOp}{e2:Expr}{r2:List Expr}{b c:Bool}(w1:W K w H0 fr prog A (eval e env) G st1 locs s (fun v z_ z_=>v=.bool c))
  (hc:(match op,c with
   | .And,false=>b=c∧st'=st1
   | .Or,true=>b=c∧st'=st1
   |_,_=>∀G1 s1,Rel K w H0 fr G1 st1 locs s1.heap→W K w H0 fr prog A (boolOp pos op (evalEach (e2::r2) env)) G1 st' locs s1 (fun v z_ z_=>v=.bool b))) :
  W K w H0 fr prog A (boolOp pos op (evalEach (e::e2::r2) env)) G st' locs s (fun v z_ z_=>v=.bool b):=by
 show wpAny _ _ (do
  let v ← eval e env
  standAt pos
  let t ← holding [v] (truthy v)
  match op,t with
  | .And,false | .Or,true=>pure v
  |_,_=>boolOp pos op (evalEach (e2::r2) env)) _ _ _
 refine wpAny_bind (W.then w1 fun v G1 s1 R1 X1 S1 p=>?_)
 subst p
 refine wpAny_bind (wpAny_standAt (wpAny_bind (wpAny_holding (wpAny_truthy_bool ?_))))
 cases op<;>cases c<;>first | (obtain ⟨rfl,rfl⟩:=hc;exact wpAny_pure ⟨G1,R1,X1,S1,rfl⟩) | exact W.comp X1 S1 (hc G1 s1 R1)
structure AndOk(prog:Program)(K:Frag)(w:World)(H0:Heap)(fr:List Env)(A:Around)(env:Env)(locs:List Loc)(es:List Expr)(G:Gh)(s:Shared)(b:Bool)(st':Bc.St):Prop where
 x:W K w H0 fr prog A (allTrue .And es env) G st' locs s (fun v z_ z_=>v=b)
 y:∀pos,es≠[]→W K w H0 fr prog A (boolOp pos .And (evalEach es env)) G st' locs s (fun v z_ z_=>v=.bool b)
 z:W K w H0 fr prog A (forIn es true fun c r=>if r=true then do let ok ← isTrue c env (eval c env);pure (ForInStep.yield ok) else pure (ForInStep.yield r)) G st' locs s (fun v z_ z_=>v=b)
structure OrOk(prog:Program)(K:Frag)(w:World)(H0:Heap)(fr:List Env)(A:Around)(env:Env)(locs:List Loc)(es:List Expr)(G:Gh)(s:Shared)(b:Bool)(st':Bc.St):Prop where
 x:W K w H0 fr prog A (allTrue .Or es env) G st' locs s (fun v z_ z_=>v=b)
 y:∀pos,es≠[]→W K w H0 fr prog A (boolOp pos .Or (evalEach es env)) G st' locs s (fun v z_ z_=>v=.bool b)
theorem evAnd_ok(I:SndE prog K w H0 fns n R){es:List Expr}{b:Bool}{st st':Bc.St}{G:Gh}{s:Shared}(q:evAnd R cx es st=some (b,st'))(H:Here K w H0 n cx st A fr env G locs s) :
  AndOk prog K w H0 fr A env locs es G s b st':=by
 induction es generalizing st G s with
 |nil=>exact cz4 q ⟨wpAny_allTrue_And_nil (Out.here H.T rfl),fun z_ h=>absurd rfl h,wpAny_pure (Out.here H.T rfl)⟩
 |cons e r ih =>
  refine obE2 q fun c st1 h1 q=>?_
  have w1:=evT_ok I h1 H
  cases c with
  |true =>
   have ih:∀{G1:Gh} {s1:Shared},Rel K w H0 fr G1 st1 locs s1.heap→AndOk prog K w H0 fr A env locs r G1 s1 b st':=fun R1=>ih q (H.next (evT_names I h1) R1)
   refine ⟨wpAny_allTrue_And_cons (W.then w1.1 fun v G1 s1 R1 X1 S1 p=>rwE p (W.comp X1 S1 (ih R1).x)),fun pos z_=>?_,?_⟩
   ·cases r with
    |nil=>exact cz4 q w1.2
    |cons e2 r2=>exact boolOp_step w1.2 fun G1 s1 R1=>(ih R1).y pos (nomatch ·)
   ·rw [List.forIn_cons]
    refine wpAny_bind (wpAny_bind (W.then w1.1 fun v G1 s1 R1 X1 S1 p=>?_))
    subst p
    exact wpAny_pure (W.comp X1 S1 (ih R1).z)
  |false =>
   refine cz4 q ⟨wpAny_allTrue_And_cons (W.then w1.1 fun v G1 s1 R1 X1 S1 p=>rwE p ⟨G1,R1,X1,S1,rfl⟩),fun pos z_=>?_,?_⟩
   ·cases r with
    |nil=>exact w1.2
    |cons e2 r2=>exact boolOp_step (st':=st1) w1.2 ⟨rfl,rfl⟩
   ·rw [List.forIn_cons]
    refine wpAny_bind (wpAny_bind (W.then w1.1 fun v G1 s1 R1 X1 S1 p=>?_))
    subst p
    refine wpAny_pure ?_
    show wpAny _ _ (forIn r false _) _ _ _
    exact rwE (forIn_stay false (fun c=>rfl) r) (wpAny_pure ⟨G1,R1,X1,S1,rfl⟩)
theorem evOr_ok(I:SndE prog K w H0 fns n R){es:List Expr}{b:Bool}{st st':Bc.St}{G:Gh}{s:Shared}(q:evOr R cx es st=some (b,st'))(H:Here K w H0 n cx st A fr env G locs s) :
  OrOk prog K w H0 fr A env locs es G s b st':=by
 induction es generalizing st G s with
 |nil=>exact cz4 q ⟨wpAny_allTrue_Or_nil (Out.here H.T rfl),fun z_ h=>absurd rfl h⟩
 |cons e r ih =>
  refine obE2 q fun c st1 h1 q=>?_
  have w1:=evT_ok I h1 H
  cases c with
  |false =>
   have ih:∀{G1:Gh} {s1:Shared},Rel K w H0 fr G1 st1 locs s1.heap→OrOk prog K w H0 fr A env locs r G1 s1 b st':=fun R1=>ih q (H.next (evT_names I h1) R1)
   refine ⟨wpAny_allTrue_Or_cons (W.then w1.1 fun v G1 s1 R1 X1 S1 p=>rwE p (W.comp X1 S1 (ih R1).x)),fun pos z_=>?_⟩
   cases r with
   |nil=>exact cz4 q w1.2
   |cons e2 r2=>exact boolOp_step w1.2 fun G1 s1 R1=>(ih R1).y pos (nomatch ·)
  |true =>
   refine cz4 q ⟨wpAny_allTrue_Or_cons (W.then w1.1 fun v G1 s1 R1 X1 S1 p=>rwE p ⟨G1,R1,X1,S1,rfl⟩),fun pos z_=>?_⟩
   cases r with
   |nil=>exact w1.2
   |cons e2 r2=>exact boolOp_step (st':=st1) w1.2 ⟨rfl,rfl⟩
end
end Bc
namespace Bc
section
variable{K:Frag}{w:World}{h:Heap}{fz:Addr→Prop}
section
variable{v:Value}{P:Value→Prop}{β:Type}{y:β}{a:PV}
@[elab_as_elim] theorem riE{i:Int}(r:Rep K w h fz v (.int i))(k:∀t,P (.int i t)):P v:=let ⟨t,e⟩:=rep_int r;e▸k t
@[elab_as_elim] theorem rsE{i:Str}(r:Rep K w h fz v (.str i))(k:∀t,P (.str i t)):P v:=let ⟨t,e⟩:=rep_str r;e▸k t
@[elab_as_elim] theorem rlE{l:List PV}(r:Rep K w h fz v (.lst l))(k:∀a vs n,fz a→h.get? a=some { cls:=.type "list",data:=.seq vs.toArray n }→RepL K w h fz vs l→P (.ref a)):P v :=
 let ⟨a,vs,n,e,f,g,r⟩:=rep_lst r;e▸k a vs n f g r
@[elab_as_elim] theorem rtE{l:List PV}(r:Rep K w h fz v (.tup l))(k:∀a vs n,fz a→h.get? a=some { cls:=.type "tuple",data:=.seq vs.toArray n }→RepL K w h fz vs l→P (.ref a)):P v :=
 let ⟨a,vs,n,e,f,g,r⟩:=rep_tup r;e▸k a vs n f g r
@[elab_as_elim] theorem rInt{f:Int→Option β}(e:ob (asInt a) f=some y)(r:Rep K w h fz v a)(k:∀i t,f i=some y→P (.int i t)):P v :=
 obE e fun i h1 h2=>by have q:=asIntE h1;subst q;exact riE (P:=P) r fun t=>k i t h2
@[elab_as_elim] theorem rStr{f:Str→Option β}(e:ob (asStr a) f=some y)(r:Rep K w h fz v a)(k:∀i t,f i=some y→P (.str i t)):P v :=
 obE e fun i h1 h2=>by have q:=asStrE h1;subst q;exact rsE (P:=P) r fun t=>k i t h2
@[elab_as_elim] theorem rLst{f:List PV→Option β}(e:ob (asLst a) f=some y)(r:Rep K w h fz v a)(k:∀l a vs n,fz a→h.get? a=some { cls:=.type "list",data:=.seq vs.toArray n }→RepL K w h fz vs l→f l=some y→P (.ref a)):P v :=
 obE e fun l h1 h2=>by have q:=asLstE h1;subst q;exact rlE (P:=P) r fun a vs n f g r=>k l a vs n f g r h2
@[elab_as_elim] theorem rTup{f:List PV→Option β}(e:ob (asTup a) f=some y)(r:Rep K w h fz v a)(k:∀l a vs n,fz a→h.get? a=some { cls:=.type "tuple",data:=.seq vs.toArray n }→RepL K w h fz vs l→f l=some y→P (.ref a)):P v :=
 obE e fun l h1 h2=>by have q:=asTupE h1;subst q;exact rtE (P:=P) r fun a vs n f g r=>k l a vs n f g r h2
@[elab_as_elim] theorem rDct{f:List (Str × PV)→Option β}(e:ob (asDct a) f=some y)(r:Rep K w h fz v a)(k:∀l a vs n,fz a→h.get? a=some (dictOf vs n)→RepE K w h fz vs l→a≠sysModules→f l=some y→P (.ref a)):P v :=
 obE e fun l h1 h2=>let ⟨a,vs,n,e,f,g,r,ns⟩:=rep_dct (asDctE h1▸r);e▸k l a vs n f g r ns h2
@[elab_as_elim] theorem rArg1{ds:List PV}{us:List Value}{Q:List Value→Prop}{f:PV→Option β}(e:ob (arg1 ds) f=some y)(r:RepL K w h fz us ds)(k:∀d u,Rep K w h fz u d→f d=some y→Q [u]):Q us :=
 obE e fun d h1 h2=>let ⟨u,e,r⟩:=rep_one (arg1E h1▸r);e▸k d u r h2
@[elab_as_elim] theorem rArg2{ds:List PV}{us:List Value}{Q:List Value→Prop}{f:PV × PV→Option β}(e:ob (arg2 ds) f=some y)(r:RepL K w h fz us ds)(k:∀d c u z,Rep K w h fz u d→Rep K w h fz z c→f (d,c)=some y→Q [u,z]):Q us:=by
 refine obE e fun d h1 h2=>?_
 have q:=arg2E h1
 subst q
 refine xE23 (rep_cons r) fun u us' e1 r1 r2=>?_
 refine xE12 (rep_one r2) fun z e r3=>?_
 refine Bc.rwE e1 ?_;refine Bc.rwE e ?_;exact k _ _ _ z r1 r3 h2
end
theorem reads_of{v:Value}{d:PV}{p:PyData}(r:Rep K w h fz v d)(e:toPy d=some p):∃as,Reads h v p as :=
 Rep.rec (motive_1:=fun v d z_=>∀p,toPy d=some p→∃as,Reads h v p as) (motive_2:=fun vs ds z_=>∀ps,toPyL ds=some ps→∃as,ReadsAll h vs ps as) (motive_3:=fun z_ z_ z_=>True)
  (fun p e=>cz5 (P:=fun p=>∃as,Reads h .none p as) e ⟨_,Reads.none⟩) (fun b p e=>cz5 (P:=fun p=>∃as,Reads h (.bool b) p as) e ⟨_,Reads.bool b⟩)
  (fun i t p e=>cz5 (P:=fun p=>∃as,Reads h (.int i t) p as) e ⟨_,Reads.int i t⟩) (fun x t p e=>cz5 (P:=fun p=>∃as,Reads h (.str x t) p as) e ⟨_,Reads.str x t⟩)
  (fun {a _ _ _} _ g _ ih p e=>obE e fun q hq e=>cz5 (P:=fun p=>∃as,Reads h (.ref a) p as) e (let ⟨as,ra⟩:=ih q hq;⟨as,reads_tuple_at g rfl rfl (by simpa using ra)⟩))
  (fun {a _ _ _} _ g _ ih p e=>obE e fun q hq e=>cz5 (P:=fun p=>∃as,Reads h (.ref a) p as) e (let ⟨as,ra⟩:=ih q hq;⟨_,reads_list_at g rfl rfl (by simpa using ra)⟩))
  (fun z_ z_ z_ z_ z_ z_ e=>cz0 e) (fun z_ z_ z_ z_ z_ z_ z_ z_ e=>cz0 e) (fun z_ z_ z_ z_ e=>cz0 e) (fun z_ z_ e=>cz0 e)
  (fun ps e=>cz5 (P:=fun ps=>∃as,ReadsAll h [] ps as) e ⟨_,.nil⟩)
  (fun {v _ vs _} _ _ i1 i2 ps e=>obE e fun p h1 e=>obE e fun q h2 e=>cz5 (P:=fun ps=>∃as,ReadsAll h (v::vs) ps as) e (let ⟨_,ra⟩:=i1 p h1;let ⟨_,rb⟩:=i2 q h2;⟨_,ReadsAll.cons ra rb⟩))
  trivial (fun z_ z_ z_ z_=>trivial) r p e
theorem strs_are{vs:List Value}{ds:List PV}{ss:List Str}(r:RepL K w h fz vs ds):strsOf ds=some ss→StrsAre vs ss :=
 r.ind (Q:=fun vs ds=>∀ss,strsOf ds=some ss→StrsAre vs ss) (fun ss e=>cz5 (P:=fun ss=>StrsAre [] ss) e .nil)
  (fun {v d vs ds} a _ ih ss e=>rStr (P:=fun v=>StrsAre (v::vs) ss) e a fun x t e=>obE e fun l h1 e=>cz5 (P:=fun ss=>StrsAre (.str x t::vs) ss) e (.cons x t (ih l h1))) ss
theorem strIn_strs{s:Str}{ds:List PV}{b:Bool}(e:strIn s ds=some b):∃ss,strsOf ds=some ss∧ss.any (·==s)=b:=by
 induction ds generalizing b with
 |nil=>exact cz5 (P:=fun b=>∃ss,strsOf []=some ss∧ss.any (·==s)=b) e ⟨[],rfl,rfl⟩
 |cons d r ih =>
  refine obE e fun x h1 e=>obE e fun c h2 e=>cz5 (P:=fun b=>∃ss,strsOf (d::r)=some ss∧ss.any (·==s)=b) e (xE12 (ih h2) fun ss h3 h4=>⟨x::ss,?_,?_⟩)
  ·show ob (asStr d) _=_
   rw [h1];show ob (strsOf r) _=_
   rw [h3];rfl
  ·rw [List.any_cons,h4]
   exact congrArg (·||c) (by rw [Bool.eq_iff_iff,beq_iff_eq,beq_iff_eq];exact eq_comm)
theorem joined_eq{α:Type}(l:Array α):∀n,(List.foldl (fun x1 x2=>x1++x2) #[] (List.replicate n l)).toList=repL l.toList n:=by
 have key:∀n (acc:Array α),(List.foldl (fun x1 x2=>x1++x2) acc (List.replicate n l)).toList=acc.toList++repL l.toList n:=by
  intro n
  induction n with
  |zero=>intro acc;simp [repL]
  |succ n ih=>intro acc;rw [List.replicate_succ,List.foldl_cons,ih];simp [repL]
 intro n;rw [key];rfl
theorem repL_nil{α:Type}:∀n,repL ([]:List α) n=[]
 |0=>rfl
 |n+1=>by rw [repL,repL_nil n];rfl
end
section
variable{K:Frag}{w:World}{H0:Heap}{fns:List DefRec}{mg mb:Str→Option Value}{fr:List Env}{prog:Program}{A:Around}{G:Gh}{st st' st1:Bc.St}{locs:List Loc}{s:Shared}{env:Env}{cx:Cx}{x:Str}{h:Heap}{n:Nat}{u v:Value}{a b d:PV}
theorem add1000{a b:Nat}(h1:a≤1000)(h2:b≤1000):a+b≤2000:=by omega
theorem mul1000{a:Nat}{n:Int}(h1:a≤1000)(h2:n≤1000):a * n.toNat≤1000 * 1000:=Nat.mul_le_mul h1 (by exact Int.toNat_le.mpr h2)
theorem small9{j:Int}(h:0 < j∧j < 1000000000):j.natAbs < 1073741824:=by omega
theorem div1000{n:Int}(h1:1≤n)(h2:n≤1000):(1000:Int)≤(2 ^ 63 - 1) / n:=(Int.le_ediv_iff_mul_le h1).mpr (by omega)
theorem rep_arr{α:Type}(vs:List α)(n:Nat):(List.foldl (fun x1 x2=>x1++x2) #[] (List.replicate (if vs.toArray.isEmpty=true then 0 else n) vs.toArray))=(repL vs n).toArray:=by
 apply Array.ext'
 rw [joined_eq]
 cases vs with
 |nil=>simp [repL,repL_nil]
 |cons v r=>rfl
theorem smallI_lt{i:Int}(h:smallI i=true):i.natAbs < 2 ^ 62:=of_decide_eq_true h
theorem add_ok(e:addPV a b=some d)(T:Rel K w H0 fr G st locs s.heap)(ra:Rep K w s.heap G.fz u a)(rb:Rep K w s.heap G.fz v b) :
  W K w H0 fr prog A (binaryOp .Add u v) G st locs s fun r G' h'=>Rep K w h' G'.fz r d:=by
 refine ooE e (fun e=>?_) fun e=>ooE e (fun e=>?_) fun e=>?_
 ·refine rInt e ra fun i t e=>rInt e rb fun j t' e=>cz5 e ?_
  exact PyProof.Rows.add_int (Out.tok T (.int _ _))
 ·refine rStr e ra fun i t e=>rStr e rb fun j t' e=>gdE e fun hs=>?_
  have hs:=of_decide_eq_true hs
  exact PyProof.Rows.add_str (fun t' tk=>Out.tok T (.str _ _)) (sizeOk (add1000 hs.1 hs.2))
 ·refine rLst e ra fun x p vs n1 f1 g1 r1 e=>rLst e rb fun y q ws n2 f2 g2 r2 e=>gdE e fun hs=>?_
  have hs:=of_decide_eq_true hs
  rw [← r1.length,← r2.length] at hs
  refine P.add_list g1 g2 ?_ (sizeOk (add1000 hs.1 hs.2))
  rw [List.append_toArray]
  exact newF_list T (r1.append r2)
theorem mul_ok(e:mulPV a b=some d)(T:Rel K w H0 fr G st locs s.heap)(ra:Rep K w s.heap G.fz u a)(rb:Rep K w s.heap G.fz v b) :
  W K w H0 fr prog A (binaryOp .Mult u v) G st locs s fun r G' h'=>Rep K w h' G'.fz r d:=by
 refine ooE e (fun e=>?_) fun e=>ooE e (fun e=>?_) fun e=>?_
 ·refine rInt e ra fun i t e=>rInt e rb fun j t' e=>gdE e fun hs=>?_
  have h1:=smallI_lt (Bool.and_eq_true_iff.mp hs).1
  have h2:=smallI_lt (Bool.and_eq_true_iff.mp hs).2
  exact PyProof.Rows.mul_int (Out.tok T (.int _ _))
 ·refine rLst e ra fun l p vs n1 f1 g1 r1 e=>rInt e rb fun x t' e=>gdE e fun hs=>?_
  have hs:=of_decide_eq_true hs
  rw [← r1.length] at hs
  have hm:=mul1000 hs.1 hs.2.2
  refine wpAny_binaryOp_repeat_ref (T:="list") (U:="int") (by decide) ⟨_,g1,rfl⟩ (fun s'=>typeIs_int s' x t') noFill_list_mul F.fills_int_mul F.slot_int_rmul repeat_list F.slot_int_index.lookup
   (call_meets F.slot_int_rmul (typeIs_int s x t') F.entry_int_rmul (F.args_int_rmul_2 _ _) (int___rmul___int_list x t' p vs.toArray n1)
    ⟨g1,rfl,⟨_,g1,rfl⟩,call_meets F.slot_list_mul ⟨_,g1,rfl⟩ F.entry_list_mul (F.args_list_mul_2 _ _)
     (AutoListH.list___mul___list_int_3 p vs.toArray n1 x t' (by simp [Builtin.List.listFitsIndex];omega) (by rw [List.size_toArray];omega) (by simp [Builtin.List.listTooLong,sizeLine];omega)) ⟨g1,?_⟩⟩)
  rw [rep_arr]
  exact newF_list T (r1.rep x.toNat)
 ·refine rStr e ra fun x t e=>rInt e rb fun n t' e=>gdE e fun hs=>?_
  have hs:=of_decide_eq_true hs
  have hm:=mul1000 hs.1 hs.2.2
  refine SB.mul ⟨?_,fun h1 z_=>?_,fun z_ z_=>?_⟩ fun t' k=>Out.tok T (.str _ _)
  ·rw [Bool.or_eq_false_iff];exact ⟨decide_eq_false (by omega),decide_eq_false (by omega)⟩
  ·exact Int.not_lt.mpr (Int.le_trans (Int.ofNat_le.mpr hs.1) (div1000 (Int.not_lt.mp h1) hs.2.2))
  ·unfold Builtin.Str.tooLong
   exact decide_eq_false (by refine rwE sizeLine_eq ?_;omega)
theorem bin_ok{op:Operator}(e:binPV op a b=some d)(T:Rel K w H0 fr G st locs s.heap)(ra:Rep K w s.heap G.fz u a)(rb:Rep K w s.heap G.fz v b) :
  W K w H0 fr prog A (binaryOp op u v) G st locs s fun r G' h'=>Rep K w h' G'.fz r d:=by
 cases op with
 |Add=>exact add_ok e T ra rb
 |Mult=>exact mul_ok e T ra rb
 |Sub =>
  refine rInt e ra fun i t e=>rInt e rb fun j t' e=>cz5 e ?_
  exact PyProof.Rows.sub_int (Out.tok T (.int _ _))
 |FloorDiv =>
  refine rInt e ra fun i t e=>rInt e rb fun j t' e=>gdE e fun hb=>?_
  have hb:=of_decide_eq_true hb
  exact PyProof.Rows.floordiv_int (Int.ne_of_gt hb.1) (Out.tok T (.int _ _)) (.inl (PyProof.noPylong_small (small9 hb)))
 |Mod =>
  refine rInt e ra fun i t e=>rInt e rb fun j t' e=>gdE e fun hb=>?_
  exact PyProof.Rows.mod_int' (Int.ne_of_gt (of_decide_eq_true hb)) (Out.tok T (.int _ _))
 |Pow =>
  refine rInt e ra fun i t e=>rInt e rb fun j t' e=>gdE e fun hb=>?_
  refine xE03 (of_decide_eq_true hb) fun e_0 h0 h1=>?_;refine Bc.rwE e_0 ?_
  refine PyProof.Rows.pow_int h0 ?_ (Out.tok T (.int _ _))
  have:Builtin.Int.intBits 10=4:=by decide +kernel
  refine rwE this ?_;omega
 |_=>exact cz0 e
end
end Bc
namespace Bc
section
variable{K:Frag}{w:World}{H0:Heap}{fns:List DefRec}{mg mb:Str→Option Value}{fr:List Env}{prog:Program}{A:Around}{G:Gh}{st st' st1:Bc.St}{locs:List Loc}{s:Shared}{env:Env}{cx:Cx}{x:Str}{h:Heap}{fz:Addr→Prop}{n:Nat}{u v:Value}{a b d:PV}
theorem isStrOf_comm(x y:Str)(t:Tok):Value.isStrOf x (.str y t)=(x==y):=by
 show (y==x)=(x==y)
 rw [Bool.eq_iff_iff,beq_iff_eq,beq_iff_eq];exact eq_comm
theorem getL_cons{y:Str}{t:Tok}{v0:Value}{es:List DictEntry}:getL x ((⟨PyData.keyHash w.params y,Value.str y t,v0⟩:DictEntry)::es)=bif x==y then some (some v0) else getL x es:=by
 have hk:(((⟨PyData.keyHash w.params y,Value.str y t,v0⟩:DictEntry)::es).any fun z=>z.refKey)=es.any fun z=>z.refKey:=by rw [List.any_cons];rfl
 unfold getL
 refine rwE hk (rwE (List.find?_cons) ?_)
 dsimp only
 rw [isStr_of,isStrOf_comm]
 cases x==y<;>rfl
theorem findBy_cons{y:Str}{t:Tok}{v0:Value}{es:List DictEntry}:findBy Value.isStrOf ((⟨PyData.keyHash w.params y,Value.str y t,v0⟩:DictEntry)::es).toArray x=bif x==y then some v0 else findBy Value.isStrOf es.toArray x:=by
 unfold findBy
 rw [List.find?_toArray,List.find?_cons,List.find?_toArray]
 dsimp only
 rw [isStrOf_comm]
 cases x==y<;>rfl
theorem lookA_cons{α:Type}{y:Str}{d:α}{r:List (Str × α)}:lookA x ((y,d)::r)=bif x==y then some d else lookA x r:=by
 show (if x==y then some d else lookA x r)=_
 cases x==y<;>rfl
theorem findL{es:List DictEntry}{fs:List (Str × PV)}(r:RepE K w h fz es fs):(∀d,lookA x fs=some d→∃v,findBy Value.isStrOf es.toArray x=some v∧Rep K w h fz v d∧getL x es=some (some v)) ∧
  (lookA x fs=none→findBy Value.isStrOf es.toArray x=none∧getL x es=some none) :=
 r.ind (Q:=fun es fs=>(∀d,lookA x fs=some d→∃v,findBy Value.isStrOf es.toArray x=some v∧Rep K w h fz v d∧getL x es=some (some v))∧(lookA x fs=none→findBy Value.isStrOf es.toArray x=none∧getL x es=some none))
  ⟨fun d e=>cz0 e,fun _=>⟨rfl,rfl⟩⟩ fun {y t v d es fs} a _ ih=>by
   refine rwE lookA_cons (rwE findBy_cons (rwE getL_cons ?_))
   cases x==y with
   |true=>exact ⟨fun d' e=>cz5 (P:=fun d'=>∃u,some v=some u∧Rep K w h fz u d'∧some (some v)=some (some u)) e ⟨v,rfl,a,rfl⟩,fun e=>cz1 e⟩
   |false=>exact ih
theorem hasKey_look:∀(fs:List (Str × PV)),hasKey x fs=(lookA x fs).isSome
 |[]=>rfl
 |(y,d)::r=>by
  refine rwE lookA_cons ?_
  show (x==y||hasKey x r)=_
  refine rwE (hasKey_look r) ?_
  cases x==y<;>rfl
theorem keysOf_rep{es:List DictEntry}{fs:List (Str × PV)}(r:RepE K w h fz es fs):∀e∈es,∃k,(strKind prog w).is k e.key=true∧e.hash=(strKind prog w).hash k :=
 r.ind (Q:=fun es _=>∀e∈es,∃k,(strKind prog w).is k e.key=true∧e.hash=(strKind prog w).hash k) (fun _ m=>nomatch m) fun {y t _ _ _ _} _ _ ih e m=>(List.mem_cons.mp m).elim (fun q=>q▸⟨y,strKind_is prog w y t,rfl⟩) (ih e)
theorem mapOf_rep{a:Addr}{es:List DictEntry}{fs:List (Str × PV)}{n:Nat}(g:h.get? a=some (dictOf es n))(r:RepE K w h fz es fs):h.MapOf (strKind prog w) a (fun k=>findBy Value.isStrOf es.toArray k) :=
 ⟨_,es.toArray,n,g,⟨rfl,rfl,rfl⟩,rfl,fun e he=>keysOf_rep r e (Array.mem_toList_iff.mpr he),fun _=>rfl⟩
theorem room64(rm:Room A n):A.units+64 < cLine:=by have:=rm.units;show A.units+64 < 9900;omega
theorem eq_ok{c:Bool}(e:eqPV a b=some c)(rm:Room A n)(T:Rel K w H0 fr G st locs s.heap)(ra:Rep K w s.heap G.fz u a)(rb:Rep K w s.heap G.fz v b) :
  W K w H0 fr prog A (compareOp .Eq u v) G st locs s (fun r _ _=>r=.bool c)∧W K w H0 fr prog A (compareOp .NotEq u v) G st locs s (fun r _ _=>r=.bool (!c)) :=
 obE e fun p hp e=>obE e fun q hq e=>gdE (P:=fun c=>W K w H0 fr prog A (compareOp .Eq u v) G st locs s (fun r _ _=>r=.bool c)∧W K w H0 fr prog A (compareOp .NotEq u v) G st locs s (fun r _ _=>r=.bool (!c))) e fun hs =>
  let ⟨_,r1⟩:=reads_of ra hp
  let ⟨_,r2⟩:=reads_of rb hq
  let hs:=Bool.and_eq_true_iff.mp hs
  ⟨eq_dataH r1 r2 hs.1 hs.2 (room64 rm) (Out.here T rfl),ne_dataH r1 r2 hs.1 hs.2 (room64 rm) (Out.here T rfl)⟩
theorem rep_isNone(ra:Rep K w h fz u a)(hg:asGlb a=none):(u==Value.none)=isNoneP a :=
 Rep.casesOn (motive_1:=fun u a _=>asGlb a=none→(u==Value.none)=isNoneP a) ra (fun _=>rfl) (fun _ _=>rfl) (fun _ _ _=>rfl) (fun _ _ _=>rfl) (fun _ _ _ _=>rfl) (fun _ _ _ _=>rfl) (fun _ _ _ _ _=>rfl) (fun _ _ _ _ _ _ _=>rfl) (fun _ _ _ _=>rfl) (fun _ e=>nomatch e) hg
theorem is_ok{c:Bool}(e:isPV a b=some c)(T:Rel K w H0 fr G st locs s.heap)(ra:Rep K w s.heap G.fz u a)(rb:Rep K w s.heap G.fz v b) :
  W K w H0 fr prog A (compareOp .Is u v) G st locs s (fun r _ _=>r=.bool c)∧W K w H0 fr prog A (compareOp .IsNot u v) G st locs s (fun r _ _=>r=.bool (!c)) :=
 bifT e fun h e=>cz5 (P:=fun c=>W K w H0 fr prog A (compareOp .Is u v) G st locs s (fun r _ _=>r=.bool c)∧W K w H0 fr prog A (compareOp .IsNot u v) G st locs s (fun r _ _=>r=.bool (!c))) e (by
  have h:=Bool.and_eq_true_iff.mp h
  have hv:v=.none:=by
   have:b=.none:=by
    cases b with
    |none=>rfl
    |_=>exact cz2 h.1
   subst this;exact rep_none rb
  refine Bc.rwE hv ?_
  refine rwB (rep_isNone ra (Option.isNone_iff_eq_none.mp h.2)) ?_
  exact ⟨is_none (Out.here T rfl),isNot_none (Out.here T rfl)⟩)
theorem in_ok{c:Bool}(e:inPV a b=some c)(T:Rel K w H0 fr G st locs s.heap)(ra:Rep K w s.heap G.fz u a)(rb:Rep K w s.heap G.fz v b) :
  W K w H0 fr prog A (compareOp .In u v) G st locs s (fun r _ _=>r=.bool c)∧W K w H0 fr prog A (compareOp .NotIn u v) G st locs s (fun r _ _=>r=.bool (!c)):=by
 refine rStr e ra fun x t e=>ooE e (fun e=>?_) fun e=>?_
 ·refine rTup e rb fun l p vs n' f g r e=>?_
  refine xE12 (strIn_strs e) fun ss h1 h2=>?_
  refine Bc.rwB h2 ?_
  exact ⟨in_tuple_strs ⟨_,g,rfl,_,rfl⟩ (by simpa using strs_are r h1) (Out.here T rfl),notin_tuple_strs ⟨_,g,rfl,_,rfl⟩ (by simpa using strs_are r h1) (Out.here T rfl)⟩
 ·refine rDct e rb fun es p vs n' f g r ns e=>cz5 e ?_
  have hm:=mapOf_rep (prog:=prog) g r
  have hs:(findBy Value.isStrOf vs.toArray x).isSome=hasKey x es:=by
   rw [hasKey_look]
   have q:=findL (x:=x) r
   cases hl:lookA x es with
   |none=>refine rwE ((q.2 hl).1) ?_;rfl
   |some d=>obtain ⟨v,e,_⟩:=q.1 d hl;refine rwE e ?_;rfl
  refine rwB hs ?_
  exact ⟨wpAny_in_of (strKind_is prog w _ t) (by simpa using ns) hm (Out.tok T rfl),wpAny_notIn_of (strKind_is prog w _ t) (by simpa using ns) hm (Out.tok T rfl)⟩
theorem cmp_ok{op:CmpOp}{c:Bool}(e:cmpPV op a b=some c)(rm:Room A n)(T:Rel K w H0 fr G st locs s.heap)(ra:Rep K w s.heap G.fz u a)(rb:Rep K w s.heap G.fz v b) :
  W K w H0 fr prog A (compareOp op u v) G st locs s fun r _ _=>r=.bool c:=by
 cases op with
 |Eq=>exact (eq_ok e rm T ra rb).1
 |NotEq=>exact notOE e fun c e=>(eq_ok e rm T ra rb).2
 |Is=>exact (is_ok e T ra rb).1
 |IsNot=>exact notOE e fun c e=>(is_ok e T ra rb).2
 |In=>exact (in_ok e T ra rb).1
 |NotIn=>exact notOE e fun c e=>(in_ok e T ra rb).2
 |Lt=>exact rInt e ra fun i t e=>rInt e rb fun j t' e=>cz5 e (PyProof.Rows.lt_int (Out.here T rfl))
 |LtE=>exact rInt e ra fun i t e=>rInt e rb fun j t' e=>cz5 e (PyProof.Rows.le_int (Out.here T rfl))
 |Gt=>exact rInt e ra fun i t e=>rInt e rb fun j t' e=>cz5 e (PyProof.Rows.gt_int (Out.here T rfl))
 |GtE=>exact rInt e ra fun i t e=>rInt e rb fun j t' e=>cz5 e (PyProof.Rows.ge_int (Out.here T rfl))
end
end Bc
namespace Bc
section
variable{prog:Program}{w:World}{A:Around}{E:Value→Shared→Prop}{s:Shared}{K:Frag}{x C:Addr}{ox:Obj}{od:Option Obj}{name:Str}{expr:Bool}{Q:Value→Shared→Prop}{v:Value}
theorem exc_get(X:K.In s.heap)(I:InstAt s.heap x ox C od)(hga:findIn K (.ref C) "__getattribute__" = some (some (.builtin "BaseException.__getattribute__")))(hgh:findIn K (.ref C) "__getattr__" = some none)
  (hm:mroIn K C (.type "BaseException")=some true) (hf:findObj K C od name=some (.value v)) (hh:handedIn v=true) (h:Q v { s with toks:=s.toks+1 }):wpAny (model prog w) A (getAttr (.ref x) name expr) Q E s:=by
 obtain ⟨hp,g,d,t,os⟩:=s
 have L0:=I.type (M:=model prog w)
 have L2:=looks_findIn (M:=model prog w) X hgh
 have L3:=looks_find (M:=model prog w) X I hf
 have L4:=looks_mroIn (M:=model prog w) X hm
 have FB:=F.attrBase_Exception
 unfold getAttr getAttrBy
 refine wpAny_bind (wpAny_mkText (wpAny_holding (wpAny_bind (L0.at (wpAny_bind ((looks_findIn (M:=model prog w) X hga).at ?_))))))
 show wpAny _ _ (getAttrByItsOwn _ _ _ _ _ _) _ _ _
 unfold getAttrByItsOwn
 refine wpAny_bind ?_
 show wpAny _ _ (typeLookup (.ref C) "__getattr__") _ _ _
 refine L2.at (wpAny_bind (wpAny_attempt (wpAny_holding ?_)))
 have hx0:(expr&&onTheHeap (Value.builtin "BaseException.__getattribute__"))=false:=by cases expr<;>rfl
 unfold callGetattribute
 refine rwE hx0 ?_
 show wpAny _ _ (boundAndCalled _ _ _) _ _ _
 unfold boundAndCalled
 refine rwE (FB.ga.bind (.ref x)) ?_
 refine wpAny_bind (wpAny_pure ?_)
 show wpAny _ _ (call (.builtin "BaseException.__getattribute__") [.ref x,.str name t]) _ _ _
 have hk:builtinKind "BaseException.__getattribute__" = some .slot:=by decide +kernel
 have hsplit:splitId "BaseException.__getattribute__" = some ("BaseException","__getattribute__"):=by decide +kernel
 refine wpAny_call (codeAny_call_builtin FB.ga.plain F.entry_bexc_ga ?_)
 have ha:=F.args_bexc_ga (.ref x) (.str name t)
 simp only [checkBuiltinCall,hk,hsplit]
 refine wpAny_bind ?_
 unfold isInstance
 refine wpAny_bind (L0.at (L4.at ?_))
 refine rwE (if_neg (by decide)) ?_
 repeat (first | (with_reducible assumption) | wp_step)
 refine wpAny_loadPart_at I.at_ (wpAny_pure ?_)
 refine rwE I.cls ?_
 refine wpAny_bind (L3.at ?_)
 refine wpAny_pure ?_
 show wpAny _ _ (handedOut v) _ _ _
 refine rwE (handedOut_of hh) ?_;exact wpAny_pure h
end
end Bc
namespace Bc
structure ClsOk(K:Frag):Prop where
 attrs:∀c C x,clsA K c=some C→plainCls c=true→fieldNames.contains x=true→plainGet K C x=true∧hasDictIn K C=true∧findIn K (.ref C) x=some none
 msg:∀C,clsA K "Refusal" = some C→(findIn K (.ref C) "__getattribute__" = some (some (.builtin "BaseException.__getattribute__"))∧findIn K (.ref C) "__getattr__" = some none∧mroIn K C (.type "BaseException")=some true)∧hasDictIn K C=true∧findIn K (.ref C) "message" = some none
section
variable{K:Frag}{w:World}{H0:Heap}{fns:List DefRec}{mg mb:Str→Option Value}{fr:List Env}{prog:Program}{A:Around}{G:Gh}{st st' st1:Bc.St}{locs:List Loc}{s:Shared}{env:Env}{cx:Cx}{x:Str}{h:Heap}{fz:Addr→Prop}{n:Nat}{u v:Value}{a b d:PV}
theorem rep_handed(D:Wd K w H0 fns mg mb)(r:Rep K w h fz v d):handedIn v=true :=
 Rep.casesOn (motive_1:=fun v _ _=>handedIn v=true) r rfl (fun _=>rfl) (fun _ _=>rfl) (fun _ _=>rfl) (fun _ _ _=>rfl) (fun _ _ _=>rfl) (fun _ _ _ _=>rfl) (fun _ _ _ _ _ _=>rfl) (fun _ _ _=>rfl) fun g=>D.handed _ _ g
theorem plainGet_at{C:Addr}{y:Str}(e:plainGet K C y=true):findIn K (.ref C) "__getattribute__" = some (some (.builtin "object.__getattribute__")):=by
 unfold plainGet at e
 exact beq_iff_eq.mp (Bool.and_eq_true_iff.mp e).1
theorem attrPV_ok{r:AV}(D:Wd K w H0 fns mg mb)(C:ClsOk K)(q:attrPV d x=some r)(T:Rel K w H0 fr G st locs s.heap)(ra:Rep K w s.heap G.fz u d) :
  W K w H0 fr prog A (getAttr u x true) G st locs s fun v G' h'=>RepA K w G' h' v r:=by
 refine obE q fun c hc q=>bifT q fun hx q=>obE q fun d1 hd q=>cz5 q ?_
 have hc:=instOfE hc
 subst hc
 obtain ⟨h2,h1⟩:=Bool.and_eq_true_iff.mp hx
 refine hld fun gP gk=>?_
 obtain ⟨a,dx,Ca,es,n,rfl,f1,f2,g1,g2,cc,rr⟩:=Rep.inv ra
 refine gk ?_
 refine xE13 ((findL (x:=x) rr).1 d1 hd) fun v _ rv gl=>?_
 refine xE03 (C.attrs _ _ x cc h1 h2) fun p1 p2 p3=>?_
 exact get_value (D.kin.keeps T.keep0) ⟨g1,rfl,rfl,g2⟩ (plainGet_at p1) (findObj_own p2 p3 rfl ((lookIn_dict _ _ _).trans gl)) (rep_handed D rv) (Out.tok T rv)
theorem attr_ok{e:AV}{r:AV}(D:Wd K w H0 fns mg mb)(C:ClsOk K)(q:attrOf e x=some r)(T:Rel K w H0 fr G st locs s.heap)(ra:RepA K w G s.heap u e) :
  W K w H0 fr prog A (getAttr u x true) G st locs s fun v G' h'=>RepA K w G' h' v r:=by
 cases e with
 |pv d=>exact attrPV_ok D C q T ra
 |cell k=>exact cz0 q
 |exn d =>
  refine bifT q fun hx q=>cz5 q ?_
  refine hld fun gP gk=>?_
  obtain ⟨ea,rfl,oe,dx,od,Ca,sx,t,f1,f2,g1,cc,c1,c2,c3,g2,lk,rfl⟩:=ra
  refine gk ?_
  refine xE03 (C.msg _ cc) fun p1 p2 p3=>?_
  refine rwE (beq_iff_eq.mp hx) ?_
  exact exc_get (D.kin.keeps T.keep0) ⟨g1,c1,c2,by refine rwE c3 ?_;exact g2⟩ p1.1 p1.2.1 p1.2.2 (findObj_own p2 p3 rfl lk) rfl (Out.tok T (.str _ _))
theorem notSlice{e:Expr}(h:isSliceE e=false)(o i:Value):subscripted e false o i=operate [o,i] (getItem o i):=by
 cases e<;>first | exact rfl | exact cz3 h
theorem nth_ok{l:List PV}{i:Int}(q:nthPV l i=some d):0≤i∧i < 100000∧l[i.toNat]? = some d:=bifT q fun h q=>let h:=of_decide_eq_true h;⟨h.1,h.2,q⟩
theorem seqIdx{i:Int}{n:Nat}(h0:0≤i)(h:i.toNat < n):seqIndex? i n=some i.toNat:=by
 unfold seqIndex?
 split<;>(try split)<;>first | rfl | (exfalso;omega) | (simp;omega) | omega
theorem sub_ok{value slice:Expr}(hs:isSliceE slice=false)(q:subPV a b=some d)(T:Rel K w H0 fr G st locs s.heap)(ra:Rep K w s.heap G.fz u a)(rb:Rep K w s.heap G.fz v b) :
  W K w H0 fr prog A (subscriptTail value slice u v) G st locs s fun r G' h'=>Rep K w h' G'.fz r d:=by
 refine ooE q (fun q=>?_) fun q=>?_
 rotate_left
 ·refine rStr q rb fun x t q=>rDct q ra fun es p vs n' f g r ns q=>xE13 ((findL r).1 d q) fun z hz rz _=>?_
  have hm:=mapOf_rep (prog:=prog) g r
  exact tail_any hm.typeIs slot_dict_getitem.lookup (wpAny_getItem_of (strKind_is prog w _ t) hm hz (Out.tok T rz)) (notSlice hs _ _)
 refine rInt q rb fun i t q=>?_
 refine ooE q (fun q=>?_) fun q=>ooE q (fun q=>?_) fun q=>?_
 ·refine rLst q ra fun l p vs n' f g r q=>xE03 (nth_ok q) fun h1 h2 h3=>xE12 (r.get h3) fun z hz rz=>?_
  have hl:s.heap.IsList p vs.toArray:=⟨_,g,rfl,n',rfl⟩
  exact tail_any hl.typeIs slot_list_getitem.lookup (wpAny_getItem_list hl h1 (by omega) (by simpa using hz) (Out.here T rz)) (notSlice hs _ _)
 ·refine rTup q ra fun l p vs n' f g r q=>xE03 (nth_ok q) fun h1 h2 h3=>xE12 (r.get h3) fun z hz rz=>?_
  exact item_tupleT (l:=vs) (j:=i.toNat) ⟨_,g,rfl,n',rfl⟩ (by omega) (by omega) (seqIdx h1 (List.getElem?_eq_some_iff.mp hz).1) hz (Out.here T rz) (notSlice hs _ _)
 ·refine rStr q ra fun x t' q=>bifT q fun hi q=>obE q fun c hc q=>cz5 q ?_
  have hi:=of_decide_eq_true hi
  refine tail_any (typeIs_str s x t') slot_str_getitem.lookup (PyProof.Rows.getItem_str (by rw [Bool.or_eq_false_iff];exact ⟨decide_eq_false (by omega),decide_eq_false (by omega)⟩) (c:=c) ?_ (Out.tok T (.str _ _))) (notSlice hs _ _)
  refine rwE (seqIdx hi.1 (show i.toNat < x.length from by simpa [Str.length] using (List.getElem?_eq_some_iff.mp hc).1)) ?_
  simpa using hc
theorem subC_ok{value slice:Expr}{k:Nat}{l:List PV}{i:Int}(hs:isSliceE slice=false)(hc:st.cells[k]? = some (.lst l))(q:nthPV l i=some d)(T:Rel K w H0 fr G st locs s.heap)(ra:RepA K w G s.heap u (.cell k))(rb:Rep K w s.heap G.fz v (.int i)) :
  W K w H0 fr prog A (subscriptTail value slice u v) G st locs s fun r G' h'=>Rep K w h' G'.fz r d:=by
 refine xE03 (nth_ok q) fun h1 h2 h3=>?_
 refine xE11 (rep_int rb) fun t e_1=>?_;refine Bc.rwE e_1 ?_
 refine xE12 ra fun p hp e_2=>?_;refine Bc.rwE e_2 ?_
 obtain ⟨_,_,vs,n',g,r⟩:=T.cells k p _ hp hc
 refine xE12 (r.get h3) fun z hz rz=>?_
 have hl:s.heap.IsList p.1 vs.toArray:=⟨_,g,rfl,n',rfl⟩
 exact tail_any hl.typeIs slot_list_getitem.lookup (wpAny_getItem_list hl h1 (by omega) (by simpa using hz) (Out.here T rz)) (notSlice hs _ _)
theorem slice_eq{α:Type}(l:List α)(lo hi:Option Int)(h1:0≤lo.getD 0)(h2:0≤hi.getD 0) :
  (l.drop (lo.elim 0 (clipAt l.length))).take (hi.elim l.length (clipAt l.length) - lo.elim 0 (clipAt l.length))=sliceL l (lo.getD 0).toNat (hiOf l.length hi):=by
 have c:∀a:Int,0≤a→clipAt l.length a=min a.toNat l.length:=fun a ha=>by
  have:=clipAt_nat l.length a.toNat
  rwa [Int.toNat_of_nonneg ha] at this
 have key:∀p q:Nat,(l.drop (min p l.length)).take (min q l.length - min p l.length)=(l.take q).drop p:=by
  intro p q
  refine rwE List.drop_take ?_
  rcases Nat.le_total p l.length with hp | hp
  ·refine rwE (Nat.min_eq_left hp) ?_
   rcases Nat.le_total q l.length with hq | hq
   ·refine rwE (Nat.min_eq_left hq) rfl
   ·refine rwE (Nat.min_eq_right hq) (rwE (List.take_of_length_le (by simp)) (rwE (List.take_of_length_le (by simp;omega)) rfl))
  ·refine rwE (Nat.min_eq_right hp) (rwE (List.drop_of_length_le (Nat.le_refl _)) (rwE (List.drop_of_length_le hp) ?_));simp
 unfold sliceL hiOf
 cases lo with
 |none =>
  cases hi with
  |none=>simp
  |some b =>
   have:=key 0 b.toNat
   simp only [Option.elim,Option.getD_none,Option.getD_some] at *
   refine rwE (c b h2) ?_
   simpa using this
 |some a =>
  cases hi with
  |none =>
   have:=key a.toNat l.length
   simp only [Option.elim,Option.getD_none,Option.getD_some] at *
   refine rwE (c a h1) ?_
   simpa using this
  |some b =>
   have:=key a.toNat b.toNat
   simp only [Option.elim,Option.getD_some] at *
   refine rwE (c a h1) (rwE (c b h2) ?_)
   exact this
end
end Bc
namespace Bc
noncomputable def EvOk(prog:Program)(K:Frag)(w:World)(H0:Heap)(n:Nat)(cx:Cx)(e:Expr)(st:Bc.St)(a:AV)(st':Bc.St):Prop :=
 vnm st'.vars=vnm st.vars∧∀(A:Around) (fr:List Env) (env:Env) (G:Gh) (locs:List Loc) (s:Shared),Here K w H0 n cx st A fr env G locs s →
  W K w H0 fr prog A (eval e env) G st' locs s (fun v G' h'=>RepA K w G' h' v a) ∧
  ∀b,a=.pv (.bool b)→W K w H0 fr prog A (isTrue e env (eval e env)) G st' locs s fun v z_ z_=>v=b
section
variable{K:Frag}{w:World}{H0:Heap}{fns:List DefRec}{mg mb:Str→Option Value}{fr:List Env}{prog:Program}{A:Around}{G G1:Gh}{st st' st1 st2:Bc.St}{locs:List Loc}{s s1:Shared}{env:Env}{cx:Cx}{x:Str}{h:Heap}{fz:Addr→Prop}{n:Nat}{u v:Value}{a b d:PV}{R:Rc}{e:Expr}{pos:Pos}
theorem EvOk.pred{a:AV}(H:EvOk prog K w H0 n cx e st a st'):EvOk prog K w H0 (n+1) cx e st a st':=⟨H.1,fun A fr env G locs s h=>H.2 A fr env G locs s h.pred⟩
theorem SndE.evok{a:AV}(I:SndE prog K w H0 fns n R)(q:R.ev cx e st=some (a,st')):EvOk prog K w H0 n cx e st a st' :=
 ⟨I.vars _ _ _ _ _ q,fun A fr env G locs s H=>⟨I.ev _ _ _ _ _ q A env fr G locs s H.rm H.hh H.hf H.E H.T,fun b hb=>I.tr _ _ _ _ _ (hb▸q) A env fr G locs s H.rm H.hh H.hf H.E H.T⟩⟩
theorem boolA{b c:Bool}(h:AV.pv (.bool b)=.pv (.bool c)):b=c:=by cases h;rfl
theorem tr_of{a:AV}(he:∀whole,isTrue e env whole=(do let v ← whole;standAt e.pos;holding [v] (truthy v)))
  (h:W K w H0 fr prog A (eval e env) G st' locs s (fun v G' h'=>RepA K w G' h' v a)):∀b,a=.pv (.bool b)→W K w H0 fr prog A (isTrue e env (eval e env)) G st' locs s fun v z_ z_=>v=b:=by
 intro b hb
 subst hb
 refine wpAny_isTrue_value (W.then h fun v G1 s1 R1 X1 S1 r=>?_) (he _)
 refine rwE (rep_bool r) ?_
 exact wpAny_truthy_bool ⟨G1,R1,X1,S1,rfl⟩
theorem EvOk.plain{a:AV}(he:∀env whole,isTrue e env whole=(do let v ← whole;standAt e.pos;holding [v] (truthy v)))(hv:vnm st'.vars=vnm st.vars)
  (h:∀(A:Around) (fr:List Env) (env:Env) (G:Gh) (locs:List Loc) (s:Shared),Here K w H0 n cx st A fr env G locs s→W K w H0 fr prog A (eval e env) G st' locs s (fun v G' h'=>RepA K w G' h' v a)) :
  EvOk prog K w H0 n cx e st a st':=⟨hv,fun A fr env G locs s H=>⟨h A fr env G locs s H,tr_of (he env) (h A fr env G locs s H)⟩⟩
theorem evP_here(I:SndE prog K w H0 fns n R)(q:evP R cx e st=some (d,st')):vnm st'.vars=vnm st.vars∧∀{A:Around} {fr:List Env} {env:Env} {G:Gh} {locs:List Loc} {s:Shared},Here K w H0 n cx st A fr env G locs s →
  W K w H0 fr prog A (eval e env) G st' locs s fun v G' h'=>Rep K w h' G'.fz v d:=by
 exact ⟨ePn I q,fun H=>evP_ok I q H⟩
theorem ev_binop{l r:Expr}{op:Operator}{st1 st2:Bc.St}(I:SndE prog K w H0 fns n R)(h1:evP R cx l st=some (a,st1))(h2:evP R cx r st1=some (b,st2))(h3:binPV op a b=some d) :
  EvOk prog K w H0 n cx (.BinOp l op r pos) st (.pv d) st2:=by
 obtain ⟨v1,w1⟩:=evP_here I h1
 obtain ⟨v2,w2⟩:=evP_here I h2
 refine EvOk.plain (fun z_ z_=>rfl) (v2.trans v1) fun A fr env G locs s H=>?_
 refine wpAny_BinOp (W.then (w1 H) fun u G1 s1 T1 X1 S1 r1=>?_)
 refine W.then (w2 (H.next v1 T1)) fun v G2 s2 T2 X2 S2 r2=>?_
 exact W.comp (X1.trans X2) (S1.trans S2) (bin_ok h3 T2 (Rep.mono X2.fz r1) r2)
theorem ev_neg{l:Expr}{st1:Bc.St}{i:Int}(I:SndE prog K w H0 fns n R)(h1:evP R cx l st=some (.int i,st1)):EvOk prog K w H0 n cx (.UnaryOp .USub l pos) st (.pv (.int (-i))) st1:=by
 obtain ⟨v1,w1⟩:=evP_here I h1
 refine EvOk.plain (fun z_ z_=>rfl) v1 fun A fr env G locs s H=>?_
 refine UnaryOp_ (W.then (w1 H) fun u G1 s1 T1 X1 S1 r1=>?_)
 refine xE11 (rep_int r1) fun t e_1=>?_;refine Bc.rwE e_1 ?_
 exact neg_int (Out.comp X1 S1 (Out.tok T1 (.int _ _)))
theorem evT_here(I:SndE prog K w H0 fns n R){b:Bool}(q:evT R cx e st=some (b,st')):EvOk prog K w H0 n cx e st (.pv (.bool b)) st':=I.evok (evT_ev q)
theorem ev_not{l:Expr}{b:Bool}(h1:EvOk prog K w H0 n cx l st (.pv (.bool b)) st'):EvOk prog K w H0 n cx (.UnaryOp .Not l pos) st (.pv (.bool (!b))) st':=by
 refine ⟨h1.1,fun A fr env G locs s H=>⟨?_,fun c hc=>?_⟩⟩
 ·refine UnaryOp_ (W.then (h1.2 A fr env G locs s H).1 fun u G1 s1 T1 X1 S1 r1=>?_)
  refine rwE (rep_bool r1) ?_
  exact not_value (wpAny_truthy_bool (Out.comp X1 S1 (Out.here T1 (.bool _))))
 ·cases hc
  rw [arm_isTrue_UnaryOp]
  exact wpAny_bind (W.then ((h1.2 A fr env G locs s H).2 b rfl) fun v G1 s1 T1 X1 S1 p=>wpAny_pure ⟨G1,T1,X1,S1,by refine rwE p rfl⟩)
theorem ev_ifexp{t p q:Expr}{b:Bool}{r:AV}(h1:EvOk prog K w H0 n cx t st (.pv (.bool b)) st1)(h2:EvOk prog K w H0 n cx (if b then p else q) st1 r st2) :
  EvOk prog K w H0 n cx (.IfExp t p q pos) st r st2:=by
 refine ⟨h2.1.trans h1.1,fun A fr env G locs s H=>⟨?_,fun c hc=>?_⟩⟩
 ·rw [arm_eval_IfExp]
  refine wpAny_bind (W.then ((h1.2 A fr env G locs s H).2 b rfl) fun v G1 s1 T1 X1 S1 e=>?_)
  subst e
  have:=W.comp X1 S1 (h2.2 A fr env G1 locs s1 (H.next h1.1 T1)).1
  cases v<;>exact this
 ·rw [arm_isTrue_IfExp]
  refine wpAny_bind (W.then ((h1.2 A fr env G locs s H).2 b rfl) fun v G1 s1 T1 X1 S1 e=>?_)
  subst e
  have:=W.comp X1 S1 ((h2.2 A fr env G1 locs s1 (H.next h1.1 T1)).2 c hc)
  cases v<;>exact this
theorem ev_cmp{l r:Expr}{op:CmpOp}{st1 st2:Bc.St}{c:Bool}(I:SndE prog K w H0 fns n R)(hb:behindInMarks op r=false)(h1:evP R cx l st=some (a,st1))(h2:evP R cx r st1=some (b,st2))(h3:cmpPV op a b=some c) :
  EvOk prog K w H0 n cx (.Compare l [op] [r] pos) st (.pv (.bool c)) st2:=by
 obtain ⟨v1,w1⟩:=evP_here I h1
 obtain ⟨v2,w2⟩:=evP_here I h2
 refine ⟨v2.trans v1,fun A fr env G locs s H=>⟨?_,fun c' hc=>?_⟩⟩
 ·refine wpAny_Compare1 (hm:=hb) (W.then (w1 H) fun u G1 s1 T1 X1 S1 r1=>?_)
  refine W.then (w2 (H.next v1 T1)) fun v G2 s2 T2 X2 S2 r2=>?_
  refine W.comp (X1.trans X2) (S1.trans S2) (W.mono (cmp_ok h3 H.rm T2 (Rep.mono X2.fz r1) r2) fun r G h e=>?_)
  subst e;exact .bool _
 ·cases hc
  refine wpAny_isTrue_Compare1 (hm:=hb) (W.then (w1 H) fun u G1 s1 T1 X1 S1 r1=>?_)
  refine W.then (w2 (H.next v1 T1)) fun v G2 s2 T2 X2 S2 r2=>?_
  refine W.then (cmp_ok h3 H.rm T2 (Rep.mono X2.fz r1) r2) fun r G3 s3 T3 X3 S3 e=>?_
  subst e
  exact wpAny_truthy_bool ⟨G3,T3,(X1.trans X2).trans X3,(S1.trans S2).trans S3,rfl⟩
theorem ev_and{vs:List Expr}{b:Bool}(I:SndE prog K w H0 fns n R)(hn:vs≠[])(h1:evAnd R cx vs st=some (b,st')):EvOk prog K w H0 n cx (.BoolOp .And vs pos) st (.pv (.bool b)) st':=by
 refine ⟨evAnd_names I h1,fun A fr env G locs s H=>⟨?_,fun c hc=>?_⟩⟩
 ·rw [arm_eval_BoolOp]
  exact W.mono ((evAnd_ok I h1 H).y pos hn) fun v G h e=>e▸.bool _
 ·exact wpAny_isTrue_BoolOp (boolA hc▸(evAnd_ok I h1 H).x)
theorem ev_or{vs:List Expr}{b:Bool}(I:SndE prog K w H0 fns n R)(hn:vs≠[])(h1:evOr R cx vs st=some (b,st')):EvOk prog K w H0 n cx (.BoolOp .Or vs pos) st (.pv (.bool b)) st':=by
 refine ⟨evOr_names I h1,fun A fr env G locs s H=>⟨?_,fun c hc=>?_⟩⟩
 ·rw [arm_eval_BoolOp]
  exact W.mono ((evOr_ok I h1 H).y pos hn) fun v G h e=>e▸.bool _
 ·exact wpAny_isTrue_BoolOp (boolA hc▸(evOr_ok I h1 H).x)
theorem isListN{h:Heap}{a:Addr}{vs:List Value}{n:Nat}(e:h.get? a=some { cls:=.type "list",data:=.seq vs.toArray n }):h.IsList a vs.toArray:=⟨_,e,rfl,n,rfl⟩
theorem ev_list{es:List Expr}{ds:List PV}(I:SndE prog K w H0 fns n R)(hs:es.any isS=false)(hl:es.length≤1000)(h1:evPs R cx es st=some (ds,st1)) :
  EvOk prog K w H0 n cx (.List es pos) st (.cell st1.cells.length) ⟨st1.vars,st1.cells++[.lst ds]⟩:=by
 refine EvOk.plain (fun z_ z_=>rfl) (show vnm st1.vars=vnm st.vars from evPs_names I h1) fun A fr env G locs s H=>?_
 refine wpAny_List (W.then (evPs_ok I h1 hs H) fun vs G1 s1 T1 X1 S1 r=>⟨sizeOk (Nat.le_trans (Nat.le_of_eq (r.length.trans (evL_len h1))) (Nat.le_trans hl (by decide))),?_⟩)
 obtain ⟨T2,X2⟩:=T1.pushC (o:={ cls:=.type "list",data:=.seq vs.toArray }) (c:=.lst ds) rfl
  ⟨(T1.sizeNot (sizeNone _)).1,rfl,vs,_,Heap.get?_push_size _ rfl,RepL.mono (fun a f=>⟨f,((T1.pushJ _).2.fz a f).2⟩) r⟩
 exact Out.comp X1 S1 (Out.ofH T2 X2 ⟨(s1.heap.objs.size,s1.heap.objs.size),by refine rwB T1.len ?_;simp,rfl⟩)
theorem ev_tuple{es:List Expr}{k:Nat}{ds:List PV}(I:SndE prog K w H0 fns n R)(hs:es.any isS=false)(hl:es.length≤1000)(h1:evPs R cx es st=some (ds,st1)) :
  EvOk prog K w H0 n cx (.Tuple es k pos) st (.pv (.tup ds)) st1:=by
 refine EvOk.plain (fun z_ z_=>rfl) (evPs_names I h1) fun A fr env G locs s H=>?_
 exact wpAny_Tuple (W.then (evPs_ok I h1 hs H) fun vs G1 s1 T1 X1 S1 r=>⟨sizeOk (Nat.le_trans (Nat.le_of_eq (r.length.trans (evL_len h1))) (Nat.le_trans hl (by decide))),Out.comp X1 S1 (newF_tuple T1 r)⟩)
theorem log2_small{a:Int}(h:a.natAbs < 10 ^ 18):a.natAbs.log2 < 1920:=by
 have h1:a.natAbs < 2 ^ 60:=Nat.lt_of_lt_of_le h (by decide)
 by_cases z:a.natAbs=0
 ·refine rwE z ?_;decide
 ·exact Nat.lt_of_lt_of_le ((Nat.log2_lt z).mpr h1) (by decide)
theorem evParts_names(I:SndE prog K w H0 fns n R){ps:List Expr}{out y:Str}{st st':Bc.St}(q:evParts R cx ps out st=some (y,st')):vnm st'.vars=vnm st.vars:=by
 induction ps generalizing out st with
 |nil=>exact cz4 (P:=fun z_ st'=>vnm st'.vars=vnm st.vars) q rfl
 |cons p ps ih=>exact elE q (fun z_ q=>obE q fun f z_ q=>bifT q fun z_ q=>obE2 q fun d st1 h1 q=>obE q fun o z_ q=>(ih q).trans (ePn I h1)) fun z z_ q=>bifT q fun z_ q=>ih q
theorem len2000{a b:Nat}(h1:a≤1000)(h2:b≤1000):a+b≤1000000:=by omega
theorem line2{n:Nat}(h:n≤1000000):n≤sizeLine:=by refine rwE sizeLine_eq ?_;omega
theorem evParts_ok(I:SndE prog K w H0 fns n R){y:Str}{ps:List Expr}{out:Str}{st:Bc.St}{G:Gh}{s:Shared}{G0:Gh}{s0:Shared}(q:evParts R cx ps out st=some (y,st'))
  (H:Here K w H0 n cx st A fr env G locs s) (ho:out.length≤1000000) (X:Ext fr G0 s0.heap G s.heap None_) (S:Sh s0 s) :
  Joins (model prog w) A (fun z_ z_=>False) (evalEach ps env) out (fun out s₁=>out.length≤sizeLine∧Out K w H0 fr G0 s0 st' locs (fun G h=>RepA K w G h (.str out s₁.toks) (.pv (.str y))) { s₁ with toks:=s₁.toks+1 }) s:=by
 induction ps generalizing out st G s with
 |nil=>exact cz4 (P:=fun y st'=>out.length≤sizeLine∧Out K w H0 fr G0 s0 st' locs (fun G h=>RepA K w G h (.str out s.toks) (.pv (.str y))) { s with toks:=s.toks+1 }) q ⟨line2 ho,G,H.T,X,S.trans (Sh.mk' _ _ _),.str _ _⟩
 |cons p ps ih =>
  refine elE q (fun z_ q0=>?_) fun z hs q0=>?_
  ·refine obE2 q0 fun e c hf q1=>bifT q1 fun hc q2=>obE2 q2 fun d st1 h1 q3=>obE q3 fun o hp q4=>?_
   refine xE11 (fmtE_some hf) fun z_ e_1=>rwE e_1 (rwE (show c=-1 from beq_iff_eq.mp hc) ?_)
   have hn:=fun {G1:Gh} {s1:Shared} (T1:Rel K w H0 fr G1 st1 locs s1.heap)=>H.next (ePn I h1) T1
   refine wpAny_FormattedValue_plain (W.then (evP_ok I h1 H) fun u G1 s1 T1 X1 S1 r1=>?_)
   refine ooE hp (fun hp=>?_) fun hp=>?_
   ·refine rStr hp r1 fun z t hp=>?_
    revert q4;refine gdE hp fun hl q=>?_
    have hl:=of_decide_eq_true hl
    have hz:(out++z).length≤1000000:=by rw [strLen_append];exact len2000 hl.2 hl.1
    exact wpAny_formatField_str ⟨_,_,rfl,line2 hz,ih q (hn T1) hz (X.trans X1) (S.trans S1)⟩ ⟨_,_,rfl,line2 hz,ih q (hn T1) hz (X.trans X1) ((S.trans S1).trans (Sh.mk' _ _ _))⟩ (line2 (Nat.le_trans hl.1 (by decide)))
   ·refine rInt hp r1 fun i t hp=>?_
    revert q4;refine gdE hp fun hl q=>?_
    have hl:=of_decide_eq_true hl
    have hz:(out++Str.ofString (toString i)).length≤1000000:=by rw [strLen_append,PySem.ofString_length];exact len2000 hl.2 (Nat.le_trans (int_text_length_le10 (k:=18) (by decide) hl.1) (by decide))
    exact wpAny_formatField_int (log2_small hl.1) ⟨_,_,rfl,line2 hz,ih q (hn T1) hz (X.trans X1) ((S.trans S1).trans (Sh.mk' _ _ _))⟩
  ·refine bifT q0 fun hl q=>?_
   have hl:=of_decide_eq_true hl
   have hz:(out++z).length≤1000000:=by rw [strLen_append];exact len2000 hl.2 hl.1
   refine xE21 (strE_some hs) fun z_ z_ e_2=>rwE e_2 ?_
   exact wpAny_Constant_str ⟨_,_,rfl,line2 hz,ih q (H.next rfl H.T) hz X (S.trans (Sh.mk' _ _ _))⟩
theorem ev_fstr{p1 p2:Expr}{ps:List Expr}{y:Str}(I:SndE prog K w H0 fns n R)(h1:evParts R cx (p1::p2::ps) Str.empty st=some (y,st')):EvOk prog K w H0 n cx (.JoinedStr (p1::p2::ps) pos) st (.pv (.str y)) st':=by
 refine EvOk.plain (fun z_ z_=>rfl) (evParts_names I h1) fun A fr env G locs s H=>?_
 exact wpAny_JoinedStr (evParts_ok I h1 H (by decide) (Ext.refl ..) (Sh.refl _))
end
end Bc
namespace Bc
section
variable{K:Frag}{w:World}{H0:Heap}{fns:List DefRec}{mg mb:Str→Option Value}{fr:List Env}{prog:Program}{A:Around}{G G1:Gh}{st st' st1 st2 st3:Bc.St}{locs:List Loc}{s s1:Shared}{env:Env}{cx:Cx}{x:Str}{h:Heap}{fz:Addr→Prop}{n:Nat}{u v:Value}{a b d:PV}{R:Rc}{e:Expr}{pos:Pos}
theorem liftPE{x:Option (PV × Bc.St)}{a:AV}(q:liftP x=some (a,st')){C:Prop}(k:∀d,x=some (d,st')→a=.pv d→C):C :=
 obE2 q fun d st1 h q=>cz4 (P:=fun a st'=>(∀d,x=some (d,st')→a=.pv d→C)→C) q (fun k=>k d h rfl) k
theorem evBase_here{a:AV}(I:SndE prog K w H0 fns n R)(q:evBase R cx e st=some (a,st')):vnm st'.vars=vnm st.vars∧∀{A:Around} {fr:List Env} {env:Env} {G:Gh} {locs:List Loc} {s:Shared},Here K w H0 n cx st A fr env G locs s →
  W K w H0 fr prog A (eval e env) G st' locs s fun v G' h'=>RepA K w G' h' v a:=by
 have pl:liftP (evP R cx e st)=some (a,st')→vnm st'.vars=vnm st.vars∧∀{A:Around} {fr:List Env} {env:Env} {G:Gh} {locs:List Loc} {s:Shared},Here K w H0 n cx st A fr env G locs s →
  W K w H0 fr prog A (eval e env) G st' locs s fun v G' h'=>RepA K w G' h' v a:=fun q=>liftPE q fun d h e=>e▸evP_here I h
 unfold evBase at q
 refine Bc.optE (nameE e) (fun hn=>?_) fun x hn=>?_
 ·rw [hn] at q;exact pl q
 ·
  rw [hn] at q
  exact bifE q (fun z_ q=>⟨(I.evok q).1,fun H=>((I.evok q).2 _ _ _ _ _ _ H).1⟩) pl
theorem aBP{o:Expr}(h:nSC o=true)(x:Str)(env:Env)(t:Sem Value):attributeBase o x env t=t:=by
 cases o with
 |Call f a k p =>
  cases f with
  |Name y q=>cases a<;>cases k<;>first | exact rfl | exact cz2 h
  |_=>exact rfl
 |_=>rfl
theorem ev_attr{o:Expr}{a r:AV}(D:Wd K w H0 fns mg mb)(C:ClsOk K)(I:SndE prog K w H0 fns n R)(hs:nSC o=true)(h1:evBase R cx o st=some (a,st1))(h2:attrOf a x=some r) :
  EvOk prog K w H0 n cx (.Attribute o x pos) st r st1:=by
 obtain ⟨v1,w1⟩:=evBase_here I h1
 refine EvOk.plain (fun z_ z_=>rfl) v1 fun A fr env G locs s H=>?_
 rw [arm_eval_Attribute,aBP hs]
 refine wpAny_bind (W.then (w1 H) fun u G1 s1 T1 X1 S1 r1=>?_)
 refine wpAny_bind (wpAny_standAt (wpAny_bind (wpAny_holding (W.then (attr_ok D C h2 T1 r1) fun v G2 s2 T2 X2 S2 r2=>?_))))
 exact wpAny_bind (wpAny_letTemporaryGo (wpAny_pure ⟨G2,T2,X1.trans X2,S1.trans S2,r2⟩))
theorem ev_sub{o i:Expr}(I:SndE prog K w H0 fns n R)(hs:isSliceE i=false)(h1:evBase R cx o st=some (.pv a,st1))(h2:evP R cx i st1=some (b,st2))(h3:subPV a b=some d) :
  EvOk prog K w H0 n cx (.Subscript o i pos) st (.pv d) st2:=by
 obtain ⟨v1,w1⟩:=evBase_here I h1
 obtain ⟨v2,w2⟩:=evP_here I h2
 refine EvOk.plain (fun z_ z_=>rfl) (v2.trans v1) fun A fr env G locs s H=>?_
 refine Subscript_ (W.then (w1 H) fun u G1 s1 T1 X1 S1 r1=>W.then (w2 (H.next v1 T1)) fun v G2 s2 T2 X2 S2 r2=>?_)
 exact W.comp (X1.trans X2) (S1.trans S2) (sub_ok hs h3 T2 (Rep.mono X2.fz r1) r2)
theorem ev_subC{o i:Expr}{k:Nat}{j:Int}{l:List PV}(I:SndE prog K w H0 fns n R)(hs:isSliceE i=false)(h1:evBase R cx o st=some (.cell k,st1))(h2:evP R cx i st1=some (.int j,st2))(hc:st2.cells[k]? = some (.lst l))(h3:nthPV l j=some d) :
  EvOk prog K w H0 n cx (.Subscript o i pos) st (.pv d) st2:=by
 obtain ⟨v1,w1⟩:=evBase_here I h1
 obtain ⟨v2,w2⟩:=evP_here I h2
 refine EvOk.plain (fun z_ z_=>rfl) (v2.trans v1) fun A fr env G locs s H=>?_
 refine Subscript_ (W.then (w1 H) fun u G1 s1 T1 X1 S1 r1=>W.then (w2 (H.next v1 T1)) fun v G2 s2 T2 X2 S2 r2=>?_)
 exact W.comp (X1.trans X2) (S1.trans S2) (subC_ok hs hc h3 T2 (RepA.mono X2.grow r1) r2)
theorem bound_here{e:Option Expr}{i:Option Int}(I:SndE prog K w H0 fns n R)(q:boundOf R cx e st=some (i,st')):vnm st'.vars=vnm st.vars∧∀{A:Around} {fr:List Env} {env:Env} {G:Gh} {locs:List Loc} {s:Shared},Here K w H0 n cx st A fr env G locs s →
  W K w H0 fr prog A (evalPart e env) G st' locs s fun v z_ z_=>∃t:Tok,v=partValue (i.map fun j=>(j,t)):=by
 cases e with
 |none=>exact cz4 (P:=fun i st'=>vnm st'.vars=vnm st.vars∧∀{A:Around} {fr:List Env} {env:Env} {G:Gh} {locs:List Loc} {s:Shared},Here K w H0 n cx st A fr env G locs s →
  W K w H0 fr prog A (evalPart none env) G st' locs s fun v z_ z_=>∃t:Tok,v=partValue (i.map fun j=>(j,t))) q ⟨rfl,fun H=>wpAny_pure (Out.here H.T ⟨0,rfl⟩)⟩
 |some e =>
  refine obE2 q fun d st1 h1 q=>obE q fun j hj q=>cz4 q ?_
  have hj:=asIntE hj
  dsimp only at hj
  subst hj
  exact ⟨ePn I h1,fun H=>W.mono (evP_ok I h1 H) fun v G' h' r=>rep_int r⟩
theorem part_is(i:Option Int)(t:Tok):IsPart (partValue (i.map fun j=>(j,t))) i:=by
 cases i with
 |none=>exact .none
 |some i=>exact .int i t
theorem slOk_iff{n:Nat}{lo hi:Option Int}(h:slOk n lo hi=true):n≤1000∧0≤lo.getD 0∧0≤hi.getD 0:=let h:=of_decide_eq_true h;⟨h.1,h.2.1,h.2.2.1⟩
theorem slice_ok{l r:Option Int}{tl tr:Tok}{sl:Addr}{lo hi:Option Expr}{p:Pos}{o:Expr}(q:slicePV a l r=some d)(T:Rel K w H0 fr G st locs s.heap)(ra:Rep K w s.heap G.fz v a)
  (hs:s.heap.get? sl=some { cls:=.type "slice",data:=.fields #[partValue (l.map fun j=>(j,tl)),partValue (r.map fun j=>(j,tr)),.none] }) :
  W K w H0 fr prog A (subscriptTail o (.Slice lo hi none p) v (.ref sl)) G st locs s fun v G' h'=>Rep K w h' G'.fz v d:=by
 refine ooE q (fun q=>?_) fun q=>?_
 ·refine rLst q ra fun x q vs n' f g rr q=>gdE q fun hb=>?_
  have hb:=slOk_iff hb
  rw [← rr.length] at hb
  have hl:=isListN g
  refine tail_any hl.typeIs slot_list_getitem.lookup (wpAny_getItem_list_slice (lo:=l) (hi:=r) (st:=none) hl ⟨_,hs,rfl,rfl⟩ (part_is _ _) (part_is _ _) .none (by simp) ?_ (by refine rwE List.size_toArray ?_;exact sizeOk (Nat.le_trans hb.1 (by decide)))) rfl
  rw [slicePick_plain]
  have hsl:=slice_eq vs l r hb.2.1 hb.2.2
  simp only [List.size_toArray]
  refine rwE hsl (rwB rr.length ?_)
  exact newF_list T ((rr.take _).drop _)
 ·refine rStr q ra fun x t q=>gdE q fun hb=>?_
  refine tail_any (typeIs_str _ _ t) F.slot_str_getitem.lookup (wpAny_getItem_str_slice (l:=l.map fun j=>(j,tl)) (u:=r.map fun j=>(j,tr)) (st:=none) ⟨_,hs,rfl,rfl⟩ rfl ?_) rfl
  have key:∀t' k,Out K w H0 fr G s st locs (fun G' h'=>Rep K w h' G'.fz (.str (Txt.slice x l r) t') (.str (Txt.slice x l r))) { s with toks:=k } :=
   fun t' k=>Out.tok T (.str _ _)
  have hz:(Txt.slice x l r).length≤sizeLine:=Nat.le_trans (Txt.slice_le x _ _) (sizeOk (Nat.le_trans (slOk_iff hb).1 (by decide)))
  cases l<;>cases r<;>exact post_val_or_str ⟨hz,key⟩
theorem ev_slice{o:Expr}{lo hi:Option Expr}{p:Pos}{l r:Option Int}(I:SndE prog K w H0 fns n R)(h1:evBase R cx o st=some (.pv a,st1))(h2:boundOf R cx lo st1=some (l,st2))(h3:boundOf R cx hi st2=some (r,st3))(h4:slicePV a l r=some d) :
  EvOk prog K w H0 n cx (.Subscript o (.Slice lo hi none p) pos) st (.pv d) st3:=by
 obtain ⟨v1,w1⟩:=evBase_here I h1
 obtain ⟨v2,w2⟩:=bound_here I h2
 obtain ⟨v3,w3⟩:=bound_here I h3
 refine EvOk.plain (fun z_ z_=>rfl) ((v3.trans v2).trans v1) fun A fr env G locs s H=>?_
 refine Subscript_ (W.then (w1 H) fun u G1 s1 T1 X1 S1 r1=>wpAny_Slice (W.then (w2 (H.next v1 T1)) fun ul G2 s2 T2 X2 S2 r2=>W.then (w3 ((H.next v1 T1).next v2 T2)) fun ur G3 s3 T3 X3 S3 r3=>?_))
 obtain ⟨tl,e1⟩:=r2
 obtain ⟨tr,e2⟩:=r3
 refine Bc.rwE e1 ?_;refine Bc.rwE e2 ?_
 rw [evalPart_none]
 refine wpAny_pure ?_
 obtain ⟨T4,X4⟩:=T3.pushJ { cls:=.type "slice",data:=.fields #[partValue (l.map fun j=>(j,tl)),partValue (r.map fun j=>(j,tr)),.none] }
 exact W.comp (((X1.trans X2).trans X3).trans X4) (((S1.trans S2).trans S3).trans (Sh.mk' _ _ _)) (slice_ok h4 T4 (Rep.mono ((X2.trans X3).trans X4).fz r1) (Heap.get?_push_size _ rfl))
end
end Bc
namespace Bc
inductive RepK(K:Frag)(w:World)(h:Heap)(fz:Addr→Prop):List (Str × Value)→List (Str × PV)→Prop
 |nil:RepK K w h fz [] []
 |cons {x:Str} {v:Value} {d:PV} {kvs:List (Str × Value)} {l:List (Str × PV)}:Rep K w h fz v d→RepK K w h fz kvs l→RepK K w h fz ((x,v)::kvs) ((x,d)::l)
section
variable{K:Frag}{w:World}{H0:Heap}{fns:List DefRec}{mg mb:Str→Option Value}{fr:List Env}{prog:Program}{A:Around}{G G1:Gh}{st st' st1 st2 st3:Bc.St}{locs:List Loc}{s s1:Shared}{env:Env}{cx:Cx}{x:Str}{h h':Heap}{fz fz':Addr→Prop}{n:Nat}{u v:Value}{a b d:PV}{R:Rc}{e:Expr}{pos:Pos}
theorem RepK.mono(m:∀a,fz a→fz' a∧h'.get? a=h.get? a){v:List (Str × Value)}{d:List (Str × PV)}(r:RepK K w h fz v d):RepK K w h' fz' v d:=by
 induction r with
 |nil=>exact .nil
 |cons a _ b=>exact .cons (Rep.mono m a) b
theorem RepK.names{kvs:List (Str × Value)}{l:List (Str × PV)}(r:RepK K w h fz kvs l):kvs.map (·.1)=l.map (·.1):=by
 induction r with
 |nil=>rfl
 |cons _ _ b=>exact congrArg (_::·) b
theorem nodup_of{l:List Str}(h:nodupS l=true):l.Nodup:=by
 induction l with
 |nil=>exact List.nodup_nil
 |cons x r ih =>
  have h:=Bool.and_eq_true_iff.mp h
  exact List.nodup_cons.mpr ⟨fun m=>absurd (show (!true)=true from (congrArg (!·) (List.any_eq_true.mpr ⟨x,m,beq_self_eq_true x⟩)).symm.trans h.1) (by decide),ih h.2⟩
theorem pairs_of{es:List DictEntry}{l:List (Str × PV)}(r:RepE K w h fz es l):∃kvs,RepK K w h fz kvs l∧Pairs (strKind prog w) es kvs :=
 r.ind (Q:=fun es l=>∃kvs,RepK K w h fz kvs l∧Pairs (strKind prog w) es kvs) ⟨[],.nil,.nil⟩ fun {x t _ _ _ _} r _ ih=>xE12 ih fun kvs h1 h2=>⟨(x,_)::kvs,.cons r h1,.cons (strKind_is prog w x t) rfl h2⟩
theorem dictOf_to{d:Addr}{es:List DictEntry}{l:List (Str × PV)}{n:Nat}(g:h.get? d=some (dictOf es n))(r:RepE K w h fz es l)(hn:(l.map (·.1)).Nodup):∃kvs,RepK K w h fz kvs l∧h.DictOf (strKind prog w) d kvs:=by
 refine xE12 (pairs_of (prog:=prog) r) fun kvs h1 h2=>?_
 exact ⟨kvs,h1,_,es.toArray,n,g,⟨rfl,rfl,rfl⟩,rfl,fun e he=>keysOf_rep r e (by simpa using he),by simpa using h2,by refine rwE h1.names ?_;exact hn⟩
theorem entries_of{kvs:List (Str × Value)}{l:List (Str × PV)}(r:RepK K w h fz kvs l):∀{es:List DictEntry},Pairs (strKind prog w) es kvs→(∀e∈es,∃k,(strKind prog w).is k e.key=true∧e.hash=(strKind prog w).hash k)→RepE K w h fz es l:=by
 induction r with
 |nil=>intro es hp _;cases hp;exact .nil
 |cons q _ ih =>
  intro es hp hk
  cases hp with
  | @cons e _ es _ h1 h2 r =>
   refine xE12 (hk e (List.mem_cons_self ..)) fun k k1 k2=>?_
   have hx:=Value.isStrOf_inj e.key _ _ k1 h1
   subst hx
   refine xE11 (Value.isStrOf_shape h1) fun t ht=>?_
   obtain ⟨hs,ky,vl⟩:=e
   dsimp only at h1 h2 k1 k2 ht
   refine Bc.rwE ht ?_;refine Bc.rwE h2 ?_;refine Bc.rwE k2 ?_
   exact .cons q (ih r fun e he=>hk e (List.mem_cons_of_mem _ he))
theorem dictOf_from{d:Addr}{kvs:List (Str × Value)}{l:List (Str × PV)}(m:h.DictOf (strKind prog w) d kvs)(r:RepK K w h fz kvs l):∃es n,h.get? d=some (dictOf es n)∧RepE K w h fz es l:=by
 obtain ⟨o,es,ep,g,⟨e1,e2,e3⟩,e4,hk,hp,_⟩:=m
 refine ⟨es.toList,ep,?_,entries_of r hp fun e he=>hk e (by simpa using he)⟩
 obtain ⟨c,dd,dt,sl⟩:=o
 dsimp only at e1 e2 e3 e4
 subst e1 e2 e3 e4
 refine rwE g rfl
theorem putA_cons{α:Type}{k y:Str}{a b:α}{r:List (Str × α)}:putA k a ((y,b)::r)=bif k==y then (y,a)::r else (y,b)::putA k a r:=by
 show (if k==y then _ else _)=_
 cases k==y<;>rfl
theorem stored_cons{k x:Str}{v v':Value}{kvs:List (Str × Value)}(hn:x ∉ kvs.map (·.1)):stored ((x,v')::kvs) k v=bif k==x then (x,v)::kvs else (x,v')::stored kvs k v:=by
 unfold stored
 cases hk:k==x with
 |true =>
  have hk:=beq_iff_eq.mp hk
  subst hk
  rw [if_pos (by simp),List.map_cons,if_pos rfl,map_store_of_not_mem kvs k v hn];rfl
 |false =>
  have hk:x≠k:=fun z=>by rw [z,beq_self_eq_true] at hk;exact cz3 hk
  rw [List.any_cons,decide_eq_false hk,Bool.false_or]
  show _=_::(if _ then _ else _)
  split
  ·rw [List.map_cons,if_neg hk]
  ·rfl
theorem stored_rep{k:Str}(rv:Rep K w h fz v d){kvs:List (Str × Value)}{l:List (Str × PV)}(r:RepK K w h fz kvs l):(l.map (·.1)).Nodup→RepK K w h fz (stored kvs k v) (putA k d l):=by
 induction r with
 |nil=>exact fun z_=>.cons rv .nil
 |cons q rest ih =>
  intro hn
  rw [List.map_cons,List.nodup_cons] at hn
  rw [stored_cons (by rw [rest.names];exact hn.1),putA_cons]
  cases k==_ with
  |true=>exact .cons rv rest
  |false=>exact .cons q (ih hn.2)
theorem stored_new:∀{kvs:List (Str × Value)} {k:Str} {v:Value},k ∉ kvs.map (·.1)→stored kvs k v=kvs++[(k,v)]
 |kvs,k,v,h=>by
  unfold stored
  rw [if_neg]
  simpa using h
theorem merged_new{kvs acc:List (Str × Value)}(h:((acc++kvs).map (·.1)).Nodup):merged acc kvs=acc++kvs:=by
 induction kvs generalizing acc with
 |nil=>exact (List.append_nil _).symm
 |cons p r ih =>
  have e:acc++p::r=(acc++[p])++r:=List.append_cons _ _ _
  have hx:p.1 ∉ acc.map (·.1):=fun m=>(List.nodup_append.mp (List.map_append▸h)).2.2 p.1 m p.1 List.mem_cons_self rfl
  show merged (stored acc p.1 p.2) r=_
  rw [stored_new hx,e]
  exact ih (e▸h)
theorem Rel.keepsB(R:Rel K w H0 fr G st locs h)(hk:∀b o,h.get? b=some o→G.fz b∨G.mut b∨(∃l∈locs,l.addr=b)∨(∃env∈fr,env.frame=some b)→h'.get? b=some o):Rel K w H0 fr G st locs h':=by
 have same:∀b,G.fz b→h'.get? b=h.get? b:=fun b f=>by obtain ⟨o,e⟩:=R.dom b f;refine rwE e ?_;exact hk b o e (.inl f)
 have sameM:∀b,G.mut b→h'.get? b=h.get? b:=fun b f=>by obtain ⟨o,e⟩:=R.lt b f;refine rwE e ?_;exact hk b o e (.inr (.inl f))
 have gr:Grow G h G h':=⟨fun a f=>⟨f,same a f⟩,[],by simp⟩
 refine ⟨fun a o e=>⟨(R.base a o e).1,hk a o (R.base a o e).2 (.inl (R.base a o e).1)⟩,fun a f=>let ⟨o,e⟩:=R.dom a f;⟨o,hk a o e (.inl f)⟩,R.len,fun k p o e1 e2=>?_,R.sep,
  fun b m=>let ⟨o,e⟩:=R.lt b m;⟨o,hk b o e (.inr (.inl m))⟩,R.nloc,fun i e l e1 e2=>?_,R.own,R.dis,fun env he=>?_⟩
 ·have hp:p∈G.ad:=List.mem_of_getElem? e1
  exact CellOk.mono gr id id (sameM _ ⟨p,hp,.inl rfl⟩) (sameM _ ⟨p,hp,.inr rfl⟩) (R.cells k p o e1 e2)
 ·exact SlotOk.mono gr (R.slot i e l e1 e2) (fun o e z_=>⟨o.slots,hk _ o e (.inr (.inr (.inl ⟨l,List.mem_of_getElem? e2,rfl⟩)))⟩)
 ·obtain ⟨k,L,m,f,z,n,q,r⟩:=R.frames env he
  exact ⟨k,L,m,f,z,Ns_of_slots n (fun o e z_=>⟨o.slots,hk _ o e (.inr (.inr (.inr ⟨env,he,f⟩)))⟩),q,r⟩
noncomputable def pairsOf(env:Env)(pos:Pos):List Str→List Expr→List (Nat × Pos)→List (Sem Value × Sem Value)
 |k::ks,v::vs,(m,p)::ps=>(eval (.Constant (.str k) m p) env,do let x ← eval v env;standAt pos;pure x)::pairsOf env pos ks vs ps
 |_,_,_=>[]
theorem keysOf_zip{ks:List (Option Expr)}{ns:List Str}{vs:List Expr}(e:keysOf ks=some ns)(hl:ns.length=vs.length):∃ps:List (Nat × Pos),ps.length=ns.length ∧
  (evalEachOpt ks env).zip ((evalEach vs env).map fun v=>do let x ← v;standAt pos;pure x)=(pairsOf env pos ns vs ps).map (fun p=>(some p.1,p.2))∧(pairsOf env pos ns vs ps).length=ns.length:=by
 induction ks generalizing ns vs with
 |nil =>
  have e:=Option.some.inj e
  subst e
  cases vs with
  |nil=>exact ⟨[],rfl,rfl,rfl⟩
  |cons=>exact nomatch hl
 |cons o r ih =>
  refine obE e fun c hc e=>obE e fun sx hs e=>obE e fun l hl' e=>?_
  have e:=Option.some.inj e
  subst e
  refine rwE hc ?_
  refine xE21 (strE_some hs) fun m p e_2=>rwE e_2 ?_
  cases vs with
  |nil=>exact nomatch hl
  |cons v vs =>
   refine xE13 (ih hl' (Nat.succ.inj hl)) fun ps h1 h2 h3=>⟨(m,p)::ps,congrArg (·+1) h1,?_,congrArg (·+1) h3⟩
   exact congrArg (_::·) h2
theorem evPairs_ok(I:SndE prog K w H0 fns n R):∀{vs:List Expr} {ns:List Str} {ps:List (Nat × Pos)} {ds:List PV} {st:Bc.St} {G:Gh} {s:Shared},evPs R cx vs st=some (ds,st')→ns.length=vs.length→ps.length=ns.length →
  Here K w H0 n cx st A fr env G locs s→W K w H0 fr prog A (evalPairs (pairsOf env pos ns vs ps)) G st' locs s fun us G' h'=>∃kvs,Carries (strKind prog w) us kvs∧RepK K w h' G'.fz kvs (zipA ns ds)∧kvs.map (·.1)=ns:=by
 intro vs
 induction vs with
 |nil =>
  intro ns ps ds st G s q hl _ H
  have:=List.length_eq_zero_iff.mp hl
  refine Bc.rwE this ?_
  exact evL_nil (P:=fun ds st'=>W K w H0 fr prog A (evalPairs (pairsOf env pos [] [] ps)) G st' locs s fun us G' h'=>∃kvs,Carries (strKind prog w) us kvs∧RepK K w h' G'.fz kvs (zipA [] ds)∧kvs.map (·.1)=[]) q (evalPairs_nil (Out.here H.T ⟨[],trivial,.nil,rfl⟩))
 |cons v vs ih =>
  intro ns ps ds st G s q hl hp H
  cases ns with
  |nil=>exact nomatch hl
  |cons k ns =>
   cases ps with
   |nil=>exact nomatch hp
   |cons mp ps =>
    refine evL_cons q fun d st1 ds' h1 h2 e=>?_
    refine Bc.rwE e ?_
    refine evalPairs_cons (wpAny_Constant_str ?_)
    refine wpAny_bind (W.then (evP_ok I h1 (H.next (s1:={ s with toks:=s.toks+1 }) rfl H.T)) fun v G1 s1 T1 X1 S1 r1=>wpAny_bind (wpAny_standAt (wpAny_pure ?_)))
    refine W.then (ih h2 (Nat.succ.inj hl) (Nat.succ.inj hp) (H.next (ePn I h1) T1)) fun us G2 s2 T2 X2 S2 z=>xE13 z fun kvs c1 c2 c3=>?_
    exact ⟨G2,T2,X1.trans X2,((Sh.mk' _ _ _).trans S1).trans S2,(k,v)::kvs,⟨strKind_is prog w k _,rfl,c1⟩,.cons (Rep.mono X2.fz r1) c2,congrArg (k::·) c3⟩
theorem ev_dict(D:Wd K w H0 fns mg mb){ks:List (Option Expr)}{vs:List Expr}{ns:List Str}{ds:List PV}(I:SndE prog K w H0 fns n R)(h1:keysOf ks=some ns)(hn:nodupS ns=true)(hl:ns.length=vs.length)(hz:ns.length≤15)(h0:0 < ns.length)(h2:evPs R cx vs st=some (ds,st1)) :
  EvOk prog K w H0 n cx (.Dict ks vs pos) st (.cell st1.cells.length) ⟨st1.vars,st1.cells++[.dct (zipA ns ds)]⟩:=by
 have hv:vnm st1.vars=vnm st.vars:=evPs_names I h2
 refine EvOk.plain (fun z_ z_=>rfl) hv fun A fr env G locs s H=>?_
 refine xE13 (keysOf_zip (env:=env) (pos:=pos) h1 hl) fun ps p1 p2 p3=>?_
 refine xE04 (H.T.sizeNot (sizeNone _)) fun n1 n2 n3 n4=>?_
 obtain ⟨T0,X0⟩:=H.T.pushJ { cls:=.type "dict",data:=.dict #[] }
 refine wpAny_Dict_pairs (knd:=strKind prog w) p2 (by intro z;rw [z] at p3;simp at p3;omega) (by exact le_of_eq_of_le p3 hz) (W.then (evPairs_ok I h2 hl p1 (H.next (s1:={ s with heap:=s.heap.push { cls:=.type "dict",data:=.dict #[] } }) rfl T0)) fun us G1 s1 T1 X1 S1 ⟨kvs,c1,c2,c3⟩=>⟨kvs,c1,?_,fun h' hd hs=>?_⟩)
 ·refine xE12 (X1.keep s.heap.objs.size _ (Heap.get?_push_size _ rfl) n2 id) fun sl e1 e2=>?_
  rw [e2 n4] at e1
  exact ⟨_,#[],0,e1,⟨rfl,rfl,rfl⟩,rfl,fun z_ he=>by simp at he,.nil,List.nodup_nil⟩
 ·have nd:(kvs.map (·.1)).Nodup:=by rw [c3];exact nodup_of hn
  rw [merged_new (by simpa using nd),List.nil_append] at hd
  have S1':Sh s s1:=(Sh.mk' s _ _).trans S1
  have dlt:(s.heap.push { cls:=.type "dict",data:=.dict #[] }).get? s.heap.objs.size=some { cls:=.type "dict",data:=.dict #[] }:=Heap.get?_push_size _ rfl
  have m1:¬ G1.mut s.heap.objs.size:=X1.mutLt dlt n2
  have f1:¬ G1.fz s.heap.objs.size:=fun f=>n1 (X1.nofz _ _ dlt n2 f)
  have T2:Rel K w H0 fr G1 st1 locs h':=T1.keepsB fun b o e q=>by
   refine (hs.2 b fun z=>?_).trans e
   subst z
   rcases q with q | q | ⟨l,hl,q⟩ | ⟨env,he,q⟩
   ·exact f1 q
   ·exact m1 q
   ·exact n3 l hl q
   ·exact n4 env he q
  have gz:∀a,G1.fz a→h'.get? a=s1.heap.get? a:=fun a f=>hs.2 a fun z=>f1 (z▸f)
  refine xE22 (dictOf_from hd (RepK.mono (fun a f=>⟨f,gz a f⟩) c2)) fun es ep g re=>?_
  have ns:s.heap.objs.size≠sysModules:=fun z=>by
   refine xE32 D.g fun o z_ z_ e z_=>?_
   have:=Heap.lt_size (H.T.keep0 _ _ e)
   rw [z] at this
   exact absurd this (by decide)
  have T3:=T2.addC (p:=(s.heap.objs.size,s.heap.objs.size)) (o:=.dct (zipA _ ds)) ⟨_,g⟩ ⟨_,g⟩ ⟨m1,n3,n4⟩ ⟨m1,n3,n4⟩ ⟨f1,rfl,ns,es,ep,g,re⟩
  refine ⟨_,T3,⟨fun a f=>⟨(X1.fz a f).1,?_⟩,fun b o e q1 q2=>?_,fun b o hb q f=>?_,?_,fun b o e=>?_⟩,?_,?_⟩
  ·have:=X0.trans X1
   exact (gz a (this.fz a f).1).trans (this.fz a f).2
  ·refine xE12 ((X0.trans X1).keep b o e q1 q2) fun sl e1 e2=>?_
   exact ⟨sl,(hs.2 b fun z=>by rw [z,sizeNone] at e;cases e).trans e1,e2⟩
  ·exact (X0.trans X1).nofz b o hb q f
  ·refine xE12 ((X0.trans X1).ad) fun more e hm=>?_
   refine ⟨more++[(s.heap.objs.size,s.heap.objs.size)],by dsimp only;rw [e,List.append_assoc],fun p hp=>?_⟩
   rcases List.mem_append.mp hp with hp | hp
   ·exact hm p hp
   ·refine rwE (List.mem_singleton.mp hp) ?_;exact ⟨sizeNone _,sizeNone _⟩
  ·refine xE11 ((X0.trans X1).live b o e) fun o' e'=>?_
   exact ⟨o',(hs.2 b fun z=>by rw [z,sizeNone] at e;cases e).trans e'⟩
  ·exact S1'.trans (Sh.mk' s1 h' _)
  ·exact ⟨(s.heap.objs.size,s.heap.objs.size),by refine rwB T1.len ?_;simp,rfl⟩
end
end Bc
section
namespace Bc
open PySem.MeetsSeq
theorem range_loop{prog:Program}{w:World}{A:Around}{E:Value→Shared→Prop}{items:Array Value}{x:Value}{e:Value→Bool}{j:Nat}(he:∀y,y∈items→EqGives y x (e y))(hj:j < items.size)
  (hit:e items[j]=true) (hno:∀m (hm:m < items.size),m < j→e items[m]=false) {Q:(Option Fin × Unit)→Shared→Prop}:∀(k i:Nat) {s:Shared},i+k=items.size→i≤j→Q (some (.done (.ret (.int j s.toks))),()) { s with toks:=s.toks+1 } →
  wpAny (model prog w) A (forIn (List.range' i k) ((none:Option Fin),()) fun (i:Nat) __s=>match items[i]? with
      |some y=>do
       let __do_lift ← eqBool y x
       if __do_lift=true then do
         let __do_lift ← retInt (i:Int)
         pure (ForInStep.done (some __do_lift,()))
        else pure (ForInStep.yield (none,()))
      |x=>pure (ForInStep.yield (none,()))) Q E s
 |0,i,s,h1,h2,q=>absurd (h1▸h2:items.size≤j) (Nat.not_le_of_gt hj)
 |k+1,i,s,h1,h2,q=>by
  rw [List.range'_succ,List.forIn_cons]
  have hi:i < items.size:=h1▸Nat.lt_add_of_pos_right (Nat.succ_pos k)
  simp only [Array.getElem?_eq_getElem hi]
  refine wpAny_bind (wpAny_bind (he _ (Array.getElem_mem hi) prog w A _ _ _ ?_))
  by_cases hij:i=j
  ·subst hij
   rw [hit,if_pos rfl]
   refine wpAny_bind (wpAny_mono (wpAny_ret_mkInt (Q:=fun v s'=>v=.int i s.toks∧s'={ s with toks:=s.toks+1 }) ⟨rfl,rfl⟩) (fun fin s' ⟨v,e1,e2,e3⟩=>?_) fun _ _ e=>e)
   refine Bc.rwE e1 ?_;refine Bc.rwE e2 ?_;refine Bc.rwE e3 ?_
   exact wpAny_pure (wpAny_pure q)
  ·rw [hno i hi (Nat.lt_of_le_of_ne h2 hij),if_neg (by decide)]
   exact wpAny_pure (range_loop he hj hit hno k (i+1) ((Nat.add_right_comm i 1 k).trans h1) (Nat.lt_of_le_of_ne h2 hij) q)
theorem tuple_index(l:Addr)(items:Array Value)(n:Nat)(x:Value)(e:Value→Bool)(he:∀y,y∈items→EqGives y x (e y))(j:Nat)(hj:j < items.size)
  (hit:e items[j]=true) (hno:∀m (hm:m < items.size),m < j→e items[m]=false) :
  Meets (Builtin.«tuple.index» ⟨[.ref l,x],[]⟩)
   (fun _ R s=>s.heap.get? l=some { cls:=.type "tuple",dict:=none,data:=.seq items n,slots:=#[] }∧R (.ok (.ret (.int j s.toks))) { s with toks:=s.toks+1 }):=by
 intro prog w A R s h
 obtain ⟨hl,h⟩:=h
 unfold Builtin.«tuple.index»
 refine wpAny_bind (wpAny_of_eq (a:=(Value.ref l,[x])) rfl ?_)
 refine wpAny_bind (wpAny_tupleItemsOf hl rfl ?_)
 refine wpAny_bind (wpAny_of_eq (a:=(0:Nat)) rfl ?_)
 refine wpAny_bind (wpAny_of_eq (a:=items.size) rfl ?_)
 refine wpAny_bind ?_
 rw [Std.Legacy.Range.forIn_eq_forIn_range']
 have hsz:([0:min items.size items.size]:Std.Legacy.Range).size=items.size:=by simp [Std.Legacy.Range.size]
 rw [hsz]
 refine range_loop he hj hit hno items.size 0 (Nat.zero_add _) (Nat.zero_le _) ?_
 exact wpAny_pure h
end Bc
end
namespace Bc
section
variable{K:Frag}{w:World}{H0:Heap}{fns:List DefRec}{mg mb:Str→Option Value}{fr:List Env}{prog:Program}{A:Around}{G G1:Gh}{st st' st1 st2 st3:Bc.St}{locs:List Loc}{s s1:Shared}{env:Env}{cx:Cx}{x m:Str}{h:Heap}{fz:Addr→Prop}{n:Nat}{u v:Value}{a b d:PV}{R:Rc}{e o:Expr}{pos apos:Pos}{args:List Expr}
theorem starEach_plain{env:Env}{pos:Pos}{es:List Expr}(h:es.any isS=false):(backTo pos (starEach es env)).any (·.1)=false∧(backTo pos (starEach es env)).all (fun x=>!x.1)=true:=by
 induction es with
 |nil=>exact ⟨rfl,rfl⟩
 |cons e r ih =>
  have h:=Bool.or_eq_false_iff.mp h
  have ih:=ih h.2
  rw [starEach_cons h.1]
  exact ih
theorem evalArgs_any{M:Model}{A:Around}{E:Value→Shared→Prop}{s:Shared}{f:Value}{l:List (Bool × Sem Value)}{Q:Args→Shared→Prop}(hl:l.any (·.1)=false)
  (h:wpAny M A (spliced l) (fun vs s'=>Q ⟨vs,[]⟩ s') E s):wpAny M A (evalArgs f true l []) Q E s:=by
 cases l with
 |nil =>
  unfold evalArgs
  show wpAny M A (spliced [] >>= _) Q E s
  refine wpAny_bind (wpAny_mono h (fun vs s' h'=>?_) fun z_ z_ x=>x)
  refine wpAny_bind (wpAny_pure ?_)
  refine wpAny_holding ?_
  exact wpAny_bind (wpAny_pure (wpAny_bind (wpAny_pure (wpAny_pure h'))))
 |cons p r =>
  obtain ⟨b,t⟩:=p
  rw [List.any_cons,Bool.or_eq_false_iff] at hl
  obtain ⟨rfl,_⟩:=hl
  exact evalArgs_plain h
theorem meth_call{T id:String}{Q:Value→Shared→Prop}{E:Value→Shared→Prop}(hs:args.any isS=false)(hn:args.length≤20)(hl:(apos.endLine==pos.line)=true)(ho:nSC o=true)(pa:PlainAttrs T)(slot:Slot T m id)(hty:typeOf (.builtin id)=pure (.type "method_descriptor"))
  (h:wpAny (model prog w) A (eval o env) (fun ov s₁=>s₁.TypeIs ov T∧(∀a,ov=.ref a→∃ob,s₁.heap.get? a=some ob∧ob.dict=none) ∧
   wpAny (model prog w) A (callWith pos (.builtin id) [ov] (backTo pos (starEach args env)) []) Q E s₁) E s):wpAny (model prog w) A (eval (.Call (.Attribute o m apos) args [] pos) env) Q E s:=by
 refine wpAny_Call_method (aBP ho _ _ _) ?_ hl pa slot hty h
 refine rwE ((starEach_plain hs).2) ?_
 exact decide_eq_true (Nat.lt_of_le_of_lt hn (by decide))
theorem turn_fin{k:Nat}{l l':List PV}{p:Addr × Addr}{vs vs':List Value}{nn:Nat}{f:Array Value→Array Value}(T:Rel K w H0 fr G st locs s.heap)(hp:G.ad[k]? = some p)(hc:st.cells[k]? = some (.lst l))
  (g:s.heap.get? p.1=some { cls:=.type "list",data:=.seq vs.toArray nn }) (hf:f vs.toArray=vs'.toArray) (r:RepL K w s.heap G.fz vs' l') :
  Rel K w H0 fr G ⟨st.vars,st.cells.set k (.lst l')⟩ locs (s.heap.update p.1 (Obj.mapSeq f))∧Ext fr G s.heap G (s.heap.update p.1 (Obj.mapSeq f)) None_:=by
 obtain ⟨n1,e1,_,_,_,_⟩:=T.cells k p _ hp hc
 have up:=IsL.update (n:=nn) (items:=vs.toArray) g f
 have other:∀b,b≠p.1→(s.heap.update p.1 (Obj.mapSeq f)).get? b=s.heap.get? b:=fun b hb=>Heap.get?_update_other _ _ (Ne.symm hb)
 refine T.setC hp n1 (e1▸n1) (fun b o e ne z_=>(other b ne).trans e) ⟨⟨_,up⟩,by refine rwE e1 ?_;exact ⟨_,up⟩⟩ ⟨n1,e1,vs',_,hf▸up,RepL.mono (fun a fa=>⟨fa,other a fun z=>n1 (z▸fa)⟩) r⟩
theorem args_call{id:String}{self:Value}{l:List (Bool × Sem Value)}{Q:Value→Shared→Prop}{E:Value→Shared→Prop}(hl:l.any (·.1)=false)(h:wpAny (model prog w) A (spliced l) (fun us s'=>wpAny (model prog w) A (call (.builtin id) (self::us)) Q E s') E s) :
  wpAny (model prog w) A (callWith pos (.builtin id) [self] l []) Q E s :=
 Calls.callWith_builtin hl (evalArgs_any hl h)
noncomputable def moId(m:Str):String:=bif m==("append" : Str) then "list.append" else bif m==("extend" : Str) then "list.extend" else "list.reverse"
theorem moId_slot{ds:List PV}{o1 o2:MO}(q:methMO o1 m ds=some o2):Slot "list" m (moId m)∧typeOf (.builtin (moId m))=pure (.type "method_descriptor"):=by
 refine obE q fun l hl q=>?_
 unfold moId
 cases h1:m==("append" : Str) with
 |true=>refine rwE (beq_iff_eq.mp h1) ?_;exact ⟨F.slot_list_append,F.type_list_append⟩
 |false =>
  cases h2:m==("extend" : Str) with
  |true=>refine rwE (beq_iff_eq.mp h2) ?_;exact ⟨F.slot_list_extend,F.type_list_extend⟩
  |false =>
   rw [h1,h2] at q
   refine bifT q fun hm z_=>?_
   refine rwE (beq_iff_eq.mp hm) ?_;exact ⟨F.slot_list_reverse,F.type_list_reverse⟩
theorem methMO_ok{p:Addr × Addr}{k:Nat}{ds:List PV}{us:List Value}{o1 o2:MO}{Q:Value→Shared→Prop}{E:Value→Shared→Prop}(q:methMO o1 m ds=some o2)(T:Rel K w H0 fr G st locs s.heap)(hp:G.ad[k]? = some p)(hc:st.cells[k]? = some o1)(rr:RepL K w s.heap G.fz us ds)
  (fin:∀h',Rel K w H0 fr G ⟨st.vars,st.cells.set k o2⟩ locs h'→Ext fr G s.heap G h' None_→Q .none { s with heap:=h' }) :
  wpAny (model prog w) A (call (.builtin (moId m)) (.ref p.1::us)) Q E s:=by
 refine obE q fun l hl q=>?_
 have hl:=lstMO_some hl
 subst hl
 obtain ⟨_,_,vs,nn,g,rl⟩:=T.cells k p _ hp hc
 refine bifE q (fun hm q=>?_) fun q=>bifE q (fun hm q=>?_) fun q=>bifE q (fun hm q=>?_) cz0
 ·refine rwE (show moId m="list.append" from by rw [beq_iff_eq.mp hm];kernel_rfl) ?_
  refine rArg1 q rr fun d uv rd q=>?_
  revert fin;refine gdE q fun hz fin=>?_
  have hz:=of_decide_eq_true hz
  rw [← rl.length] at hz
  refine call_meets F.slot_list_append ⟨_,g,rfl⟩ F.entry_list_append (F.args_list_append_2 _ _) (PySem.list_append p.1 vs.toArray nn _ (by refine rwE List.size_toArray ?_;exact sizeOk (Nat.le_trans hz (by decide)))) ⟨g,?_⟩
  obtain ⟨T3,X3⟩:=turn_fin (f:=fun xs=>xs.push uv) (vs':=vs++[uv]) T hp hc g (by simp) (rl.append (.cons rd .nil))
  exact fin _ T3 X3
 ·refine rwE (show moId m="list.extend" from by rw [beq_iff_eq.mp hm];kernel_rfl) ?_
  refine rArg1 q rr fun d uv rd q=>rLst q rd fun r0 b ws n2 fb gb rb q=>?_
  revert fin;refine gdE q fun hz fin=>?_
  have hz:=of_decide_eq_true hz
  rw [← rl.length,← rb.length] at hz
  refine call_meets F.slot_list_extend ⟨_,g,rfl⟩ F.entry_list_extend (F.args_list_extend_2 _ _) (AutoSeq1.list_extend_list_list_0 p.1 vs.toArray nn b ws.toArray n2 ?_ ?_ ?_) ⟨g,gb,?_⟩
  ·simp only [List.size_toArray]
   intro z
   have:=(Bool.and_eq_true_iff.mp z).2
   unfold Builtin.List.listTooLong at this
   have:=of_decide_eq_true this
   rw [sizeLine_eq] at this
   omega
  ·refine rwE List.size_toArray ?_;exact sizeOk (Nat.le_trans hz.1 (by decide))
  ·simp only [List.size_toArray];refine rwE sizeLine_eq ?_;omega
  ·obtain ⟨T3,X3⟩:=turn_fin (f:=fun xs=>xs++ws.toArray) (vs':=vs++ws) T hp hc g (by simp) (rl.append rb)
   exact fin _ T3 X3
 ·refine rwE (show moId m="list.reverse" from by rw [beq_iff_eq.mp hm];kernel_rfl) ?_
  refine bifT q fun he q=>?_
  have he:=List.isEmpty_iff.mp he
  subst he
  refine rwE (rep_nil rr) ?_
  revert fin;refine gdE q fun hz fin=>?_
  have hz:=of_decide_eq_true hz
  rw [← rl.length] at hz
  refine call_meets F.slot_list_reverse ⟨_,g,rfl⟩ F.entry_list_reverse (F.args_list_reverse_1 _) (AutoSeq1.list_reverse_list_0 p.1 vs.toArray nn (by refine rwE List.size_toArray ?_;exact sizeOk (Nat.le_trans hz (by decide)))) ⟨g,?_⟩
  obtain ⟨T3,X3⟩:=turn_fin (f:=fun xs=>xs.reverse) (vs':=vs.reverse) T hp hc g (by simp) rl.reverse
  exact fin _ T3 X3
theorem turn_ok(I:SndE prog K w H0 fns n R)(H:Here K w H0 n cx st A fr env G locs s){k:Nat}{ds:List PV}{o1 o2:MO}(hs:args.any isS=false)(hn:args.length≤20)(hl:(apos.endLine==pos.line)=true)(ho:nSC o=true)
  (h1:R.ev cx o st=some (.cell k,st1)) (hk:isLst st1.cells k=true) (h2:evPs R cx args st1=some (ds,st2)) (h3:st2.cells[k]? = some o1) (h4:methMO o1 m ds=some o2) :
  W K w H0 fr prog A (eval (.Call (.Attribute o m apos) args [] pos) env) G ⟨st2.vars,st2.cells.set k o2⟩ locs s fun v G' h'=>v=.none:=by
 have i1:=I.evok h1
 refine xE11 (Option.isSome_iff_exists.mp hk) fun l1 hk=>?_
 obtain ⟨slot,hty⟩:=moId_slot h4
 refine meth_call hs hn hl ho F.plainAttrs_list slot hty (W.then (i1.2 _ _ _ _ _ _ H).1 fun v G1 s1 T1 X1 S1 r=>?_)
 refine xE12 r fun p hp e=>?_
 refine Bc.rwE e ?_
 obtain ⟨_,_,vs,nn,g,_⟩:=T1.cells k p _ hp (lstAt_some hk)
 refine ⟨⟨_,g,rfl⟩,fun a ea=>by injection ea with ea;subst ea;exact ⟨_,g,rfl⟩,?_⟩
 refine args_call (starEach_plain (env:=env) (pos:=pos) hs).1 (W.then (evPs_ok I h2 hs (H.next i1.1 T1)) fun us G2 s2 T2 X2 S2 r=>?_)
 exact methMO_ok h4 T2 (X2.grow.at hp) h3 r fun h' T3 X3=>⟨G2,T3,(X1.trans X2).trans X3,(S1.trans S2).trans (Sh.mk' s2 _ _),rfl⟩
end
end Bc
namespace Bc
section
variable{K:Frag}{w:World}{H0:Heap}{fns:List DefRec}{mg mb:Str→Option Value}{fr:List Env}{prog:Program}{A:Around}{G G1:Gh}{st st' st1 st2 st3:Bc.St}{locs:List Loc}{s s1:Shared}{env:Env}{cx:Cx}{x m:Str}{h:Heap}{fz:Addr→Prop}{n:Nat}{u v:Value}{a b d:PV}{R:Rc}{e o:Expr}{pos apos:Pos}{args:List Expr}
noncomputable def sameStr(x:Str):Value→Bool
 | .str y _=>y.cps.toList==x.cps.toList
 |_=>false
theorem idx_at{vs:List Value}{ss:List Str}(r:StrsAre vs ss):∀{j:Nat},idxS x ss=some j→∃hj:j < vs.length,sameStr x vs[j]=true∧∀k (hk:k < vs.length),k < j→sameStr x vs[k]=false:=by
 induction r with
 |nil=>exact fun e=>cz0 e
 |cons y t r ih =>
  intro j e
  replace e:(bif y==x then some 0 else ob (idxS x _) fun n=>some (n+1))=some j:=e
  refine bifE (C:=∃hj:j < _,_) e (fun hq e=>?_) fun e'=>?_
  ·have e:=Option.some.inj e
   subst e
   refine ⟨Nat.succ_pos _,?_,fun k _ hk=>absurd hk (Nat.not_lt_zero _)⟩
   show (y.cps.toList==x.cps.toList)=true
   refine rwE (beq_iff_eq.mp hq) ?_;exact beq_self_eq_true _
  ·cases hq:y==x with
   |true =>
    rw [hq] at e
    have e:=Option.some.inj e
    refine Bc.rwB e ?_
    refine ⟨Nat.succ_pos _,?_,fun k _ hk=>absurd hk (Nat.not_lt_zero _)⟩
    show (y.cps.toList==x.cps.toList)=true
    refine rwE (beq_iff_eq.mp hq) ?_;exact beq_self_eq_true _
   |false =>
    refine obE e' fun i hi e=>?_
    have e:=Option.some.inj e
    refine Bc.rwB e ?_
    refine xE12 (ih hi) fun hj h1 h2=>⟨Nat.succ_lt_succ hj,h1,fun k hk hlt=>?_⟩
    cases k with
    |zero =>
     show (y.cps.toList==x.cps.toList)=false
     refine beq_eq_false_iff_ne.mpr fun z=>?_
     have:y=x:=congrArg Str.mk (Array.ext' z)
     rw [this,beq_self_eq_true] at hq;exact cz3 hq
    |succ k=>exact h2 k (Nat.lt_of_succ_lt_succ hk) (Nat.lt_of_succ_lt_succ hlt)
theorem strs_eq{vs:List Value}{ss:List Str}(r:StrsAre vs ss):∀y,y∈vs.toArray→∀t,MeetsSeq.EqGives y (.str x t) (sameStr x y):=by
 induction r with
 |nil=>exact fun y hy=>nomatch hy
 |cons z t r ih =>
  intro y hy t'
  rcases List.mem_cons.mp (Array.mem_toList_iff.mpr hy) with e | hy
  ·refine Bc.rwE e ?_;exact SeqRoads2.EqGives.str z x t t'
  ·exact ih y (Array.mem_toList_iff.mp hy) t'
theorem strs_pairs{vs:List Value}{ss:List Str}(r:StrsAre vs ss):∃l:List (Str × Tok),vs=strValues l∧l.map (·.1)=ss:=by
 induction r with
 |nil=>exact ⟨[],rfl,rfl⟩
 |cons y t r ih=>exact xE12 ih fun l h1 h2=>⟨(y,t)::l,by refine rwE h1 ?_;rfl,congrArg (y::·) h2⟩
theorem join_small(sep:Str)(hs:sep.length≤1000):∀(ss:List Str) (acc:Nat),(ss.all fun s=>s.length≤1000)=true→ss.foldl (fun x1 x2=>x1+x2.length+sep.length) acc≤acc+2000 * ss.length
 |[],acc,_=>by simp
 |y::r,acc,h=>by
  rw [List.all_cons] at h
  obtain ⟨h1,h2⟩:=Bool.and_eq_true_iff.mp h
  have:=join_small sep hs r (acc+y.length+sep.length) h2
  have h1:=of_decide_eq_true h1
  refine rwE List.foldl_cons (rwE List.length_cons ?_)
  omega
theorem glue_small(sep:Str)(hs:sep.length≤1000):∀(ss:List Str) (acc:Array Nat),(ss.all fun s=>s.length≤1000)=true→(ss.foldl (fun acc p=>acc++sep.cps++p.cps) acc).size≤acc.size+2000 * ss.length
 |[],acc,_=>by simp
 |y::r,acc,h=>by
  rw [List.all_cons] at h
  obtain ⟨h1,h2⟩:=Bool.and_eq_true_iff.mp h
  have:=glue_small sep hs r (acc++sep.cps++y.cps) h2
  have h1:y.cps.size≤1000:=of_decide_eq_true h1
  have hs:sep.cps.size≤1000:=hs
  refine rwE List.foldl_cons (rwE List.length_cons ?_)
  simp only [Array.size_append] at this
  omega
theorem glued_small(sep:Str)(hs:sep.length≤1000)(ss:List Str)(h:(ss.all fun s=>s.length≤1000)=true)(hn:ss.length≤100):(Builtin.Str.glued sep ss).length≤sizeLine:=by
 unfold Builtin.Str.glued
 show Array.size _≤_
 cases ss with
 |nil=>exact Nat.zero_le _
 |cons y r =>
  rw [List.all_cons] at h
  obtain ⟨h1,h2⟩:=Bool.and_eq_true_iff.mp h
  have h1:y.cps.size≤1000:=of_decide_eq_true h1
  have:=glue_small sep hs r y.cps h2
  rw [List.length_cons] at hn
  refine rwE sizeLine_eq ?_
  refine Nat.le_trans this ?_
  omega
section
variable{ds:List PV}{us:List Value}{Q:Value→Shared→Prop}{E:Value→Shared→Prop}
theorem get_m(q:getB a ds=some d)(ra:Rep K w s.heap fz v a)(rr:RepL K w s.heap fz us ds)(fin:∀u tk,Rep K w s.heap fz u d→Q u { s with toks:=tk }):wpAny (model prog w) A (call (.builtin "dict.get") (v::us)) Q E s:=by
 refine rDct q ra fun es p vs n f g re ns q=>rArg1 q rr fun dk u rk q=>rStr q rk fun x t q=>?_
 have q:=Option.some.inj q
 have hm:=mapOf_rep (prog:=prog) g re
 refine call_meetsIn F.slot_dict_get hm.typeIs F.entry_dict_get (F.args_dict_get_2 _ _) (meets_dict_get (strKind prog w) p (strKind_is prog w x t) (by simpa using ns)) ⟨_,hm,fin _ _ ?_⟩
 have z:=findL (x:=x) re
 refine rwB q ?_
 cases hq:lookA x es with
 |none=>refine rwE ((z.2 hq).1) ?_;exact .none
 |some d'=>exact xE13 (z.1 d' hq) fun u e1 e2 _=>by refine rwE e1 ?_;exact e2
theorem index_m(q:indexB a ds=some d)(ra:Rep K w s.heap fz v a)(rr:RepL K w s.heap fz us ds)(fin:∀u tk,Rep K w s.heap fz u d→Q u { s with toks:=tk }) :
  wpAny (model prog w) A (call (.builtin (bif (asTup a).isSome then "tuple.index" else "list.index")) (v::us)) Q E s:=by
 cases ht:asTup a with
 |some l =>
  have ha:=asTupE ht
  subst ha
  refine ooE (x:=idxB ds l) q (fun q=>?_) fun q=>cz0 q
  refine rtE ra fun p vs n f g rl=>rArg1 q rr fun dk u rk q=>rStr q rk fun x t q=>obE q fun ss hss q=>obE q fun j hj q=>?_
  revert fin;refine gdE q fun hz fin=>?_
  have sa:=strs_are rl hss
  refine xE12 (idx_at sa hj) fun hlt e1 e2=>?_
  show wpAny _ _ (call (.builtin "tuple.index") _) _ _ _
  exact call_meets F.slot_tuple_index ⟨_,g,rfl⟩ F.entry_tuple_index (F.args_tuple_index_2 (.ref p) (.str x t)) (tuple_index p vs.toArray n (.str x t) (sameStr x) (fun y hy=>strs_eq sa y hy t) j hlt e1 (fun k hk hlt=>e2 k hk hlt)) ⟨g,fin _ _ (.int _ _)⟩
 |none =>
  have q:ob (asLst a) (idxB ds)=some d:=by
   replace q:oo (ob (asTup a) (idxB ds)) (ob (asLst a) (idxB ds))=some d:=q
   rw [ht] at q;exact q
  refine rLst q ra fun l p vs n f g rl q=>rArg1 q rr fun dk u rk q=>rStr q rk fun x t q=>obE q fun ss hss q=>obE q fun j hj q=>?_
  revert fin;refine gdE q fun hz fin=>?_
  have hz:=of_decide_eq_true hz
  rw [← rl.length] at hz
  have sa:=strs_are rl hss
  refine xE12 (idx_at sa hj) fun hlt e1 e2=>?_
  show wpAny _ _ (call (.builtin "list.index") _) _ _ _
  exact call_meets F.slot_list_index ⟨_,g,rfl⟩ F.entry_list_index (F.args_list_index_2 _ _) (MeetsSeq.list_index p vs.toArray n (.str x t) (sameStr x) (fun y hy=>strs_eq sa y hy t) j hlt (by have:j < vs.length:=hlt;omega) e1 (fun k hk hlt=>e2 k hk hlt)) ⟨g,fin _ _ (.int _ _)⟩
theorem join_m(q:joinB a ds=some d)(ra:Rep K w s.heap fz v a)(rr:RepL K w s.heap fz us ds)(fin:∀u tk,Rep K w s.heap fz u d→Q u { s with toks:=tk }):wpAny (model prog w) A (call (.builtin "str.join") (v::us)) Q E s:=by
 refine rStr q ra fun sep t q=>rArg1 q rr fun dk u rk q=>rLst q rk fun l ad vs nn f g rl q=>obE q fun ss hss q=>?_
 revert fin;refine gdE q fun hz fin=>?_
 have hz:=of_decide_eq_true hz
 refine xE12 (strs_pairs (strs_are rl hss)) fun ps hp hps=>?_
 subst hp hps
 have hsm:=join_small sep hz.1 _ 0 hz.2.2
 have hlen:(Builtin.Str.glued sep (ps.map (·.1))).length≤sizeLine:=glued_small sep hz.1 _ hz.2.2 hz.2.1
 refine call_meets F.slot_str_join (typeIs_str _ _ _) F.entry_str_join (F.args_str_join_2 (.str sep t) (.ref ad)) (meets_str_join_list sep t ad ps ?_) ⟨isListN g,?_⟩
 ·unfold Builtin.Str.tooLong
  refine decide_eq_false ?_
  rw [List.foldl_toArray,sizeLine_eq]
  omega
 ·cases ps with
  |nil=>exact ⟨hlen,fin _ _ (.str _ _)⟩
  |cons p r =>
   cases r with
   |nil=>exact fin (.str _ p.2) s.toks (.str _ _)
   |cons q r=>exact ⟨hlen,fin _ _ (.str _ _)⟩
theorem one_sign{f:Str}(h:f.length=1):∃c,f=⟨#[c]⟩:=by
 obtain ⟨cs⟩:=f
 have h:cs.size=1:=h
 refine ⟨cs[0],?_⟩
 rw [Str.mk.injEq]
 apply Array.ext
 ·exact h
 ·intro i h1 h2;simp at h2;subst h2;rfl
theorem rjust_m(q:rjustB a ds=some d)(ra:Rep K w s.heap fz v a)(rr:RepL K w s.heap fz us ds)(fin:∀u tk,Rep K w s.heap fz u d→Q u { s with toks:=tk }):wpAny (model prog w) A (call (.builtin "str.rjust") (v::us)) Q E s:=by
 refine rStr q ra fun x t q=>rArg2 q rr fun dk dc u z rk rc q=>rInt q rk fun i t2 q=>rStr q rc fun sf t3 q=>?_
 revert fin;refine gdE q fun hz fin=>?_
 have hz:=of_decide_eq_true hz
 refine xE11 (one_sign hz.1) fun c e=>?_
 refine Bc.rwE e ?_
 refine call_gives F.slot_str_rjust (typeIs_str _ _ _) F.entry_str_rjust (F.args_str_rjust_3 (.str x t) (.int i t2) (.str ⟨#[c]⟩ t3)) (gives_str_rjust3 x i c t t2 t3 ?_ ?_) ?_
 ·rw [Bool.or_eq_false_iff];exact ⟨decide_eq_false (by omega),decide_eq_false (by omega)⟩
 ·unfold Builtin.Str.tooLong
  exact decide_eq_false (by refine rwE sizeLine_eq ?_;omega)
 ·refine rwE (if_pos hz.2.2.1) ?_
  exact fin _ s.toks (.str _ _)
end
theorem methP_base{T id:String}(I:SndE prog K w H0 fns n R)(H:Here K w H0 n cx st A fr env G locs s){ds:List PV}(hs:args.any isS=false)(hn:args.length≤20)(hl:(apos.endLine==pos.line)=true)(ho:nSC o=true)
  (h1:evP R cx o st=some (a,st1)) (h2:evPs R cx args st1=some (ds,st2)) (pa:PlainAttrs T) (slot:Slot T m id) (hty:typeOf (.builtin id)=pure (.type "method_descriptor"))
  (hT:∀(s1:Shared) (fz:Addr→Prop) v,Rep K w s1.heap fz v a→s1.TypeIs v T∧∀b,v=.ref b→∃ob,s1.heap.get? b=some ob∧ob.dict=none)
  (k:∀{fz:Addr→Prop} {v us} {s:Shared} {Q:Value→Shared→Prop},Rep K w s.heap fz v a→RepL K w s.heap fz us ds→(∀u tk,Rep K w s.heap fz u d→Q u { s with toks:=tk })→wpAny (model prog w) A (call (.builtin id) (v::us)) Q (fun _ _=>False) s) :
  W K w H0 fr prog A (eval (.Call (.Attribute o m apos) args [] pos) env) G st2 locs s fun v G' h'=>Rep K w h' G'.fz v d:=by
 refine meth_call hs hn hl ho pa slot hty (W.then (evP_ok I h1 H) fun v G1 s1 T1 X1 S1 r=>⟨(hT _ _ _ r).1,(hT _ _ _ r).2,?_⟩)
 refine args_call (starEach_plain (env:=env) (pos:=pos) hs).1 (W.then (evPs_ok I h2 hs (H.next (ePn I h1) T1)) fun us G2 s2 T2 X2 S2 rr=>?_)
 exact k (Rep.mono X2.fz r) rr fun u tk ru=>⟨G2,T2,X1.trans X2,(S1.trans S2).trans (Sh.mk' s2 _ _),ru⟩
theorem methP_ok(I:SndE prog K w H0 fns n R)(H:Here K w H0 n cx st A fr env G locs s){ds:List PV}(hs:args.any isS=false)(hn:args.length≤20)(hl:(apos.endLine==pos.line)=true)(ho:nSC o=true)
  (h1:evP R cx o st=some (a,st1)) (h2:evPs R cx args st1=some (ds,st2)) (h4:methPV a m ds=some d) :
  W K w H0 fr prog A (eval (.Call (.Attribute o m apos) args [] pos) env) G st2 locs s fun v G' h'=>Rep K w h' G'.fz v d:=by
 refine bifE h4 (fun hm q=>?_) fun q=>bifE q (fun hm q=>?_) fun q=>bifE q (fun hm q=>?_) fun q=>bifE q (fun hm q=>?_) cz0
 ·have hm:=beq_iff_eq.mp hm
  refine Bc.rwE hm ?_
  refine methP_base I H hs hn hl ho h1 h2 F.plainAttrs_dict F.slot_dict_get F.type_dict_get (fun s1 fz v r=>?_) (get_m q)
  refine obE q fun es he _=>?_
  have he:=asDctE he
  subst he
  refine xE35 (rep_dct r) fun p vs n e f g re ns=>?_
  refine Bc.rwE e ?_
  exact ⟨(mapOf_rep (prog:=prog) g re).typeIs,fun b eb=>by injection eb with eb;subst eb;exact ⟨_,g,rfl⟩⟩
 ·have hm:=beq_iff_eq.mp hm
  subst hm
  have k:=fun {fz v us s Q}=>index_m (K:=K) (w:=w) (prog:=prog) (A:=A) (fz:=fz) (v:=v) (us:=us) (s:=s) (Q:=Q) (E:=fun _ _=>False) q
  cases ht:asTup a with
  |some l =>
   rw [ht] at k
   refine methP_base I H hs hn hl ho h1 h2 F.plainAttrs_tuple F.slot_tuple_index F.type_tuple_index (fun s1 fz v r=>?_) k
   have he:=asTupE ht
   subst he
   refine xE34 (rep_tup r) fun p vs n e f g re=>?_
   refine Bc.rwE e ?_
   exact ⟨⟨_,g,rfl⟩,fun b eb=>by injection eb with eb;subst eb;exact ⟨_,g,rfl⟩⟩
  |none =>
   rw [ht] at k
   refine methP_base I H hs hn hl ho h1 h2 F.plainAttrs_list F.slot_list_index F.type_list_index (fun s1 fz v r=>?_) k
   replace q:oo (ob (asTup a) (idxB ds)) (ob (asLst a) (idxB ds))=some d:=q
   rw [ht] at q
   refine obE (x:=asLst a) q fun l hl _=>?_
   have he:=asLstE hl
   subst he
   refine xE34 (rep_lst r) fun p vs n e f g re=>?_
   refine Bc.rwE e ?_
   exact ⟨⟨_,g,rfl⟩,fun b eb=>by injection eb with eb;subst eb;exact ⟨_,g,rfl⟩⟩
 ·have hm:=beq_iff_eq.mp hm
  refine Bc.rwE hm ?_
  refine methP_base I H hs hn hl ho h1 h2 F.plainAttrs_str F.slot_str_join F.type_str_join (fun s1 fz v r=>?_) (join_m q)
  exact rStr q r fun x t _=>⟨typeIs_str _ _ _,fun b eb=>nomatch eb⟩
 ·have hm:=beq_iff_eq.mp hm
  refine Bc.rwE hm ?_
  refine methP_base I H hs hn hl ho h1 h2 F.plainAttrs_str F.slot_str_rjust F.type_str_rjust (fun s1 fz v r=>?_) (rjust_m q)
  exact rStr q r fun x t _=>⟨typeIs_str _ _ _,fun b eb=>nomatch eb⟩
end
end Bc
namespace Bc
structure BiOk(K:Frag):Prop where
 len:gval K "len" = some (.builtin "len")
 list:gval K "list" = some (.type "list")
 max:gval K "max" = some (.builtin "max")
 abs:gval K "abs" = some (.builtin "abs")
 str:gval K "str" = some (.type "str")
 range:gval K "range" = some (.type "range")
 isinstance:gval K "isinstance" = some (.builtin "isinstance")
 sum:gval K "sum" = some (.builtin "sum")
section
variable{K:Frag}{w:World}{H0:Heap}{fns:List DefRec}{mg mb:Str→Option Value}{fr:List Env}{prog:Program}{A:Around}{G G1:Gh}{st st' st1 st2 st3:Bc.St}{locs:List Loc}{s s1:Shared}{env:Env}{cx:Cx}{x m:Str}{h:Heap}{fz:Addr→Prop}{n:Nat}{u v f:Value}{a b d:PV}{R:Rc}{e o:Expr}{pos apos:Pos}{args:List Expr}
theorem maxI_cons{a b:Int}{r:List Int}:maxI a (b::r)=maxI (max a b) r:=by
 show maxI (if a < b then b else a) r=_
 congr 1
 omega
theorem maxI_spec:∀(r:List Int) (a:Int),maxI a r∈a::r∧∀b∈a::r,b≤maxI a r
 |[],a=>⟨List.mem_cons_self ..,fun b h=>by refine rwE (List.mem_singleton.mp h) ?_;exact Int.le_refl _⟩
 |b::r,a=>by
  obtain ⟨h1,h2⟩:=maxI_spec r (max a b)
  refine rwE maxI_cons ?_
  have hm:=h2 _ (List.mem_cons_self ..)
  refine ⟨?_,fun c hc=>?_⟩
  ·rcases List.mem_cons.mp h1 with h | h
   ·refine rwE h ?_
    rcases Int.le_total a b with z | z
    ·refine rwE (Int.max_eq_right z) ?_;exact List.mem_cons_of_mem _ (List.mem_cons_self ..)
    ·refine rwE (Int.max_eq_left z) ?_;exact List.mem_cons_self ..
   ·exact List.mem_cons_of_mem _ (List.mem_cons_of_mem _ h)
  ·rcases List.mem_cons.mp hc with h | hc
   ·refine rwE h ?_;exact Int.le_trans (Int.le_max_left ..) hm
   ·rcases List.mem_cons.mp hc with h | hc
    ·refine rwE h ?_;exact Int.le_trans (Int.le_max_right ..) hm
    ·exact h2 c (List.mem_cons_of_mem _ hc)
theorem maxI_unique{a M:Int}{r:List Int}(h1:M∈a::r)(h2:∀b∈a::r,b≤M):M=maxI a r:=Int.le_antisymm ((maxI_spec r a).2 _ h1) (h2 _ (maxI_spec r a).1)
theorem sumI_eq:∀l:List Int,sumI l=l.sum
 |[]=>rfl
 |a::r=>by rw [sumI,sumI_eq r,List.sum_cons]
theorem ints_are{vs:List Value}{ds:List PV}{ns:List Int}(r:RepL K w h fz vs ds):intsOf ds=some ns→IntsAre vs ns :=
 r.ind (Q:=fun vs ds=>∀ns,intsOf ds=some ns→IntsAre vs ns) (fun ns e=>cz5 (P:=fun ns=>IntsAre [] ns) e .nil)
  (fun {v d vs ds} a _ ih ns e=>rInt (P:=fun v=>IntsAre (v::vs) ns) e a fun x t e=>obE e fun l h1 e=>cz5 (P:=fun ns=>IntsAre (.int x t::vs) ns) e (.cons x t (ih l h1))) ns
theorem beqs{x y:Str}(h:(x==y)=true):x=y:=beq_iff_eq.mp h
section
variable{ds:List PV}{vs:List Value}
theorem len_b(q:ob (arg1 ds) lenB=some d)(T:Rel K w H0 fr G st locs s.heap)(r:RepL K w s.heap G.fz vs ds):W K w H0 fr prog A (call (.builtin "len") vs) G st locs s fun v G' h'=>Rep K w h' G'.fz v d:=by
 refine rArg1 q r fun a v ra q=>ooE q (fun q=>?_) fun q=>?_
 ·refine rLst q ra fun l p ws nn f g rl q=>gdE q fun hz=>?_
  have hz:=of_decide_eq_true hz
  rw [← rl.length] at hz ⊢
  exact call_len_list (isListN g) (by refine rwE List.size_toArray ?_;omega) (Out.tok T (.int _ _))
 ·exact rStr q ra fun x t q=>gdE q fun hz=>P.len_str (by have:=of_decide_eq_true hz;omega) (Out.tok T (.int _ _))
theorem list_b(q:ob (arg1 ds) listB=some d)(T:Rel K w H0 fr G st locs s.heap)(r:RepL K w s.heap G.fz vs ds):W K w H0 fr prog A (call (.type "list") vs) G st locs s fun v G' h'=>Rep K w h' G'.fz v d:=by
 refine rArg1 q r fun a v ra q=>rLst q ra fun l p ws nn f g rl q=>gdE q fun hz=>?_
 have hz:=of_decide_eq_true hz
 rw [← rl.length] at hz
 refine call_list_seq (hsz:=by refine rwE List.size_toArray ?_;exact sizeOk (Nat.le_trans hz (by decide))) p (.inl rfl) g rfl rfl fun h' c' hk hD=>?_
 obtain ⟨T1,X1⟩:=T.freezeN hk (sizeNone _) hD
 exact Out.ofH T1 X1 (.lst (.inr rfl) hD (RepL.mono X1.fz rl))
theorem max_b(q:maxB ds=some d)(hh:A.handled=none)(T:Rel K w H0 fr G st locs s.heap)(r:RepL K w s.heap G.fz vs ds):W K w H0 fr prog A (call (.builtin "max") vs) G st locs s fun v G' h'=>Rep K w h' G'.fz v d:=by
 refine ooE q (fun q=>?_) fun q=>?_
 ·refine rArg2 q r fun a b v u ra rb q=>rInt q ra fun i t q=>rInt q rb fun j t2 q=>cz5 q ?_
  refine max_two_ints hh fun h' tk hk=>?_
  obtain ⟨T1,X1⟩:=T.keepAll hk
  refine Out.of T1 X1 ?_
  show Rep K w h' G.fz _ (.int (if i < j then j else i))
  by_cases c:j > i
  ·refine rwE (if_pos c) (rwE (if_pos c) ?_);exact .int _ _
  ·rw [if_neg c,if_neg c];exact .int _ _
 ·refine rArg1 q r fun a v ra q=>rLst q ra fun l p ws nn f g rl q=>obE q fun is hi q=>obE q fun u hu q=>gdE q fun hz=>?_
  have hu:=uncE hu
  subst hu
  have hi':=ints_are rl hi
  refine xE11 hi'.allInts.items fun xs hxs=>?_
  have e2:numsOf (intItems xs).toList=u.1::u.2:=by rw [← hxs];exact hi'.numsOf
  rw [nums_intItems] at e2
  have hsz:0 < xs.size:=by
   have:=congrArg List.length e2
   rw [List.length_map,Array.length_toList] at this
   rw [this];exact Nat.succ_pos _
  refine max_intList (xs:=xs) hh (hxs▸isListN g) hsz fun v h' tk hv hk=>?_
  obtain ⟨T1,X1⟩:=T.keepAll hk
  refine Out.of T1 X1 ?_
  refine xE11 (intItems_at hv) fun t e=>?_
  refine Bc.rwE e ?_
  obtain ⟨h1,h2⟩:=argBest_gt (numAt xs) (xs.size - 1)
  have:numAt xs (argBest (fun i j=>decide (numAt xs i > numAt xs j)) (xs.size - 1))=maxI u.1 u.2:=by
   refine maxI_unique ?_ fun b hb=>?_
   ·rw [← e2,numAt_eq];exact getD_mem (by rw [List.length_map,Array.length_toList];exact Nat.lt_of_le_pred hsz h1)
   ·rw [← e2] at hb
    refine xE12 (mem_getD hb) fun j hj e=>?_
    rw [List.length_map,Array.length_toList] at hj
    rw [← e,← numAt_eq];exact h2 j (Nat.le_sub_one_of_lt hj)
  refine rwE this ?_
  exact .int _ _
theorem abs_b(q:ob (arg1 ds) absB=some d)(T:Rel K w H0 fr G st locs s.heap)(r:RepL K w s.heap G.fz vs ds):W K w H0 fr prog A (call (.builtin "abs") vs) G st locs s fun v G' h'=>Rep K w h' G'.fz v d:=by
 refine rArg1 q r fun a v ra q=>rInt q ra fun i t q=>cz5 q (call_abs_int fun u tk=>Out.tok T ?_)
 refine rwE (show (if i < 0 then -i else i)=(i.natAbs:Int) from by split<;>omega) ?_
 exact .int _ _
theorem str_b(q:ob (arg1 ds) strB=some d)(T:Rel K w H0 fr G st locs s.heap)(r:RepL K w s.heap G.fz vs ds):W K w H0 fr prog A (call (.type "str") vs) G st locs s fun v G' h'=>Rep K w h' G'.fz v d :=
 rArg1 q r fun a v ra q=>rInt q ra fun i t q=>gdE q fun hz=>P.str_of_int (log2_small (of_decide_eq_true hz)) (Out.tok T (.str _ _))
theorem range_b(q:ob (arg1 ds) rangeB=some d)(T:Rel K w H0 fr G st locs s.heap)(r:RepL K w s.heap G.fz vs ds):W K w H0 fr prog A (call (.type "range") vs) G st locs s fun v G' h'=>Rep K w h' G'.fz v d:=by
 refine rArg1 q r fun a v ra q=>rInt q ra fun i t q=>gdE q fun hz=>call_range_1 ?_
 have hz:=of_decide_eq_true hz
 obtain ⟨T1,X1⟩:=T.pushF (o:={ cls:=.type "range",data:=.fields #[.int 0 s.toks,.int i t,.int 1 (s.toks+1)] }) rfl
 refine Out.of T1 X1 (.rng (.inr rfl) (t:=s.toks) (u:=t) (v:=s.toks+1) ?_ (by omega))
 refine rwE (Heap.get?_push_size _ rfl) (rwE (Int.toNat_of_nonneg hz.1) rfl)
set_option tactic.hygienic true in
theorem clsA_gval{c:Str}{C:Addr}(h:clsA K c=some C):gval K c=some (.ref C):=by
 unfold clsA at h
 unfold gval
 split at h
 ·rename_i hq
  have h:=Option.some.inj h
  refine Bc.rwB h ?_
  refine rwE hq rfl
 ·exact cz0 h
theorem isi_b(q:isiB ds=some d)(D:Wd K w H0 fns mg mb)(T:Rel K w H0 fr G st locs s.heap)(r:RepL K w s.heap G.fz vs ds):W K w H0 fr prog A (call (.builtin "isinstance") vs) G st locs s fun v G' h'=>Rep K w h' G'.fz v d:=by
 refine rArg2 q r fun a b v u ra rb q=>obE q fun c hc q=>obE q fun g hg q=>gdE q fun hz=>?_
 have hc2:=instOfE hc
 have hg2:=asGlbE hg
 dsimp only at hc2 hg2
 subst hc2 hg2
 obtain ⟨z1,z2⟩:=Bool.and_eq_true_iff.mp hz
 obtain ⟨p,dx,C,es,n,e,f1,f2,g1,g2,cc,rr⟩:=Rep.inv ra
 have gg:gval K g=some u:=Rep.inv rb
 rw [beqs z2,← beqs z1,clsA_gval cc] at gg
 have gg:=Option.some.inj gg
 subst e;refine Bc.rwB gg ?_
 exact isi_call (t:=.ref _) (D.kin.keeps T.keep0) (fun M=>InstAt.type (od:=some (dictOf _ _)) ⟨g1,rfl,rfl,g2⟩) (by unfold isIn;simp) (fun z=>nomatch z) (Out.here T (.bool _))
theorem sum_b(q:ob (arg1 ds) sumB=some d)(hh:A.handled=none)(T:Rel K w H0 fr G st locs s.heap)(r:RepL K w s.heap G.fz vs ds):W K w H0 fr prog A (call (.builtin "sum") vs) G st locs s fun v G' h'=>Rep K w h' G'.fz v d:=by
 refine rArg1 q r fun a v ra q=>rLst q ra fun l p ws nn f g rl q=>obE q fun is hi q=>gdE q fun hz=>?_
 have hi':=ints_are rl hi
 refine xE11 hi'.allInts.items fun xs hxs=>?_
 refine sum_intListG (xs:=xs) hh (hxs▸isListN g) fun h' tk t' hk=>?_
 obtain ⟨T1,X1⟩:=T.keepAll hk
 refine Out.of T1 X1 ?_
 have e2:numsOf (intItems xs).toList=is:=by refine rwB hxs ?_;exact hi'.numsOf
 rw [nums_intItems] at e2
 rw [preSum_eq,List.take_of_length_le (by simp),e2,← sumI_eq]
 exact .int _ _
theorem bi_ok(B:BiOk K)(D:Wd K w H0 fns mg mb)(hf:gval K x=some f)(q:biPV x ds=some d)(hh:x≠("str" : Str)→A.handled=none)(T:Rel K w H0 fr G st locs s.heap)(r:RepL K w s.heap G.fz vs ds) :
  ((∃id,f=.builtin id)∨∃t,f=.type t)∧W K w H0 fr prog A (call f vs) G st locs s fun v G' h'=>Rep K w h' G'.fz v d:=by
 have go:∀{y:Str} {g:Value},(x==y)=true→gval K y=some g→f=g:=fun hx e=>by rw [beqs hx,e] at hf;exact (Option.some.inj hf).symm
 refine bifE q (fun hx q=>?_) fun q=>bifE q (fun hx q=>?_) fun q=>bifE q (fun hx q=>?_) fun q=>bifE q (fun hx q=>?_) fun q=>bifE q (fun hx q=>?_) fun q=>bifE q (fun hx q=>?_) fun q=>bifE q (fun hx q=>?_) fun q=>bifE q (fun hx q=>?_) cz0
 ·exact go hx B.len▸⟨.inl ⟨_,rfl⟩,len_b q T r⟩
 ·exact go hx B.list▸⟨.inr ⟨_,rfl⟩,list_b q T r⟩
 ·exact go hx B.max▸⟨.inl ⟨_,rfl⟩,max_b q (hh (by refine rwE (beqs hx) ?_;decide)) T r⟩
 ·exact go hx B.abs▸⟨.inl ⟨_,rfl⟩,abs_b q T r⟩
 ·exact go hx B.str▸⟨.inr ⟨_,rfl⟩,str_b q T r⟩
 ·exact go hx B.range▸⟨.inr ⟨_,rfl⟩,range_b q T r⟩
 ·exact go hx B.isinstance▸⟨.inl ⟨_,rfl⟩,isi_b q D T r⟩
 ·exact go hx B.sum▸⟨.inl ⟨_,rfl⟩,sum_b q (hh (by refine rwE (beqs hx) ?_;decide)) T r⟩
end
end
end Bc
namespace Bc
theorem lookup_zip{ns:List Str}{vs:List Value}(e:vs.length=ns.length)(x:Str)(h:x∈ns):((ns.zip vs).lookup x).isSome=true:=by
 induction ns generalizing vs with
 |nil=>exact nomatch h
 |cons n ns ih =>
  cases vs with
  |nil=>exact nomatch e
  |cons v vs =>
   rw [List.zip_cons_cons,List.lookup_cons]
   cases q:x==n with
   |true=>rfl
   |false=>exact ih (Nat.succ.inj e) ((List.mem_cons.mp h).resolve_left fun z=>absurd q (by rw [z,beq_self_eq_true];decide))
theorem fm_congr{α β:Type}{f g:α→Option β}{l:List α}(h:∀x∈l,f x=g x):l.filterMap f=l.filterMap g:=by
 induction l with
 |nil=>rfl
 |cons x r ih=>rw [List.filterMap_cons,List.filterMap_cons,h x List.mem_cons_self,ih fun y hy=>h y (List.mem_cons_of_mem _ hy)]
theorem forIn_stay'{α β:Type}{f:α→β→Sem (ForInStep β)}(c:β)(l:List α)(h:∀x∈l,f x c=pure (.yield c)):forIn l c f=pure c:=by
 induction l with
 |nil=>exact List.forIn_nil
 |cons x r ih=>rw [List.forIn_cons,h x List.mem_cons_self,pure_bind];exact ih fun y hy=>h y (List.mem_cons_of_mem _ hy)
theorem filterMap_zip{ns:List Str}{vs:List Value}(e:vs.length=ns.length)(h:ns.Nodup):(ns.filterMap fun n=>((ns.zip vs).lookup n).map (n,·))=ns.zip vs:=by
 induction ns generalizing vs with
 |nil=>rfl
 |cons n ns ih =>
  cases vs with
  |nil=>exact nomatch e
  |cons v vs =>
   have h:=List.nodup_cons.mp h
   rw [List.zip_cons_cons,List.filterMap_cons,List.lookup_cons,beq_self_eq_true]
   refine congrArg ((n,v)::·) ((fm_congr fun m hm=>?_).trans (ih (Nat.succ.inj e) h.2))
   rw [List.lookup_cons,show (m==n)=false from beq_eq_false_iff_ne.mpr fun z=>h.1 (z▸hm)]
theorem sem_pb{α β:Type}(a:α)(f:α→Sem β):(pure a >>= f)=f a:=rfl
theorem bind_congr2{α β:Type}{x:Sem α}{f g:α→Sem β}(h:∀a,f a=g a):(x >>= f)=(x >>= g):=congrArg _ (funext h)
theorem ite_f{α:Type}{c:Prop}[Decidable c]{a b z:α}(h:¬c)(k:b=z):(if c then a else b)=z:=(if_neg h).trans k
theorem someNone{α:Type}{o:Option α}(h:o.isSome=true)(z:o.isNone=true):False:=by cases o<;>first | exact cz2 h | exact cz2 z
theorem bindArgs_aux{fd:FuncData}{ar:List Arg}{kd:List (Option Expr)}{df:List Expr}{vs:List Value}(hp:fd.params=⟨[],ar,none,[],kd,none,df⟩)(hl:vs.length=ar.length)(hn:(ar.map (·.arg)).Nodup) :
  bindArgs fd ⟨vs,[]⟩=(do let _ ← seqItems? fd.defaults;pure ((ar.map (·.arg)).zip vs)):=by
 have e:bindArgs fd ⟨vs,[]⟩=bindArgs { fd with params:=⟨[],ar,none,[],kd,none,df⟩ } ⟨vs,[]⟩:=by refine rwB hp rfl
 refine e.trans ?_
 delta bindArgs
 dsimp only [List.map_nil,List.nil_append,List.append_nil,List.forIn_nil,sem_pb]
 have hl':vs.length=(ar.map (·.arg)).length:=hl.trans (List.length_map _).symm
 have look:=lookup_zip hl'
 have nofilter:∀k,((ar.map (·.arg)).take k).filter (fun n=>(List.lookup n ((ar.map (·.arg)).zip vs)).isNone)=[]:=fun k =>
  List.filter_eq_nil_iff.mpr fun x hx z=>someNone (look x (List.mem_of_mem_take hx)) z
 refine bind_congr2 fun ds=>ite_f (fun z=>absurd (of_decide_eq_true (Bool.and_eq_true_iff.mp z).1) (Nat.not_lt_of_le (Nat.le_of_eq hl'))) (ite_f (fun z=>cz2 ((congrArg (fun l:List Str=>!l.isEmpty) (nofilter _)).symm.trans z)) ?_)
 refine (congrArg (· >>= _) (forIn_stay' _ _ fun x hx=>?_)).trans ?_
 ·exact if_neg fun z=>someNone (look x.1 (List.mem_of_mem_drop (List.of_mem_zip hx).1)) z
 ·exact congrArg (pure:_→Sem (List (Str × Value))) ((congrArg (List.filterMap _) (List.append_nil _)).trans (filterMap_zip hl' hn))
theorem plainParams{p:Arguments}(h1:p.posonlyargs=[])(h2:p.kwonlyargs=[])(h3:p.vararg=none)(h4:p.kwarg=none):p=⟨[],p.args,none,[],p.kw_defaults,none,p.defaults⟩:=by
 cases p;cases (h1);refine Bc.rwB h2 ?_;cases (h3);refine Bc.rwB h4 ?_;rfl
theorem bindArgs_plain{fd:FuncData}{vs:List Value}(h1:fd.params.posonlyargs=[])(h2:fd.params.kwonlyargs=[])(h3:fd.params.vararg=none)(h4:fd.params.kwarg=none)(hl:vs.length=fd.params.args.length)(hn:(fd.params.args.map (·.arg)).Nodup) :
  bindArgs fd ⟨vs,[]⟩=(do let _ ← seqItems? fd.defaults;pure ((fd.params.args.map (·.arg)).zip vs)):=bindArgs_aux (plainParams h1 h2 h3 h4) hl hn
end Bc
namespace Bc
inductive RepAL(K:Frag)(w:World)(G:Gh)(h:Heap):List Value→List AV→Prop
 |nil:RepAL K w G h [] []
 |cons {v:Value} {a:AV} {vs:List Value} {as:List AV}:RepA K w G h v a→RepAL K w G h vs as→RepAL K w G h (v::vs) (a::as)
section
variable{K:Frag}{w:World}{H0:Heap}{fns:List DefRec}{mg mb:Str→Option Value}{fr:List Env}{prog:Program}{A:Around}{G G1 G':Gh}{st st' st1 st2 st3:Bc.St}{locs locs':List Loc}{s s1:Shared}{env:Env}{cx:Cx}{x m:Str}{h h':Heap}{fz:Addr→Prop}{n:Nat}{u v f:Value}{a b d:PV}{R:Rc}{e o:Expr}{pos apos:Pos}{args:List Expr}
theorem RepAL.allPV{vs:List Value}{as:List AV}(r:RepAL K w G h vs as):∀{ds:List PV},allPV as=some ds→RepL K w h G.fz vs ds:=by
 induction r with
 |nil=>exact fun e=>cz5 e .nil
 |cons q _ ih =>
  intro ds e
  refine obE e fun d hd e=>obE e fun l hl e=>cz5 e (.cons ?_ (ih hl))
  have hd:=asPVE hd
  subst hd
  exact q
theorem bindL_not{kindOf:Str→Option NameKind}{bs:List (Str × Value)}{m:Str→Option Value}(hx:x ∉ bs.map (·.1)):bindL kindOf bs m x=m x:=by
 induction bs generalizing m with
 |nil=>rfl
 |cons p r ih =>
  refine (ih fun z=>hx (List.mem_cons_of_mem _ z)).trans ?_
  by_cases q:kindOf p.1=some .local
  ·rw [if_pos q];exact if_neg fun z=>hx (List.mem_cons.mpr (.inl z))
  ·rw [if_neg q]
theorem bindC_not{kindOf:Str→Option NameKind}{bs:List (Str × Value)}{m:Str→Option Value}(hx:x ∉ bs.map (·.1)):bindC kindOf bs m x=m x:=by
 induction bs generalizing m with
 |nil=>rfl
 |cons p r ih =>
  refine (ih fun z=>hx (List.mem_cons_of_mem _ z)).trans ?_
  by_cases q:kindOf p.1=some .local
  ·rw [if_pos q]
  ·rw [if_neg q];exact if_neg fun z=>hx (List.mem_cons.mpr (.inl z))
theorem bindL_mem{kindOf:Str→Option NameKind}(hk:kindOf x=some .local){bs:List (Str × Value)}{m:Str→Option Value}(hn:(bs.map (·.1)).Nodup)(h:(x,v)∈bs):bindL kindOf bs m x=some v:=by
 induction bs generalizing m with
 |nil=>exact nomatch h
 |cons p r ih =>
  have hn:=List.nodup_cons.mp hn
  refine (List.mem_cons.mp h).elim (fun e=>?_) (ih hn.2)
  subst e
  refine (bindL_not hn.1).trans ?_
  rw [if_pos hk];exact if_pos rfl
theorem bindC_mem{kindOf:Str→Option NameKind}(hk:kindOf x≠some .local){bs:List (Str × Value)}{m:Str→Option Value}(hn:(bs.map (·.1)).Nodup)(h:(x,v)∈bs):bindC kindOf bs m x=some v:=by
 induction bs generalizing m with
 |nil=>exact nomatch h
 |cons p r ih =>
  have hn:=List.nodup_cons.mp hn
  refine (List.mem_cons.mp h).elim (fun e=>?_) (ih hn.2)
  subst e
  refine (bindC_not hn.1).trans ?_
  rw [if_neg hk];exact if_pos rfl
theorem param_rep{as:List AV}{vs:List Value}(r:RepAL K w G h vs as):∀{ps:List Arg} {l:Vars},paramVars ps as=some l→vs.length=ps.length∧∀e∈l,∃a v,e.2=some a∧(e.1,v)∈(ps.map (·.arg)).zip vs∧RepA K w G h v a:=by
 induction r with
 |nil =>
  intro ps l e
  cases ps with
  |nil=>exact gdE e fun _=>⟨rfl,fun _ h=>nomatch h⟩
  |cons p ps=>exact cz0 e
 | @cons v a vs as q _ ih =>
  intro ps l e
  cases ps with
  |nil=>exact cz0 e
  |cons p ps =>
   refine obE e fun u hu e=>obE e fun l1 hl e=>cz5 e ?_
   have hu:=Option.some.inj hu
   subst hu
   obtain ⟨h1,h2⟩:=ih hl
   refine ⟨congrArg (·+1) h1,fun e he=>?_⟩
   rcases List.mem_cons.mp he with z | he
   ·exact ⟨a,v,by refine rwE z rfl,by refine rwE z ?_;exact List.mem_cons_self ..,q⟩
   ·exact xE23 (h2 e he) fun a' v' e1 e2 e3=>⟨a',v',e1,List.mem_cons_of_mem _ e2,e3⟩
theorem cells_look{names:List (Str × NameKind)}{n:Nat}{acc:List (Str × Addr)}(h:(acc.lookup x).isSome=true∨(x,NameKind.cell)∈names):((cellsFrom n names acc).lookup x).isSome=true:=by
 induction names generalizing n acc with
 |nil=>exact h.elim id fun q=>nomatch q
 |cons p r ih =>
  by_cases hk:(p.2==NameKind.cell)=true
  ·refine (congrArg (fun l=>(List.lookup x l).isSome) (if_pos hk)).trans (ih ?_)
   rw [List.lookup_cons]
   cases q:x==p.1 with
   |true=>exact .inl rfl
   |false=>exact h.imp id fun m=>(List.mem_cons.mp m).resolve_left fun e=>absurd q (by rw [← show x=p.1 from congrArg Prod.fst e,beq_self_eq_true];decide)
  ·exact (congrArg (fun l=>(List.lookup x l).isSome) (if_neg hk)).trans (ih (h.imp id fun m=>(List.mem_cons.mp m).resolve_left fun e=>hk (by rw [← e];rfl)))
theorem Rel.enter(T:Rel K w H0 fr G st locs h)(hk:∀b o,h.get? b=some o→h'.get? b=some o){vars':Vars}(hn:locs'.length=vars'.length)
  (hs:∀(i:Nat) (e:Str × Option AV) (l:Loc),vars'[i]? = some e→locs'[i]? = some l→SlotOk K w G h' e l) (ho:∀l∈locs',h.get? l.addr=none)
  (hd:∀(i j:Nat) (l m:Loc),i≠j→locs'[i]? = some l→locs'[j]? = some m→l.apart m) (hf:FrOk H0 G h' env):Rel K w H0 (env::fr) G ⟨vars',st.cells⟩ locs' h':=by
 obtain ⟨T1,_⟩:=T.keepAll hk
 refine ⟨T1.base,T1.dom,T1.len,T1.cells,T1.sep,T1.lt,hn,hs,fun l hl=>⟨(T.sizeNot (ho l hl)).1,(T.sizeNot (ho l hl)).2.1⟩,hd,fun e he=>?_⟩
 rcases List.mem_cons.mp he with rfl | he
 ·exact hf
 ·exact T1.frames e he
end
end Bc
namespace Bc
section
variable{K:Frag}{w:World}{H0:Heap}{fns:List DefRec}{mg mb:Str→Option Value}{fr:List Env}{prog:Program}{A:Around}{G G1 G':Gh}{st st' st1 st2 st3:Bc.St}{locs locs':List Loc}{s s1:Shared}{env:Env}{cx:Cx}{x m:Str}{h h':Heap}{fz:Addr→Prop}{n:Nat}{u v f:Value}{a b d:PV}{R:Rc}{e o:Expr}{pos apos:Pos}{args:List Expr}{vars:Vars}{cs cs' ins outs:List MO}
noncomputable def subG(G:Gh)(ks:List Nat):Gh:=⟨G.fz,ks.map fun k=>G.ad.getD k default⟩
theorem RepFA.flat(hf:∀a,G.fz a→G'.fz a):∀{fs:List (Str × AV)} {es:List DictEntry},(fs.all fun f=>match f.2 with | .pv _=>true | _=>false)=true→RepFA K w G h es fs→RepFA K w G' h es fs:=by
 intro fs
 induction fs with
 |nil=>intro es _ r;cases es with | nil=>trivial | cons _ _=>exact r.elim
 |cons f fs ih =>
  intro es q r
  cases es with
  |nil=>exact r.elim
  |cons e es =>
   refine xE04 r fun h1 h2 h3 h4=>?_
   rw [List.all_cons,Bool.and_eq_true] at q
   refine ⟨h1,h2,?_,ih q.2 h4⟩
   obtain ⟨x,a⟩:=f
   cases a with
   |pv d=>exact Rep.mono (fun a f=>⟨hf a f,rfl⟩) h3
   |_=>exact cz2 q.1
theorem CellOk.flat{p:Addr × Addr}(hf:∀a,G.fz a ↔ G'.fz a){o:MO}(q:flatMO o=true)(c:CellOk K w G h p o):CellOk K w G' h p o:=by
 cases o with
 |lst l=>obtain ⟨a,b,vs,n,c,r⟩:=c;exact ⟨fun z=>a ((hf _).mpr z),b,vs,n,c,RepL.mono (fun a f=>⟨(hf a).mp f,rfl⟩) r⟩
 |dct l=>obtain ⟨a,b,d,vs,n,c,r⟩:=c;exact ⟨fun z=>a ((hf _).mpr z),b,d,vs,n,c,RepE.mono (fun a f=>⟨(hf a).mp f,rfl⟩) r⟩
 |inst _ _ =>
  obtain ⟨a,b,ne,C,es,n,c,e1,e2,r,sz⟩:=c
  exact ⟨fun z=>a ((hf _).mpr z),fun z=>b ((hf _).mpr z),ne,C,es,n,c,e1,e2,RepFA.flat (fun a f=>(hf a).mp f) q r,sz⟩
 |dead=>trivial
theorem takeMO_spec{ks:List Nat}{ins:List MO}(e:takeMO cs ks=some ins):ins.length=ks.length∧∀(i:Nat) k o,ks[i]? = some k→ins[i]? = some o→cs[k]? = some o∧flatMO o=true:=by
 induction ks generalizing ins with
 |nil=>exact cz5 (P:=fun ins=>ins.length=0∧∀(i:Nat) k o,([]:List Nat)[i]? = some k→ins[i]? = some o→cs[k]? = some o∧flatMO o=true) e ⟨rfl,fun i k o h=>cz0 h⟩
 |cons k r ih =>
  refine obE e fun o ho e=>bifT e fun hf e=>obE e fun l hl e=>?_
  have h:=ih hl
  refine rwB (Option.some.inj e) ⟨congrArg (·+1) h.1,fun i k' o' e1 e2=>?_⟩
  cases i with
  |zero=>exact rwB (Option.some.inj e1) (rwB (Option.some.inj e2) ⟨ho,hf⟩)
  |succ i=>exact h.2 i k' o' e1 e2
theorem nodupN_of{l:List Nat}(h:nodupN l=true):l.Nodup:=by
 induction l with
 |nil=>exact List.nodup_nil
 |cons x r ih =>
  have h:=Bool.and_eq_true_iff.mp h
  exact List.nodup_cons.mpr ⟨fun m=>absurd (show (!true)=true from (congrArg (!·) (List.any_eq_true.mpr ⟨x,m,beq_self_eq_true x⟩)).symm.trans h.1) (by decide),ih h.2⟩
theorem getElem?_inj{α:Type}{l:List α}(h:l.Nodup){i j:Nat}{x:α}(a:l[i]? = some x)(b:l[j]? = some x):i=j:=by
 refine xE11 (List.getElem?_eq_some_iff.mp a) fun hi ei=>?_
 refine xE11 (List.getElem?_eq_some_iff.mp b) fun hj ej=>?_
 rcases Nat.lt_trichotomy i j with q | q | q
 ·exact absurd (ei.trans ej.symm) (List.pairwise_iff_getElem.mp h i j hi hj q)
 ·exact q
 ·exact absurd (ej.trans ei.symm) (List.pairwise_iff_getElem.mp h j i hj hi q)
theorem isDead_eq{o:MO}(h:isDead o=true):o=.dead:=by
 cases o with
 |dead=>rfl
 |_=>exact cz2 h
theorem putMO_spec{ks:List Nat}{outs cs cs':List MO}(e0:putMO ks outs cs=some cs')(hn:ks.Nodup):cs'.length=cs.length∧∀k:Nat,(k ∉ ks→cs'[k]? = cs[k]?)∧∀i:Nat,ks[i]? = some k→k < cs.length→∃o,outs[i]? = some o∧cs'[k]? = some o∧(flatMO o=true∨o=.dead):=by
 induction ks generalizing outs cs with
 |nil=>exact cz5 (P:=fun cs'=>cs'.length=cs.length∧∀k:Nat,(k ∉ ([]:List Nat)→cs'[k]? = cs[k]?)∧∀i:Nat,([]:List Nat)[i]? = some k→k < cs.length→∃o,outs[i]? = some o∧cs'[k]? = some o∧(flatMO o=true∨o=.dead)) e0 ⟨rfl,fun k=>⟨fun z_=>rfl,fun i h=>cz0 h⟩⟩
 |cons k ks ih =>
  refine obE e0 fun p hp e1=>bifT e1 fun hf e2=>rwE (uncE hp) ?_
  have hn:=List.nodup_cons.mp hn
  have h:=ih e2 hn.2
  rw [List.length_set] at h
  refine ⟨h.1,fun k'=>⟨fun hk=>?_,fun i hi hlt=>?_⟩⟩
  ·exact ((h.2 k').1 fun z=>hk (List.mem_cons_of_mem _ z)).trans (List.getElem?_set_ne fun z=>hk (by rw [z];exact List.mem_cons_self))
  ·cases i with
   |zero=>exact rwB (Option.some.inj hi) (P:=fun k'=>k' < cs.length→∃o,(p.1::p.2)[0]? = some o∧cs'[k']? = some o∧(flatMO o=true∨o=.dead)) (fun hlt=>⟨p.1,rfl,((h.2 k).1 hn.1).trans (List.getElem?_set_self hlt),(Bool.or_eq_true_iff.mp hf).imp id isDead_eq⟩) hlt
   |succ i=>exact (h.2 k').2 i hi hlt
theorem argCells_lt{vs:List Value}{as:List AV}(r:RepAL K w G h vs as):∀k∈aCs as,k < G.ad.length:=by
 induction r with
 |nil=>exact fun k hk=>nomatch hk
 | @cons v a vs as q _ ih =>
  intro k hk
  cases a with
  |cell j =>
   rcases List.mem_cons.mp hk with e | hk
   ·obtain ⟨p,hp,_⟩:=q;refine rwE e ?_;exact (List.getElem?_eq_some_iff.mp hp).1
   ·exact ih k hk
  |_=>exact ih k hk
theorem renum_rep{vs:List Value}{as:List AV}{ks:List Nat}(r:RepAL K w G h vs as):∀{pre:List Nat},ks=pre++aCs as→RepAL K w (subG G ks) h vs (renum pre.length as):=by
 induction r with
 |nil=>exact fun z_=>.nil
 | @cons v a vs as q _ ih =>
  intro pre e
  cases a with
  |cell j =>
   refine xE12 q fun p hp e_2=>?_
   refine .cons ⟨p,?_,e_2⟩ ?_
   ·show (ks.map _)[pre.length]? = _
    refine rwE (List.getElem?_map) (rwE e ?_)
    show ((pre++(j::aCs _))[pre.length]?).map _=_
    rw [List.getElem?_append_right (Nat.le_refl _)]
    simp [List.getD,hp]
   ·have:=ih (pre:=pre++[j]) (by rw [e,List.append_assoc];rfl)
    rwa [List.length_append] at this
  |pv d=>exact .cons q (ih e)
  |exn d=>exact .cons q (ih e)
theorem subG_at{ks:List Nat}(hlt:∀k∈ks,k < G.ad.length){i:Nat}{p:Addr × Addr}(e:(subG G ks).ad[i]? = some p):∃k,ks[i]? = some k∧G.ad[k]? = some p:=by
 change (ks.map _)[i]? = _ at e
 rw [List.getElem?_map] at e
 cases hk:ks[i]? with
 |none=>rw [hk] at e;cases e
 |some k =>
  rw [hk] at e
  have hl:=hlt k (List.mem_of_getElem? hk)
  refine ⟨k,rfl,?_⟩
  simp only [Option.map_some,Option.some.injEq] at e
  refine rwB e (rwE (List.getD_eq_getElem?_getD) (rwE (List.getElem?_eq_getElem hl) ?_));rfl
theorem subG_mut{ks:List Nat}(hlt:∀k∈ks,k < G.ad.length){b:Addr}(m:(subG G ks).mut b):G.mut b:=by
 refine xE12 m fun p hp e=>?_
 refine xE11 (List.mem_iff_getElem?.mp hp) fun i hi=>?_
 refine xE12 (subG_at hlt hi) fun k z_ q=>?_
 exact ⟨p,List.mem_of_getElem? q,e⟩
theorem Rel.sub(T:Rel K w H0 fr G ⟨vars,cs⟩ locs h){ks:List Nat}(hn:ks.Nodup)(hlt:∀k∈ks,k < G.ad.length)(e:takeMO cs ks=some ins):Rel K w H0 fr (subG G ks) ⟨[],ins⟩ [] h:=by
 obtain ⟨hl,hs⟩:=takeMO_spec e
 refine ⟨T.base,T.dom,by simp [subG,hl],fun i p o e1 e2=>?_,fun i j p q ne e1 e2=>?_,fun b m=>T.lt b (subG_mut hlt m),rfl,fun i e l e1 z_=>by simp at e1,fun l hl=>(nomatch hl),fun i j l m z_ e1=>by simp at e1,fun env he=>?_⟩
 ·refine xE12 (subG_at hlt e1) fun k h1 h2=>?_
  obtain ⟨h3,h4⟩:=hs i k o h1 e2
  exact CellOk.flat (G:=G) (G':=subG G ks) (fun z_=>Iff.rfl) h4 (T.cells k p o h2 h3)
 ·refine xE12 (subG_at hlt e1) fun k1 h1 h2=>?_
  refine xE12 (subG_at hlt e2) fun k2 h3 h4=>?_
  exact T.sep k1 k2 p q (fun z=>ne (getElem?_inj hn (z▸h1) h3)) h2 h4
 ·obtain ⟨k,L,m,f,z,n,q,r⟩:=T.frames env he
  exact ⟨k,L,m,f,z,n,q,fun z=>r (subG_mut hlt z)⟩
theorem Rel.back{ks:List Nat}{h1 h2:Heap}{G2:Gh}{P:Addr→Prop}{vars2:Vars}(T:Rel K w H0 fr G ⟨vars,cs⟩ locs h)(hn:ks.Nodup)(hlt:∀k∈ks,k < G.ad.length)
  (hk:∀b o,h.get? b=some o→h1.get? b=some o) (T2:Rel K w H0 (env::fr) G2 ⟨vars2,outs⟩ locs' h2) (hp:putMO ks outs cs=some cs')
  (X:Ext (env::fr) (subG G ks) h1 G2 h2 P) (hP:∀b o,h.get? b=some o→¬ P b) (hL:∀b o,h.get? b=some o→env.frame≠some b) :
  Rel K w H0 fr ⟨G2.fz,G.ad⟩ ⟨vars,cs'⟩ locs h2∧Ext fr G h ⟨G2.fz,G.ad⟩ h2 None_:=by
 obtain ⟨hlen,hput⟩:=putMO_spec hp hn
 have X0:Ext fr G h ⟨G2.fz,G.ad⟩ h2 None_:=by
  refine ⟨fun a f=>⟨(X.fz a f).1,?_⟩,fun b o e n z_=>?_,fun b o e n f=>X.nofz b o (hk b o e) (fun z=>n (subG_mut hlt z)) f,⟨[],by simp,fun z_ hp=>nomatch hp⟩,fun b o e=>X.live b o (hk b o e)⟩
  ·refine xE11 (T.dom a f) fun o e=>?_
   refine rwE ((X.fz a f).2) (rwE (hk a o e) (rwE e rfl))
  ·refine xE12 (X.keep b o (hk b o e) (fun z=>n (subG_mut hlt z)) (hP b o e)) fun sl e1 e2=>?_
   refine ⟨sl,e1,fun z=>e2 fun env' he=>?_⟩
   rcases List.mem_cons.mp he with rfl | he
   ·exact hL b o e
   ·exact z env' he
 have at_:∀l∈locs,∀o,h.get? l.addr=some o→∃sl,h2.get? l.addr=some { o with slots:=sl }:=fun l hl o e=>by
  refine xE12 (X0.keep _ o e (T.own l hl).2 id) fun sl e1 z_=>?_
  exact ⟨sl,e1⟩
 have lv:∀l∈locs,∃o,h.get? l.addr=some o:=fun l hl=>by
  cases q:h.get? l.addr with
  |some o=>exact ⟨o,rfl⟩
  |none=>exact absurd rfl ((T.sizeNot q).2.2.1 l hl)
 have same:∀(k:Nat) p,G.ad[k]? = some p→k ∉ ks→∀b,(b=p.1∨b=p.2)→h2.get? b=h.get? b∧(¬ G.fz b→¬ G2.fz b):=by
  intro k p hkp hnk b hb
  have hm:G.mut b:=⟨p,List.mem_of_getElem? hkp,hb⟩
  refine xE11 (T.lt b hm) fun o ho=>?_
  have ns:¬ (subG G ks).mut b:=by
   rintro ⟨q,hq,e⟩
   refine xE11 (List.mem_iff_getElem?.mp hq) fun i hi=>?_
   refine xE12 (subG_at hlt hi) fun j h3 h4=>?_
   have jk:j≠k:=fun z=>hnk (z▸List.mem_of_getElem? h3)
   refine xE04 (T.sep j k q p jk h4 hkp) fun s1 s2 s3 s4=>?_
   rcases hb with rfl | rfl<;>rcases e with e | e
   ·exact s1 e.symm
   ·exact s3 e.symm
   ·exact s2 e.symm
   ·exact s4 e.symm
  refine xE12 (X.keep b o (hk b o ho) ns (hP b o ho)) fun sl e1 e2=>?_
  refine ⟨?_,fun nf f=>nf (X.nofz b o (hk b o ho) ns f)⟩
  have:sl=o.slots:=e2 fun env' he=>by
   rcases List.mem_cons.mp he with rfl | he
   ·exact hL b o ho
   ·obtain ⟨_,L,_,f,_,_,_,r⟩:=T.frames env' he
    intro z
    rw [f] at z
    cases (z)
    exact r hm
  refine rwE e1 (rwE ho (rwE this rfl))
 refine ⟨⟨T2.base,T2.dom,by refine rwE hlen ?_;exact T.len,fun k p o e1 e2=>?_,T.sep,fun b m=>?_,T.nloc,fun i e l e1 e2=>?_,fun l hl=>?_,T.dis,fun e he=>?_⟩,X0⟩
 ·by_cases hm:k∈ks
  ·refine xE11 (List.mem_iff_getElem?.mp hm) fun i hi=>?_
   refine xE13 ((hput k).2 i hi (T.len▸hlt k hm)) fun o' a b c=>?_
   rw [b] at e2;cases e2
   rcases c with c | rfl
   ·refine xE12 X.ad fun more hadd z_=>?_
    have hs:(subG G ks).ad[i]? = some p:=by
     show (ks.map _)[i]? = _
     refine rwE (List.getElem?_map) (rwE hi ?_)
     simp [List.getD,e1]
    refine CellOk.flat (G:=G2) (G':=⟨G2.fz,G.ad⟩) (fun z_=>Iff.rfl) c (T2.cells i p _ ?_ a)
    refine rwE hadd (rwE (List.getElem?_append_left (List.getElem?_eq_some_iff.mp hs).1) ?_);exact hs
   ·trivial
  ·have e2':=(hput k).1 hm
   dsimp only at e2
   rw [e2'] at e2
   have S1:=same k p e1 hm _ (.inl rfl)
   have S2:=same k p e1 hm _ (.inr rfl)
   exact CellOk.mono X0.grow S1.2 S2.2 S1.1 S2.1 (T.cells k p o e1 e2)
 ·refine xE11 (T.lt b m) fun o q=>?_
  exact X0.live b o q
 ·exact SlotOk.mono X0.grow (T.slot i e l e1 e2) fun o q z_=>at_ l (List.mem_of_getElem? e2) o q
 ·refine xE11 (lv l hl) fun o q=>?_
  exact ⟨fun f=>(T.own l hl).1 (X0.nofz _ o q (T.own l hl).2 f),(T.own l hl).2⟩
 ·obtain ⟨k1,L1,m1,f1,z1,n1,q1,r1⟩:=T2.frames e (List.mem_cons_of_mem _ he)
  obtain ⟨_,L,_,f,_,_,_,r⟩:=T.frames e he
  rw [f1] at f;cases (f)
  exact ⟨k1,L1,m1,f1,z1,n1,q1,r⟩
end
end Bc
namespace Bc
noncomputable def Turn(fr:List Env)(G:Gh)(h0 h h':Heap):Prop:=∀b o,h.get? b=some o→(G.fz b∨G.mut b∨(∃o',h0.get? b=some o')∨∀vs,o.data≠.fields vs) →
 ∃sl,h'.get? b=some { o with slots:=sl }∧((∀env∈fr,env.frame≠some b)→sl=o.slots)
inductive XMsg(K:Frag)(G:Gh)(h:Heap)(oe:Obj)(d:PV):Prop
 |mk (dx:Addr) (od:Obj) (C:Addr) (s:Str) (t:Tok):clsA K "Refusal" = some C→oe.cls=.ref C→oe.dict=some dx→G.fz dx→h.get? dx=some od→lookIn ("message" : Str) od=some (some (.str s t))→d=.str s→XMsg K G h oe d
inductive XTr(G:Gh)(h0 h:Heap)(ea:Addr)(vs:Array Value):Prop
 |mk (T:Addr) (oT:Obj) (ts:Array Value) (x:Value):vs[1]? = some (.ref T)→T≠ea→¬ G.fz T→¬ G.mut T→h0.get? T=none→h.get? T=some oT→oT.data=.fields ts→ts[3]? = some x→XTr G h0 h ea vs
structure Flies(K:Frag)(G:Gh)(h0 h:Heap)(tr:Bool)(ea:Addr)(d:PV):Prop where
 nf:¬ G.fz ea
 nm:¬ G.mut ea
 new:h0.get? ea=none
 obj:∃oe vs,h.get? ea=some oe∧oe.data=.fields vs∧1 < vs.size∧XMsg K G h oe d∧((tr=false∧vs[1]? = some .none)∨XTr G h0 h ea vs)
section
variable{K:Frag}{w:World}{H0 h0:Heap}{fns:List DefRec}{fr outer:List Env}{prog:Program}{A:Around}{G G0 G1 G':Gh}{st st' st1 st2 st3:Bc.St}{locs locs':List Loc}{s s1:Shared}{env:Env}{h h' h1 h2:Heap}{P P':Addr→Prop}{ea:Addr}{d:PV}{tr:Bool}{M:Model}{E:Value→Shared→Prop}
theorem Flies.el{C:Prop}(F:Flies K G h0 h tr ea d)(k:∀oe vs,h.get? ea=some oe→oe.data=.fields vs→1 < vs.size→XMsg K G h oe d→((tr=false∧vs[1]? = some .none)∨XTr G h0 h ea vs)→C):C:=let ⟨_,_,_,oe,vs,a,b,c,d,e⟩:=F;k oe vs a b c d e
theorem Turn.refl(fr:List Env)(G:Gh)(h0 h:Heap):Turn fr G h0 h h:=fun z_ o e z_=>⟨o.slots,e,fun z_=>rfl⟩
theorem Turn.trans(x:Turn fr G h0 h h1)(y:Turn fr G h0 h1 h2):Turn fr G h0 h h2:=fun b o e c=>by
 refine xE12 (x b o e c) fun sl e1 q1=>?_
 refine xE12 (y b _ e1 c) fun sl' e2 q2=>?_
 exact ⟨sl',e2,fun z=>(q2 z).trans (q1 z)⟩
theorem Turn.of_keeps(k:∀b o,h.get? b=some o→h'.get? b=some o):Turn fr G h0 h h':=fun b o e z_=>⟨o.slots,k b o e,fun z_=>rfl⟩
theorem Turn.record{x:Addr}{ox:Obj}{vs:Array Value}(hx:h.get? x=some ox)(hd:ox.data=.fields vs)(nf:¬ G.fz x)(nm:¬ G.mut x)(nw:h0.get? x=none)(f:Obj→Obj):Turn fr G h0 h (h.update x f):=fun b o e c=>by
 refine ⟨o.slots,?_,fun z_=>rfl⟩
 rw [Heap.get?_update_other _ _ fun q=>?_]
 ·exact e
 ·subst q
  rcases c with c | c | ⟨o',c⟩ | c
  ·exact nf c
  ·exact nm c
  ·rw [nw] at c;cases c
  ·rw [hx] at e;cases (e);exact c vs hd
theorem fz_frame(T:Rel K w H0 fr G st locs h){b:Addr}(c:G.fz b∨G.mut b):∀env∈fr,env.frame≠some b:=fun env he z=>by
 obtain ⟨_,L,_,f,_,_,q,r⟩:=T.frames env he
 have:=Option.some.inj (f.symm.trans z)
 subst this
 exact c.elim q r
theorem fz_turn(T:Rel K w H0 fr G st locs h)(x:Turn fr G h0 h h'){b:Addr}{o:Obj}(c:G.fz b∨G.mut b)(e:h.get? b=some o):h'.get? b=some o :=
 xE12 (x b o e (c.elim .inl fun c=>.inr (.inl c))) fun sl e1 q=>by rw [e1,q (fz_frame T c)]
theorem Rel.turn(T:Rel K w H0 fr G st locs h)(x:Turn fr G h0 h h'):Rel K w H0 fr G st locs h' :=
 T.keeps (fun b o e c=>fz_turn T x c e) fun b o e c=>xE12 (x b o e (.inr (.inr (.inr c)))) fun sl e1 z_=>⟨sl,e1⟩
theorem Ext.turn(X:Ext fr G0 h0 G h P)(T:Rel K w H0 fr G st locs h)(x:Turn fr G h0 h h'):Ext fr G0 h0 G h' P:=by
 refine ⟨fun a f=>⟨(X.fz a f).1,?_⟩,fun b o e n p=>?_,X.nofz,X.ad,fun b o e=>?_⟩
 ·refine xE11 (T.dom a (X.fz a f).1) fun o e=>?_
  refine rwE (fz_turn T x (.inl (X.fz a f).1) e) (rwB ((X.fz a f).2) (rwE e rfl))
 ·refine xE12 (X.keep b o e n p) fun sl e1 q1=>?_
  exact xE12 (x b _ e1 (.inr (.inr (.inl ⟨o,e⟩)))) fun sl' e2 q2=>⟨sl',e2,fun z=>(q2 z).trans (q1 z)⟩
 ·refine xE11 (X.live b o e) fun o' e'=>?_
  exact xE12 (x b o' e' (.inr (.inr (.inl ⟨o,e⟩)))) fun sl e1 z_=>⟨_,e1⟩
theorem XMsg.keep{oe oe':Obj}(m:XMsg K G h oe d)(fz:∀a,G.fz a→G'.fz a)(k:∀a o,G.fz a→h.get? a=some o→h'.get? a=some o)(hc:oe'.cls=oe.cls)(hd:oe'.dict=oe.dict):XMsg K G' h' oe' d:=by
 obtain ⟨dx,od,C,s,t,e1,e2,e3,e4,e5,e6,e7⟩:=m
 exact ⟨dx,od,C,s,t,e1,hc.trans e2,hd.trans e3,fz _ e4,k _ _ e4 e5,e6,e7⟩
theorem XTr.keep{vs:Array Value}{h00:Heap}(m:XTr G h0 h ea vs)(nf:∀a,h0.get? a=none→¬ G.fz a→¬ G.mut a→¬ G'.fz a∧¬ G'.mut a∧h00.get? a=none)(k:∀a o vs,h0.get? a=none→¬ G.fz a→¬ G.mut a→o.data=.fields vs→h.get? a=some o→h'.get? a=some o):XTr G' h00 h' ea vs:=by
 obtain ⟨T,oT,ts,x,q1,q2,q3,q4,q5,q6,q7,q8⟩:=m
 exact xE03 (nf T q5 q3 q4) fun a b c=>⟨T,oT,ts,x,q1,q2,a,b,c,k _ _ _ q5 q3 q4 q7 q6,q7,q8⟩
theorem funFrames_of(T:Rel K w H0 fr G st locs h):h.FunFrames H0 fr:=by
 have key:∀l:List Env,(∀e∈l,FrOk H0 G h e)→h.FunFrames H0 l:=by
  intro l
  induction l with
  |nil=>intro _;trivial
  |cons e l ih =>
   intro hl
   obtain ⟨k,L,m,f,z,⟨o,es,ep,q,dd,_⟩,_⟩:=hl e (List.mem_cons_self ..)
   exact ⟨k,⟨L,o,f,z,q,fun vs c=>by rw [dd] at c;cases c⟩,ih fun e' he=>hl e' (List.mem_cons_of_mem _ he)⟩
 exact key fr T.frames
theorem turn_slots(T:Rel K w H0 fr G st locs h)(x:Heap.SlotsOnly (fr.filterMap (·.frame)) h h'):Turn fr G h0 h h':=fun b o e z_=>by
 by_cases hb:b∈fr.filterMap (·.frame)
 ·refine xE11 (x.2.2 b o e) fun sl e1=>?_
  refine ⟨sl,e1,fun z=>?_⟩
  refine xE12 (List.mem_filterMap.mp hb) fun env he q=>?_
  exact absurd q (z env he)
 ·exact ⟨o.slots,(x.2.1 b hb).trans e,fun z_=>rfl⟩
theorem Flies.le(F:Flies K G h0 h true ea d):Flies K G h0 h tr ea d :=
 ⟨F.nf,F.nm,F.new,Flies.el F fun oe vs e1 e2 e3 m q=>⟨oe,vs,e1,e2,e3,m,.inr (q.elim (fun q=>cz3 q.1) id)⟩⟩
theorem Flies.early{h00:Heap}(F:Flies K G h0 h tr ea d)(k:∀b o,h00.get? b=some o→∃o',h0.get? b=some o'):Flies K G h00 h tr ea d:=by
 have key:∀b,h0.get? b=none→h00.get? b=none:=fun b hb=>by
  cases q:h00.get? b with
  |none=>rfl
  |some o=>obtain ⟨o',e⟩:=k b o q;rw [hb] at e;exact cz0 e
 exact ⟨F.nf,F.nm,key _ F.new,Flies.el F fun oe vs e1 e2 e3 m q=>⟨oe,vs,e1,e2,e3,m,q.imp id fun q=>q.keep (fun a b c d=>⟨c,d,key _ b⟩) fun z_ z_ z_ z_ z_ z_ z_ e=>e⟩⟩
theorem Flies.gh{more:List (Addr × Addr)}(F:Flies K G h0 h tr ea d)(hm:∀b,Gh.mut ⟨G.fz,more⟩ b→h0.get? b≠none∨G.mut b):Flies K ⟨G.fz,more⟩ h0 h tr ea d:=by
 have key:∀b,h0.get? b=none→¬ G.mut b→¬ Gh.mut ⟨G.fz,more⟩ b:=fun b hb n m=>(hm b m).elim (fun q=>q hb) n
 exact ⟨F.nf,key _ F.new F.nm,F.new,Flies.el F fun oe vs e1 e2 e3 m q=>⟨oe,vs,e1,e2,e3,m.keep (fun z_ f=>f) (fun z_ z_ z_ e=>e) rfl rfl,q.imp id fun q=>q.keep (fun a b c d=>⟨c,key _ b d,b⟩) fun z_ z_ z_ z_ z_ z_ z_ e=>e⟩⟩
theorem note_entry{Q:Unit→Shared→Prop}{L:Addr}{oe:Obj}{vs:Array Value}{head:Value}{hadNext:Bool}(hf:A.frames=some (env::outer))(T:Rel K w H0 (env::outer) G st locs s.heap)(X:Ext (env::outer) G0 h0 G s.heap P)(hL:env.frame=some L)
  (nf:¬ G.fz ea) (nm:¬ G.mut ea) (nw:h0.get? ea=none) (he:s.heap.get? ea=some oe) (hd:oe.data=.fields vs) (hsz:1 < vs.size) (m:XMsg K G s.heap oe d)
  (k:∀h',Turn (env::outer) G h0 s.heap h'→Flies K G h0 h' true ea d→Q () { s with heap:=h' }):wpAny M A (do
   let a ← frameOf env
   let pl ← entryPlaceOf L hadNext
   let b ← EntryCells.newEntry head a .none (rawInt L) .none pl
   setField (.ref ea) 1 b) Q E s:=by
 refine wpAny_bind (wpAny_frameOf_fun hf (funFrames_of T) hL fun h2 hs2=>?_)
 have S2:Turn (env::outer) G h0 s.heap h2:=turn_slots T hs2
 have he2:h2.get? ea=some oe:=by
  refine (hs2.2.1 ea fun hm=>?_).trans he
  refine xE12 (List.mem_filterMap.mp hm) fun e' he' q=>?_
  obtain ⟨_,L',m',f',_,⟨o',_,_,g',d',_⟩,_⟩:=T.frames e' he'
  have:=Option.some.inj (f'.symm.trans q)
  subst this
  have:=Option.some.inj (he.symm.trans g')
  subst this
  exact nomatch hd.symm.trans d'
 have T2:=T.turn S2
 refine wpAny_bind (wpAny_entryPlaceOf fun pl hpl=>?_)
 unfold EntryCells.newEntry newFields
 refine wpAny_bind (wpAny_newObj_type ?_ (hpl.sizeOk5 _ _ _ _ _))
 have hsz3:3 < ([head,.ref L,.none,rawInt L,.none]++(if pl.isEmpty then List.replicate 6 Value.none else pl)).toArray.size:=by simp
 have hg3:([head,.ref L,.none,rawInt L,.none]++(if pl.isEmpty then List.replicate 6 Value.none else pl)).toArray[3]? = some (rawInt L):=by simp
 generalize ([head,.ref L,.none,rawInt L,.none]++(if pl.isEmpty then List.replicate 6 Value.none else pl)).toArray=fs at hsz3 hg3 ⊢
 have he3:=Heap.get?_push_of_some (h:=h2) { cls:=.type "traceback",dict:=none,data:=.fields fs } he2
 refine wpAny_setField he3 hd hsz ?_
 have hn:=sizeNone h2
 have hTe:h2.objs.size≠ea:=Nat.ne_of_gt (Heap.lt_size he2)
 have S:=S2.trans ((Turn.of_keeps (fr:=env::outer) (G:=G) (h0:=h0) fun b o e=>Heap.get?_push_of_some _ e).trans (Turn.record (fr:=env::outer) (G:=G) (h0:=h0) he3 hd nf nm nw (Obj.mapFields (·.setIfInBounds 1 (Value.ref h2.objs.size)))))
 have hn0:h0.get? h2.objs.size=none:=by
  cases q:h0.get? h2.objs.size with
  |none=>rfl
  |some o =>
   refine xE11 (X.live _ o q) fun o' e'=>?_
   exact xE12 (S2 _ o' e' (.inr (.inr (.inl ⟨o,q⟩)))) fun sl e1 z_=>by rw [hn] at e1;exact cz0 e1
 have hd3:=Obj.data_mapFields hd (·.setIfInBounds 1 (Value.ref h2.objs.size))
 have hdx3:∀o:Obj,∀f,(o.mapFields f).dict=o.dict:=fun o f=>by cases o with | mk a b c d=>cases c<;>rfl
 refine k _ S ⟨nf,nm,nw,_,_,Heap.get?_update_self _ he3 (Obj.isFreed_of_fields hd3),hd3,by simpa using hsz,m.keep (fun z_ f=>f) (fun a o f e=>fz_turn T S (.inl f) e) (Obj.cls_mapFields _ _) (hdx3 _ _),.inr ⟨h2.objs.size,{ cls:=.type "traceback",dict:=none,data:=.fields fs },_,rawInt L,?_,hTe,(T2.sizeNot hn).1,(T2.sizeNot hn).2.1,hn0,?_,rfl,hg3⟩⟩
 ·simp [hsz]
 ·refine rwE (Heap.get?_update_other _ _ (Ne.symm hTe)) ?_
  exact Heap.get?_push_size h2 rfl
theorem note_ok{Q:Unit→Shared→Prop}(hf:A.frames=some (env::outer))(T:Rel K w H0 (env::outer) G st locs s.heap)(X:Ext (env::outer) G0 h0 G s.heap P)(F:Flies K G h0 s.heap tr ea d)
  (k:∀h',Turn (env::outer) G h0 s.heap h'→Flies K G h0 h' true ea d→Q () { s with heap:=h' }):wpAny M A (noteFrame (.ref ea) env) Q E s:=by
 obtain ⟨_,L,_,hL,_,_⟩:=T.frames env (List.mem_cons_self ..)
 refine Flies.el F fun oe vs he hd hsz m htr=>?_
 unfold noteFrame
 simp only [hL]
 rcases htr with h1 | q
 ·refine wpAny_bind (wpAny_field he hd h1.2 ?_)
  refine rwE (if_neg (by decide)) ?_
  exact note_entry hf T X hL F.nf F.nm F.new he hd hsz m k
 ·have q':=q
  obtain ⟨TT,oT,ts,x,h1,hTe,ntf,ntm,nt0,hT,hdT,h3⟩:=q'
  refine wpAny_bind (wpAny_field he hd h1 ?_)
  refine rwE (if_pos (show (Value.ref TT != Value.none)=true from by simp)) ?_
  refine wpAny_bind (wpAny_field hT hdT h3 ?_)
  by_cases hx:(x==rawInt L)=true
  ·refine rwE (if_pos hx) ?_
   exact wpAny_pure (k s.heap (Turn.refl (env::outer) G h0 s.heap) ⟨F.nf,F.nm,F.new,oe,vs,he,hd,hsz,m,.inr q⟩)
  ·refine rwE (if_neg hx) ?_
   refine wpAny_bind (wpAny_setField hT hdT (Array.getElem?_eq_some_iff.mp h3).1 ?_)
   have S1:=Turn.record (fr:=env::outer) (G:=G) (h0:=h0) hT hdT ntf ntm nt0
   exact note_entry hf (T.turn (S1 _)) (X.turn T (S1 _)) hL F.nf F.nm F.new ((Heap.get?_update_other _ _ hTe).trans he) hd hsz (m.keep (fun z_ f=>f) (fun a o f e=>fz_turn T (S1 _) (.inl f) e) rfl rfl) fun h' S F'=>k h' ((S1 _).trans S) F'
theorem flight_ok{Q:Unit→Shared→Prop}{f:Option Addr}(T:Rel K w H0 fr G st locs s.heap)(F:Flies K G h0 s.heap true ea d)
  (k:∀h',Turn fr G h0 s.heap h'→Flies K G h0 h' true ea d→Q () { s with heap:=h' }):wpAny M A (setFlight (.ref ea) f) Q E s:=by
 refine Flies.el F fun oe vs he hd hsz m htr=>?_
 rcases htr with q | ⟨TT,oT,ts,x,h1,hTe,ntf,ntm,nt0,hT,hdT,h3⟩
 ·exact cz3 q.1
 ·unfold setFlight
  refine wpAny_bind (wpAny_field he hd h1 ?_)
  refine rwE (if_pos (show (Value.ref TT != Value.none)=true from by simp)) ?_
  have hsz3:=(Array.getElem?_eq_some_iff.mp h3).1
  refine wpAny_setField hT hdT hsz3 ?_
  have S:=Turn.record (fr:=fr) (G:=G) (h0:=h0) hT hdT ntf ntm nt0 (Obj.mapFields (·.setIfInBounds 3 (f.elim .none fun f=>rawInt f)))
  have hdT':=Obj.data_mapFields hdT (·.setIfInBounds 3 (f.elim .none fun f=>rawInt f))
  exact k _ S ⟨F.nf,F.nm,F.new,oe,vs,(Heap.get?_update_other _ _ hTe).trans he,hd,hsz,m.keep (fun z_ f=>f) (fun a o f e=>fz_turn T S (.inl f) e) rfl rfl,.inr ⟨TT,_,_,_,h1,hTe,ntf,ntm,nt0,Heap.get?_update_self _ hT (Obj.isFreed_of_fields hdT'),hdT',by simp [hsz3];rfl⟩⟩
theorem came_ok(T:Rel K w H0 fr G st locs s.heap)(F:Flies K G h0 s.heap true ea d)
  (k:∀h',Turn fr G h0 s.heap h'→Flies K G h0 h' true ea d→E (.ref ea) { s with heap:=h' }):cameBackBy M A env E (.ref ea) s:=by
 refine Flies.el F fun oe vs he hd hsz m htr=>?_
 rcases htr with q | ⟨TT,oT,ts,x,h1,_⟩
 ·exact cz3 q.1
 ·unfold cameBackBy
  refine wpAny_bind (wpAny_field he hd h1 ?_)
  refine rwE (if_neg (by simp)) ?_
  exact flight_ok T F k
theorem leave_ok{Q:Unit→Shared→Prop}(hf:A.frames=some (env::outer))(T:Rel K w H0 (env::outer) G st locs s.heap)(X:Ext (env::outer) G0 h0 G s.heap P)(F:Flies K G h0 s.heap tr ea d)
  (k:∀h',Turn (env::outer) G h0 s.heap h'→Flies K G h0 h' true ea d→Q () { s with heap:=h' }):wpAny M A (leaving env (.ref ea)) Q E s:=by
 unfold leaving
 refine wpAny_bind (note_ok hf T X F fun h1 S1 F1=>flight_ok (s:={ s with heap:=h1 }) (T.turn S1) F1 fun h2 S2 F2=>?_)
 exact k h2 (S1.trans S2) F2
end
end Bc
namespace Bc
inductive FnRec(K:Frag)(d:DefRec):Prop
 |mk (f:Addr) (oc:Value) (od:Option Addr) (osl:Array (Option Value)) (fd:FuncData):gval K d.name=some (.ref f)→K.lookup f=some ⟨oc,od,.func fd,osl⟩→fd.params=d.params→fd.body=.stmts d.body→fd.scope=d.scope→fd.globals=mainGlobals→fd.closure=[] →
  fd.builtins=builtinsNs→codeIn K fd.code fd.qualname=true→(fd.defaults=.none∨∃T o items n,fd.defaults=.ref T∧K.lookup T=some o∧o.data=.seq items n)→FnRec K d
noncomputable def FlRel(K:Frag)(w:World)(G:Gh)(h:Heap):Fl→Flow→Prop
 | .next,.next=>True
 | .cont,.cont=>True
 | .brk,.brk=>True
 | .ret d,.ret v=>Rep K w h G.fz v d
 |_,_=>False
noncomputable def Own(locs:List Loc)(a:Addr):Prop:=∃l∈locs,l.addr=a
section
variable(K:Frag)(w:World)(H0:Heap)(fr:List Env)
inductive Exc(h0:Heap)(tr:Bool)(d:PV)(e:Value)(G:Gh)(h:Heap):Prop
 |mk (ea:Addr):e=.ref ea→Flies K G h0 h tr ea d→Exc h0 tr d e G h
inductive CallOk(G:Gh)(s:Shared)(st:Bc.St)(locs:List Loc)(r:Rs)(v:Value)(s':Shared):Prop
 |mk (a:AV):r=.ok a→OutP K w H0 fr None_ G s st locs (fun G' h'=>RepA K w G' h' v a) s'→CallOk G s st locs r v s'
inductive CallExc(G:Gh)(s:Shared)(st:Bc.St)(locs:List Loc)(r:Rs)(e:Value)(s':Shared):Prop
 |mk (d:PV):r=.exc d→OutP K w H0 fr None_ G s st locs (Exc K s.heap true d e) s'→CallExc G s st locs r e s'
noncomputable abbrev StOk(G:Gh)(s:Shared)(st:Bc.St)(locs:List Loc)(f:Fl)(fl:Flow)(s':Shared):Prop:=OutP K w H0 fr (Own locs) G s st locs (fun G' h'=>FlRel K w G' h' f fl) s'
inductive StExc(G:Gh)(s:Shared)(st:Bc.St)(locs:List Loc)(f:Fl)(e:Value)(s':Shared):Prop
 |mk (d:PV):f=.exc d→OutP K w H0 fr (Own locs) G s st locs (Exc K s.heap false d e) s'→StExc G s st locs f e s'
end
noncomputable def SndX(prog:Program)(K:Frag)(w:World)(H0:Heap)(n:Nat)(R:Rc):Prop :=
 ∀cx stm st f st',R.ex cx stm st=some (f,st')→vnm st'.vars=vnm st.vars∧∀(A:Around) (outer:List Env) (env:Env) (G:Gh) (locs:List Loc) (s:Shared),Here K w H0 n cx st A (env::outer) env G locs s →
  wpAny (model prog w) A (exec stm env) (StOk K w H0 (env::outer) G s st' locs f) (StExc K w H0 (env::outer) G s st' locs f) s
noncomputable def SndC(prog:Program)(K:Frag)(w:World)(H0:Heap)(n:Nat)(R:Rc):Prop :=
 ∀x as cs r cs',R.call x as cs=some (r,cs')→∀(A:Around) (fr:List Env) (G:Gh) (vars:Vars) (locs:List Loc) (s:Shared) (f:Value) (vs:List Value),Room A n→A.handled=none→A.frames=some fr →
  gval K x=some f→Rel K w H0 fr G ⟨vars,cs⟩ locs s.heap→RepAL K w G s.heap vs as →
  wpAny (model prog w) A (call f vs) (CallOk K w H0 fr G s ⟨vars,cs'⟩ locs r) (CallExc K w H0 fr G s ⟨vars,cs'⟩ locs r) s
section
variable{K:Frag}{w:World}{H0 h0:Heap}{fns:List DefRec}{mg mb:Str→Option Value}{fr outer:List Env}{prog:Program}{A:Around}{G G0 G1 G':Gh}{st st' st1 st2 st3:Bc.St}{locs locs':List Loc}{s s1 s':Shared}{env:Env}{h h' h1 h2:Heap}{P P':Addr→Prop}{n:Nat}{R:Rc}{cx:Cx}
 {φ:Gh→Heap→Prop}
theorem Exc.el{tr:Bool}{e:Value}{d:PV}{C:Prop}(x:Exc K h0 tr d e G h)(k:∀ea,e=.ref ea→Flies K G h0 h tr ea d→C):C:=let ⟨a,b,c⟩:=x;k a b c
theorem StExc.el{f:Fl}{e:Value}{C:Prop}(x:StExc K w H0 fr G s st locs f e s')(k:∀d,f=.exc d→OutP K w H0 fr (Own locs) G s st locs (Exc K s.heap false d e) s'→C):C:=let ⟨a,b,c⟩:=x;k a b c
theorem CallOk.el{r:Rs}{e:Value}{C:Prop}(x:CallOk K w H0 fr G s st locs r e s')(k:∀a,r=.ok a→OutP K w H0 fr None_ G s st locs (fun G' h'=>RepA K w G' h' e a) s'→C):C:=let ⟨a,b,c⟩:=x;k a b c
theorem CallExc.el{r:Rs}{e:Value}{C:Prop}(x:CallExc K w H0 fr G s st locs r e s')(k:∀d,r=.exc d→OutP K w H0 fr None_ G s st locs (Exc K s.heap true d e) s'→C):C:=let ⟨a,b,c⟩:=x;k a b c
theorem OutP.comp{G1:Gh}{s1 s2:Shared}(X1:Ext fr G s.heap G1 s1.heap P)(S1:Sh s s1)(o:OutP K w H0 fr P G1 s1 st2 locs φ s2):OutP K w H0 fr P G s st2 locs φ s2:=by
 refine OutP.el o fun G2 R2 X2 S2 q=>?_
 exact ⟨G2,R2,X1.trans X2,S1.trans S2,q⟩
theorem StOk.comp{G1:Gh}{s1 s2:Shared}{f:Fl}{fl:Flow}(X1:Ext fr G s.heap G1 s1.heap (Own locs))(S1:Sh s s1)(o:StOk K w H0 fr G1 s1 st2 locs f fl s2):StOk K w H0 fr G s st2 locs f fl s2:=OutP.comp X1 S1 o
theorem Exc.early{tr:Bool}{d:PV}{e:Value}(X:∀b o,h0.get? b=some o→∃o',h.get? b=some o')(x:Exc K h tr d e G h'):Exc K h0 tr d e G h':=let ⟨ea,q,F⟩:=x;⟨ea,q,F.early X⟩
theorem StExc.comp{G1:Gh}{s1 s2:Shared}{f:Fl}{e:Value}(X1:Ext fr G s.heap G1 s1.heap (Own locs))(S1:Sh s s1)(o:StExc K w H0 fr G1 s1 st2 locs f e s2):StExc K w H0 fr G s st2 locs f e s2:=by
 obtain ⟨d,q,G2,R2,X2,S2,x⟩:=o
 exact ⟨d,q,G2,R2,X1.trans X2,S1.trans S2,x.early X1.live⟩
theorem CallOk.comp{G1:Gh}{s1 s2:Shared}{f:Rs}{fl:Value}(X1:Ext fr G s.heap G1 s1.heap None_)(S1:Sh s s1)(o:CallOk K w H0 fr G1 s1 st2 locs f fl s2):CallOk K w H0 fr G s st2 locs f fl s2 :=
 let ⟨a,q,o⟩:=o;⟨a,q,OutP.comp X1 S1 o⟩
theorem CallExc.comp{G1:Gh}{s1 s2:Shared}{f:Rs}{e:Value}(X1:Ext fr G s.heap G1 s1.heap None_)(S1:Sh s s1)(o:CallExc K w H0 fr G1 s1 st2 locs f e s2):CallExc K w H0 fr G s st2 locs f e s2:=by
 obtain ⟨d,q,G2,R2,X2,S2,x⟩:=o
 exact ⟨d,q,G2,R2,X1.trans X2,S1.trans S2,x.early X1.live⟩
structure ExsOk(prog:Program)(K:Frag)(w:World)(H0:Heap)(n:Nat)(cx:Cx)(stms:List Stmt)(st:Bc.St)(f:Fl)(st':Bc.St):Prop where
 a:vnm st'.vars=vnm st.vars
 b:∀{A:Around} {outer:List Env} {env:Env} {G:Gh} {locs:List Loc} {s:Shared},Here K w H0 n cx st A (env::outer) env G locs s →
   wpAny (model prog w) A (execs stms env) (StOk K w H0 (env::outer) G s st' locs f) (StExc K w H0 (env::outer) G s st' locs f) s
theorem exs_ok(I:SndX prog K w H0 n R){stms:List Stmt}{st:Bc.St}{f:Fl}{st':Bc.St}(q:exs R cx stms st=some (f,st')):ExsOk prog K w H0 n cx stms st f st':=by
 induction stms generalizing st with
 |nil=>exact cz4 q ⟨rfl,fun H=>wpAny_execs_nil ⟨_,H.T,Ext.refl ..,Sh.refl _,trivial⟩⟩
 |cons stm r ih =>
  refine obE2 q fun f1 st1 h1 q=>?_
  have w1:=I _ _ _ _ _ h1
  cases f1 with
  |next =>
   have w2:=ih q
   refine ⟨w2.1.trans w1.1,fun H=>wpAny_execs_cons (wpAny_mono (w1.2 _ _ _ _ _ _ H) (fun fl s1 z=>OutP.el z fun G1 T1 X1 S1 z=>?_) fun e s1 x=>x.el fun d x=>nomatch x)⟩
   cases fl with
   |next=>exact wpAny_mono (w2.2 (H.next w1.1 T1)) (fun _ _ o=>o.comp X1 S1) fun _ _ o=>o.comp X1 S1
   |_=>exact z.elim
  |_ =>
   refine cz4 q ⟨w1.1,fun H=>wpAny_execs_cons (wpAny_mono (w1.2 _ _ _ _ _ _ H) (fun fl s1 z=>?_) fun e s1 x=>x)⟩
   cases fl with
   |next=>exact OutP.el z fun _ _ _ _ zz=>zz.elim
   |_=>exact z
theorem look_kind{names:List (Str × NameKind)}{x:Str}(h:(names.lookup x==some NameKind.local||names.lookup x==some NameKind.cell)=true):names.lookup x=some .local∨names.lookup x=some .cell:=by
 cases q:names.lookup x with
 |none=>rw [q] at h;cases h
 |some k=>rw [q] at h;cases k<;>first | exact .inl rfl | exact .inr rfl | cases h
theorem fix_at{x:Str}{v:Vars}{i:Nat}(e:fix x v=some i):∃e,v[i]? = some e∧e.1=x:=by
 induction v generalizing i with
 |nil=>exact cz0 e
 |cons p r ih=>exact fix_c e (fun q e=>e▸⟨p,rfl,(beq_iff_eq.mp q).symm⟩) fun q j h e=>e▸ih h
theorem paramVars_names:∀{ps:List Arg} {as:List AV} {l:Vars},paramVars ps as=some l→l.map (·.1)=ps.map (·.arg)
 |[],_,_,e=>gdE (P:=fun l=>l.map (·.1)=[]) e fun _=>rfl
 |p::ps,_,_,e=>obE e fun _ _ e=>obE e fun _ hl e=>cz5 (P:=fun l=>l.map (·.1)=p.arg::ps.map (·.arg)) e (congrArg (p.arg::·) (paramVars_names hl))
theorem endFn_inv{fl:Fl}{st2:Bc.St}{r:Rs}{outs:List MO}(h:endFn (fl,st2)=some (r,outs)):st2.cells=outs∧((∃d,fl=.ret d∧r=.ok (.pv d))∨(fl=.next∧r=.ok (.pv .none))∨∃d,fl=.exc d∧r=.exc d):=by
 cases fl with
 |ret d=>exact cz4 h ⟨rfl,.inl ⟨_,rfl,rfl⟩⟩
 |next=>exact cz4 h ⟨rfl,.inr (.inl ⟨rfl,rfl⟩)⟩
 |exc d=>exact cz4 h ⟨rfl,.inr (.inr ⟨_,rfl,rfl⟩)⟩
 |_=>exact cz0 h
theorem codeAny_call_fn{RR:Result→Shared→Prop}{a:Addr}{o:Obj}{fd:FuncData}{body:List Stmt}{vals:List Value}{binds:List (Str × Value)}
  (hroom:A.depth < recursionLimit) (ho:s.heap.get? a=some o) (hdata:o.data=.func fd) (hlim:s.heap.NoLimit) (hcd:s.heap.CodeRec fd.code fd.qualname)
  (hbody:fd.body=.stmts body) (hbind:BindsTo s fd ⟨vals,[]⟩ binds) (hclo:fd.closure=[])
  (hkind:∀x∈binds,fd.scope.names.lookup x.1=some .local∨(fd.scope.names.lookup x.1=some .cell∧((cellsFrom (s.heap.objs.size+1) fd.scope.names []).lookup x.1).isSome=true))
  (h:∀s₁,InCallC s (callEnvC fd s.heap.objs.size a).locals (bindL (callEnvC fd s.heap.objs.size a).kindOf binds fun _=>none) (callEnvC fd s.heap.objs.size a).cells
    (bindC (callEnvC fd s.heap.objs.size a).kindOf binds fun _=>none) s₁ →
   wpAny (model prog w) (A.deeper (callEnvC fd s.heap.objs.size a)) (execs body (callEnvC fd s.heap.objs.size a)) (fun f s'=>RR (.ok (.ret (match f with | .ret v=>v | _=>.none))) s')
    (fun e s'=>wpAny (model prog w) (A.deeper (callEnvC fd s.heap.objs.size a)) (leaving (callEnvC fd s.heap.objs.size a) e) (fun _ s''=>RR (.error e) s'') (fun e' s''=>RR (.error e') s'') s') s₁)
  (hco:fd.scope.isCoroutine=false) (hgen:fd.scope.isGenerator=false) (hk:fd.scope.kind=.function) :
  codeAny (model prog w) A (.call (.ref a) ⟨vals,[]⟩) RR s:=by
 refine codeAny_call_function hroom ho hdata hco hgen hbody hcd (hbind _ _ _ _ ?_)
 refine rwE hclo ?_
 refine wpAny_newFunctionEnv_cells hk hkind fun env he s' x=>?_
 subst he
 exact ⟨hlim.keeps x.toInCall.keep,codeAny_func (h s' x)⟩
theorem kind_fn{k:ScopeKind}(h:(k==.function)=true):k=.function:=by cases k<;>first | rfl | cases h
theorem frame_ok{a:Addr}{oc:Value}{od:Option Addr}{osl:Array (Option Value)}{fd:FuncData}{ns:List Str}{ps:Vars}{body:List Stmt}{names:List (Str × NameKind)}{as:List AV}{vs vals:List Value}{cs cs' ins outs:List MO}{r:Rs}{vars:Vars}{fl:Fl}{st2:Bc.St}
  (hlim:s.heap.NoLimit) (X:K.In s.heap) (hK:K.lookup a=some ⟨oc,od,.func fd,osl⟩) (hbody:fd.body=.stmts body) (hsc:fd.scope.names=names) (hgl:fd.globals=mainGlobals) (hclo:fd.closure=[]) (hbi:fd.builtins=builtinsNs) (hcode:codeIn K fd.code fd.qualname=true)
  (p6:fd.scope.kind=.function) (p7:fd.scope.isCoroutine=false) (p8:fd.scope.isGenerator=false) (hnn:ns.Nodup) (hpn:ps.map (·.1)=ns) (hvl:vs.length=ns.length)
  (hpr:∀e∈ps,∃a v,e.2=some a∧(e.1,v)∈ns.zip vs∧RepA K w (subG G (aCs as)) s.heap v a) (hbt:BindsTo s fd ⟨vals,[]⟩ (ns.zip vs))
  (hnd:(aCs as).Nodup) (hins:takeMO cs (aCs as)=some ins) (hput:putMO (aCs as) outs cs=some cs') (hgood:goodVars names ((frV names ps).map (·.1))=true)
  (hcells:st2.cells=outs) (hr:(∃d,fl=.ret d∧r=.ok (.pv d))∨(fl=.next∧r=.ok (.pv .none))∨∃d,fl=.exc d∧r=.exc d)
  (wx:∀{A:Around} {outer:List Env} {env:Env} {G:Gh} {locs:List Loc} {s:Shared},Here K w H0 n ⟨names,true⟩ ⟨frV names ps,ins⟩ A (env::outer) env G locs s →
   wpAny (model prog w) A (execs body env) (StOk K w H0 (env::outer) G s st2 locs fl) (StExc K w H0 (env::outer) G s st2 locs fl) s)
  (rm:∀env,Room (A.deeper env) n) (hh:A.handled=none) (hf:A.frames=some fr) (T:Rel K w H0 fr G ⟨vars,cs⟩ locs s.heap) (hlt:∀k∈aCs as,k < G.ad.length) :
  codeAny (model prog w) A (.call (.ref a) ⟨vals,[]⟩) (fun rr s'=>match rr with | .ok (.ret v)=>CallOk K w H0 fr G s ⟨vars,cs'⟩ locs r v s' | .ok _=>False | .error e=>CallExc K w H0 fr G s ⟨vars,cs'⟩ locs r e s') s:=by
 simp only [goodVars,Bool.and_eq_true] at hgood
 obtain ⟨g1,g2⟩:=hgood
 have g1:=nodup_of g1
 have g2:∀x∈(frV names ps).map (·.1),names.lookup x=some .local∨names.lookup x=some .cell:=fun x hx=>look_kind (List.all_eq_true.mp g2 x hx)
 have Ts:=T.sub hnd hlt hins
 have hsub:∀x∈ns,x∈(frV names ps).map (·.1):=fun x hx=>by
  rw [frV,List.map_append,List.mem_append,hpn];exact .inl hx
 have hcl:∀x,names.lookup x=some .cell→∀L,((cellsFrom L names []).lookup x).isSome=true:=fun x hx L=>cells_look (.inr (PySem.mem_of_lookup hx))
 refine codeAny_call_fn (body:=body) (by have:=(rm default).depth;show A.depth < 1000;have h1:A.depth+1+2 * n≤940:=this;omega) (X _ _ hK) rfl hlim (codeRec_of X hcode) hbody hbt hclo (fun x hx=>?_) (fun s1 C=>?_) p7 p8 p6
 ·refine rwE hsc ?_
  have hx1:=hsub x.1 (List.of_mem_zip hx).1
  rcases g2 _ hx1 with z | z
  ·exact .inl z
  ·exact .inr ⟨z,hcl _ z _⟩
 ·generalize he:callEnvC fd s.heap.objs.size a=env at C
  have e1:env.scope.names=names:=by refine rwB he (rwB hsc ?_);rfl
  have e1k:env.scope.kind=.function:=by refine rwB he ?_;exact p6
  have e2:env.locals=s.heap.objs.size:=by refine rwB he ?_;rfl
  have e3:env.frame=some s.heap.objs.size:=by refine rwB he ?_;rfl
  have e4:env.cells=cellsFrom (s.heap.objs.size+1) names []:=by refine rwB he (rwB hsc ?_);rfl
  have e5:env.globals=mainGlobals:=by refine rwB he ?_;exact hgl
  have e6:env.builtins=builtinsNs:=by refine rwB he ?_;exact hbi
  have ek:∀x,env.kindOf x=names.lookup x:=fun x=>by unfold Env.kindOf;refine rwE e1 rfl
  refine xE21 C.toInCall.same fun hh1 tk1 e_2=>?_;subst e_2
  have keep:=C.toInCall.keep
  dsimp only at keep
  have hfresh:s.heap.get? s.heap.objs.size=none:=sizeNone _
  let locs':List Loc:=(frV names ps).map fun e=>(locOf env e.1).getD (.cell 0)
  have hloc:∀x,x∈(frV names ps).map (·.1)→(names.lookup x=some .local∧locOf env x=some (.dict s.heap.objs.size x))∨∃c,names.lookup x=some .cell∧env.cells.lookup x=some c∧locOf env x=some (.cell c):=fun x hx=>by
   rcases g2 x hx with z | z
   ·refine .inl ⟨z,?_⟩
    unfold locOf;refine rwE e1 (rwE z (rwE e2 rfl))
   ·have hs:=hcl x z (s.heap.objs.size+1)
    rw [← e4] at hs
    refine xE11 (Option.isSome_iff_exists.mp hs) fun c hc=>?_
    refine .inr ⟨c,z,hc,?_⟩
    unfold locOf;refine rwE e1 (rwE z ?_);dsimp only;refine rwE hc rfl
  have hat:∀(i:Nat) e,(frV names ps)[i]? = some e→e.1∈(frV names ps).map (·.1):=fun i e h=>List.mem_map_of_mem (List.mem_of_getElem? h)
  have hl':∀(i:Nat) l,locs'[i]? = some l→∃e,(frV names ps)[i]? = some e∧l=(locOf env e.1).getD (.cell 0):=fun i l h=>by
   have h:(((frV names ps).map fun e=>(locOf env e.1).getD (.cell 0)))[i]? = some l:=h
   rw [List.getElem?_map] at h
   cases q:(frV names ps)[i]? with
   |none=>rw [q] at h;cases h
   |some e=>rw [q] at h;cases h;exact ⟨e,rfl,rfl⟩
  have T1:Rel K w H0 (env::fr) (subG G (aCs as)) ⟨frV names ps,ins⟩ locs' hh1:=by
   refine Rel.enter (env:=env) (h':=hh1) Ts keep (by simp [locs']) (fun i e l h1 h2=>?_) (fun l hl=>?_) (fun i j l m ne h1 h2=>?_) ⟨by refine rwE e1k ?_;decide,s.heap.objs.size,_,e3,?_,e2▸C.toInCall.ns,(T.sizeNot hfresh).1,?_⟩
   ·refine xE12 (hl' i l h2) fun e' q1 e_2=>?_;refine Bc.rwE e_2 ?_
    rw [h1] at q1;cases q1
    have gr:Grow (subG G (aCs as)) s.heap (subG G (aCs as)) hh1:=⟨fun a f=>⟨f,by obtain ⟨o,q⟩:=T.dom a f;refine rwE q ?_;exact keep a o q⟩,[],by simp⟩
    have val:∀a,e.2=some a→∃v,(e.1,v)∈ns.zip vs∧RepA K w (subG G (aCs as)) hh1 v a:=fun a ha=>by
     have hm:e∈ps:=by
      have:=List.mem_of_getElem? h1
      rw [frV,List.mem_append] at this
      rcases this with this | this
      ·exact this
      ·rw [List.mem_filterMap] at this
       refine xE12 this fun y _ hy=>?_
       split at hy
       ·cases (hy);cases (ha)
       ·cases hy
     refine xE23 (hpr e hm) fun a' v z1 z2 z3=>?_
     rw [ha] at z1;cases (z1)
     exact ⟨v,z2,RepA.mono gr z3⟩
    have hnz:((ns.zip vs).map (·.1)).Nodup:=by
     refine rwE (List.map_fst_zip (by simp [hvl])) ?_;exact hnn
    rcases hloc e.1 (hat i e h1) with ⟨z,z2⟩ | ⟨c,z,z2,z3⟩
    ·refine rwE z2 ?_
     refine ⟨rfl,_,e2▸C.toInCall.ns,fun a ha=>?_⟩
     refine xE12 (val a ha) fun v y1 y2=>?_
     exact ⟨v,bindL_mem ((ek _).trans z) hnz y1,y2⟩
    ·refine rwE z3 ?_
     refine ⟨_,C.cell e.1 c z2,fun a ha=>?_⟩
     refine xE12 (val a ha) fun v y1 y2=>?_
     exact ⟨v,bindC_mem (by rw [ek,z];decide) hnz y1,y2⟩
   ·refine xE11 (List.mem_iff_getElem?.mp hl) fun i hi=>?_
    obtain ⟨e',q1,rfl⟩:=hl' i l hi
    rcases hloc e'.1 (hat i e' q1) with ⟨z,z2⟩ | ⟨c,z,z2,z3⟩
    ·refine rwE z2 ?_;exact hfresh
    ·refine rwE z3 ?_
     have:=C.above e'.1 c (PySem.mem_of_lookup z2)
     rw [e2] at this
     exact Heap.get?_none_of_le (Nat.le_of_lt this)
   ·obtain ⟨x,q1,rfl⟩:=hl' i l h1
    obtain ⟨y,q2,rfl⟩:=hl' j m h2
    have nxy:x.1≠y.1:=by
     have a1:((frV names ps).map (·.1))[i]? = some x.1:=by refine rwE (List.getElem?_map) (rwE q1 ?_);rfl
     have a2:((frV names ps).map (·.1))[j]? = some y.1:=by refine rwE (List.getElem?_map) (rwE q2 ?_);rfl
     intro z
     exact ne (getElem?_inj g1 (z▸a1) a2)
    rcases hloc x.1 (hat i x q1) with ⟨z,z2⟩ | ⟨c,z,z2,z3⟩<;>rcases hloc y.1 (hat j y q2) with ⟨y1,y2⟩ | ⟨c',y1,y2,y3⟩
    ·refine rwE z2 (rwE y2 ?_);exact fun _=>nxy
    ·refine rwE z2 (rwE y3 ?_)
     have:=C.above y.1 c' (PySem.mem_of_lookup y2)
     rw [e2] at this
     exact Nat.ne_of_lt this
    ·refine rwE z3 (rwE y2 ?_)
     have:=C.above x.1 c (PySem.mem_of_lookup z2)
     rw [e2] at this
     exact Nat.ne_of_gt this
    ·refine rwE z3 (rwE y3 ?_)
     intro cc
     subst cc
     exact nxy (PySem.name_of_addr C.apart (PySem.mem_of_lookup z2) (PySem.mem_of_lookup y2))
   ·cases q:H0.get? s.heap.objs.size with
    |none=>rfl
    |some o=>have:=T.keep0 _ o q;rw [hfresh] at this;cases this
   ·exact fun m=>(T.sizeNot hfresh).2.1 (subG_mut hlt m)
  have EV:EnvOk ⟨names,true⟩ env (frV names ps) locs':=⟨e1,e1k,e5,e6,fun x i _ hfx=>by
   obtain ⟨e,h1,rfl⟩:=fix_at hfx
   rcases hloc e.1 (hat i e h1) with ⟨z,z2⟩ | ⟨c,z,z2,z3⟩
   ·exact ⟨_,by show ((frV names ps).map _)[i]? = _;refine rwE (List.getElem?_map) (rwE h1 ?_);simp [z2],z2⟩
   ·exact ⟨_,by show ((frV names ps).map _)[i]? = _;refine rwE (List.getElem?_map) (rwE h1 ?_);simp [z3],z3⟩⟩
  have hf':(A.deeper env).frames=some (env::fr):=Around.frames_deeper hf
  have HH:Here K w H0 n ⟨names,true⟩ ⟨frV names ps,ins⟩ (A.deeper env) (env::fr) env (subG G (aCs as)) locs' { s with heap:=hh1,toks:=tk1 } :=
   ⟨rm env,fun _=>hh,hf',EV,T1⟩
  have hP:∀b o,s.heap.get? b=some o→¬ Own locs' b:=fun b o e ⟨l,hl,z⟩=>by
   obtain ⟨i,hi⟩:=List.mem_iff_getElem?.mp hl
   obtain ⟨e',q1,rfl⟩:=hl' i l hi
   have hb:=Heap.lt_size e
   rcases hloc e'.1 (hat i e' q1) with ⟨y1,z2⟩ | ⟨c,y1,z2,z3⟩
   ·rw [z2] at z;change s.heap.objs.size=b at z;exact absurd (z▸hb) (Nat.lt_irrefl _)
   ·rw [z3] at z;change c=b at z
    have:=C.above e'.1 c (PySem.mem_of_lookup z2)
    rw [e2] at this;exact absurd (Nat.lt_trans (z▸this) hb) (Nat.lt_irrefl _)
  have hL:∀b o,s.heap.get? b=some o→env.frame≠some b:=fun b o e z=>by
   rw [e3] at z;cases (z);rw [hfresh] at e;cases (e)
  refine wpAny_mono (wx HH) (fun fw s2 z=>?_) fun e s2 z=>?_
  ·obtain ⟨G2,T2,X2,S2,z⟩:=z
   obtain ⟨vars2,outs2⟩:=st2
   cases hcells
   obtain ⟨T3,X3⟩:=T.back hnd hlt keep T2 hput X2 hP hL
   have S3:Sh s s2:=(Sh.mk' s hh1 tk1).trans S2
   rcases hr with ⟨d',rfl,rfl⟩ | ⟨rfl,rfl⟩ | ⟨d',rfl,rfl⟩
   ·cases fw<;>first | exact z.elim | skip
    exact ⟨_,rfl,_,T3,X3,S3,z⟩
   ·cases fw<;>first | exact z.elim | skip
    exact ⟨_,rfl,_,T3,X3,S3,.none⟩
   ·cases fw<;>exact z.elim
  ·obtain ⟨d',hd',G2,T2,X2,S2,ea,rfl,FF⟩:=z
   obtain ⟨vars2,outs2⟩:=st2
   cases hcells
   rcases hr with ⟨d'',rfl,rfl⟩ | ⟨rfl,rfl⟩ | ⟨d'',rfl,rfl⟩
   ·cases hd'
   ·cases hd'
   ·cases hd'
    refine leave_ok (P:=Own locs') hf' T2 X2 FF fun h3 U3 F3=>?_
    have T2':=T2.turn U3
    have X2':=X2.turn T2 U3
    obtain ⟨T3,X3⟩:=T.back hnd hlt keep T2' hput X2' hP hL
    have S3:Sh s { s2 with heap:=h3 }:=((Sh.mk' s hh1 tk1).trans S2).trans (Sh.mk' s2 h3 s2.toks)
    refine ⟨_,rfl,_,T3,X3,S3,ea,rfl,?_⟩
    have F4:=F3.early (h00:=s.heap) fun b o e=>⟨o,keep b o e⟩
    refine F4.gh fun b m=>?_
    refine xE11 (T.lt b m) fun o q=>?_
    exact .inl (by refine rwE q ?_;intro z;cases z)
theorem fn_ok{d:DefRec}{as:List AV}{vs:List Value}{cs cs':List MO}{r:Rs}{f:Value}{vars:Vars}(D:Wd K w H0 fns mg mb)(F:FnRec K d)(I:SndX prog K w H0 n R)(hp:plF d=true)(q:callFn R d.params.args d.body d.scope.names as cs=some (r,cs'))
  (rm:Room A (n+1)) (hh:A.handled=none) (hf:A.frames=some fr) (hg:gval K d.name=some f) (T:Rel K w H0 fr G ⟨vars,cs⟩ locs s.heap) (ra:RepAL K w G s.heap vs as) :
  wpAny (model prog w) A (call f vs) (CallOk K w H0 fr G s ⟨vars,cs'⟩ locs r) (CallExc K w H0 fr G s ⟨vars,cs'⟩ locs r) s:=by
 obtain ⟨a,oc,od,osl,fd,hg',hK,hpar,hbody,hsc,hgl,hclo,hbi,hcode,hdef⟩:=F
 rw [hg] at hg';cases (hg')
 simp only [plF,Bool.and_eq_true,List.isEmpty_iff,Option.isNone_iff_eq_none,Bool.not_eq_true'] at hp
 obtain ⟨⟨⟨⟨⟨⟨⟨p1,p2⟩,p3⟩,p4⟩,p5⟩,p6⟩,p7⟩,p8⟩:=hp
 have X:K.In s.heap:=D.kin.keeps T.keep0
 refine bifT q fun hnd q=>obE q fun ins hins q=>obE2 q fun r' outs hrun q=>obE q fun cs'' hput q=>cz4 q ?_
 refine obE hrun fun ps hps hrun=>bifT hrun fun hgood hrun=>obE2 hrun fun fl st2 hx hend=>?_
 obtain ⟨hcells,hr⟩:=endFn_inv hend
 have hnd:=nodupN_of hnd
 have hlt:=argCells_lt ra
 have ra':RepAL K w (subG G (aCs as)) s.heap vs (renum 0 as):=renum_rep (pre:=[]) (ks:=aCs as) ra rfl
 obtain ⟨hvl,hpr⟩:=param_rep ra' hps
 have hbt:BindsTo s fd ⟨vs,[]⟩ ((d.params.args.map (·.arg)).zip vs):=by
  have e:=bindArgs_plain (fd:=fd) (vs:=vs) (by refine rwE hpar ?_;exact p1) (by refine rwE hpar ?_;exact p2) (by refine rwE hpar ?_;exact p3) (by refine rwE hpar ?_;exact p4) (by refine rwE hpar ?_;exact hvl) (by refine rwE hpar ?_;exact nodup_of p5)
  rw [hpar] at e
  rcases hdef with hdef | ⟨TT,o,items,nn,hdef,ho,hod⟩
  ·refine .of_eq (e.trans ?_)
   refine rwE hdef ?_;rfl
  ·intro M A' E' Q' hq
   refine rwE e (rwE hdef ?_)
   exact wpAny_bind (wpAny_seqItems (X _ _ ho) hod (wpAny_pure hq))
 exact wpAny_call (frame_ok (D.nolimit.keeps T.keep0) X hK hbody (by refine rwE hsc rfl) hgl hclo hbi hcode (by refine rwE hsc ?_;exact kind_fn p6) (by refine rwE hsc ?_;exact p7) (by refine rwE hsc ?_;exact p8) (nodup_of p5) (paramVars_names hps) (by simpa using hvl) hpr hbt hnd hins hput hgood hcells hr (exs_ok I hx).b (fun env=>⟨by have:=rm.depth;show A.depth+1+2 * n≤940;omega,by have:=rm.units;show A.units+3+16 * n≤9000;omega⟩) hh hf T hlt)
end
end Bc
namespace Bc
structure Junk(fr:List Env)(G:Gh)(locs:List Loc)(h:Heap)(b:Addr):Prop where
 nf:¬ G.fz b
 nm:¬ G.mut b
 nl:∀l∈locs,l.addr≠b
 nfr:∀env∈fr,env.frame≠some b
 live:∃o,h.get? b=some o
noncomputable def ownedIt(T:String):Bool:=["enumerate","zip","dict_itemiterator","dict_reverseitemiterator","odict_iterator","itertools.zip_longest","itertools.pairwise"].contains T
structure IterW(prog:Program)(w:World)(A:Around)(I:Addr)(fp:List Addr)(n:Nat)(P:Nat→Value→Prop)(St:Nat→Heap→Prop):Prop where
 W:Walks prog w A I fp [I] n P St
 tg:∀i h,St i h→∃o T,h.get? I=some o∧o.cls=.type T∧ownedIt T=false
section
variable{K:Frag}{w:World}{H0 h0:Heap}{fns:List DefRec}{mg mb:Str→Option Value}{fr outer:List Env}{prog:Program}{A:Around}{G G0 G1 G':Gh}{st st' st1 st2 st3:Bc.St}{locs locs':List Loc}{s s1 s':Shared}{env:Env}{h h' h1 h2:Heap}{P P':Addr→Prop}{n:Nat}{R:Rc}{cx:Cx}
 {φ:Gh→Heap→Prop} {b:Addr} {v:Value} {a d:PV}
theorem Rel.junk(T:Rel K w H0 fr G st locs h)(J:Junk fr G locs h b)(hk:∀c o,h.get? c=some o→c≠b→h'.get? c=some o):Rel K w H0 fr G st locs h' :=
 T.keepsB fun c o e q=>hk c o e fun z=>by
  subst z
  rcases q with q | q | ⟨l,hl,q⟩ | ⟨e',he,q⟩
  ·exact J.nf q
  ·exact J.nm q
  ·exact J.nl l hl q
  ·exact J.nfr e' he q
theorem Ext.junk(X:Ext fr G0 h0 G h P)(T:Rel K w H0 fr G st locs h)(nf:¬ G.fz b)(h0b:h0.get? b=Option.none)(hk:∀c o,h.get? c=some o→c≠b→h'.get? c=some o):Ext fr G0 h0 G h' P:=by
 have nb:∀c o,h0.get? c=some o→c≠b:=fun c o e z=>by subst z;rw [h0b] at e;cases e
 refine ⟨fun c f=>⟨(X.fz c f).1,?_⟩,fun c o e n p=>?_,X.nofz,X.ad,fun c o e=>?_⟩
 ·refine xE11 (T.dom c (X.fz c f).1) fun o e=>?_
  refine rwE (hk c o e fun z=>nf (z▸(X.fz c f).1)) (rwB ((X.fz c f).2) (rwE e rfl))
 ·refine xE12 (X.keep c o e n p) fun sl e1 q=>?_
  exact ⟨sl,hk c _ e1 (nb c o e),q⟩
 ·refine xE11 (X.live c o e) fun o' e'=>?_
  exact ⟨o',hk c o' e' (nb c o e)⟩
theorem Junk.ext(J:Junk fr G locs h b)(X:Ext fr G h G1 h1 P):Junk fr G1 locs h1 b:=by
 refine xE11 J.live fun o e=>?_
 exact ⟨fun f=>J.nf (X.nofz b o e J.nm f),X.mutLt e J.nm,J.nl,J.nfr,X.live b o e⟩
theorem Junk.keep(J:Junk fr G locs h b)(X:Ext fr G h G1 h1 P)(hp:¬ P b){o:Obj}(e:h.get? b=some o):h1.get? b=some o:=by
 refine xE12 (X.keep b o e J.nm hp) fun sl e1 q=>?_
 refine rwE e1 (rwE (q J.nfr) rfl)
theorem Junk.live'(J:Junk fr G locs h b)(e:∃o,h'.get? b=some o):Junk fr G locs h' b:=⟨J.nf,J.nm,J.nl,J.nfr,e⟩
theorem Junk.fresh(T:Rel K w H0 fr G st locs h)(hb:h.get? b=none)(e:∃o,h'.get? b=some o):Junk fr G locs h' b:=⟨(T.sizeNot hb).1,(T.sizeNot hb).2.1,(T.sizeNot hb).2.2.1,(T.sizeNot hb).2.2.2,e⟩
inductive IterAt(prog:Program)(K:Frag)(w:World)(A:Around)(fr:List Env)(locs:List Loc)(G:Gh)(s:Shared)(ds:List PV)(it:Value)(G1:Gh)(h1:Heap):Prop
 |mk (I:Addr) (fp:List Addr) (P:Nat→Value→Prop) (St:Nat→Heap→Prop):it=.ref I→IterW prog w A I fp ds.length P St→St 0 h1→Junk fr G1 locs h1 I→s.heap.get? I=none→(∀b∈fp,b≠I→G1.fz b) →
  (∀i v d,P i v→ds[i]? = some d→Rep K w h1 G1.fz v d)→IterAt prog K w A fr locs G s ds it G1 h1
theorem seq_foot{b I x:Addr}(hb:b∈[I,x])(nb:b≠I):x=b:=by
 rcases List.mem_cons.mp hb with h | h
 ·exact absurd h nb
 ·exact (List.mem_singleton.mp h).symm
theorem seq_item{vs:List Value}{i:Nat}{v v':Value}(h:vs.toArray[i]? = some v)(e:vs[i]? = some v'):v'=v:=by
 rw [List.getElem?_toArray,e] at h;exact Option.some.inj h
theorem iter_lst{l:List PV}{vs:List Value}{ax:Addr}{n:Nat}(hh:A.handled=none)(T:Rel K w H0 fr G st locs s.heap)(f:G.fz ax)(g:s.heap.get? ax=some { cls:=.type "list",data:=.seq vs.toArray n })(rl:RepL K w s.heap G.fz vs l) :
  W K w H0 fr prog A (pyIter (.ref ax)) G st locs s (IterAt prog K w A fr locs G s l):=by
 have hn:=sizeNone s.heap
 obtain ⟨T1,X1⟩:=T.pushJ { cls:=.type "list_iterator",data:=.fields #[.ref ax,.int 0 0] }
 have gI:=Heap.get?_push_size s.heap (o:={ cls:=.type "list_iterator",data:=.fields #[.ref ax,.int 0 0] }) rfl
 have WL:=Walks.list (prog:=prog) (w:=w) hh s.heap.objs.size ax (Nat.ne_of_lt (Heap.lt_size g)) vs.toArray
 rw [show vs.toArray.size=l.length from List.size_toArray.trans rl.length] at WL
 refine wpAny_pyIter_list (isListN g) ⟨G,T1,X1,Sh.mk' s _ s.toks,s.heap.objs.size,_,_,_,rfl,⟨WL,fun i h z=>?_⟩,⟨⟨_,gI,rfl,rfl⟩,isListN (Heap.get?_push_of_some _ g)⟩,Junk.fresh T hn ⟨_,gI⟩,hn,fun b hb nb=>(seq_foot hb nb)▸f,fun i v d hv hd=>?_⟩
 ·obtain ⟨⟨o,q1,q2,_⟩,_⟩:=z;exact ⟨o,_,q1,q2,by decide⟩
 ·exact xE12 (rl.get hd) fun v' e1 e2=>(seq_item hv e1)▸Rep.mono X1.fz e2
theorem iter_tup{l:List PV}{vs:List Value}{ax:Addr}{n:Nat}(hh:A.handled=none)(T:Rel K w H0 fr G st locs s.heap)(f:G.fz ax)(g:s.heap.get? ax=some { cls:=.type "tuple",data:=.seq vs.toArray n })(rl:RepL K w s.heap G.fz vs l) :
  W K w H0 fr prog A (pyIter (.ref ax)) G st locs s (IterAt prog K w A fr locs G s l):=by
 have hn:=sizeNone s.heap
 obtain ⟨T1,X1⟩:=T.pushJ { cls:=.type "tuple_iterator",data:=.fields #[.ref ax,.int 0 0] }
 have gI:=Heap.get?_push_size s.heap (o:={ cls:=.type "tuple_iterator",data:=.fields #[.ref ax,.int 0 0] }) rfl
 have WL:=Walks.tuple (prog:=prog) (w:=w) hh s.heap.objs.size ax (Nat.ne_of_lt (Heap.lt_size g)) vs.toArray
 rw [show vs.toArray.size=l.length from List.size_toArray.trans rl.length] at WL
 refine wpAny_pyIter_tuple ⟨_,g,rfl,_,rfl⟩ ⟨G,T1,X1,Sh.mk' s _ s.toks,s.heap.objs.size,_,_,_,rfl,⟨WL,fun i h z=>?_⟩,⟨⟨_,gI,rfl,rfl⟩,⟨_,Heap.get?_push_of_some _ g,rfl,_,rfl⟩⟩,Junk.fresh T hn ⟨_,gI⟩,hn,fun b hb nb=>(seq_foot hb nb)▸f,fun i v d hv hd=>?_⟩
 ·obtain ⟨⟨o,q1,q2,_⟩,_⟩:=z;exact ⟨o,_,q1,q2,by decide⟩
 ·exact xE12 (rl.get hd) fun v' e1 e2=>(seq_item hv e1)▸Rep.mono X1.fz e2
theorem rng_small{m:Nat}(hm:m≤1000):Builtin.Range.rangeSize 0 (m:Int) 1=(m:Int)∧Builtin.Range.small 0 (m:Int) 1=true:=by
 have hsz:Builtin.Range.rangeSize 0 (m:Int) 1=(m:Int):=by rw [rangeSize_nat];simp
 refine ⟨hsz,?_⟩
 unfold Builtin.Range.small
 refine rwE hsz ?_
 have f:∀i:Int,0≤i→i≤1000→Builtin.Range.rangeFitsLong i=true:=fun i h1 h2=>by
  unfold Builtin.Range.rangeFitsLong
  rw [Bool.and_eq_true,decide_eq_true_eq,decide_eq_true_eq];omega
 have h0:0≤(m:Int):=Int.natCast_nonneg m
 have h1:(m:Int)≤1000:=Int.ofNat_le.mpr hm
 rw [f 0 (by decide) (by decide),f m h0 h1,f 1 (by decide) (by decide)]
 simp only [Bool.and_self,Bool.true_and]
 rw [if_pos (by decide),show (m:Int)+(1 - 1)=(m:Int) from Int.add_zero _,f m h0 h1,Bool.or_true]
theorem iter_rng{m:Nat}(hh:A.handled=none)(T:Rel K w H0 fr G st locs s.heap)(r:Rep K w s.heap G.fz v (.rng m)) :
  W K w H0 fr prog A (pyIter v) G st locs s (IterAt prog K w A fr locs G s ((List.range m).map fun (i:Nat)=>PV.int (i:Int))):=by
 have hn:=sizeNone s.heap
 refine xE44 (Rep.inv r) fun ax t u v' e f g hm=>?_
 refine Bc.rwE e ?_
 obtain ⟨hsz,hsm⟩:=rng_small hm
 refine wpAny_pyIter_range (a:=0) (b:=(m:Int)) (c:=1) (t:=t) (u:=u) (v:=v') g hsm ?_
 refine rwE hsz ?_
 obtain ⟨T1,X1⟩:=T.pushJ { cls:=.type "range_iterator",data:=.fields #[rawInt 0,rawInt (m:Int),rawInt 1] }
 have gI:=Heap.get?_push_size s.heap (o:={ cls:=.type "range_iterator",data:=.fields #[rawInt 0,rawInt (m:Int),rawInt 1] }) rfl
 have WL:=Walks.range (prog:=prog) (w:=w) hh s.heap.objs.size 0 1 m
 refine ⟨G,T1,X1,Sh.mk' s _ s.toks,s.heap.objs.size,_,_,_,rfl,⟨by rw [List.length_map,List.length_range];exact WL,fun i h z=>⟨_,_,z,rfl,by decide⟩⟩,?_,Junk.fresh T hn ⟨_,gI⟩,hn,fun b hb nb=>?_,fun i v d hv hd=>?_⟩
 ·simpa using gI
 ·simp at hb;exact absurd hb nb
 ·refine xE11 hv fun t' e_1=>?_;refine Bc.rwE e_1 ?_
  rw [List.getElem?_map] at hd
  have hi:i < m:=by
   cases q:(List.range m)[i]? with
   |none=>rw [q] at hd;exact cz0 hd
   |some j=>have:=(List.getElem?_eq_some_iff.mp q).1;rwa [List.length_range] at this
  rw [List.getElem?_range hi] at hd
  have hd:=Option.some.inj hd
  refine Bc.rwB hd ?_
  rw [Int.mul_one,Int.zero_add]
  exact .int _ _
theorem iter_ok{ds:List PV}(hh:A.handled=none)(e:items a=some ds)(T:Rel K w H0 fr G st locs s.heap)(r:Rep K w s.heap G.fz v a) :
  W K w H0 fr prog A (pyIter v) G st locs s (IterAt prog K w A fr locs G s ds) :=
 ooE e (fun e=>rLst e r fun l ax vs n f g rl e=>gdE e fun _=>iter_lst hh T f g rl) fun e=>ooE e (fun e=>rTup e r fun l ax vs n f g rl e=>gdE e fun _=>iter_tup hh T f g rl) fun e=>obE e fun m hm e=>cz5 e (by
  have hm:=asRngE hm
  subst hm
  exact iter_rng hh T r)
end
end Bc
namespace Bc
section
variable{K:Frag}{w:World}{H0 h0:Heap}{fns:List DefRec}{mg mb:Str→Option Value}{fr outer:List Env}{prog:Program}{A:Around}{G G0 G1 G':Gh}{st st' st1 st2 st3:Bc.St}{locs locs':List Loc}{s s1 s':Shared}{env:Env}{h h' h1 h2:Heap}{P P':Addr→Prop}{n:Nat}{R:Rc}{cx:Cx}
 {φ:Gh→Heap→Prop} {b:Addr} {v:Value} {d:PV} {a:AV} {x:Str}
noncomputable def WP(P:Addr→Prop)(K:Frag)(w:World)(H0:Heap)(fr:List Env)(prog:Program){α:Type}(A:Around)(t:Sem α)(G:Gh)(st':Bc.St)(locs:List Loc)(s:Shared)(φ:α→Gh→Heap→Prop):Prop :=
 wpAny (model prog w) A t (fun v s'=>OutP K w H0 fr P G s st' locs (φ v) s') (fun _ _=>False) s
noncomputable def At(locs:List Loc)(env:Env)(xs:List Str)(a:Addr):Prop:=∃x∈xs,∃l∈locs,locOf env x=some l∧l.addr=a
theorem At.own{xs:List Str}{a:Addr}(h:At locs env xs a):Own locs a:=let ⟨_,_,l,hl,_,e⟩:=h;⟨l,hl,e⟩
theorem WP.then{α:Type}{t:Sem α}{φ:α→Gh→Heap→Prop}{Q:α→Shared→Prop}{E:Value→Shared→Prop}(h:WP P K w H0 fr prog A t G st1 locs s φ)
  (k:∀v G1 s1,Rel K w H0 fr G1 st1 locs s1.heap→Ext fr G s.heap G1 s1.heap P→Sh s s1→φ v G1 s1.heap→Q v s1):wpAny (model prog w) A t Q E s :=
 wpAny_mono h (fun v s1 ⟨G1,R1,X1,S1,p⟩=>k v G1 s1 R1 X1 S1 p) fun _ _ f=>f.elim
set_option tactic.hygienic true in
theorem store_ok(E:EnvOk cx env st.vars locs)(hk:isLocalK (cx.names.lookup x)=true)(hn:cx.names.lookup x≠some .free)(hv:hasV x st.vars=true)(T:Rel K w H0 fr G st locs s.heap)(r:RepA K w G s.heap v a) :
  WP (At locs env [x]) K w H0 fr prog A (storeName env x v) G ⟨setV x a st.vars,st.cells⟩ locs s fun _ _ _=>True:=by
 refine xE22 (hasV_fix hv) fun i b f hi=>?_
 refine xE12 (E.at_ x i hk f) fun l hl ho=>?_
 have S:=T.slot i _ l hi hl
 have at_:∀c,l.addr=c→At locs env [x] c:=fun c e=>⟨x,by simp,l,List.mem_of_getElem? hl,ho,e⟩
 have kd:env.kindOf x=cx.names.lookup x:=by unfold Env.kindOf;refine rwE E.names rfl
 refine rwE (setV_fix f) ?_
 unfold locOf at ho
 rw [E.names] at ho
 cases hq:cx.names.lookup x with
 |none=>rw [hq] at hk;cases hk
 |some k =>
  rw [hq] at ho kd hn
  cases k with
  | «local» =>
   dsimp only at ho
   cases (ho)
   obtain ⟨_,m,n,_⟩:=S
   refine wpAny_storeName_local kd n (fun h' hn' hs'=>?_) (by refine rwE E.kind ?_;rfl)
   have gr:Grow G s.heap G h':=⟨fun c f=>⟨f,by refine rwE (hs'.2 c fun z=>(T.own _ (List.mem_of_getElem? hl)).1 (z▸f)) rfl⟩,[],by simp⟩
   obtain ⟨T1,X1⟩:=T.store (h':=h') (oa:=some a) hi hl (fun c o e ne=>(hs'.2 c ne).trans e) ⟨m,some v,n,hn',fun a' ha=>by cases ha;exact ⟨v,rfl,RepA.mono gr r⟩⟩
   exact ⟨G,T1,X1.weaken fun c _ _ e=>at_ c e,Sh.mk' s h' _,trivial⟩
  |cell =>
   dsimp only at ho
   split at ho
   ·rename_i c hc
    cases (ho)
    refine xE12 S fun o n _=>?_
    refine wpAny_storeName_cell E.kind kd hc n fun h' hn' hs'=>?_
    have gr:Grow G s.heap G h':=⟨fun c f=>⟨f,by refine rwE (hs'.2 c fun z=>(T.own _ (List.mem_of_getElem? hl)).1 (z▸f)) rfl⟩,[],by simp⟩
    obtain ⟨T1,X1⟩:=T.store (h':=h') (oa:=some a) hi hl (fun c o e ne=>(hs'.2 c ne).trans e) ⟨_,hn',fun a' ha=>by cases ha;exact ⟨v,rfl,RepA.mono gr r⟩⟩
    exact ⟨G,T1,X1.weaken fun c _ _ e=>at_ c e,Sh.mk' s h' s.toks,trivial⟩
   ·cases ho
  |free=>exact absurd rfl hn
  |globalExplicit=>rw [hq] at hk;cases hk
  |globalImplicit=>rw [hq] at hk;cases hk
theorem kind_ne{o:Option NameKind}(h:(o != some NameKind.free)=true):o≠some .free:=by intro z;subst z;cases h
theorem setVL_ok{names:List (Str × NameKind)}(q:setVL names x d st=some st')(hnm:names=cx.names)(E:EnvOk cx env st.vars locs)(T:Rel K w H0 fr G st locs s.heap)(r:Rep K w s.heap G.fz v d) :
  vnm st'.vars=vnm st.vars∧WP (At locs env [x]) K w H0 fr prog A (storeName env x v) G st' locs s fun _ _ _=>True:=by
 subst hnm
 refine gdE q fun hc=>?_
 simp only [Bool.and_eq_true] at hc
 exact ⟨names_setV _,store_ok (a:=.pv d) E hc.1.1.1 (kind_ne hc.1.1.2) hc.1.2 T r⟩
theorem setVL_names{names:List (Str × NameKind)}(q:setVL names x d st=some st'):vnm st'.vars=vnm st.vars:=gdE (P:=fun st'=>vnm st'.vars=vnm st.vars) q fun _=>names_setV _
theorem bindTs_cons{names:List (Str × NameKind)}{t:Expr}{ts:List Expr}{ds:List PV}{C:Prop}(q:bindTs names (t::ts) ds st=some st')
  (k:∀x p d ds' st1,t=.Name x p→ds=d::ds'→setVL names x d st=some st1→bindTs names ts ds' st1=some st'→C):C :=
 obE q fun x hx q=>obE q fun p hp q=>obE q fun st1 h3 q=>(nameE_some hx).elim fun p' e=>k x p' p.1 p.2 st1 e (uncE hp) h3 q
theorem bindTs_names{names:List (Str × NameKind)}{ts:List Expr}{ds:List PV}{st st':Bc.St}(q:bindTs names ts ds st=some st'):vnm st'.vars=vnm st.vars:=by
 induction ts generalizing ds st with
 |nil=>exact gdE (P:=fun st'=>vnm st'.vars=vnm st.vars) q fun _=>rfl
 |cons t ts ih=>exact bindTs_cons q fun _ _ _ _ _ _ _ h3 q=>(ih q).trans (setVL_names h3)
theorem assignEach_names{names:List (Str × NameKind)}(env:Env){ts:List Expr}{ds:List PV}{st st':Bc.St}(q:bindTs names ts ds st=some st'):(assignEach ts env).length=ds.length∧(assignEach ts env).findIdx? (·.1)=none:=by
 induction ts generalizing ds st with
 |nil=>exact bifT q fun he _=>rwE (List.isEmpty_iff.mp he) ⟨rfl,rfl⟩
 |cons t ts ih =>
  refine bindTs_cons q fun x p d ds' st1 e1 e2 h3 q2=>rwE e1 (rwE e2 ?_)
  have h:=ih q2
  refine ⟨congrArg (·+1) h.1,?_⟩
  show List.findIdx? (·.1) ((false,_)::assignEach ts env)=none
  exact rwE List.findIdx?_cons (rwE h.2 rfl)
theorem At.mono{xs ys:List Str}{a:Addr}(h:At locs env xs a)(k:∀x∈xs,x∈ys):At locs env ys a:=let ⟨x,hx,r⟩:=h;⟨x,k x hx,r⟩
theorem order_ok{names:List (Str × NameKind)}(hnm:names=cx.names){ts:List Expr}{ds:List PV}{vs:List Value}{st st':Bc.St}{G:Gh}{s:Shared}(q:bindTs names ts ds st=some st')(E:EnvOk cx env st.vars locs)(T:Rel K w H0 fr G st locs s.heap)(r:RepL K w s.heap G.fz vs ds) :
  WP (At locs env (tnames ts)) K w H0 fr prog A (assignInOrder ((assignEach ts env).map (·.2)) vs) G st' locs s fun _ _ _=>True:=by
 induction ts generalizing ds vs st G s with
 |nil =>
  refine gdE (P:=fun st'=>WP (At locs env (tnames [])) K w H0 fr prog A (assignInOrder ((assignEach [] env).map (·.2)) vs) G st' locs s fun _ _ _=>True) q fun he=>?_
  exact rwE (rep_nil (List.isEmpty_iff.mp he▸r)) (wpAny_pure ⟨G,T,Ext.refl ..,Sh.refl _,trivial⟩)
 |cons t ts ih =>
  refine bindTs_cons q fun x p d ds' st1 e1 e2 h3 q2=>?_
  refine xE23 (rep_cons (show RepL K w s.heap G.fz vs (d::ds') from e2▸r)) fun v vs' e r1 r2=>?_
  refine rwE e1 ?_;refine rwE e ?_
  obtain ⟨v1,w1⟩:=setVL_ok (prog:=prog) (A:=A) h3 hnm E T r1
  show wpAny _ _ (holding _ (assign _ env _) >>= fun _=>assignInOrder _ _) _ _ _
  refine wpAny_bind (wpAny_holding (wpAny_assign_Name (WP.then w1 fun _ G1 s1 T1 X1 S1 _=>?_)))
  refine wpAny_mono (ih q2 (E.of_names v1) T1 (RepL.mono X1.fz r2)) (fun _ _ o=>OutP.el o fun G2 T2 X2 S2 _=>?_) fun _ _ f=>f
  exact ⟨G2,T2,(X1.weaken fun c _ _ h=>At.mono h (fun y hy=>List.mem_singleton.mp hy▸List.mem_cons_self ..)).trans (X2.weaken fun c _ _ h=>At.mono h (fun y hy=>List.mem_cons_of_mem _ hy)),S1.trans S2,trivial⟩
theorem draw_ok{I:Addr}{fp:List Addr}{PP:Nat→Value→Prop}{St:Nat→Heap→Prop}{N:Nat}(W:Walks prog w A I fp [I] N PP St)(k i:Nat)(s:Shared)(Q:List Value→Shared→Prop)(E:Value→Shared→Prop)(hle:i+k≤N)(hst:St i s.heap)
  (hQ:∀vs h' tk,vs.length=k→(∀j v,vs[j]? = some v→PP (i+j) v)→St (i+k) h'→(∀b o,b≠I→s.heap.get? b=some o→h'.get? b=some o)→Q vs { s with heap:=h',toks:=tk }):wpAny (model prog w) A (draw (.ref I) k) Q E s:=by
 induction k generalizing i s Q E with
 |zero=>exact wpAny_pure (hQ [] s.heap s.toks rfl (fun j v e=>cz0 e) hst fun _ _ _ e=>e)
 |succ k ih =>
  show wpAny _ _ (pyNext (.ref I) >>= _) Q E s
  have hz:∀j,i+1+j=i+(j+1):=fun j=>Nat.succ_add_eq_add_succ i j
  refine wpAny_bind (W.item i s _ _ (Nat.lt_of_add_right_lt hle) hst fun v h1 tk1 hP hst1 hk1=>?_)
  refine wpAny_bind (wpAny_holding (ih (i+1) _ _ _ (rwE (hz k) hle) hst1 fun vs h2 tk2 hl hvs hst2 hk2=>wpAny_pure ?_))
  refine hQ (v::vs) h2 tk2 (congrArg (·+1) hl) (fun j u e=>?_) (rwB (hz k) hst2) fun b o hb e=>hk2 b o hb (hk1 b o (fun m=>hb (List.mem_singleton.mp m)) e)
  cases j with
  |zero=>exact Option.some.inj e▸hP
  |succ j=>exact rwB (hz j) (hvs j u e)
theorem repL_of:∀{ds:List PV} {vs:List Value},vs.length=ds.length→(∀(i:Nat) v d,vs[i]? = some v→ds[i]? = some d→Rep K w h G.fz v d)→RepL K w h G.fz vs ds:=by
 intro ds
 induction ds with
 |nil=>intro vs e _;refine rwE (List.length_eq_zero_iff.mp e) ?_;exact .nil
 |cons d ds ih =>
  intro vs e f
  cases vs with
  |nil=>exact nomatch e
  |cons v vs=>exact .cons (f 0 v d rfl rfl) (ih (Nat.succ.inj e) fun i v d h1 h2=>f (i+1) v d h1 h2)
theorem it_notAll{ds:List PV}(e:items d=some ds)(r:Rep K w s.heap G.fz v d)(hr:asRng d=none):wpAny (model prog w) A (notIterableAtAll v) (fun b s'=>b=false∧s'=s) (fun _ _=>False) s:=by
 refine ooE e (fun e=>?_) fun e=>ooE e (fun e=>?_) fun e=>obE e fun n hn _=>cz0 (hr.symm.trans hn)
 ·refine rLst e r fun l ax vs n f g rl _=>?_
  unfold notIterableAtAll
  exact wpAny_bind (wpAny_specialOf (isListN g).typeIs slot_list_iter.lookup (wpAny_pure ⟨rfl,rfl⟩))
 ·refine rTup e r fun l ax vs n f g rl _=>?_
  unfold notIterableAtAll
  exact wpAny_bind (wpAny_specialOf (T:="tuple") ⟨_,g,rfl⟩ F.slot_tuple_iter.lookup (wpAny_pure ⟨rfl,rfl⟩))
theorem unpack_ok{ds:List PV}(hh:A.handled=none)(e:items d=some ds)(hr:asRng d=none)(T:Rel K w H0 fr G st locs s.heap)(r:Rep K w s.heap G.fz v d) :
  W K w H0 fr prog A (unpackItems v ds.length none) G st locs s fun vs G' h'=>RepL K w h' G'.fz vs ds:=by
 unfold unpackItems
 refine wpAny_bind (wpAny_mono (it_notAll e r hr) (fun b s' ⟨e1,e2⟩=>?_) fun _ _ f=>f)
 refine Bc.rwE e1 ?_;refine Bc.rwE e2 ?_
 simp only [Bool.false_eq_true,if_false]
 refine wpAny_bind (wpAny_holding (W.then (iter_ok hh e T r) fun it G1 s1 T1 X1 S1 z=>?_))
 obtain ⟨I,fp,PP,St,rfl,IW,hst,J,hn,hfp,hval⟩:=z
 refine wpAny_bind (wpAny_holding (draw_ok IW.W ds.length 0 s1 _ _ (by omega) hst fun vs h2 tk2 hl hvs hst2 hk2=>?_))
 refine rwE (if_neg (by omega)) ?_
 refine wpAny_bind (wpAny_holding (IW.W.done { s1 with heap:=h2,toks:=tk2 } _ _ (by simpa using hst2) fun h3 tk3 hk3=>?_))
 simp only [Option.isSome_none,Bool.false_eq_true,if_false]
 have hk:∀c o,s1.heap.get? c=some o→c≠I→h3.get? c=some o:=fun c o e ne=>hk3 c o (by simp [ne]) (hk2 c o ne e)
 have T3:=T1.junk J hk
 have X3:=X1.junk T1 J.nf hn hk
 refine wpAny_pure ⟨G1,T3,X3,S1.trans (Sh.mk' s1 h3 tk3),repL_of hl fun i v d h1 h2=>?_⟩
 have h1':=hvs i v h1
 rw [Nat.zero_add] at h1'
 exact Rep.mono (fun c f=>⟨f,by obtain ⟨o,q⟩:=T1.dom c f;refine rwE q ?_;exact hk c o q fun z=>J.nf (z▸f)⟩) (hval i v d h1' h2)
theorem bindT_names{names:List (Str × NameKind)}{t:Expr}(q:bindT names t d st=some st'):vnm st'.vars=vnm st.vars:=by
 unfold bindT at q
 cases hn:nameE t with
 |some x=>rw [hn] at q;exact setVL_names q
 |none=>rw [hn] at q;exact obE q fun _ _ q=>bifF q fun _ q=>obE q fun _ _ q=>bindTs_names q
theorem bindT_ok{t:Expr}(hh:A.handled=none)(q:bindT cx.names t d st=some st')(E:EnvOk cx env st.vars locs)(T:Rel K w H0 fr G st locs s.heap)(r:Rep K w s.heap G.fz v d) :
  WP (At locs env (tname t)) K w H0 fr prog A (assign t env v) G st' locs s fun _ _ _=>True:=by
 unfold bindT at q
 cases hn:nameE t with
 |some x =>
  rw [hn] at q
  refine xE11 (nameE_some hn) fun p e=>?_
  refine Bc.rwE e ?_
  exact wpAny_assign_Name (setVL_ok q rfl E T r).2
 |none =>
  rw [hn] at q
  refine obE q fun ts ht q1=>bifF q1 fun hr q2=>obE q2 fun l hi q3=>?_
  refine rwE (show tname t=tnames ts from by unfold tname;rw [hn,ht]) ?_
  refine xE21 (tupE_some ht) fun k p e=>?_
  refine Bc.rwE e ?_
  obtain ⟨a1,a2⟩:=assignEach_names env q3
  rw [PyProof.Rows.assign_Tuple]
  refine wpAny_bind (wpAny_standAt ?_)
  unfold unpack
  refine rwE a1 (rwE a2 ?_)
  refine wpAny_bind (wpAny_holding (W.then (unpack_ok hh hi (Option.not_isSome_iff_eq_none.mp (by refine rwE hr ?_;exact Bool.false_ne_true)) T r) fun vs G1 s1 T1 X1 S1 rl=>?_))
  exact wpAny_mono (order_ok rfl q3 E T1 rl) (fun _ _ o=>OutP.comp X1.none S1 o) fun _ _ f=>f
end
end Bc
namespace Bc
section
variable{K:Frag}{w:World}{H0 h0:Heap}{fns:List DefRec}{mg mb:Str→Option Value}{fr outer:List Env}{prog:Program}{A:Around}{G G0 G1 G2 G':Gh}{st st' st1 st2 st3:Bc.St}{locs locs':List Loc}{s s1 s2 s':Shared}{env:Env}{h h' h1 h2:Heap}{P P':Addr→Prop}{n:Nat}{R:Rc}{cx:Cx}
 {φ:Gh→Heap→Prop} {b:Addr} {v:Value} {d:PV} {a:AV} {x:Str} {M:Model} {E:Value→Shared→Prop}
theorem notSet{e:Expr}(h:isSetE e=false)(env:Env)(x:Value):foldedSetIterable e env x=pure x:=by
 cases e<;>first | exact rfl | exact cz3 h
theorem owned_ok{t:Expr}{I:Addr}{v:Value}{Q:Unit→Shared→Prop}(tg:∃o T,s.heap.get? I=some o∧o.cls=.type T∧ownedIt T=false)(h:Q () s):wpAny M A (letOwnedTupleGo t (.ref I) v) Q E s:=by
 obtain ⟨o,T,e,hc,hT⟩:=tg
 have key:∀a,wpAny M A (do
   let o ← load I
   match o.cls,o.data with
   | .type n,.fields vs =>
    if ["enumerate","zip","dict_itemiterator","dict_reverseitemiterator","odict_iterator","itertools.zip_longest","itertools.pairwise"].contains n&&vs[0]?==some (rawInt a) then
     rule "for.unpacks-the-owned-tuple"
     updateField I 0 .none
   |_,_=>pure ()) Q E s:=by
  intro a
  refine wpAny_bind (wpAny_load e ?_)
  rw [hc]
  cases o.data with
  |fields vs =>
   dsimp only
   unfold ownedIt at hT
   rw [hT,Bool.false_and]
   exact wpAny_pure h
  |_=>exact wpAny_pure h
 cases t<;>first | exact wpAny_pure h | skip
 ·cases v<;>first | exact wpAny_pure h | exact key _
 ·cases v<;>first | exact wpAny_pure h | exact key _
structure Lp(K:Frag)(w:World)(H0:Heap)(fr:List Env)(locs:List Loc)(G:Gh)(s:Shared)(ds:List PV)(I:Addr)(fp:List Addr)(PP:Nat→Value→Prop)(St:Nat→Heap→Prop)(P:Addr→Prop)(i:Nat)(G1:Gh)(st1:Bc.St)(s1:Shared):Prop where
 T:Rel K w H0 fr G1 st1 locs s1.heap
 X:Ext fr G s.heap G1 s1.heap P
 S:Sh s s1
 st:St i s1.heap
 J:Junk fr G1 locs s1.heap I
 hn:s.heap.get? I=none
 hfp:∀b∈fp,b≠I→G1.fz b
 val:∀i v d,PP i v→ds[i]? = some d→Rep K w s1.heap G1.fz v d
section
variable{ds:List PV}{I:Addr}{fp:List Addr}{PP:Nat→Value→Prop}{St:Nat→Heap→Prop}{i:Nat}
theorem Lp.next(L:Lp K w H0 fr locs G s ds I fp PP St P i G1 st1 s1)(W:Walks prog w A I fp [I] ds.length PP St)(T2:Rel K w H0 fr G2 st2 locs s2.heap)(X2:Ext fr G1 s1.heap G2 s2.heap P)(hP:¬ P I)(S2:Sh s1 s2) :
  Lp K w H0 fr locs G s ds I fp PP St P i G2 st2 s2:=by
 refine ⟨T2,L.X.trans X2,L.S.trans S2,W.frame i _ _ L.st fun b hb o e=>?_,L.J.ext X2,L.hn,fun b hb ne=>(X2.fz b (L.hfp b hb ne)).1,fun i v d h1 h2=>Rep.mono X2.fz (L.val i v d h1 h2)⟩
 by_cases z:b=I
 ·subst z;exact L.J.keep X2 hP e
 ·refine rwE ((X2.fz b (L.hfp b hb z)).2) ?_;exact e
theorem Lp.item(L:Lp K w H0 fr locs G s ds I fp PP St P i G1 st1 s1)(IW:IterW prog w A I fp ds.length PP St){d:PV}(hd:ds[i]? = some d){Q:Option Value→Shared→Prop}
  (k:∀v s2,Lp K w H0 fr locs G s ds I fp PP St P (i+1) G1 st1 s2→Rep K w s2.heap G1.fz v d→(∀c o,s1.heap.get? c=some o→c≠I→s2.heap.get? c=some o)→Q (some v) s2):wpAny (model prog w) A (pyNext (.ref I)) Q E s1:=by
 refine IW.W.item i s1 Q E (List.getElem?_eq_some_iff.mp hd).1 L.st fun v h' tk hP hst hk=>?_
 have hk':∀c o,s1.heap.get? c=some o→c≠I→h'.get? c=some o:=fun c o e ne=>hk c o (by simp [ne]) e
 have same:∀c,G1.fz c→G1.fz c∧h'.get? c=s1.heap.get? c:=fun c f=>⟨f,by obtain ⟨o,q⟩:=L.T.dom c f;refine rwE q ?_;exact hk' c o q fun z=>L.J.nf (z▸f)⟩
 have T2:=L.T.junk L.J hk'
 refine k v { s1 with heap:=h',toks:=tk } ⟨T2,L.X.junk L.T L.J.nf L.hn hk',L.S.trans (Sh.mk' _ _ _),hst,L.J.live' ?_,L.hn,L.hfp,fun i v d h1 h2=>Rep.mono same (L.val i v d h1 h2)⟩ (Rep.mono same (L.val i v d hP hd)) hk'
 obtain ⟨o,_,q,_⟩:=IW.tg _ _ hst
 exact ⟨o,q⟩
theorem Lp.done(L:Lp K w H0 fr locs G s ds I fp PP St P ds.length G1 st1 s1)(IW:IterW prog w A I fp ds.length PP St){Q:Option Value→Shared→Prop}
  (k:∀s2,Rel K w H0 fr G1 st1 locs s2.heap→Ext fr G s.heap G1 s2.heap P→Sh s s2→(∀c o,s1.heap.get? c=some o→c≠I→s2.heap.get? c=some o)→Q none s2):wpAny (model prog w) A (pyNext (.ref I)) Q E s1:=by
 refine IW.W.done s1 Q E L.st fun h' tk hk=>?_
 have hk':∀c o,s1.heap.get? c=some o→c≠I→h'.get? c=some o:=fun c o e ne=>hk c o (by simp [ne]) e
 exact k { s1 with heap:=h',toks:=tk } (L.T.junk L.J hk') (L.X.junk L.T L.J.nf L.hn hk') (L.S.trans (Sh.mk' _ _ _)) hk'
theorem Lp.start{C:Prop}(z:IterAt prog K w A fr locs G s ds v G1 s1.heap)(T:Rel K w H0 fr G1 st1 locs s1.heap)(X:Ext fr G s.heap G1 s1.heap P)(S:Sh s s1) :
  (∀I fp PP St,v=.ref I→IterW prog w A I fp ds.length PP St→Lp K w H0 fr locs G s ds I fp PP St P 0 G1 st1 s1→C)→C:=let ⟨I,fp,PP,St,e,IW,hst,J,hn,hfp,hval⟩:=z;fun k=>k I fp PP St e IW ⟨T,X,S,hst,J,hn,hfp,hval⟩
end
theorem own_not{I:Addr}(J:Junk fr G locs h I):¬ Own locs I:=fun ⟨l,hl,e⟩=>J.nl l hl e
theorem loopK_inv{f1 f:Fl}{st5:Bc.St}{k:Bc.St→Option (Fl × Bc.St)}{C:Prop}(q:loopK (f1,st5) k=some (f,st'))(k1:(f1=.next∨f1=.cont)→k st5=some (f,st')→C)(k2:f1=.brk→f=.next→st'=st5→C)
  (k3:∀d,f1=.ret d→f=.ret d→st'=st5→C) (k4:∀d,f1=.exc d→f=.exc d→st'=st5→C):C:=by
 have inj:∀{g:Fl},some (g,st5)=some (f,st')→f=g∧st'=st5:=fun e=>let e:=Option.some.inj e;⟨(congrArg Prod.fst e).symm,(congrArg Prod.snd e).symm⟩
 cases f1 with
 |next=>exact k1 (.inl rfl) q
 |cont=>exact k1 (.inr rfl) q
 |brk=>exact k2 rfl (inj q).1 (inj q).2
 |ret d=>exact k3 d rfl (inj q).1 (inj q).2
 |exc d=>exact k4 d rfl (inj q).1 (inj q).2
theorem loop_names(I:SndX prog K w H0 n R){t:Expr}{body:List Stmt}{ds:List PV}{st:Bc.St}{f:Fl}{st':Bc.St}(q:loop R cx t body ds st=some (f,st')):vnm st'.vars=vnm st.vars:=by
 induction ds generalizing st with
 |nil=>exact cz4 (P:=fun _ st'=>vnm st'.vars=vnm st.vars) q rfl
 |cons d r ih =>
  refine obE q fun _ h1 q=>obE2 q fun _ _ h2 q=>?_
  have v:=(exs_ok I h2).a.trans (bindT_names h1)
  exact loopK_inv q (fun _ q=>(ih q).trans v) (fun _ _ e=>e▸v) (fun _ _ _ e=>e▸v) (fun _ _ _ e=>e▸v)
theorem noted_ok{RR:Value→Shared→Prop}{d:PV}{e:Value}(hf:A.frames=some (env::outer))(T:Rel K w H0 (env::outer) G st locs s.heap)(X:Ext (env::outer) G0 h0 G s.heap P)(F:Exc K h0 false d e G s.heap)
  (k:∀h',Turn (env::outer) G h0 s.heap h'→Exc K h0 true d e G h'→RR e { s with heap:=h' }):notedBy M A env RR e s:=by
 obtain ⟨ea,rfl,F⟩:=F
 exact note_ok hf T X F fun h' U F'=>k h' U ⟨ea,rfl,F'⟩
noncomputable def LoopEnd(prog:Program)(K:Frag)(w:World)(H0:Heap)(A:Around)(outer:List Env)(env:Env)(locs:List Loc)(G:Gh)(s:Shared)(f:Fl)(st':Bc.St)(r:Result)(s':Shared):Prop :=
 match r with
 | .ok fl=>StOk K w H0 (env::outer) G s st' locs f fl s'
 | .error e=>cameBackBy (model prog w) A env (StExc K w H0 (env::outer) G s st' locs f) e s'
theorem exc_end{f:Fl}{e:Value}(hf:A.frames=some (env::outer))(x:StExc K w H0 (env::outer) G s st' locs f e s1) :
  notedBy (model prog w) A env (fun e s'=>LoopEnd prog K w H0 A outer env locs G s f st' (.error e) s') e s1:=by
 obtain ⟨d,rfl,G2,T2,X2,S2,F⟩:=x
 refine noted_ok hf T2 X2 F fun h3 U3 F3=>?_
 obtain ⟨ea,rfl,F3⟩:=F3
 have T3:=T2.turn U3
 refine came_ok (s:={ s1 with heap:=h3 }) T3 F3 fun h4 U4 F4=>?_
 exact ⟨d,rfl,G2,T3.turn U4,(X2.turn T2 U3).turn T3 U4,(S2.trans (Sh.mk' s1 h3 s1.toks)).trans (Sh.mk' _ h4 s1.toks),ea,rfl,F4.le⟩
theorem turn_end(I:SndX prog K w H0 n R){body:List Stmt}{f1 f:Fl}{st5:Bc.St}{kk:Bc.St→Option (Fl × Bc.St)}{Q:Flow→Shared→Prop}(h5:exs R cx body st3=some (f1,st5))(hq:loopK (f1,st5) kk=some (f,st'))(H:Here K w H0 n cx st3 A (env::outer) env G1 locs s1)
  (X:Ext (env::outer) G s.heap G1 s1.heap (Own locs)) (S:Sh s s1)
  (kn:∀fl,(fl=.next∨fl=.cont)→∀G5 s5,kk st5=some (f,st')→Rel K w H0 (env::outer) G5 st5 locs s5.heap→Ext (env::outer) G1 s1.heap G5 s5.heap (Own locs)→Sh s1 s5→Q fl s5)
  (kb:∀s5,LoopEnd prog K w H0 A outer env locs G s f st' (.ok .next) s5→Q .brk s5) (kr:∀v s5,LoopEnd prog K w H0 A outer env locs G s f st' (.ok (.ret v)) s5→Q (.ret v) s5) :
  wpAny (model prog w) A (execs body env) Q (notedBy (model prog w) A env fun e s'=>LoopEnd prog K w H0 A outer env locs G s f st' (.error e) s') s1:=by
 refine wpAny_mono ((exs_ok I h5).b H) (fun fl s5 z=>?_) fun e s5 z=>?_
 ·refine OutP.el z fun G5 T5 X5 S5 zz=>?_
  refine loopK_inv hq (fun hf q=>?_) (fun e1 e2 e3=>?_) (fun d e1 e2 e3=>?_) (fun d e1 e2 e3=>?_)
  ·refine kn fl ?_ G5 s5 q T5 X5 S5
   rcases hf with e | e<;>subst e<;>cases fl<;>first | exact .inl rfl | exact .inr rfl | exact zz.elim
  ·subst e1 e2 e3
   cases fl<;>first | exact zz.elim | skip
   exact kb _ ⟨G5,T5,X.trans X5,S.trans S5,trivial⟩
  ·subst e1 e2 e3
   cases fl<;>first | exact zz.elim | skip
   exact kr _ _ ⟨G5,T5,X.trans X5,S.trans S5,zz⟩
  ·subst e1
   cases fl<;>exact zz.elim
 ·refine loopK_inv hq (fun hf q=>?_) (fun e1 e2 e3=>?_) (fun d e1 e2 e3=>?_) (fun d e1 e2 e3=>?_)
  ·exact z.el fun d q=>by rcases hf with e | e<;>subst e<;>exact fun _=>nomatch q
  ·exact z.el fun d q=>fun _=>nomatch e1.symm.trans q
  ·exact z.el fun d q=>fun _=>nomatch e1.symm.trans q
  ·subst e1 e2;refine Bc.rwE e3 ?_
   exact exc_end H.hf (z.comp X S)
theorem drop_at{α:Type}{l:List α}{i:Nat}(h:i < l.length):l.drop i=l[i]::l.drop (i+1):=List.drop_eq_getElem_cons h
theorem for_ok(I:SndX prog K w H0 n R){t:Expr}{body:List Stmt}{ds:List PV}{f:Fl}{v:Value}(q:loop R cx t body ds st=some (f,st'))(hh:A.handled=none)(H:Here K w H0 n cx st A (env::outer) env G locs s)
  (z:IterAt prog K w A (env::outer) locs G s ds v G1 s1.heap) (T:Rel K w H0 (env::outer) G1 st locs s1.heap) (X:Ext (env::outer) G s.heap G1 s1.heap (Own locs)) (S:Sh s s1) :
  codeAny (model prog w) A (.forLoop t v body [] env) (LoopEnd prog K w H0 A outer env locs G s f st') s1:=by
 refine Lp.start z T X S fun II fp PP St e_4 IW L0=>?_;refine Bc.rwE e_4 ?_
 refine codeAny_forLoop_any (fun m s2=>∃i G2 st2,i+m=ds.length∧vnm st2.vars=vnm st.vars∧loop R cx t body (ds.drop i) st2=some (f,st')∧Lp K w H0 (env::outer) locs G s ds II fp PP St (Own locs) i G2 st2 s2) ?_ ds.length ⟨0,G1,st,Nat.zero_add _,rfl,q,L0⟩
 rintro m s2 ⟨i,G2,st2,him,hv,hq,L⟩
 cases m with
 |succ m =>
  have hi:i < ds.length:=by omega
  refine L.item IW (List.getElem?_eq_getElem hi) fun v s3 L3 r3 _=>?_
  refine owned_ok (IW.tg _ _ L3.st) ?_
  rw [drop_at hi] at hq
  refine obE hq fun st3 h3 hq=>obE2 hq fun f1 st5 h5 hq=>?_
  have v3:=(bindT_names h3).trans hv
  refine WP.then (bindT_ok hh h3 (H.E.of_names hv) L3.T r3) fun _ G4 s4 T4 X4 S4 _=>?_
  have L4:=L3.next IW.W T4 (X4.weaken (Q:=Own locs) fun c _ _ h=>At.own h) (own_not L3.J) S4
  refine turn_end I h5 hq ⟨H.rm,H.hh,H.hf,H.E.of_names v3,T4⟩ L4.X L4.S (fun fl hf G5 s5 hq T5 X5 S5=>?_) (fun _ z=>z) fun _ _ z=>z
  have nx:∃m',m' < m+1∧∃i G2 st2,i+m'=ds.length∧vnm st2.vars=vnm st.vars∧loop R cx t body (ds.drop i) st2=some (f,st')∧Lp K w H0 (env::outer) locs G s ds II fp PP St (Own locs) i G2 st2 s5 :=
   ⟨m,Nat.lt_succ_self m,i+1,G5,st5,by omega,(exs_ok I h5).a.trans v3,hq,L4.next IW.W T5 X5 (own_not L4.J) S5⟩
  rcases hf with e | e<;>subst e<;>exact nx
 |zero =>
  have hlen:i=ds.length:=him
  subst hlen
  rw [List.drop_length] at hq
  refine L.done IW fun s3 T3 X3 S3 _=>wpAny_execs_nil ?_
  exact cz4 hq ⟨G2,T3,X3,S3,trivial⟩
theorem whl_names(I:SndE prog K w H0 fns n R)(J:SndX prog K w H0 n R){t:Expr}{body:List Stmt}{k:Nat}{st:Bc.St}{f:Fl}{st':Bc.St}(q:whl R cx t body k st=some (f,st')):vnm st'.vars=vnm st.vars:=by
 induction k generalizing st with
 |zero=>exact cz0 q
 |succ k ih =>
  refine obE2 q fun b st1 h1 q=>?_
  have v1:=evT_names I h1
  cases b with
  |false=>exact cz4 (P:=fun _ st'=>vnm st'.vars=vnm st.vars) q v1
  |true =>
   refine obE2 q fun _ _ h2 q=>?_
   have v:=(exs_ok J h2).a.trans v1
   exact loopK_inv q (fun _ q=>(ih q).trans v) (fun _ _ e=>e▸v) (fun _ _ _ e=>e▸v) (fun _ _ _ e=>e▸v)
theorem whl_ok(I:SndE prog K w H0 fns n R)(J:SndX prog K w H0 n R){t:Expr}{body:List Stmt}{k:Nat}{f:Fl}(q:whl R cx t body k st=some (f,st'))(H:Here K w H0 n cx st A (env::outer) env G locs s) :
  codeAny (model prog w) A (.whileLoop t body [] env) (LoopEnd prog K w H0 A outer env locs G s f st') s:=by
 refine codeAny_whileLoop (fun m s2=>∃G2 st2,vnm st2.vars=vnm st.vars∧whl R cx t body m st2=some (f,st')∧Rel K w H0 (env::outer) G2 st2 locs s2.heap∧Ext (env::outer) G s.heap G2 s2.heap (Own locs)∧Sh s s2) ?_ k ⟨G,st,rfl,q,H.T,Ext.refl ..,Sh.refl _⟩
 intro m s2 z
 refine xE25 z fun G2 st2 hv hq T2 X2 S2=>?_
 cases m with
 |zero=>exact cz0 hq
 |succ m =>
  refine obE2 hq fun b st3 h3 hq=>?_
  have v3:=evT_names I h3
  refine W.then (evT_ok I h3 ⟨H.rm,H.hh,H.hf,H.E.of_names hv,T2⟩).1 fun b' G3 s3 T3 X3 S3 hb=>?_
  subst hb
  have X3':=X2.trans X3.none
  have S3':=S2.trans S3
  cases b' with
  |false=>exact wpAny_execs_nil (cz4 hq ⟨G3,T3,X3',S3',trivial⟩)
  |true =>
   refine obE2 hq fun f1 st5 h5 hq=>?_
   refine turn_end J h5 hq ⟨H.rm,H.hh,H.hf,H.E.of_names (v3.trans hv),T3⟩ X3' S3' (fun fl hf G5 s5 hq T5 X5 S5=>?_) (fun _ z=>z) fun _ _ z=>z
   have nx:∃m',m' < m+1∧∃G2 st2,vnm st2.vars=vnm st.vars∧whl R cx t body m' st2=some (f,st')∧Rel K w H0 (env::outer) G2 st2 locs s5.heap∧Ext (env::outer) G s.heap G2 s5.heap (Own locs)∧Sh s s5 :=
    ⟨m,Nat.lt_succ_self m,G5,st5,(exs_ok J h5).a.trans (v3.trans hv),hq,T5,X3'.trans X5,S3'.trans S5⟩
   rcases hf with e | e<;>subst e<;>exact nx
end
end Bc
namespace Bc
section
variable{K:Frag}{w:World}{H0 h0:Heap}{fns:List DefRec}{mg mb:Str→Option Value}{fr outer:List Env}{prog:Program}{A:Around}{G G0 G1 G2 G':Gh}{st st' st1 st2 st3:Bc.St}{locs locs':List Loc}{s s1 s2 s':Shared}{env:Env}{h h' h1 h2:Heap}{P P':Addr→Prop}{n:Nat}{R:Rc}{cx:Cx}
 {φ:Gh→Heap→Prop} {b:Addr} {v:Value} {d:PV} {a:AV} {x:Str} {M:Model} {E:Value→Shared→Prop} {scope:Scope}
theorem cellsFrom_acc(names:List (Str × NameKind))(n:Nat)(acc:List (Str × Addr)):cellsFrom n names acc=cellsFrom n names []++acc:=by
 induction names generalizing n acc with
 |nil=>rfl
 |cons p r ih =>
  refine if h:(p.2==NameKind.cell)=true then ?_ else ?_
  ·exact (if_pos h).trans ((ih (n+1) ((p.1,n)::acc)).trans (Eq.symm ((congrArg (·++acc) ((if_pos h).trans (ih (n+1) [(p.1,n)]))).trans (List.append_assoc _ _ _))))
  ·exact (if_neg h).trans ((ih n acc).trans (congrArg (·++acc) (if_neg h)).symm)
theorem cellsFrom_mem{names:List (Str × NameKind)}{n:Nat}{c:Addr}(h:(x,c)∈cellsFrom n names []):(x,NameKind.cell)∈names:=by
 induction names generalizing n with
 |nil=>exact nomatch h
 |cons p r ih =>
  refine if q:(p.2==NameKind.cell)=true then ?_ else ?_
  ·have h:(x,c)∈cellsFrom (n+1) r [(p.1,n)]:=Eq.mp (congrArg ((x,c)∈·) (if_pos q)) h
   refine (List.mem_append.mp (cellsFrom_acc r (n+1) _▸h)).elim (fun h=>List.mem_cons_of_mem _ (ih h)) fun h=>?_
   rw [(Prod.mk.inj (List.mem_singleton.mp h)).1,← beq_kind q]
   exact List.mem_cons_self
  ·exact List.mem_cons_of_mem _ (ih (Eq.mp (congrArg ((x,c)∈·) (if_neg q)) h))
theorem lookup_none_of{α:Type}{l:List (Str × α)}(h:∀c,(x,c) ∉ l):l.lookup x=none:=by
 induction l with
 |nil=>rfl
 |cons p r ih =>
  cases q:x==p.1 with
  |true=>exact absurd (show (x,p.2)∈p::r from (beq_iff_eq.mp q)▸List.mem_cons_self) (h p.2)
  |false=>rw [List.lookup_cons,q];exact ih fun c hc=>h c (List.mem_cons_of_mem _ hc)
theorem cellOf_is{c:Addr}(h:env.cells.lookup x=some c):cellOf env x=pure c:=by
 unfold cellOf;refine rwE h rfl
inductive ClL(env:Env)(names:List (Str × NameKind))(acc:List (Str × Addr)):Prop
 |mk (cl:List (Str × Addr)):(forIn names acc fun (y:Str × NameKind) (cs:List (Str × Addr))=>if (y.2==NameKind.free)=true then (do let c ← cellOf env y.1;pure (ForInStep.yield ((y.1,c)::cs))) else pure (ForInStep.yield cs):Sem (List (Str × Addr)))=pure cl →
   (∀y c,(y,c)∈cl→(y,c)∈acc∨env.cells.lookup y=some c)→(∀y c,(y,c)∈acc→(y,c)∈cl)→(∀y,(y,NameKind.free)∈names→∃c,(y,c)∈cl)→ClL env names acc
theorem closure_loop(names:List (Str × NameKind))(acc:List (Str × Addr))(hc:∀y∈names,y.2=.free→∃c,env.cells.lookup y.1=some c):ClL env names acc:=by
 induction names generalizing acc with
 |nil=>exact ⟨acc,List.forIn_nil,fun z_ z_ h=>.inl h,fun z_ z_ h=>h,fun z_ h=>nomatch h⟩
 |cons p r ih =>
  have hr:∀y∈r,y.2=.free→∃c,env.cells.lookup y.1=some c:=fun z hz=>hc z (List.mem_cons_of_mem _ hz)
  refine if hk:(p.2==NameKind.free)=true then ?_ else ?_
  ·refine xE11 (hc p List.mem_cons_self (beq_kind hk)) fun c hc1=>?_
   obtain ⟨cl,e,h1,h2,h3⟩:=ih ((p.1,c)::acc) hr
   refine ⟨cl,?_,fun z c' hz=>(h1 z c' hz).elim (fun q=>(List.mem_cons.mp q).elim (fun q=>.inr ?_) .inl) .inr,fun z c' hz=>h2 z c' (List.mem_cons_of_mem _ hz),fun z hz=>(List.mem_cons.mp hz).elim (fun q=>⟨c,?_⟩) (h3 z)⟩
   ·rw [List.forIn_cons,if_pos hk,cellOf_is hc1];exact e
   ·have q:=Prod.mk.inj q
    rw [q.1,q.2];exact hc1
   ·rw [show z=p.1 from congrArg Prod.fst q];exact h2 p.1 c List.mem_cons_self
  ·obtain ⟨cl,e,h1,h2,h3⟩:=ih acc hr
   refine ⟨cl,?_,h1,h2,fun z hz=>(List.mem_cons.mp hz).elim (fun q=>absurd ?_ hk) (h3 z)⟩
   ·rw [List.forIn_cons,if_neg hk];exact e
   ·rw [← q];rfl
set_option tactic.hygienic true in
theorem closure_is(hc:∀y∈scope.names,y.2=.free→∃c,env.cells.lookup y.1=some c):∃cl,closureFor scope env=pure cl∧∀y,(y,NameKind.free)∈scope.names→∃c,cl.lookup y=some c∧env.cells.lookup y=some c:=by
 obtain ⟨cl,e,h1,z_,h3⟩:=closure_loop (env:=env) scope.names [] hc
 refine ⟨cl,?_,fun y hy=>?_⟩
 ·unfold closureFor
  have:(forIn scope.names ([]:List (Str × Addr)) fun (y:Str × NameKind) (cs:List (Str × Addr))=>if (y.2==NameKind.free)=true then (do let c ← cellOf env y.1;pure (ForInStep.yield ((y.1,c)::cs))) else pure (ForInStep.yield cs):Sem (List (Str × Addr))) >>= (fun cs=>pure cs)=pure cl:=by refine rwE e ?_;rfl
  exact this
 ·obtain ⟨c,hm⟩:=h3 y hy
  cases q:cl.lookup y with
  |none=>exact absurd hm (by
    intro hm
    have:∀{l:List (Str × Addr)},(y,c)∈l→l.lookup y≠none:=by
     intro l
     induction l with
     |nil=>intro h;cases h
     |cons p r ih =>
      intro h
      obtain ⟨z,c'⟩:=p
      refine rwE List.lookup_cons ?_
      split
      ·intro z;cases z
      ·rename_i hb
       rcases List.mem_cons.mp h with h | h
       ·cases h;simp at hb
       ·exact ih h
    exact this hm q)
  |some c' =>
   have hm':=PySem.mem_of_lookup q
   rcases h1 y c' hm' with z | z
   ·cases z
   ·exact ⟨c',rfl,z⟩
theorem wpAny_newFunctionEnv_comp{globals:Addr}{cl:List (Str × Addr)}{qual:Str}{o:Env}{Q:Env→Shared→Prop}
  (hQ:Q { scope,locals:=s.heap.objs.size,globals,cells:=cellsFrom (s.heap.objs.size+1) scope.names []++cl,qual,func:=none,code:=o.code,frame:=o.frame,builtins:=o.builtins }
   { s with heap:=pushCells (s.heap.push { cls:=.type "dict",data:=.dict #[] }) scope.names }) :
  wpAny M A (newFunctionEnv scope globals cl [] qual none .none (some o)) Q E s:=by
 simp only [newFunctionEnv,Option.isSome_some,if_true]
 refine wpAny_bind (wpAny_alloc ?_)
 refine wpAny_bind (wpAny_layCells _ (fun name kind cells=>by cases hkc:kind==NameKind.cell<;>simp [hkc]) _ _ _ _ ?_)
 rw [show ({ s with heap:=s.heap.push { cls:=.type "dict",data:=.dict #[] } }:Shared).heap.objs.size=s.heap.objs.size+1 from Heap.size_push ..,cellsFrom_acc]
 rw [List.forIn_nil]
 exact wpAny_bind (wpAny_pure (wpAny_pure hQ))
theorem fix_append{a b:Vars}{i:Nat}(h:fix x (a++b)=some i):(i < a.length∧∃e,a[i]? = some e∧e.1=x)∨∃j,i=a.length+j∧fix x b=some j∧x ∉ a.map (·.1):=by
 induction a generalizing i with
 |nil=>exact .inr ⟨i,(Nat.zero_add i).symm,h,List.not_mem_nil⟩
 |cons p r ih =>
  exact fix_c h (fun q e=>e▸.inl ⟨Nat.succ_pos _,p,rfl,(beq_iff_eq.mp q).symm⟩) fun q j hj e=>(ih hj).elim (fun z=>.inl ⟨e▸Nat.succ_lt_succ z.1,e▸z.2⟩)
   fun z=>xE13 z fun k h1 h2 h3=>.inr ⟨k,e.trans (by rw [h1];exact Nat.add_right_comm _ _ _),h2,fun z=>(List.mem_cons.mp z).elim (fun z=>q (beq_iff_eq.mpr z)) h3⟩
theorem lookup_rel{outer:List (Str × NameKind)}{inner:List (Str × NameKind)}:(rlN outer inner).lookup x=(inner.lookup x).map fun k=>if (k==.free&&outer.lookup x==some .cell) then .cell else k:=by
 induction inner with
 |nil=>rfl
 |cons p r ih =>
  have e:∀k,List.lookup x ((p.1,k)::rlN outer r)=bif x==p.1 then some k else (rlN outer r).lookup x:=fun k=>by rw [List.lookup_cons];cases x==p.1<;>rfl
  have e2:List.lookup x (p::r)=bif x==p.1 then some p.2 else r.lookup x:=by rw [List.lookup_cons];cases x==p.1<;>rfl
  have e3:rlN outer (p::r)=(p.1,if (p.2==.free&&outer.lookup p.1==some .cell) then .cell else p.2)::rlN outer r:=by
   refine congrArg (·::rlN outer r) ?_
   cases q:(p.2==.free&&outer.lookup p.1==some .cell) with
   |true=>exact (if_pos q).trans (congrArg (Prod.mk p.1) (if_pos rfl).symm)
   |false=>exact (if_neg (by rw [q];decide)).trans (congrArg (Prod.mk p.1) (if_neg (by decide)).symm)
  rw [e3,e,e2,ih]
  cases q:x==p.1 with
  |true=>rw [beq_iff_eq.mp q];rfl
  |false=>rfl
theorem rel_names(E:EnvOk cx env st.vars locs):(relabel scope env).names=rlN cx.names scope.names:=by
 show scope.names.map _=scope.names.map _
 refine List.map_congr_left fun y z_=>?_
 obtain ⟨y,k⟩:=y
 show (if (k==.free&&env.scope.kind==.function&&env.kindOf y==some .cell)=true then (y,NameKind.cell) else (y,k))=_
 have e1:env.kindOf y=cx.names.lookup y:=by unfold Env.kindOf;rw [E.names]
 refine rwE E.kind (rwE e1 ?_)
 have:(ScopeKind.function==ScopeKind.function)=true:=rfl
 rw [this,Bool.and_true]
structure CompSc(outer:List (Str × NameKind))(scope:Scope)(vars:Vars):Prop where
 kind:scope.kind=.function
 loc:∀y∈scope.names,y.2=.local→scope.names.lookup y.1=some .local
 cell:∀y∈scope.names,y.2=.cell→scope.names.lookup y.1=some .cell
 only:∀y∈scope.names,y.2=.local∨y.2=.cell∨y.2=.free∨y.2=.globalImplicit
 free:∀y∈scope.names,y.2=.free→(outer.lookup y.1=some .cell∨outer.lookup y.1=some .free)
 has:∀y∈scope.names,y.2=.free→hasV y.1 vars=true
 dot:scope.names.lookup (".0" : Str)=some .local
 nodup:(oNm scope).Nodup
theorem compSc_of{outer:List (Str × NameKind)}{vars:Vars}(h1:scO outer scope=true)(h2:compOk scope vars=true):CompSc outer scope vars:=by
 simp only [scO,compOk,Bool.and_eq_true,List.all_eq_true,Bool.not_eq_true'] at h1 h2
 obtain ⟨hk,h1⟩:=h1
 obtain ⟨⟨h2,h3⟩,h4⟩:=h2
 have orE:∀{p q:Bool},(p||q)=true→p=true∨q=true:=fun h=>Bool.or_eq_true _ _▸h
 refine ⟨kind_fn hk,fun y hy e=>?_,fun y hy e=>?_,fun y hy=>?_,fun y hy e=>?_,fun y hy e=>?_,beq_okind h3,nodup_of h4⟩
 ·rcases orE (h1 y hy).1.1.1 with q | q
  ·exact absurd e (bne_kind q)
  ·exact beq_okind q
 ·rcases orE (h1 y hy).1.1.2 with q | q
  ·exact absurd e (bne_kind q)
  ·exact beq_okind q
 ·rcases orE (h1 y hy).1.2 with q | q
  ·rcases orE q with q | q
   ·rcases orE q with q | q
    ·exact .inl (beq_kind q)
    ·exact .inr (.inl (beq_kind q))
   ·exact .inr (.inr (.inl (beq_kind q)))
  ·exact .inr (.inr (.inr (beq_kind q)))
 ·rcases orE (h1 y hy).2 with q | q
  ·exact absurd e (bne_kind q)
  ·rw [Bool.and_eq_true] at q
   rcases orE q.1 with q | q
   ·exact .inl (beq_okind q)
   ·exact .inr (beq_okind q)
 ·rcases orE (h2 y hy) with q | q
  ·exact absurd e (bne_kind q)
  ·exact q
theorem mem_own{x:Str}(h:x∈oNm scope):(x,NameKind.local)∈scope.names∨(x,NameKind.cell)∈scope.names:=by
 unfold oNm at h
 refine xE12 (List.mem_map.mp h) fun y hy e_2=>?_;refine Bc.rwB e_2 ?_
 obtain ⟨h1,h2⟩:=List.mem_filter.mp hy
 rw [Bool.or_eq_true] at h2
 obtain ⟨y,k⟩:=y
 rcases h2 with q | q
 ·exact .inl (beq_kind q▸h1)
 ·exact .inr (beq_kind q▸h1)
abbrev cEn(scope:Scope)(cl:List (Str × Addr))(C:Addr)(env:Env):Env :=
 { scope:=relabel scope env,locals:=C,globals:=env.globals,cells:=cellsFrom (C+1) scope.names []++cl,qual:=env.qual,func:=none,code:=env.code,frame:=env.frame,builtins:=env.builtins }
noncomputable def ownVars(scope:Scope):Vars:=(oNm scope).map fun n=>(n,none)
noncomputable def oLc(scope:Scope)(ce:Env):List Loc:=(oNm scope).map fun n=>(locOf ce n).getD (.cell 0)
theorem hasV_mem{v:Vars}(h:hasV x v=true):x∈v.map (·.1):=by
 induction v with
 |nil=>exact nomatch h
 |cons p r ih=>exact iteE h (fun q _=>beq_iff_eq.mp q▸List.mem_cons_self) fun _ h=>List.mem_cons_of_mem _ (ih h)
theorem hasV_of_mem{v:Vars}(h:x∈v.map (·.1)):hasV x v=true:=by
 induction v with
 |nil=>exact nomatch h
 |cons p r ih=>exact if q:(x==p.1)=true then if_pos q else (if_neg q).trans (ih ((List.mem_cons.mp h).resolve_left fun z=>q (beq_iff_eq.mpr z)))
theorem hasV_names{v v':Vars}(e:vnm v'=vnm v):hasV x v'=hasV x v:=by
 cases q:hasV x v with
 |true=>exact hasV_of_mem (by show x∈vnm v';refine rwE e ?_;exact hasV_mem q)
 |false =>
  cases q':hasV x v' with
  |false=>rfl
  |true =>
   have:=hasV_of_mem (x:=x) (v:=v) (by show x∈vnm v;refine rwB e ?_;exact hasV_mem q')
   rw [q] at this;cases this
set_option tactic.hygienic true in
theorem outer_cell(E:EnvOk cx env st.vars locs)(C:CompSc cx.names scope st.vars){y:Str}(hy:(y,NameKind.free)∈scope.names):∃c i,env.cells.lookup y=some c∧fix y st.vars=some i∧locs[i]? = some (.cell c)∧locOf env y=some (.cell c):=by
 have hv:=C.has _ hy rfl
 refine xE22 (hasV_fix hv) fun i b hf hi=>?_
 have ho:=C.free _ hy rfl
 obtain ⟨l,hl,hlo⟩:=E.at_ y i (by rcases ho with q | q<;>(refine rwE q ?_;rfl)) hf
 have key:∀k,(k=NameKind.cell∨k=.free)→cx.names.lookup y=some k→∃c,env.cells.lookup y=some c∧l=.cell c:=by
  intro k hk hq
  have hlo':=hlo
  unfold locOf at hlo'
  rw [E.names,hq] at hlo'
  rcases hk with rfl | rfl
  ·dsimp only at hlo'
   split at hlo'
   ·rename_i c hc;cases hlo';exact ⟨c,hc,rfl⟩
   ·cases hlo'
  ·dsimp only at hlo'
   split at hlo'
   ·rename_i c hc;cases hlo';exact ⟨c,hc,rfl⟩
   ·cases hlo'
 rcases ho with q | q
 ·refine xE12 (key _ (.inl rfl) q) fun c h1 e_2=>?_;subst e_2
  exact ⟨c,i,h1,hf,hl,hlo⟩
 ·refine xE12 (key _ (.inr rfl) q) fun c h1 e_2=>?_;subst e_2
  exact ⟨c,i,h1,hf,hl,hlo⟩
theorem own_loc(C:CompSc cx.names scope st.vars)(E:EnvOk cx env st.vars locs)(cl:List (Str × Addr))(L:Addr){x:Str}(hx:x∈oNm scope) :
  (scope.names.lookup x=some .local∧locOf (cEn scope cl L env) x=some (.dict L x))∨∃c,scope.names.lookup x=some .cell∧(x,c)∈cellsFrom (L+1) scope.names []∧locOf (cEn scope cl L env) x=some (.cell c):=by
 have en:(cEn scope cl L env).scope.names=rlN cx.names scope.names:=rel_names E
 rcases mem_own hx with h | h
 ·have hl:=C.loc _ h rfl
  refine .inl ⟨hl,?_⟩
  unfold locOf
  refine rwE en (rwE lookup_rel (rwE hl ?_));rfl
 ·have hl:=C.cell _ h rfl
  have hs:=cells_look (x:=x) (n:=L+1) (acc:=[]) (.inr h)
  obtain ⟨c,hc⟩:=Option.isSome_iff_exists.mp hs
  refine .inr ⟨c,hl,PySem.mem_of_lookup hc,?_⟩
  have e2:(cEn scope cl L env).cells.lookup x=some c:=by
   show (cellsFrom (L+1) scope.names []++cl).lookup x=some c
   refine rwE List.lookup_append (rwE hc ?_);rfl
  unfold locOf
  refine rwE en (rwE lookup_rel (rwE hl ?_))
  dsimp only [Option.map]
  have:(NameKind.cell==.free)=false:=rfl
  simp only [this,Bool.false_and,Bool.false_eq_true,if_false]
  refine rwE e2 rfl
theorem comp_env(C:CompSc cx.names scope st.vars)(E:EnvOk cx env st.vars locs){cl:List (Str × Addr)}(L:Addr)(hcl:∀y,(y,NameKind.free)∈scope.names→∃c,cl.lookup y=some c∧env.cells.lookup y=some c) :
  EnvOk ⟨rlN cx.names scope.names,cx.lp⟩ (cEn scope cl L env) (ownVars scope++st.vars) (oLc scope (cEn scope cl L env)++locs):=by
 have en:(cEn scope cl L env).scope.names=rlN cx.names scope.names:=rel_names E
 refine ⟨en,C.kind,E.glob,E.bi,fun x i hk hf=>?_⟩
 have hlen:(ownVars scope).length=(oLc scope (cEn scope cl L env)).length:=by simp [ownVars,oLc]
 rcases fix_append hf with ⟨h1,e,h2,h3⟩ | ⟨j,h1,h2,h3⟩
 ·have hx:x∈oNm scope:=by
   unfold ownVars at h2
   rw [List.getElem?_map] at h2
   cases q:(oNm scope)[i]? with
   |none=>rw [q] at h2;cases h2
   |some y=>rw [q] at h2;cases h2;exact h3▸List.mem_of_getElem? q
  have hxi:(oNm scope)[i]? = some x:=by
   unfold ownVars at h2
   rw [List.getElem?_map] at h2
   cases q:(oNm scope)[i]? with
   |none=>rw [q] at h2;cases h2
   |some y=>rw [q] at h2;cases h2;exact congrArg some h3
  have hat:(oLc scope (cEn scope cl L env)++locs)[i]? = some ((locOf (cEn scope cl L env) x).getD (.cell 0)):=by
   refine rwE (List.getElem?_append_left (by exact Nat.lt_of_lt_of_eq h1 hlen)) ?_
   unfold oLc
   refine rwE (List.getElem?_map) (rwE hxi ?_);rfl
  rcases own_loc C E cl L hx with ⟨_,z⟩ | ⟨c,_,_,z⟩
  ·exact ⟨_,hat.trans (by refine rwE z ?_;rfl),z⟩
  ·exact ⟨_,hat.trans (by rw [z];rfl),z⟩
 ·have hx:x ∉ oNm scope:=by
   intro hx
   apply h3
   unfold ownVars
   rw [List.map_map]
   exact List.mem_map.mpr ⟨x,hx,rfl⟩
  rw [lookup_rel] at hk
  cases hq:scope.names.lookup x with
  |none=>rw [hq] at hk;cases hk
  |some k =>
   have hm:=PySem.mem_of_lookup hq
   have hfree:k=.free:=by
    rcases C.only _ hm with q | q | q | q
    ·-- a local name that is not of its own: the iterator's
     exfalso
     dsimp only at q
     subst q
     apply hx
     unfold oNm
     exact List.mem_map.mpr ⟨(x,.local),List.mem_filter.mpr ⟨hm,rfl⟩,rfl⟩
    ·exfalso
     dsimp only at q
     subst q
     apply hx
     unfold oNm
     exact List.mem_map.mpr ⟨(x,.cell),List.mem_filter.mpr ⟨hm,rfl⟩,rfl⟩
    ·exact q
    ·dsimp only at q
     subst q
     rw [hq] at hk;cases hk
   subst hfree
   refine xE24 (outer_cell E C hm) fun c i' e1 e2 e3 e4=>?_
   rw [h2] at e2;cases (e2)
   refine ⟨.cell c,?_,?_⟩
   ·rw [List.getElem?_append_right (by omega),h1,← hlen,Nat.add_sub_cancel_left];exact e3
   ·refine xE12 (hcl x hm) fun c' q1 q2=>?_
    rw [e1] at q2;cases (q2)
    have hlk:(cEn scope cl L env).cells.lookup x=some c:=by
     show (cellsFrom (L+1) scope.names []++cl).lookup x=some c
     rw [List.lookup_append,lookup_none_of fun c hc=>?_]
     ·exact q1
     ·have:=C.cell _ (cellsFrom_mem hc) rfl
      dsimp only at this
      rw [hq] at this;cases (this)
    unfold locOf
    refine rwE en (rwE lookup_rel (rwE hq ?_))
    dsimp only [Option.map]
    by_cases hc:(NameKind.free==NameKind.free&&List.lookup x cx.names==some NameKind.cell)=true
    ·refine rwE (if_pos hc) ?_;dsimp only;refine rwE hlk rfl
    ·refine rwE (if_neg hc) ?_;dsimp only;refine rwE hlk rfl
theorem Rel.compIn(C:CompSc cx.names scope st.vars)(E:EnvOk cx env st.vars locs)(cl:List (Str × Addr))(T:Rel K w H0 fr G st locs s.heap) :
  Rel K w H0 fr G ⟨ownVars scope++st.vars,st.cells⟩ (oLc scope (cEn scope cl s.heap.objs.size env)++locs) (pushCells (s.heap.push { cls:=.type "dict",data:=.dict #[] }) scope.names) ∧
  (∀l∈oLc scope (cEn scope cl s.heap.objs.size env),s.heap.objs.size≤l.addr)∧∃m,Heap.Ns (pushCells (s.heap.push { cls:=.type "dict",data:=.dict #[] }) scope.names) s.heap.objs.size m:=by
 have keep:∀b o,s.heap.get? b=some o→(pushCells (s.heap.push { cls:=.type "dict",data:=.dict #[] }) scope.names).get? b=some o:=fun b o e=>pushCells_keeps _ _ _ _ (Heap.get?_push_of_some _ e)
 have ns:Heap.Ns (pushCells (s.heap.push { cls:=.type "dict",data:=.dict #[] }) scope.names) s.heap.objs.size fun z_=>none:=(Heap.Ns.new s.heap (.type "dict")).keeps (pushCells_keeps _ _)
 have ok:=cellsFrom_ok scope.names (s.heap.push { cls:=.type "dict",data:=.dict #[] }) (s.heap.objs.size+1) [] ⟨fun z_ z_ hm=>(nomatch hm),List.Pairwise.nil⟩ (by rw [Heap.size_push];exact Nat.le_refl _)
 rw [Heap.size_push] at ok
 have at_:∀(i:Nat) l,(oLc scope (cEn scope cl s.heap.objs.size env))[i]? = some l→∃x,(oNm scope)[i]? = some x∧((l=.dict s.heap.objs.size x)∨∃c,l=.cell c∧(x,c)∈cellsFrom (s.heap.objs.size+1) scope.names []):=fun i l h=>by
  unfold oLc at h
  rw [List.getElem?_map] at h
  cases q:(oNm scope)[i]? with
  |none=>rw [q] at h;cases h
  |some x =>
   rw [q] at h
   cases h
   refine ⟨x,rfl,?_⟩
   rcases own_loc C E cl s.heap.objs.size (List.mem_of_getElem? q) with ⟨_,z⟩ | ⟨c,_,hc,z⟩
   ·dsimp only;refine rwE z ?_;exact .inl rfl
   ·dsimp only;refine rwE z ?_;exact .inr ⟨c,rfl,hc⟩
 have lo:∀l∈oLc scope (cEn scope cl s.heap.objs.size env),s.heap.objs.size≤l.addr:=fun l hl=>by
  obtain ⟨i,hi⟩:=List.mem_iff_getElem?.mp hl
  obtain ⟨x,_,rfl | ⟨c,rfl,hc⟩⟩:=at_ i l hi
  ·exact Nat.le_refl _
  ·exact Nat.le_of_lt (ok.empty x c hc).2
 have hlen:(oLc scope (cEn scope cl s.heap.objs.size env)).length=(ownVars scope).length:=by simp [ownVars,oLc]
 obtain ⟨T1,_⟩:=T.keepAll keep
 have fresh:∀l∈oLc scope (cEn scope cl s.heap.objs.size env),s.heap.get? l.addr=none:=fun l hl=>Heap.get?_none_of_le (lo l hl)
 have oldlt:∀l∈locs,l.addr < s.heap.objs.size:=fun l hl=>by
  cases q:s.heap.get? l.addr with
  |some o=>exact Heap.lt_size q
  |none=>exact absurd rfl ((T.sizeNot q).2.2.1 l hl)
 refine ⟨⟨T1.base,T1.dom,T1.len,T1.cells,T1.sep,T1.lt,by simp [hlen,T.nloc],fun i e l h1 h2=>?_,fun l hl=>?_,fun i j l m ne h1 h2=>?_,T1.frames⟩,lo,_,ns⟩
 ·by_cases hi:i < (ownVars scope).length
  ·rw [List.getElem?_append_left hi] at h1
   rw [List.getElem?_append_left (by exact Nat.lt_of_lt_of_eq hi (Eq.symm hlen))] at h2
   refine xE12 (at_ i l h2) fun x hx hl=>?_
   unfold ownVars at h1
   rw [List.getElem?_map,hx] at h1
   cases h1
   rcases hl with rfl | ⟨c,rfl,hc⟩
   ·exact ⟨rfl,_,ns,fun a ha=>by cases ha⟩
   ·exact ⟨_,(ok.empty x c hc).1,fun a ha=>by cases ha⟩
  ·rw [List.getElem?_append_right (by exact Nat.le_of_not_lt hi)] at h1
   rw [List.getElem?_append_right (by omega),hlen] at h2
   exact T1.slot _ e l h1 h2
 ·rcases List.mem_append.mp hl with hl | hl
  ·exact ⟨(T.sizeNot (fresh l hl)).1,(T.sizeNot (fresh l hl)).2.1⟩
  ·exact T1.own l hl
 ·have ap:∀{l m:Loc},l.addr≠m.addr→l.apart m:=fun {l m} ne=>by
   cases l<;>cases m<;>first | exact ne | exact fun z=>absurd z ne
  by_cases hi:i < (ownVars scope).length<;>by_cases hj:j < (ownVars scope).length
  ·rw [List.getElem?_append_left (by omega)] at h1 h2
   refine xE12 (at_ i l h1) fun x hx hl=>?_
   refine xE12 (at_ j m h2) fun y hy hm=>?_
   have nxy:x≠y:=fun z=>ne (getElem?_inj C.nodup hx (z▸hy))
   rcases hl with rfl | ⟨c,rfl,hc⟩<;>rcases hm with rfl | ⟨c',rfl,hc'⟩
   ·exact fun z_=>nxy
   ·exact Nat.ne_of_lt (ok.empty y c' hc').2
   ·exact Nat.ne_of_gt (ok.empty x c hc).2
   ·intro z;subst z;exact nxy (PySem.name_of_addr ok.apart hc hc')
  ·rw [List.getElem?_append_left (by exact Nat.lt_of_lt_of_eq hi (Eq.symm hlen))] at h1
   rw [List.getElem?_append_right (by omega)] at h2
   have a1:=lo l (List.mem_of_getElem? h1)
   have a2:=oldlt m (List.mem_of_getElem? h2)
   exact ap fun z=>absurd (Nat.lt_of_lt_of_le a2 a1) (by refine rwE z ?_;exact Nat.lt_irrefl _)
  ·rw [List.getElem?_append_right (by omega)] at h1
   rw [List.getElem?_append_left (by exact Nat.lt_of_lt_of_eq hj (Eq.symm hlen))] at h2
   have a1:=lo m (List.mem_of_getElem? h2)
   have a2:=oldlt l (List.mem_of_getElem? h1)
   exact ap fun z=>absurd (Nat.lt_of_lt_of_le a2 a1) (by refine rwE z ?_;exact Nat.lt_irrefl _)
  ·rw [List.getElem?_append_right (by omega)] at h1 h2
   exact T1.dis _ _ l m (by omega) h1 h2
theorem Rel.compOut{k:Nat}{ol:List Loc}{vars:Vars}{cells:List MO}(T:Rel K w H0 fr G ⟨vars,cells⟩ (ol++locs) h)(hk:ol.length=k):Rel K w H0 fr G ⟨vars.drop k,cells⟩ locs h:=by
 refine ⟨T.base,T.dom,T.len,T.cells,T.sep,T.lt,?_,fun i e l h1 h2=>?_,fun l hl=>T.own l (List.mem_append_right _ hl),fun i j l m ne h1 h2=>?_,T.frames⟩
 ·have:=T.nloc
  simp only [List.length_append,List.length_drop] at this ⊢
  omega
 ·refine T.slot (k+i) e l ?_ ?_
  ·rw [List.getElem?_drop] at h1;exact h1
  ·refine rwE (List.getElem?_append_right (by exact Nat.le.intro (congrFun (congrArg HAdd.hAdd hk) i))) ?_
   refine rwE (show k+i - ol.length=i by exact Eq.symm (Nat.eq_sub_of_add_eq' (congrFun (congrArg HAdd.hAdd hk) i))) ?_;exact h2
 ·refine T.dis (k+i) (k+j) l m (by omega) ?_ ?_
  ·refine rwE (List.getElem?_append_right (by exact Nat.le.intro (congrFun (congrArg HAdd.hAdd hk) i))) (rwE (show k+i - ol.length=i by exact Eq.symm (Nat.eq_sub_of_add_eq' (congrFun (congrArg HAdd.hAdd hk) i))) ?_);exact h1
  ·refine rwE (List.getElem?_append_right (by exact Nat.le.intro (congrFun (congrArg HAdd.hAdd hk) j))) (rwE (show k+j - ol.length=j by exact Eq.symm (Nat.eq_sub_of_add_eq' (congrFun (congrArg HAdd.hAdd hk) j))) ?_);exact h2
end
end Bc
namespace Bc
noncomputable def AccAt(K:Frag)(w:World)(G:Gh)(h:Heap)(D:Addr)(acc:List PV):Prop:=∃vs nn,h.get? D=some { cls:=.type "list",data:=.seq vs.toArray nn }∧RepL K w h G.fz vs acc
noncomputable def CP(locs:List Loc)(ce:Env)(own:List Str)(D:Addr)(a:Addr):Prop:=At locs ce own a∨a=D
noncomputable def turnTree(e:Expr)(dep:Nat)(p:Pos)(target:Expr)(ifs:List Expr)(elt:Expr)(it acc:Value)(env:Env):Sem Fin:=do
 standAt p
 match ← pyNext it with
 |none=>pure (.done .next)
 |some v =>
  letOwnedTupleGo target it v
  assign target env v
  let mut ok:=true
  for c in ifs do
   if ok then ok ← isTrue c env (eval c env)
  if ok then
   (do let _ ← call (.builtin "list.append") [acc,← eval elt env])
  again (.compLoop e dep it acc env)
noncomputable def turnTree2(e:Expr)(p:Pos)(target i2:Expr)(it acc:Value)(env:Env):Sem Fin:=do
 standAt p
 match ← pyNext it with
 |none=>pure (.done .next)
 |some v =>
  letOwnedTupleGo target it v
  assign target env v
  let x ← eval i2 env
  standAt i2.pos
  let x ← foldedSetIterable i2 env x
  let _ ← runOwn (.compStart e 1 (← holding [x] (pyIter x)) acc env) env
  again (.compLoop e 0 it acc env)
theorem turn_one(elt target iter:Expr)(ifs:List Expr)(scope:Scope)(pos:Pos)(it acc:Value)(env:Env) :
  compTurn (.ListComp elt [⟨target,iter,ifs,0⟩] scope pos) 0 it acc env=turnTree (.ListComp elt [⟨target,iter,ifs,0⟩] scope pos) 0 iter.pos target ifs elt it acc env:=by rfl
theorem turn_in(elt t1 i1 t2 i2:Expr)(scope:Scope)(pos:Pos)(it acc:Value)(env:Env) :
  compTurn (.ListComp elt [⟨t1,i1,[],0⟩,⟨t2,i2,[],0⟩] scope pos) 1 it acc env=turnTree (.ListComp elt [⟨t1,i1,[],0⟩,⟨t2,i2,[],0⟩] scope pos) 1 i2.pos t2 [] elt it acc env:=by rfl
theorem turn_out(elt t1 i1 t2 i2:Expr)(scope:Scope)(pos:Pos)(it acc:Value)(env:Env) :
  compTurn (.ListComp elt [⟨t1,i1,[],0⟩,⟨t2,i2,[],0⟩] scope pos) 0 it acc env=turnTree2 (.ListComp elt [⟨t1,i1,[],0⟩,⟨t2,i2,[],0⟩] scope pos) i1.pos t1 i2 it acc env:=by rfl
section
variable{K:Frag}{w:World}{H0 h0:Heap}{fns:List DefRec}{mg mb:Str→Option Value}{fr outer:List Env}{prog:Program}{A:Around}{G G0 G1 G2 G':Gh}{st st' st1 st2 st3:Bc.St}{locs locs':List Loc}{s s1 s2 s':Shared}{env:Env}{h h' h1 h2:Heap}{P P':Addr→Prop}{n:Nat}{R:Rc}{cx:Cx}
 {φ:Gh→Heap→Prop} {b:Addr} {v:Value} {d:PV} {a:AV} {x:Str} {M:Model} {E:Value→Shared→Prop} {scope:Scope} {D I:Addr} {acc acc':List PV} {own:List Str}
theorem Ext.atP(X:Ext fr G0 h0 G h P)(T:Rel K w H0 fr G st locs h)(nf:¬ G.fz D)(hp:P D)(hk:∀c o,h.get? c=some o→c≠D→h'.get? c=some o)(lv:∃o,h'.get? D=some o):Ext fr G0 h0 G h' P:=by
 refine ⟨fun c f=>⟨(X.fz c f).1,?_⟩,fun c o e n p=>?_,X.nofz,X.ad,fun c o e=>?_⟩
 ·refine xE11 (T.dom c (X.fz c f).1) fun o e=>?_
  refine rwE (hk c o e fun z=>nf (z▸(X.fz c f).1)) (rwB ((X.fz c f).2) (rwE e rfl))
 ·refine xE12 (X.keep c o e n p) fun sl e1 q=>?_
  exact ⟨sl,hk c _ e1 fun z=>p (z▸hp),q⟩
 ·by_cases z:c=D
  ·exact z▸lv
  ·refine xE11 (X.live c o e) fun o' e'=>?_
   exact ⟨o',hk c o' e' z⟩
structure CL(K:Frag)(w:World)(H0:Heap)(fr:List Env)(locs:List Loc)(ce:Env)(own:List Str)(G:Gh)(s:Shared)(D:Addr)(acc:List PV)(G1:Gh)(st1:Bc.St)(s1:Shared):Prop where
 T:Rel K w H0 fr G1 st1 locs s1.heap
 X:Ext fr G s.heap G1 s1.heap (CP locs ce own D)
 S:Sh s s1
 J:Junk fr G1 locs s1.heap D
 ac:AccAt K w G1 s1.heap D acc
theorem AccAt.next(J:Junk fr G1 locs h1 D)(X2:Ext fr G1 h1 G2 h2 P)(hp:¬ P D)(x:AccAt K w G1 h1 D acc):AccAt K w G2 h2 D acc:=by
 refine xE22 x fun vs nn e r=>?_
 exact ⟨vs,nn,J.keep X2 hp e,RepL.mono X2.fz r⟩
theorem CL.next{ce:Env}(C:CL K w H0 fr locs ce own G s D acc G1 st1 s1)(T2:Rel K w H0 fr G2 st2 locs s2.heap)(X2:Ext fr G1 s1.heap G2 s2.heap P)(hP:∀c,P c→At locs ce own c)(S2:Sh s1 s2):CL K w H0 fr locs ce own G s D acc G2 st2 s2:=by
 have hD:¬ P D:=fun z=>let ⟨l,hl,e⟩:=(hP D z).own;C.J.nl l hl e
 exact ⟨T2,C.X.trans (X2.weaken fun c _ _ z=>.inl (hP c z)),C.S.trans S2,C.J.ext X2,C.ac.next C.J X2 hD⟩
theorem CL.refl{ce:Env}(C:CL K w H0 fr locs ce own G s D acc G1 st1 s1):CL K w H0 fr locs ce own G1 s1 D acc G1 st1 s1:=⟨C.T,Ext.refl ..,Sh.refl _,C.J,C.ac⟩
theorem CL.after{ce:Env}(C:CL K w H0 fr locs ce own G s D acc G1 st1 s1)(C2:CL K w H0 fr locs ce own G1 s1 D acc' G2 st2 s2):CL K w H0 fr locs ce own G s D acc' G2 st2 s2:=⟨C2.T,C.X.trans C2.X,C.S.trans C2.S,C2.J,C2.ac⟩
theorem append_ok{ce:Env}{Q:Value→Shared→Prop}(C:CL K w H0 fr locs ce own G s D acc G1 st1 s1)(r:Rep K w s1.heap G1.fz v d)(hl:acc.length≤1000)
  (k:∀s2,CL K w H0 fr locs ce own G s D (acc++[d]) G1 st1 s2→(∀c o,s1.heap.get? c=some o→c≠D→s2.heap.get? c=some o)→Sh s1 s2→(∃o,s2.heap.get? D=some o)→Q .none s2):wpAny (model prog w) A (call (.builtin "list.append") [.ref D,v]) Q E s1:=by
 refine xE22 C.ac fun vs nn e rl=>?_
 have hlen:=rl.length
 refine wpAny_list_append_plain ⟨nn,e⟩ (fun h' ⟨n',e'⟩ hs'=>?_) (by rw [List.size_toArray];exact sizeOk (by omega))
 have hk:∀c o,s1.heap.get? c=some o→c≠D→h'.get? c=some o:=fun c o q ne=>(hs'.2 c ne).trans q
 have same:∀c,G1.fz c→G1.fz c∧h'.get? c=s1.heap.get? c:=fun c f=>⟨f,hs'.2 c fun z=>C.J.nf (z▸f)⟩
 refine k { s1 with heap:=h' } ⟨C.T.junk C.J hk,C.X.atP C.T C.J.nf (.inr rfl) hk ⟨_,e'⟩,C.S.trans (Sh.mk' _ h' s1.toks),C.J.live' ⟨_,e'⟩,vs++[v],n',?_,(RepL.mono same rl).append (.cons (Rep.mono same r) .nil)⟩ hk (Sh.mk' _ h' s1.toks) ⟨_,e'⟩
 rw [e',List.push_toArray]
theorem AccAt.keep(T:Rel K w H0 fr G1 st1 locs h1)(x:AccAt K w G1 h1 D acc)(hk:∀c o,h1.get? c=some o→c≠I→h2.get? c=some o)(ne:D≠I)(nf:¬ G1.fz I):AccAt K w G1 h2 D acc:=by
 refine xE22 x fun vs nn e r=>?_
 exact ⟨vs,nn,hk _ _ e ne,RepL.mono (fun c f=>⟨f,by obtain ⟨o,q⟩:=T.dom c f;refine rwE q ?_;exact hk c o q fun z=>nf (z▸f)⟩) r⟩
theorem mark_none(A:Around):A.mark none=A:=by cases A;rfl
theorem comp1_names(I:SndE prog K w H0 fns n R){elt t:Expr}{ifs:List Expr}{ds acc:List PV}{st:Bc.St}{acc':List PV}{st':Bc.St}(q:comp1 R cx elt t ifs ds acc st=some (acc',st')):vnm st'.vars=vnm st.vars:=by
 induction ds generalizing acc st with
 |nil=>exact cz4 (P:=fun _ st'=>vnm st'.vars=vnm st.vars) q rfl
 |cons d r ih =>
  refine obE q fun _ h1 q=>obE2 q fun b _ h2 q=>?_
  have v:=(evAnd_names I h2).trans (bindT_names h1)
  cases b with
  |false=>exact (ih q).trans v
  |true=>exact obE2 q fun _ _ h3 q=>bifT q fun _ q=>(ih q).trans ((ePn I h3).trans v)
theorem CL.item{ce:Env}{ds:List PV}{fp:List Addr}{PP:Nat→Value→Prop}{St:Nat→Heap→Prop}{i:Nat}(C2:CL K w H0 fr locs ce own G s D acc G2 st2 s2)(L:Lp K w H0 fr locs G s ds I fp PP St (CP locs ce own D) i G2 st2 s2)(L3:Lp K w H0 fr locs G s ds I fp PP St (CP locs ce own D) (i+1) G2 st2 s1)
  (hk3:∀c o,s2.heap.get? c=some o→c≠I→s1.heap.get? c=some o) (hID:I≠D):CL K w H0 fr locs ce own G s D acc G2 st2 s1 :=
 xE22 C2.ac fun vs nn e _=>⟨L3.T,L3.X,L3.S,C2.J.live' ⟨_,hk3 _ _ e (Ne.symm hID)⟩,C2.ac.keep C2.T hk3 (Ne.symm hID) L.J.nf⟩
theorem CP_not{ce:Env}(J:Junk fr G locs h I)(hID:I≠D):¬ CP locs ce own D I:=fun z=>z.elim (fun z=>let ⟨l,hl,q⟩:=z.own;J.nl l hl q) hID
theorem comp1_ok(IE:SndE prog K w H0 fns n R){elt0 elt t:Expr}{gens:List Comprehension}{sc:Scope}{pos:Pos}{ifs:List Expr}{dep:Nat}{p:Pos}{ce:Env}{ds:List PV}{fp:List Addr}{PP:Nat→Value→Prop}{St:Nat→Heap→Prop}(hh:A.handled=none)
  (hturn:compTurn (.ListComp elt0 gens sc pos) dep (.ref I) (.ref D) ce=turnTree (.ListComp elt0 gens sc pos) dep p t ifs elt (.ref I) (.ref D) ce)
  (q:comp1 R cx elt t ifs ds acc st=some (acc',st')) (H:Here K w H0 n cx st A fr ce G1 locs s1) (hown:∀x∈tname t,x∈own) (IW:IterW prog w A I fp ds.length PP St)
  (hst:St 0 s1.heap) (JI:Junk fr G1 locs s1.heap I) (hI:s.heap.get? I=none) (hfp:∀b∈fp,b≠I→G1.fz b) (val:∀i v d,PP i v→ds[i]? = some d→Rep K w s1.heap G1.fz v d) (hID:I≠D)
  (C:CL K w H0 fr locs ce own G s D acc G1 st s1) :
  codeAny (model prog w) A (.compLoop (.ListComp elt0 gens sc pos) dep (.ref I) (.ref D) ce) (fun r s'=>r=.ok .next∧∃G',CL K w H0 fr locs ce own G s D acc' G' st' s') s1:=by
 refine codeAny_loop rfl (fun m s2=>∃i G2 st2 acc2,i+m=ds.length∧vnm st2.vars=vnm st.vars∧comp1 R cx elt t ifs (ds.drop i) acc2 st2=some (acc',st')∧CL K w H0 fr locs ce own G s D acc2 G2 st2 s2 ∧
  Lp K w H0 fr locs G s ds I fp PP St (CP locs ce own D) i G2 st2 s2) ?_ ds.length ⟨0,G1,st,acc,Nat.zero_add _,rfl,q,C,C.T,C.X,C.S,hst,JI,hI,hfp,val⟩
 rintro m s2 ⟨i,G2,st2,acc2,him,hv,hq,C2,L⟩
 have nP:=CP_not (own:=own) (ce:=ce) L.J hID
 show wpAny _ A ((compTurn (.ListComp elt0 gens sc pos) dep (.ref I) (.ref D) ce).onRaise (fun x=>do noteFrame x ce;theTreesLotGoes x)) _ _ s2
 refine wpAny_noted ?_
 refine rwE hturn ?_
 unfold turnTree
 refine wpAny_bind (wpAny_standAt (wpAny_bind ?_))
 cases m with
 |succ m =>
  have hi:i < ds.length:=by omega
  refine L.item IW (List.getElem?_eq_getElem hi) fun v s3 L3 r3 hk3=>?_
  have C3:=C2.item L L3 hk3 hID
  refine wpAny_bind (owned_ok (IW.tg _ _ L3.st) ?_)
  rw [drop_at hi] at hq
  refine obE hq fun st3 h3 hq=>obE2 hq fun ok st5 h5 hq=>?_
  have v3:=(bindT_names h3).trans hv
  refine wpAny_bind (WP.then (bindT_ok hh h3 (H.E.of_names hv) L3.T r3) fun _ G4 s4 T4 X4 S4 _=>?_)
  have hX4:∀c,At locs ce (tname t) c→At locs ce own c:=fun c z=>z.mono hown
  have C4:=C3.next T4 X4 hX4 S4
  have L4:=L3.next IW.W T4 (X4.weaken (Q:=CP locs ce own D) fun c _ _ z=>.inl (hX4 c z)) nP S4
  have H4:Here K w H0 n cx st3 A fr ce G4 locs s4:=⟨H.rm,H.hh,H.hf,H.E.of_names v3,T4⟩
  refine wpAny_bind (W.then (evAnd_ok IE h5 H4).z fun ok' G5 s5 T5 X5 S5 hok=>?_)
  subst hok
  have v5:=(evAnd_names IE h5).trans v3
  have C5:=C4.next T5 X5 (fun c z=>z.elim) S5
  have L5:=L4.next IW.W T5 X5.none nP S5
  cases ok' with
  |true =>
   refine obE2 hq fun y st6 h6 hq=>bifT hq fun hlen hq=>?_
   refine wpAny_bind (wpAny_bind (W.then (evP_ok IE h6 (H4.next (evAnd_names IE h5) T5)) fun u G6 s6 T6 X6 S6 r6=>?_))
   have C6:=C5.next T6 X6 (fun c z=>z.elim) S6
   have L6:=L5.next IW.W T6 X6.none nP S6
   refine wpAny_bind (append_ok C6 r6 (of_decide_eq_true hlen) fun s7 C7 hk7 S7 lv7=>?_)
   refine wpAny_pure (wpAny_pure ⟨rfl,m,Nat.lt_succ_self m,i+1,G6,st6,_,by omega,(ePn IE h6).trans v5,hq,C7,?_⟩)
   have same:∀c,G6.fz c→G6.fz c∧s7.heap.get? c=s6.heap.get? c:=fun c f=>⟨f,by obtain ⟨o,q⟩:=T6.dom c f;refine rwE q ?_;exact hk7 c o q fun z=>C6.J.nf (z▸f)⟩
   refine ⟨C7.T,C7.X,C7.S,IW.W.frame _ _ _ L6.st fun b hb o e=>?_,L6.J.live' ?_,L6.hn,L6.hfp,fun i v d h1 h2=>Rep.mono same (L6.val i v d h1 h2)⟩
   ·by_cases z:b=I
    ·exact hk7 b o e (z▸hID)
    ·refine rwE ((same b (L6.hfp b hb z)).2) ?_;exact e
   ·refine xE11 L6.J.live fun o e=>?_
    exact ⟨o,hk7 _ _ e hID⟩
  |false=>exact wpAny_pure ⟨rfl,m,Nat.lt_succ_self m,i+1,G5,st5,_,by omega,v5,hq,C5,L5⟩
 |zero =>
  have hlen:i=ds.length:=him
  subst hlen
  rw [List.drop_length] at hq
  refine L.done IW fun s3 T3 X3 S3 hk3=>xE22 C2.ac fun vs nn e _=>wpAny_pure ?_
  exact cz4 hq ⟨rfl,G2,T3,X3,S3,C2.J.live' ⟨_,hk3 _ _ e (Ne.symm hID)⟩,C2.ac.keep C2.T hk3 (Ne.symm hID) L.J.nf⟩
theorem comp2_names(I:SndE prog K w H0 fns n R){elt t1 t2 i2:Expr}{ds acc:List PV}{st:Bc.St}{acc':List PV}{st':Bc.St}(q:comp2 R cx elt t1 t2 i2 ds acc st=some (acc',st')):vnm st'.vars=vnm st.vars:=by
 induction ds generalizing acc st with
 |nil=>exact cz4 (P:=fun _ st'=>vnm st'.vars=vnm st.vars) q rfl
 |cons d r ih=>exact obE q fun _ h1 q=>obE2 q fun _ _ h2 q=>obE q fun _ _ q=>obE2 q fun _ _ h3 q=>(ih q).trans ((comp1_names I h3).trans ((ePn I h2).trans (bindT_names h1)))
theorem compStart_in{elt t1 i1 t2 i2:Expr}{sc:Scope}{pos:Pos}{it ac:Value}{RR:Result→Shared→Prop}
  (h0:codeAny (model prog w) A (.compLoop (.ListComp elt [⟨t1,i1,[],0⟩,⟨t2,i2,[],0⟩] sc pos) 1 it ac env) RR s)
  (h:wpAny (model prog w) A (pyIter it) (fun it' s'=>codeAny (model prog w) A (.compLoop (.ListComp elt [⟨t1,i1,[],0⟩,⟨t2,i2,[],0⟩] sc pos) 1 it' ac env) RR s')
   (notedBy (model prog w) A env fun x s'=>RR (.error x) s') s) :
  codeAny (model prog w) A (.compStart (.ListComp elt [⟨t1,i1,[],0⟩,⟨t2,i2,[],0⟩] sc pos) 1 it ac env) RR s:=by
 refine codeAny_of_tree ?_
 show wpAny _ A ((compStart (.ListComp elt [⟨t1,i1,[],0⟩,⟨t2,i2,[],0⟩] sc pos) 1 it ac env).onRaise (fun x=>do noteFrame x env;standAt theWindowsPlace)) _ _ s
 refine wpAny_notedAt ?_
 unfold compStart
 show wpAny _ A (ask >>= _) _ _ s
 refine wpAny_bind (wpAny_askSetting (wpAny_ite ?_))
 split
 ·first
   |exact wpAny_bind (wpAny_pure (wpAny_pure (And.intro rfl h0)))
   |exact wpAny_pure (And.intro rfl h0)
 ·refine wpAny_bind (wpAny_rule ?_)
  show wpAny _ A (standAt i2.pos >>= _) _ _ s
  exact wpAny_bind (wpAny_standAt (wpAny_bind (wpAny_mono h (fun it' s' h'=>wpAny_pure (And.intro rfl h')) fun _ _ x=>x)))
theorem comp2_ok(IE:SndE prog K w H0 fns n R){elt t1 i1 t2 i2:Expr}{sc:Scope}{pos:Pos}{ce:Env}{ds:List PV}{fp:List Addr}{PP:Nat→Value→Prop}{St:Nat→Heap→Prop}(hh:A.handled=none)
  (q:comp2 R cx elt t1 t2 i2 ds acc st=some (acc',st')) (H:Here K w H0 n cx st A fr ce G1 locs s1) (hown:∀x∈tname t1,x∈own) (hown2:∀x∈tname t2,x∈own) (hset:isSetE i2=false) (IW:IterW prog w A I fp ds.length PP St)
  (hst:St 0 s1.heap) (JI:Junk fr G1 locs s1.heap I) (hI:s.heap.get? I=none) (hfp:∀b∈fp,b≠I→G1.fz b) (val:∀i v d,PP i v→ds[i]? = some d→Rep K w s1.heap G1.fz v d) (hID:I≠D)
  (C:CL K w H0 fr locs ce own G s D acc G1 st s1) :
  codeAny (model prog w) A (.compLoop (.ListComp elt [⟨t1,i1,[],0⟩,⟨t2,i2,[],0⟩] sc pos) 0 (.ref I) (.ref D) ce) (fun r s'=>r=.ok .next∧∃G',CL K w H0 fr locs ce own G s D acc' G' st' s') s1:=by
 refine codeAny_loop rfl (fun m s2=>∃i G2 st2 acc2,i+m=ds.length∧vnm st2.vars=vnm st.vars∧comp2 R cx elt t1 t2 i2 (ds.drop i) acc2 st2=some (acc',st')∧CL K w H0 fr locs ce own G s D acc2 G2 st2 s2 ∧
  Lp K w H0 fr locs G s ds I fp PP St (CP locs ce own D) i G2 st2 s2) ?_ ds.length ⟨0,G1,st,acc,Nat.zero_add _,rfl,q,C,C.T,C.X,C.S,hst,JI,hI,hfp,val⟩
 rintro m s2 ⟨i,G2,st2,acc2,him,hv,hq,C2,L⟩
 have nP:=CP_not (own:=own) (ce:=ce) L.J hID
 show wpAny _ A ((compTurn (.ListComp elt [⟨t1,i1,[],0⟩,⟨t2,i2,[],0⟩] sc pos) 0 (.ref I) (.ref D) ce).onRaise (fun x=>do noteFrame x ce;theTreesLotGoes x)) _ _ s2
 refine wpAny_noted ?_
 rw [turn_out]
 unfold turnTree2
 refine wpAny_bind (wpAny_standAt (wpAny_bind ?_))
 cases m with
 |succ m =>
  have hi:i < ds.length:=by omega
  refine L.item IW (List.getElem?_eq_getElem hi) fun v s3 L3 r3 hk3=>?_
  have C3:=C2.item L L3 hk3 hID
  refine wpAny_bind (owned_ok (IW.tg _ _ L3.st) ?_)
  rw [drop_at hi] at hq
  refine obE hq fun st3 h3 hq=>obE2 hq fun x2 st5 h5 hq=>obE hq fun ds2 hds hq=>obE2 hq fun acc3 st6 h6 hq=>?_
  have v3:=(bindT_names h3).trans hv
  have v5:=(ePn IE h5).trans v3
  refine wpAny_bind (WP.then (bindT_ok hh h3 (H.E.of_names hv) L3.T r3) fun _ G4 s4 T4 X4 S4 _=>?_)
  have hX4:∀c,At locs ce (tname t1) c→At locs ce own c:=fun c z=>z.mono hown
  have C4:=C3.next T4 X4 hX4 S4
  have L4:=L3.next IW.W T4 (X4.weaken (Q:=CP locs ce own D) fun c _ _ z=>.inl (hX4 c z)) nP S4
  refine wpAny_bind (W.then (evP_ok IE h5 ⟨H.rm,H.hh,H.hf,H.E.of_names v3,T4⟩) fun u G5 s5 T5 X5 S5 r5=>?_)
  have C5:=C4.next T5 X5 (fun c z=>z.elim) S5
  have L5:=L4.next IW.W T5 X5.none nP S5
  refine wpAny_bind (wpAny_standAt (wpAny_bind ?_))
  rw [notSet hset]
  refine wpAny_pure (wpAny_bind (wpAny_holding ?_))
  refine W.then (iter_ok hh hds T5 r5) fun it G6 s6 T6 X6 S6 z=>?_
  refine hld fun gP gk=>?_
  obtain ⟨I2,fp2,PP2,St2,rfl,IW2,hst2,J2,hn2,hfp2,hval2⟩:=z
  refine gk ?_
  have C6:=(C5.refl).next T6 X6 (fun c z=>z.elim) S6
  have ne2:I2≠D:=fun z=>by obtain ⟨o,e⟩:=C5.J.live;rw [← z,hn2] at e;exact cz0 e
  have inner:=comp1_ok (s:=s5) (G:=G5) IE hh (turn_in elt t1 i1 t2 i2 sc pos (.ref I2) (.ref D) ce) h6 ⟨H.rm,H.hh,H.hf,H.E.of_names v5,T6⟩ hown2 IW2 hst2 J2 hn2 hfp2 hval2 ne2 C6
  refine wpAny_bind (wpAny_runOwn ?_)
  rw [mark_none]
  refine codeAny_mono (compStart_in inner (IW2.W.self 0 s6 _ _ hst2 inner)) fun r s7 z=>z.2.elim fun G7 C7=>?_
  refine rwE z.1 ?_
  exact wpAny_pure ⟨rfl,m,Nat.lt_succ_self m,i+1,G7,st6,acc3,by omega,(comp1_names IE h6).trans v5,hq,C5.after C7,L5.next IW.W C7.T C7.X nP C7.S⟩
 |zero =>
  have hlen:i=ds.length:=him
  subst hlen
  rw [List.drop_length] at hq
  refine L.done IW fun s3 T3 X3 S3 hk3=>xE22 C2.ac fun vs nn e _=>wpAny_pure ?_
  exact cz4 hq ⟨rfl,G2,T3,X3,S3,C2.J.live' ⟨_,hk3 _ _ e (Ne.symm hID)⟩,C2.ac.keep C2.T hk3 (Ne.symm hID) L.J.nf⟩
end
end Bc
namespace Bc
structure CompEnd(K:Frag)(w:World)(H0:Heap)(fr:List Env)(G:Gh)(st':Bc.St)(locs:List Loc)(s:Shared)(acc:List PV)(D C:Addr)(G5:Gh)(s5:Shared):Prop where
 T:Rel K w H0 fr G5 st' locs s5.heap
 X:Ext fr G s.heap G5 s5.heap None_
 S:Sh s s5
 r:Rep K w s5.heap G5.fz (.ref D) (.lst acc)
 ns:∃m,s5.heap.Ns C m
 J:Junk fr G5 locs s5.heap C
 new:s.heap.get? C=none
section
variable{K:Frag}{w:World}{H0 h0:Heap}{fns:List DefRec}{mg mb:Str→Option Value}{fr outer:List Env}{prog:Program}{A:Around}{G G0 G1 G2 G':Gh}{st st' st1 st2 st3:Bc.St}{locs locs':List Loc}{s s1 s2 s':Shared}{env:Env}{h h' h1 h2:Heap}{P P':Addr→Prop}{n:Nat}{R:Rc}{cx:Cx}
 {φ:Gh→Heap→Prop} {b:Addr} {v:Value} {d:PV} {a:AV} {x:Str} {M:Model} {E:Value→Shared→Prop} {scope:Scope} {D I:Addr} {acc acc':List PV} {own:List Str}
theorem CompEnd.gone{C:Addr}(c:CompEnd K w H0 fr G st' locs s acc D C G1 s1)(hs:Heap.SameBut C s1.heap h'):Out K w H0 fr G s st' locs (fun G' h'=>Rep K w h' G'.fz (.ref D) (.lst acc)) { s1 with heap:=h' }:=by
 have hk:∀c' o,s1.heap.get? c'=some o→c'≠C→h'.get? c'=some o:=fun c' o e ne=>(hs.2 c' ne).trans e
 refine ⟨G1,c.T.junk c.J hk,c.X.junk c.T c.J.nf c.new hk,c.S.trans (Sh.mk' _ h' s1.toks),Rep.mono (fun c' f=>⟨f,hs.2 c' fun z=>c.J.nf (z▸f)⟩) c.r⟩
theorem comp_core{e:Expr}{g:Comprehension}{gs:List Comprehension}{pos:Pos}{i:Expr}{ds:List PV}{xd:PV}{st2:Bc.St}{use:Option (Value→Sem Unit)}{Q:Value→Shared→Prop}(IE:SndE prog K w H0 fns n R)(hh:A.handled=none)
  (hcl:clausesOf e=g::gs) (hgi:g.iter=i) (hset:isSetE i=false) (h1:evP R cx i st=some (xd,st1)) (hds:items xd=some ds) (ok1:scO cx.names scope=true) (ok2:compOk scope st.vars=true)
  (H:Here K w H0 n cx st A fr env G locs s)
  (turns:∀(ce:Env) (I D:Addr) (fp:List Addr) (PP:Nat→Value→Prop) (St:Nat→Heap→Prop) (G0 G1:Gh) (locs':List Loc) (s0 s1:Shared),Here K w H0 n ⟨rlN cx.names scope.names,cx.lp⟩ ⟨ownVars scope++st1.vars,st1.cells⟩ A fr ce G1 locs' s1 →
   IterW prog w A I fp ds.length PP St→St 0 s1.heap→Junk fr G1 locs' s1.heap I→s0.heap.get? I=none→(∀b∈fp,b≠I→G1.fz b)→(∀i v d,PP i v→ds[i]? = some d→Rep K w s1.heap G1.fz v d)→I≠D →
   CL K w H0 fr locs' ce (oNm scope) G0 s0 D [] G1 ⟨ownVars scope++st1.vars,st1.cells⟩ s1→codeAny (model prog w) A (.compStart e 0 (.ref I) (.ref D) ce) (fun r s'=>r=.ok .next∧∃G',CL K w H0 fr locs' ce (oNm scope) G0 s0 D acc' G' st2 s') s1)
  (k:∀D C G5 s5,CompEnd K w H0 fr G ⟨st2.vars.drop (oNm scope).length,st2.cells⟩ locs s acc' D C G5 s5→compPost (model prog w) A E use Q (.ref D) C (.ok .next) s5) :
  wpAny (model prog w) A (comprehension e scope env pos (newList []) false (eval i env) use) Q E s:=by
 have SC:=compSc_of ok1 ok2
 obtain ⟨v1,w1⟩:=evP_here IE h1
 have SC1:CompSc cx.names scope st1.vars:=⟨SC.kind,SC.loc,SC.cell,SC.only,SC.free,fun y hy e=>(hasV_names v1).trans (SC.has y hy e),SC.dot,SC.nodup⟩
 obtain ⟨cl,hclos,hcl2⟩:=closure_is (scope:=scope) (env:=env) fun y hy e=>by
  obtain ⟨y,k⟩:=y
  dsimp only at e
  subst e
  refine xE22 (outer_cell H.E SC hy) fun c z_ e1 z_=>?_
  exact ⟨c,e1⟩
 refine wpAny_comprehension_free hcl (fun x=>by refine rwE hgi ?_;exact notSet hset env x) hclos SC.kind SC.loc (W.then (w1 H) fun v G1 s1 T1 X1 S1 r1=>?_)
 have E1:=H.E.of_names v1
 refine W.then (iter_ok hh hds T1 r1) fun it G2 s2 T2 X2 S2 z=>?_
 obtain ⟨I,fp,PP,St,rfl,IW,hst,JI,hI,hfp,hval⟩:=z
 refine wpAny_newObj_type ?_
 have hDn:=sizeNone s2.heap
 obtain ⟨T3,X3⟩:=T2.pushJ { cls:=.type "list",dict:=none,data:=.seq ([]:List Value).toArray }
 have gD:=Heap.get?_push_size s2.heap (o:={ cls:=.type "list",dict:=none,data:=.seq ([]:List Value).toArray }) rfl
 generalize hh3:s2.heap.push { cls:=.type "list",dict:=none,data:=.seq ([]:List Value).toArray }=h3 at T3 X3 gD
 have keep3:∀b o,s2.heap.get? b=some o→h3.get? b=some o:=fun b o e=>hh3▸Heap.get?_push_of_some _ e
 generalize hDD:s2.heap.objs.size=DD at hDn gD
 refine wpAny_newFunctionEnv_comp ?_
 refine xE03 (Rel.compIn (s:={ s2 with heap:=h3 }) SC1 E1 cl T3) fun T4 lo4 ns4=>?_
 dsimp only at T4 lo4 ns4 ⊢
 generalize hCC:h3.objs.size=CC at T4 lo4 ns4
 generalize hh4:pushCells (h3.push { cls:=.type "dict",data:=.dict #[] }) scope.names=h4 at T4 ns4
 have keep4:∀b o,h3.get? b=some o→h4.get? b=some o:=fun b o e=>hh4▸pushCells_keeps _ _ _ _ (Heap.get?_push_of_some _ e)
 have keep24:∀b o,s2.heap.get? b=some o→h4.get? b=some o:=fun b o e=>keep4 b o (keep3 b o e)
 obtain ⟨_,X24⟩:=T2.keepAll keep24
 have S14:Sh s1 { s2 with heap:=h4 }:=S2.trans (Sh.mk' s2 h4 s2.toks)
 have E4:=comp_env (cl:=cl) SC1 E1 CC hcl2
 have ltC:∀b o,h3.get? b=some o→b < CC:=fun b o e=>hCC▸Heap.lt_size e
 refine xE11 JI.live fun oI eI=>?_
 have nlJ:∀b o,h3.get? b=some o→(∀l∈locs,l.addr≠b)→∀l∈oLc scope (cEn scope cl CC env)++locs,l.addr≠b:=fun b o e hn l hl=>by
  rcases List.mem_append.mp hl with hl | hl
  ·intro z
   exact absurd (ltC b o e) (by refine rwB z ?_;exact Nat.not_lt.mpr (lo4 l hl))
  ·exact hn l hl
 have JI4:Junk fr G2 (oLc scope (cEn scope cl CC env)++locs) h4 I:=⟨JI.nf,JI.nm,nlJ I oI (keep3 _ _ eI) JI.nl,JI.nfr,_,keep24 _ _ eI⟩
 have JD3:Junk fr G2 locs h3 DD:=Junk.fresh T2 hDn ⟨_,gD⟩
 have JD4:Junk fr G2 (oLc scope (cEn scope cl CC env)++locs) h4 DD:=⟨JD3.nf,JD3.nm,nlJ DD _ gD JD3.nl,JD3.nfr,_,keep4 _ _ gD⟩
 have ID:I≠DD:=fun z=>by rw [z,hDn] at eI;cases eI
 have fzk:∀c,G2.fz c→G2.fz c∧h4.get? c=s2.heap.get? c:=fun c f=>⟨f,by obtain ⟨o,q⟩:=T2.dom c f;refine rwE q ?_;exact keep24 c o q⟩
 have C4:CL K w H0 fr (oLc scope (cEn scope cl CC env)++locs) (cEn scope cl CC env) (oNm scope) G1 s1 DD [] G2 ⟨ownVars scope++st1.vars,st1.cells⟩ { s2 with heap:=h4 } :=
  ⟨T4,(X2.trans X24).none,S14,JD4,[],_,keep4 _ _ gD,.nil⟩
 have H4:Here K w H0 n ⟨rlN cx.names scope.names,cx.lp⟩ ⟨ownVars scope++st1.vars,st1.cells⟩ A fr (cEn scope cl CC env) G2 (oLc scope (cEn scope cl CC env)++locs) { s2 with heap:=h4 }:=⟨H.rm,H.hh,H.hf,E4,T4⟩
 have main:=turns (cEn scope cl CC env) I DD fp PP St G1 G2 _ s1 { s2 with heap:=h4 } H4 IW (IW.W.frame 0 _ _ hst fun b z_ o e=>keep24 b o e) JI4 hI hfp (fun i v d a b=>Rep.mono fzk (hval i v d a b)) ID C4
 subst hDD
 refine codeAny_mono main fun r s5 z=>?_
 obtain ⟨rfl,G5,C5⟩:=z
 have old:∀b o,s1.heap.get? b=some o→b < CC∧b≠s2.heap.objs.size:=fun b o e=>by
  refine xE11 (X2.live b o e) fun o' e'=>?_
  exact ⟨ltC b o' (keep3 _ _ e'),fun z=>by rw [z,hDn] at e';cases e'⟩
 have X5:Ext fr G1 s1.heap G5 s5.heap None_:=C5.X.weaken fun b o e p=>by
  rcases p with p | p
  ·obtain ⟨x,hx,l,_,hl,rfl⟩:=p
   have hlm:l∈oLc scope (cEn scope cl CC env):=by
    unfold oLc
    exact List.mem_map.mpr ⟨x,hx,by refine rwE hl ?_;rfl⟩
   exact absurd (old _ o e).1 (Nat.not_lt.mpr (lo4 l hlm))
  ·exact absurd p (old b o e).2
 have T5:Rel K w H0 fr G5 ⟨st2.vars.drop (oNm scope).length,st2.cells⟩ locs s5.heap:=Rel.compOut (cells:=st2.cells) (vars:=st2.vars) C5.T (by simp [oLc])
 have hCns:∃m,s5.heap.Ns CC m∧¬ G5.fz CC∧¬ G5.mut CC:=by
  have hd:(".0" : Str)∈oNm scope:=by
   unfold oNm
   exact List.mem_map.mpr ⟨(".0",.local),List.mem_filter.mpr ⟨PySem.mem_of_lookup SC.dot,rfl⟩,rfl⟩
  refine xE11 (List.mem_iff_getElem?.mp hd) fun j hj=>?_
  have hlj:(oLc scope (cEn scope cl CC env)++locs)[j]? = some (.dict CC ".0"):=by
   refine rwE (List.getElem?_append_left (by simp [oLc];exact (List.getElem?_eq_some_iff.mp hj).1)) ?_
   unfold oLc
   refine rwE (List.getElem?_map) (rwE hj ?_)
   rcases own_loc SC1 E1 cl CC hd with ⟨_,z⟩ | ⟨c,z,_⟩
   ·simp only [Option.map_some];refine rwE z ?_;rfl
   ·rw [SC.dot] at z;exact nomatch z
  have hvj:j < st2.vars.length:=by
   have:=C5.T.nloc
   refine rwB this ?_;exact (List.getElem?_eq_some_iff.mp hlj).1
  obtain ⟨_,m,hm,_⟩:=C5.T.slot j _ _ (List.getElem?_eq_getElem hvj) hlj
  exact ⟨m,hm,C5.T.own _ (List.mem_of_getElem? hlj)⟩
 refine xE13 hCns fun m5 hm5 nfC nmC=>?_
 have fresh5:∀l∈locs,l.addr≠s2.heap.objs.size:=JD3.nl
 have TF:=T5.freeze (fun c=>c=s2.heap.objs.size) (fun c e=>e▸C5.J.live) (fun c e=>⟨fun l hl q=>C5.J.nl l (List.mem_append_right _ hl) (q.trans e),fun env' he q=>C5.J.nfr env' he (e▸q)⟩)
  (fun k p c e1 z_ x z_=>.inr ⟨fun q=>C5.J.nm ⟨p,List.mem_of_getElem? e1,.inl q.symm⟩,fun q=>C5.J.nm ⟨p,List.mem_of_getElem? e1,.inr q.symm⟩⟩)
 have XF:Ext fr G s.heap ⟨fun c=>G5.fz c∨c=s2.heap.objs.size,G5.ad⟩ s5.heap None_:=by
  have X:=X1.trans X5
  refine ⟨fun c f=>⟨.inl (X.fz c f).1,(X.fz c f).2⟩,X.keep,fun b o e n f=>f.elim (X.nofz b o e n) fun q=>?_,X.ad,X.live⟩
  refine xE11 (X1.live b o e) fun o' e'=>?_
  exact absurd q (old b o' e').2
 refine xE22 C5.ac fun vs nn eD rD=>?_
 refine k s2.heap.objs.size CC _ s5 ⟨TF,XF,S1.trans C5.S,.lst (.inr rfl) eD (RepL.mono (fun c f=>⟨.inl f,rfl⟩) rD),⟨m5,hm5⟩,⟨?_,nmC,?_,?_,?_⟩,?_⟩
 ·rintro (f | q)
  ·exact nfC f
  ·have:=ltC _ _ gD;rw [q] at this;exact Nat.lt_irrefl _ this
 ·intro l hl z
  have hl':l.addr < CC:=by
   cases q:h3.get? l.addr with
   |some o=>exact ltC _ o q
   |none=>exact absurd rfl ((T3.sizeNot q).2.2.1 l hl)
  rw [z] at hl';exact Nat.lt_irrefl _ hl'
 ·intro env' he z
  obtain ⟨_,L,m,f,_,⟨o,_,_,q,_⟩,_⟩:=T3.frames env' he
  rw [f] at z;cases (z)
  exact Nat.lt_irrefl _ (ltC _ o q)
 ·obtain ⟨o,_,_,q,_⟩:=hm5;exact ⟨o,q⟩
 ·cases q:s.heap.get? CC with
  |none=>rfl
  |some o =>
   refine xE11 (X1.live CC o q) fun o' e'=>?_
   exact absurd (old CC o' e').1 (Nat.lt_irrefl _)
theorem own_of{t:Expr}(h:ownT scope t=true):∀x∈tname t,x∈oNm scope:=fun x hx=>by
 have:=List.all_eq_true.mp h x hx
 refine xE12 (List.any_eq_true.mp this) fun y hy e=>?_
 refine rwE (beq_iff_eq.mp e) ?_;exact hy
inductive CompUse(prog:Program)(K:Frag)(w:World)(H0:Heap)(n:Nat)(cx:Cx)(elt:Expr)(gens:List Comprehension)(scope:Scope)(pos:Pos)(use:Option (Value→Sem Unit))(Q:Value→Shared→Prop)(st:Bc.St)(a:AV)(st':Bc.St):Prop
 |mk:vnm st'.vars=vnm st.vars→∀acc,a=.pv (.lst acc)→firstAsync gens=false→(∀{A:Around} {fr:List Env} {env:Env} {G:Gh} {locs:List Loc} {s:Shared} {E:Value→Shared→Prop},Here K w H0 n cx st A fr env G locs s →
   (∀D C G5 s5,CompEnd K w H0 fr G st' locs s acc D C G5 s5→compPost (model prog w) A E use Q (.ref D) C (.ok .next) s5) →
   wpAny (model prog w) A (comprehension (.ListComp elt gens scope pos) scope env (firstIterPos gens pos) (newList []) (firstAsync gens) (firstIter gens env) use) Q E s)→CompUse prog K w H0 n cx elt gens scope pos use Q st a st'
theorem comp_use{elt:Expr}{gens:List Comprehension}{pos:Pos}{use:Option (Value→Sem Unit)}{Q:Value→Shared→Prop}(IE:SndE prog K w H0 fns n R)(q:evComp R cx elt gens scope st=some (a,st')) :
  CompUse prog K w H0 n cx elt gens scope pos use Q st a st':=by
 unfold evComp at q
 refine bifF q fun hc q1=>?_
 have hc:(cx.lp&&scO cx.names scope&&compOk scope st.vars)=true:=by simpa using hc
 rw [Bool.and_eq_true,Bool.and_eq_true] at hc
 obtain ⟨⟨hlp,hs1⟩,hs2⟩:=hc
 have dropn:∀(v:Vars) (st1:Bc.St),vnm v=vnm (ownVars scope++st1.vars)→vnm (v.drop (oNm scope).length)=vnm st1.vars:=fun v st1 e=>by
  unfold vnm at e ⊢
  refine rwE List.map_drop (rwE e (rwE List.map_append ?_))
  have:(oNm scope).length=((ownVars scope).map (·.1)).length:=by simp [ownVars]
  refine rwE this (rwE List.drop_left rfl)
 cases gens with
 |nil=>exact cz0 q1
 |cons g r =>
  obtain ⟨t,i,ifs,asy⟩:=g
  cases r with
  |nil =>
   refine bifT q1 fun ha q2=>bifF q2 fun hb q3=>obE2 q3 fun xd st1 h1 q4=>obE q4 fun ds hds q5=>obE2 q5 fun acc st2 h2 q6=>?_
   have ha:asy=0:=beq_iff_eq.mp ha
   refine Bc.rwE ha ?_
   have hb:isSetE i=false∧ownT scope t=true:=by simpa using hb
   refine cz4 q6 ⟨(dropn _ st1 (comp1_names IE h2)).trans (ePn IE h1),acc,rfl,rfl,fun {A fr env G locs s E} H k=>?_⟩
   have hh:=H.hh hlp
   refine comp_core (g:=⟨t,i,ifs,0⟩) (gs:=[]) IE hh rfl rfl hb.1 h1 hds hs1 hs2 H (fun ce I D fp PP St G0 G1 locs' s0 s1 H1 IW hst JI hI hfp hval hID C=>?_) k
   have loop:=comp1_ok IE hh (turn_one elt t i ifs scope pos (.ref I) (.ref D) ce) h2 H1 (own_of hb.2) IW hst JI hI hfp hval hID C
   exact codeAny_compStart_list loop (IW.W.self 0 s1 _ _ hst loop)
  |cons g2 r2 =>
   obtain ⟨t2,i2,ifs2,asy2⟩:=g2
   refine bifT q1 fun ha q2=>bifF q2 fun hb q3=>obE2 q3 fun xd st1 h1 q4=>obE q4 fun ds hds q5=>obE2 q5 fun acc st2 h2 q6=>?_
   simp only [Bool.and_eq_true,beq_iff_eq,List.isEmpty_iff] at ha
   obtain ⟨⟨⟨⟨a1,a2⟩,a3⟩,a4⟩,a5⟩:=ha
   refine Bc.rwE a1 ?_;refine Bc.rwE a2 ?_;refine Bc.rwE a3 ?_;refine Bc.rwE a4 ?_;refine Bc.rwE a5 ?_
   have hb:((isSetE i=false∧isSetE i2=false)∧ownT scope t=true)∧ownT scope t2=true:=by simpa using hb
   refine cz4 q6 ⟨(dropn _ st1 (comp2_names IE h2)).trans (ePn IE h1),acc,rfl,rfl,fun {A fr env G locs s E} H k=>?_⟩
   have hh:=H.hh hlp
   refine comp_core (g:=⟨t,i,[],0⟩) (gs:=[⟨t2,i2,[],0⟩]) IE hh rfl rfl hb.1.1.1 h1 hds hs1 hs2 H (fun ce I D fp PP St G0 G1 locs' s0 s1 H1 IW hst JI hI hfp hval hID C=>?_) k
   have loop:=comp2_ok (i1:=i) (pos:=pos) (sc:=scope) IE hh h2 H1 (own_of hb.1.2) (own_of hb.2) hb.1.1.2 IW hst JI hI hfp hval hID C
   exact codeAny_compStart_list loop (IW.W.self 0 s1 _ _ hst loop)
theorem ev_comp{elt:Expr}{gens:List Comprehension}{pos:Pos}(IE:SndE prog K w H0 fns n R)(q:evComp R cx elt gens scope st=some (a,st')):EvOk prog K w H0 n cx (.ListComp elt gens scope pos) st a st':=by
 obtain ⟨hv,_⟩:=comp_use (pos:=pos) (use:=none) (Q:=fun z_ z_=>True) IE q
 refine EvOk.plain (fun z_ z_=>rfl) hv fun A fr env G locs s H=>?_
 obtain ⟨_,acc,rfl,ha,hk⟩:=comp_use (pos:=pos) (use:=none) (Q:=fun v s'=>Out K w H0 fr G s st' locs (fun G' h'=>RepA K w G' h' v a) s') IE q
 rw [eval_ListComp]
 refine hk H fun D C G5 s5 c=>?_
 refine xE11 c.ns fun m hm=>?_
 exact ⟨m,hm,fun h' hs=>c.gone hs⟩
end
end Bc
section
open PySem PySem.W PyProof.Rows PySem.Calls Builtin Builtin.ObjectAttr
namespace Bc
structure StOkC(K:Frag)(C:Addr)(name:Str):Prop where
 set:findIn K (.ref C) "__setattr__" = some (some (.builtin "object.__setattr__"))
 taker:takerIn K C name=some none
 cls:∃cd,clsIn K C=some cd∧cd.hasDict=true∧cd.mro.isEmpty=false∧cd.mro.contains (.type "object")=true∧∀self,refuseLoop self "__setattr__" cd.mro=pure ()
section
variable{prog:Program}{w:World}{A:Around}{K:Frag}{C x dx:Addr}{s:Shared}{R:Result→Shared→Prop}{E:Value→Shared→Prop}
theorem osaK{ox:Obj}{od:Option Obj}{name:Str}{tk:Tok}{v:Value}(X:K.In s.heap)(I:InstAt s.heap x ox C od)(SC:StOkC K C name)
  (h:∀b,wpAny (model prog w) A.in1 (storeInOwnDict (.ref x) (.ref C) (.str name tk) name v b)
   (fun fin s'=>match fin with | .done f=>R (.ok f) s' | .again c'=>c'.quiet=true∧codeAny (model prog w) A c' R s') (fun e s'=>R (.error e) s') s) :
  codeAny (model prog w) A (.call (.builtin "object.__setattr__") ⟨[.ref x,.str name tk,v],[]⟩) R s:=by
 have SF:=PySem.F.store_object
 refine xE15 SC.cls fun cd hc hhd ne hob hpass=>?_
 have sub:Looks (model prog w) s.heap (isInstance (.ref x) (.type "object")) true:=I.type.andThen (looks_mroIn X (by unfold mroIn;rw [hc,Option.bind_some,if_neg (by rw [ne];decide),hob]))
 refine codeAny_call_builtin SF.slot.plain SF.entry (@check_slot (model prog w) _ _ s "object.__setattr__" "object" "__setattr__" (.ref x) [.str name tk,v] [] _ SF.kind SF.split sub (SF.args (.ref x) (.str name tk) v) ?_)
 refine xE12 (Option.bind_eq_some_iff.mp SC.taker) fun attr ha hr=>?_
 have hm:Looks (model prog w) s.heap (mroOf (.ref C)) cd.mro:=(looks_clsIn X hc).andThen .now
 have L3:Looks (model prog w) s.heap (storeTaker? attr) none:=by
  cases attr with
  |none=>exact .now
  |some a =>
   refine xE12 (Option.map_eq_some_iff.mp hr) fun b hb hb2=>?_
   refine (looks_takesIn X hb).andThen ?_
   cases b
   ·exact .now
   ·cases hb2
 rw [osa_eq,refuse_eq]
 refine wpAny_bind (wpAny_bind (I.type.here (wpAny_bind (hm.here ?_))))
 rw [hpass]
 refine wpAny_pure (wpAny_bind (I.type.here (wpAny_bind ((looks_findIn X ha).here (wpAny_bind (L3.here ?_))))))
 exact h _
set_option tactic.hygienic true in
theorem osa_put{ox:Obj}{es:List DictEntry}{n:Nat}{name:Str}{tk:Tok}{v:Value}(X:K.In s.heap)(I:InstAt s.heap x ox C (some (dictOf es n)))(hd:ox.dict=some dx)(SC:StOkC K C name)
  (hl:(getL name es).isSome=true) (hz:es.length≤100)
  (h:R (.ok (.ret .none)) { s with heap:=s.heap.update dx (Obj.putName name (PyData.keyHash w.params name) (.str name s.toks) v),toks:=s.toks+1 }) :
  codeAny (model prog w) A (.call (.builtin "object.__setattr__") ⟨[.ref x,.str name tk,v],[]⟩) R s:=by
 refine osaK X I SC fun b=>?_
 refine xE13 SC.cls fun cd hc hhd _=>?_
 obtain ⟨hx,hcl,hn,hdd⟩:=I
 obtain ⟨oc,odi,oda,osl⟩:=ox
 dsimp only at hcl hd hdd
 subst hcl hd
 dsimp only at hdd
 have D:=hdd
 refine wpAny_bind (wpAny_pure (wpAny_bind (wpAny_bind (wpAny_loadPart hx (wpAny_bind ((looks_clsIn X hc).here ?_))))))
 rw [hhd]
 refine wpAny_pure (a:=some dx) (wpAny_bind (wpAny_pure (wpAny_bind ?_)))
 unfold nsSet
 refine wpAny_bind (wpAny_bind (wpAny_askSetting (wpAny_pure (wpAny_bind (wpAny_mkText (wpAny_bind (wpAny_loadPart D ?_)))))))
 have c:(!es.toArray.any (·.key.isStr name)&&es.toArray.any (·.refKey))=false:=by
  rw [List.any_toArray,List.any_toArray]
  unfold getL at hl
  split at hl
  ·rename_i en he
   rw [List.any_eq_true.mpr ⟨en,List.mem_of_find?_eq_some he,List.find?_some he⟩];rfl
  ·split at hl
   ·cases hl
   ·rename_i z;rw [Bool.not_eq_true] at z;rw [z,Bool.and_false]
 dsimp only
 rw [aRefKeyMayBeTheName_at,c]
 have D':=Heap.get?_update_self (Obj.putName name (PyData.keyHash w.params name) (.str name s.toks) v) D (by rw [putName_dict];rfl)
 have hlen:(putL name (PyData.keyHash w.params name) (.str name s.toks) v es).length≤101:=by
  have key:∀(es:List DictEntry) k,es.length≤k→(putL name (PyData.keyHash w.params name) (.str name s.toks) v es).length≤k+1:=by
   intro es
   induction es with
   |nil=>intro k _;simp [putL]
   |cons e r ih =>
    intro k hk
    unfold putL
    split
    ·simp at hk ⊢;exact Nat.le_of_succ_le hk
    ·rw [List.length_cons] at hk ⊢
     have:=ih (k - 1) (by exact Nat.le_sub_one_of_lt hk)
     omega
  exact key es 100 hz
 refine wpAny_updatePart D ?_
 refine wpAny_bind (wpAny_lookBehind D' (by rw [putName_dict];exact pastItsLine_dict (by refine rwE List.size_toArray (rwE sizeLine_eq ?_);omega)) ?_)
 exact wpAny_pure h
theorem set_put{ox:Obj}{es:List DictEntry}{n:Nat}{name:Str}{v:Value}{Q:Unit→Shared→Prop}(X:K.In s.heap)(I:InstAt s.heap x ox C (some (dictOf es n)))(hd:ox.dict=some dx)(SC:StOkC K C name)
  (hl:(getL name es).isSome=true) (hz:es.length≤100)
  (h:Q () { s with heap:=s.heap.update dx (Obj.putName name (PyData.keyHash w.params name) (.str name (s.toks+1)) v),toks:=s.toks+2 }) :
  wpAny (model prog w) A (setAttr (.ref x) name v) Q E s :=
 set_plain X I SC.set (osa_put (s:={ s with toks:=s.toks+1 }) X I hd SC hl hz h)
theorem osa_first{ox:Obj}{name:Str}{tk:Tok}{v:Value}(X:K.In s.heap)(I:InstAt s.heap x ox C none)(hd:ox.dict=none)(SC:StOkC K C name)
  (h:R (.ok (.ret .none)) { s with heap:=(((s.heap.push { cls:=.type "dict",data:=.dict #[] }).update x fun o=>{ o with dict:=some s.heap.objs.size }).update s.heap.objs.size (Obj.putName name (PyData.keyHash w.params name) (.str name s.toks) v)),toks:=s.toks+1 }) :
  codeAny (model prog w) A (.call (.builtin "object.__setattr__") ⟨[.ref x,.str name tk,v],[]⟩) R s:=by
 refine osaK X I SC fun b=>?_
 refine xE13 SC.cls fun cd hc hhd _=>?_
 obtain ⟨hx,hcl,hn,hdd⟩:=I
 obtain ⟨oc,odi,oda,osl⟩:=ox
 dsimp only at hcl hd hdd
 subst hcl hd
 refine wpAny_bind (wpAny_pure (wpAny_bind (wpAny_bind (wpAny_loadPart hx (wpAny_bind ((looks_clsIn X hc).here ?_))))))
 refine rwE hhd ?_
 dsimp only
 refine rwE (if_neg (by decide)) (rwE (if_neg (by simp [typeHasDict])) ?_)
 have tail:wpAny (model prog w) A.in1 (do
   let d ← alloc { cls:=.type "dict",data:=.dict #[] }
   update x fun o=>{ o with dict:=some d }
   dictMade (.ref C) x d) (fun a s'=>wpAny (model prog w) A.in1 (match a with
    |some d=>storeInDict d (.str name tk) name v
    |none=>noDictFor (.ref x) (.ref C) name b) (fun fin s'=>match fin with | .done f=>R (.ok f) s' | .again c'=>c'.quiet=true∧codeAny (model prog w) A c' R s') (fun e s'=>R (.error e) s') s') (fun e s'=>R (.error e) s') s:=by
  have hx1:(s.heap.push { cls:=.type "dict",data:=.dict #[] }).get? x=some _:=Heap.get?_push_of_some _ hx
  have hxs:x≠s.heap.objs.size:=Nat.ne_of_lt (Heap.lt_size hx)
  refine wpAny_bind (wpAny_alloc (wpAny_bind (wpAny_update hx1 ?_)))
  refine wpAny_pure (a:=some s.heap.objs.size) ?_
  have hgd:((s.heap.push { cls:=.type "dict",data:=.dict #[] }).update x fun o=>{ cls:=o.cls,dict:=some s.heap.objs.size,data:=o.data,slots:=o.slots }).get? s.heap.objs.size
    = some (dictOf [] 0) :=
   (Heap.get?_update_ne _ _ _ _ hxs.symm).trans (Heap.get?_push_at rfl rfl)
  show wpAny _ _ (storeInDict _ (.str name tk) name v) _ _ _
  unfold storeInDict newKeyGuard
  refine wpAny_bind (wpAny_pure (wpAny_bind ?_))
  unfold nsSet
  refine wpAny_bind (wpAny_bind (wpAny_askSetting (wpAny_pure (wpAny_bind (wpAny_mkText (wpAny_bind (wpAny_loadPart hgd ?_)))))))
  dsimp only
  rw [aRefKeyMayBeTheName_at]
  have c:(!([]:List DictEntry).toArray.any (·.key.isStr name)&&([]:List DictEntry).toArray.any (·.refKey))=false:=by simp
  refine rwE c ?_
  have D':=Heap.get?_update_self (Obj.putName name (PyData.keyHash w.params name) (.str name s.toks) v) hgd (by rw [putName_dict];rfl)
  refine wpAny_updatePart hgd ?_
  refine wpAny_bind (wpAny_lookBehind D' (by rw [putName_dict];exact pastItsLine_dict (by refine rwE List.size_toArray (rwE sizeLine_eq ?_);simp [putL])) ?_)
  exact wpAny_pure h
 cases oda with
 |cls c=>cases hn
 |_=>exact tail
theorem set_first{ox:Obj}{name:Str}{v:Value}{Q:Unit→Shared→Prop}(X:K.In s.heap)(I:InstAt s.heap x ox C none)(hd:ox.dict=none)(SC:StOkC K C name)
  (h:Q () { s with heap:=(((s.heap.push { cls:=.type "dict",data:=.dict #[] }).update x fun o=>{ o with dict:=some s.heap.objs.size }).update s.heap.objs.size (Obj.putName name (PyData.keyHash w.params name) (.str name (s.toks+1)) v)),toks:=s.toks+2 }) :
  wpAny (model prog w) A (setAttr (.ref x) name v) Q E s :=
 set_plain X I SC.set (osa_first (s:={ s with toks:=s.toks+1 }) X I hd SC h)
end
end Bc
end
namespace Bc
section
variable{K:Frag}{w:World}{H0 h0:Heap}{fns:List DefRec}{mg mb:Str→Option Value}{fr outer:List Env}{prog:Program}{A:Around}{G G0 G1 G2 G':Gh}{st st' st1 st2 st3:Bc.St}{locs locs':List Loc}{s s1 s2 s':Shared}{env:Env}{h h' h1 h2:Heap}{P P':Addr→Prop}{n:Nat}{R:Rc}{cx:Cx}
 {φ:Gh→Heap→Prop} {b:Addr} {v:Value} {d:PV} {a:AV} {x:Str} {M:Model} {E:Value→Shared→Prop}
theorem isStr_beq(y x:Str)(t:Tok):Value.isStr (.str y t) x=(x==y):=by
 show (y==x)=(x==y)
 rw [Bool.eq_iff_iff,beq_iff_eq,beq_iff_eq];exact eq_comm
theorem getL_c{x y:Str}{t:Tok}{hs:Int}{v:Value}{es:List DictEntry}:getL x (⟨hs,.str y t,v⟩::es)=if (x==y)=true then some (some v) else getL x es:=by
 unfold getL
 rw [List.find?_cons,isStr_beq]
 cases x==y<;>rfl
theorem putA_y{f:Str × AV}{r:List (Str × AV)}(q:(x==f.1)=true):putA x a (f::r)=(f.1,a)::r:=if_pos q
theorem putA_n{f:Str × AV}{r:List (Str × AV)}(q:¬(x==f.1)=true):putA x a (f::r)=f::putA x a r:=if_neg q
theorem findFA{es:List DictEntry}{fs:List (Str × AV)}(r:RepFA K w G h es fs):(∀a,lookA x fs=some a→∃v,getL x es=some (some v)∧RepA K w G h v a)∧(lookA x fs=none→getL x es=some none) :=
 r.ind ⟨fun a e=>(nomatch e),fun z_=>rfl⟩ fun y t v a es fs r _ ih=>⟨fun b e=>iteE e (fun q e=>⟨v,getL_c.trans (if_pos q),Option.some.inj e▸r⟩) fun q e=>xE12 (ih.1 b e) fun u f1 f2=>⟨u,getL_c.trans ((if_neg q).trans f1),f2⟩,
  fun e=>iteE e (fun _ e=>nomatch e) fun q e=>getL_c.trans ((if_neg q).trans (ih.2 e))⟩
theorem getL_some{es:List DictEntry}{fs:List (Str × AV)}(r:RepFA K w G h es fs):(getL x es).isSome=true :=
 optE (lookA x fs) (fun q=>congrArg Option.isSome ((findFA r).2 q)) fun a q=>xE12 ((findFA r).1 a q) fun v e _=>congrArg Option.isSome e
theorem RepFA.length{es:List DictEntry}{fs:List (Str × AV)}(r:RepFA K w G h es fs):es.length=fs.length:=r.ind rfl fun _ _ _ _ _ _ _ _ q=>congrArg (·+1) q
theorem putFA{t:Tok}(rv:RepA K w G h v a){es:List DictEntry}{fs:List (Str × AV)}(r:RepFA K w G h es fs):RepFA K w G h (putL x (PyData.keyHash w.params x) (.str x t) v es) (putA x a fs) :=
 r.ind ⟨rfl,⟨t,rfl⟩,rv,trivial⟩ fun y t' u b es fs r rest ih=>by
  show RepFA K w G h (if Value.isStr (.str y t') x then _ else _) (if x==y then _ else _)
  rw [isStr_beq]
  cases x==y with
  |true=>exact ⟨rfl,⟨t',rfl⟩,rv,rest⟩
  |false=>exact ⟨rfl,⟨t',rfl⟩,r,ih⟩
theorem hasKeyA_len{fs:List (Str × AV)}(h:hasKeyA x fs=true):(putA x a fs).length=fs.length:=by
 induction fs with
 |nil=>exact nomatch h
 |cons f r ih =>
  refine if q:(x==f.1)=true then (congrArg List.length (putA_y q)).trans rfl else (congrArg List.length (putA_n q)).trans (congrArg (·+1) (ih ?_))
  exact (Bool.or_eq_true_iff.mp h).resolve_left q
theorem putA_len(fs:List (Str × AV)):(putA x a fs).length≤fs.length+1:=by
 induction fs with
 |nil=>exact Nat.le_refl _
 |cons f r ih=>exact if q:(x==f.1)=true then rwE (putA_y q) (Nat.le_succ _) else rwE (putA_n q) (Nat.succ_le_succ ih)
structure SetOk(K:Frag):Prop where
 st:∀c C x,clsA K c=some C→plainCls c=true→fieldNames.contains x=true→StOkC K C x
 msg:∀C,clsA K "Refusal" = some C→StOkC K C "message"
theorem field_ok{k:Nat}{p:Addr × Addr}{c:Str}{fs:List (Str × AV)}{Q:Unit→Shared→Prop}(X:K.In s.heap)(SO:SetOk K)(T:Rel K w H0 fr G st locs s.heap)(hp:G.ad[k]? = some p)(hc:st.cells[k]? = some (.inst c fs))(hx:fieldNames.contains x=true)(hpl:plainCls c=true)
  (ha:∀d,a≠.exn d) (hl:(putA x a fs).length≤10) (r:RepA K w G s.heap v a)
  (kk:∀s',Rel K w H0 fr G ⟨st.vars,st.cells.set k (.inst c (putA x a fs))⟩ locs s'.heap→Ext fr G s.heap G s'.heap None_→Sh s s'→Q () s') :
  wpAny (model prog w) A (setAttr (.ref p.1) x v) Q E s:=by
 obtain ⟨n1,n2,ne,C,es,nn,hC,g1,g2,rf,hz⟩:=T.cells k p _ hp hc
 refine set_put X ⟨g1,rfl,rfl,g2⟩ rfl (SO.st c C x hC hpl hx) (getL_some rf) (by omega) ?_
 have other:∀b,b≠p.2→(s.heap.update p.2 (Obj.putName x (PyData.keyHash w.params x) (.str x (s.toks+1)) v)).get? b=s.heap.get? b:=fun b hb=>Heap.get?_update_other _ _ (Ne.symm hb)
 have up:=Heap.get?_update_self (Obj.putName x (PyData.keyHash w.params x) (.str x (s.toks+1)) v) g2 (by rw [putName_dict];rfl)
 rw [putName_dict] at up
 have gr:Grow G s.heap G (s.heap.update p.2 (Obj.putName x (PyData.keyHash w.params x) (.str x (s.toks+1)) v)):=⟨fun c f=>⟨f,other c fun z=>n2 (z▸f)⟩,[],by simp⟩
 obtain ⟨T1,X1⟩:=T.setC (h':=s.heap.update p.2 (Obj.putName x (PyData.keyHash w.params x) (.str x (s.toks+1)) v)) (o':=.inst c (putA x a fs)) hp n1 n2 (fun b o e z_ ne2=>(other b ne2).trans e) ⟨⟨_,(other _ ne).trans g1⟩,⟨_,up⟩⟩
  ⟨n1,n2,ne,C,_,_,hC,(other _ ne).trans g1,up,putFA (RepA.mono gr r) (RepFA.mono gr rf),by
   have e1:=(putFA (x:=x) (t:=s.toks+1) r rf).length
   refine rwE e1 ?_;exact hl⟩
 exact kk _ T1 X1 (Sh.mk' s _ _)
theorem swap_attr{value:Expr}{o:Expr}{y:Str}{p:Pos}(line:Nat)(env:Env):swapsWith value (some (.Attribute o y p)) line env=pure false:=by cases value<;>rfl
theorem swap_sub{value:Expr}{o i:Expr}{p:Pos}(line:Nat)(env:Env):swapsWith value (some (.Subscript o i p)) line env=pure false:=by cases value<;>rfl
theorem setItem_at{l:Addr}{vs:List Value}{nn:Nat}{k:Int}{t:Tok}{Q:Unit→Shared→Prop}(g:s.heap.get? l=some { cls:=.type "list",data:=.seq vs.toArray nn })
  (h0:0≤k) (hfit:k < 2 ^ 63) (hn:k.toNat < vs.length)
  (hQ:Q () { s with heap:=s.heap.update l (Obj.mapSeq (·.setIfInBounds k.toNat v)) }) :
  wpAny (model prog w) A (setItem (.ref l) (.int k t) v) Q E s:=by
 have hl:=isListN g
 unfold setItem
 try with_reducible refine wpAny_holding ?_
 first | refine wpAny_bind (wpAny_pure ?_) | skip
 refine wpAny_bind (wpAny_sequenceKey hl.typeIs (by decide) ?_)
 refine wpAny_bind (wpAny_callSpecial?_slot (name:=Str.ofString "__setitem__") hl.typeIs slot_list_setitem
  (wpAny_call_entry slot_list_setitem hl.typeIs entry_list_setitem ?_ (args_list_setitem _ _ _)))
 show wpAny _ _ (Builtin.List.listSubscript? (.int k t) >>= _) _ _ s
 refine wpAny_bind (wpAny_listSubscript_int (fitsIndex_of h0 hfit) ?_)
 clear hfit
 obtain ⟨j,rfl⟩:=Int.eq_ofNat_of_zero_le h0
 have hj:j < vs.toArray.size:=by refine rwE List.size_toArray ?_;exact hn
 have hx':vs.toArray[j]? = some vs.toArray[j]:=Array.getElem?_eq_getElem hj
 show wpAny _ _ ((seqItemAt l j >>= fun r=>pure (r.map (j,·))) >>= _) _ _ s
 refine wpAny_bind (wpAny_bind (wpAny_seqItemAt g rfl (wpAny_pure ?_)))
 refine rwE hx' ?_
 show wpAny _ _ (setSeqItemAt l j v >>= _) _ _ s
 refine wpAny_bind (wpAny_setSeqItemAt g rfl ?_)
 first
  |exact wpAny_bind (wpAny_pure (wpAny_pure ⟨.none,rfl,wpAny_pure hQ⟩))
  |exact wpAny_pure ⟨.none,rfl,wpAny_pure hQ⟩
theorem item_ok{k:Nat}{p:Addr × Addr}{l:List PV}{j:Int}{t:Tok}{Q:Unit→Shared→Prop}(T:Rel K w H0 fr G st locs s.heap)(hp:G.ad[k]? = some p)(hc:st.cells[k]? = some (.lst l))(h0:0≤j)(h1:j < 100000)(hj:j.toNat < l.length)(r:Rep K w s.heap G.fz v d)
  (kk:∀s',Rel K w H0 fr G ⟨st.vars,st.cells.set k (.lst (l.set j.toNat d))⟩ locs s'.heap→Ext fr G s.heap G s'.heap None_→Sh s s'→Q () s') :
  wpAny (model prog w) A (setItem (.ref p.1) (.int j t) v) Q E s:=by
 obtain ⟨n1,e1,vs,nn,g,rl⟩:=T.cells k p _ hp hc
 refine setItem_at g h0 (by omega) (by refine rwE rl.length ?_;exact hj) ?_
 obtain ⟨T1,X1⟩:=turn_fin (f:=fun a=>a.setIfInBounds j.toNat v) (vs':=vs.set j.toNat v) T hp hc g (by simp) (rl.set j.toNat r)
 exact kk _ T1 X1 (Sh.mk' s _ s.toks)
theorem entry_ok{k:Nat}{p:Addr × Addr}{es:List (Str × PV)}{key:Str}{t:Tok}{Q:Unit→Shared→Prop}(T:Rel K w H0 fr G st locs s.heap)(hp:G.ad[k]? = some p)(hc:st.cells[k]? = some (.dct es))(hz:es.length≤100)(hn:nodupS (es.map (·.1))=true)(r:Rep K w s.heap G.fz v d)
  (kk:∀s',Rel K w H0 fr G ⟨st.vars,st.cells.set k (.dct (putA key d es))⟩ locs s'.heap→Ext fr G s.heap G s'.heap None_→Sh s s'→Q () s') :
  wpAny (model prog w) A (setItem (.ref p.1) (.str key t) v) Q E s:=by
 obtain ⟨n1,e1,hsm,des,nn,g,rl⟩:=T.cells k p _ hp hc
 refine xE12 (dictOf_to (prog:=prog) g rl (nodup_of hn)) fun kvs rk hd=>?_
 have hlen:kvs.length=es.length:=by have:=congrArg List.length rk.names;simpa using this
 refine wpAny_setItem_pairs (knd:=PySem.strKind prog w) (k:=key) (key:=.str key t) (by show (key==key)=true;simp) hd (fun h' hd' hs'=>?_) (by refine rwE hlen ?_;exact sizeOk (by omega))
 have other:∀b,b≠p.1→h'.get? b=s.heap.get? b:=fun b hb=>hs'.2 b hb
 have same:∀b,G.fz b→G.fz b∧h'.get? b=s.heap.get? b:=fun b f=>⟨f,other b fun z=>n1 (z▸f)⟩
 refine xE22 (dictOf_from hd' (stored_rep (Rep.mono same r) (RepK.mono same rk) (nodup_of hn))) fun es' n' g' r'=>?_
 obtain ⟨T1,X1⟩:=T.setC (h':=h') (o':=.dct (putA key d es)) hp n1 (e1▸n1) (fun b o e ne z_=>(other b ne).trans e) ⟨⟨_,g'⟩,by refine rwE e1 ?_;exact ⟨_,g'⟩⟩ ⟨n1,e1,hsm,es',n',g',r'⟩
 exact kk _ T1 X1 (Sh.mk' s h' _)
end
end Bc
namespace Bc
noncomputable def iv(fns:List DefRec)(cx:Cx)(e:Expr)(st:St):Option AV:=oo (ob (nameE e) fun x=>ob (evName fns cx x st) fun p=>some p.1) (ob (conK (ek e)) fun c=>ob (evConst c) fun d=>some (.pv d))
noncomputable def asgS(s:Stmt):Option (Expr × Str × Expr):=bif (sx s).1==1 then ob (unc (sx s).2.1) fun p=>ob (arg1 p.2) fun t=>ob (attrE t) fun q=>some (q.1,q.2.1,p.1) else Option.none
noncomputable def initRun(fns:List DefRec)(cx:Cx):List Stmt→St→Option St
 |[],st=>some st
 |s::r,st=>ob (asgS s) fun a=>ob (iv fns cx a.2.2 st) fun v=>ob (asPV v) fun d=>ob (nameE a.1) fun o=>ob (evName fns cx o st) fun q=>ob (asCell q.1) fun k=>ob (instAt st.cells k) fun c =>
  bif fieldNames.contains a.2.1&&plainCls c.1&&decide (c.2.length≤9) then initRun fns cx r ⟨st.vars,st.cells.set k (.inst c.1 (putA a.2.1 (.pv d) c.2))⟩ else Option.none
theorem sx_asg{s:Stmt}(h:((sx s).1==1)=true):∃ts v p,s=.Assign ts v p:=by
 cases s with
 |Assign=>exact ⟨_,_,_,rfl⟩
 |_=>exact cz2 h
theorem asgS_some{s:Stmt}{a:Expr × Str × Expr}(h:asgS s=some a):∃pa ps,s=.Assign [.Attribute a.1 a.2.1 pa] a.2.2 ps:=by
 refine bifT h fun h1 h=>?_
 refine xE31 (sx_asg h1) fun ts v p e=>?_
 subst e
 refine obE h fun q h2 h=>obE h fun t h3 h=>obE h fun x h4 h=>cz5 h ?_
 have h2:=Option.some.inj h2
 subst h2
 exact ⟨_,_,by refine rwE (show ts=[t] from arg1E h3) (rwE (show t=_ from attrE_some h4) rfl)⟩
theorem asCell_some{d:AV}{i:Nat}(h:asCell d=some i):d=.cell i:=by
 cases d with
 |cell k=>exact cz5 h rfl
 |_=>exact cz0 h
inductive MkRec(K:Frag)(c:Str)(body:List Stmt)(names:List (Str × NameKind))(nargs:Nat)(ns:List Str)(dflt:List Value):Prop
 |mk (C fI:Addr) (oc:Value) (od:Option Addr) (osl:Array (Option Value)) (fd:FuncData):gval K c=some (.ref C)→clsA K c=some C→makesIn K C=true→findIn K (.ref C) "__init__" = some (some (.ref fI))→typeIn K (.ref fI)=some (.type "function") →
  K.lookup fI=some ⟨oc,od,.func fd,osl⟩→fd.body=.stmts body→fd.scope.names=names→fd.globals=mainGlobals→fd.closure=[]→fd.builtins=builtinsNs→codeIn K fd.code fd.qualname=true →
  fd.scope.kind=.function→fd.scope.isCoroutine=false→fd.scope.isGenerator=false →
  (∀(s:Shared) (x:Value) (vs:List Value),vs.length=nargs→K.In s.heap→BindsTo s fd ⟨x::vs,[]⟩ (ns.zip (x::(vs++dflt))))→MkRec K c body names nargs ns dflt
section
variable{K:Frag}{w:World}{H0 h0:Heap}{fns:List DefRec}{mg mb:Str→Option Value}{fr outer:List Env}{prog:Program}{A:Around}{G G0 G1 G2 G':Gh}{st st' st1 st2 st3:Bc.St}{locs locs':List Loc}{s s1 s2 s':Shared}{env:Env}{h h' h1 h2:Heap}{P P':Addr→Prop}{n:Nat}{R:Rc}{cx:Cx}
 {φ:Gh→Heap→Prop} {b:Addr} {v:Value} {d:PV} {a:AV} {x:Str} {M:Model} {E:Value→Shared→Prop}
theorem iv_ok(D:Wd K w H0 fns mg mb){e:Expr}(q:iv fns cx e st=some a)(H:Here K w H0 n cx st A fr env G locs s):W K w H0 fr prog A (eval e env) G st locs s fun v G' h'=>RepA K w G' h' v a :=
 ooE q (fun q=>obE q fun x hx q=>obE2 q fun b st1 h1 q=>cz5 q (by
  refine xE11 (nameE_some hx) fun p e=>?_
  obtain ⟨e1,w1⟩:=ev_name (p:=p) (prog:=prog) (A:=A) D h1 H.E H.T
  refine rwE e (rwB e1 ?_);exact w1)) fun q=>obE q fun c hc q=>obE q fun d hd q=>cz5 q (by
  refine xE21 (conE_some hc) fun k p e=>?_
  refine rwE e ?_;exact ev_const hd H.T)
theorem initRun_ok(D:Wd K w H0 fns mg mb)(SO:SetOk K){body:List Stmt}:∀{st st':Bc.St} {G:Gh} {s:Shared},initRun fns cx body st=some st'→Here K w H0 n cx st A (env::outer) env G locs s →
  wpAny (model prog w) A (execs body env) (StOk K w H0 (env::outer) G s st' locs .next) (StExc K w H0 (env::outer) G s st' locs .next) s:=by
 induction body with
 |nil=>exact fun q H=>Option.some.inj q▸wpAny_execs_nil ⟨_,H.T,Ext.refl ..,Sh.refl _,trivial⟩
 |cons stm r ih =>
  intro st st' G s q H
  refine obE q fun a h1 q1=>obE q1 fun av h2 q2=>obE q2 fun d h3 q3=>obE q3 fun o h4 q4=>obE2 q4 fun cv st0 h5 q5=>obE q5 fun k h6 q6=>obE q6 fun c h7 q7=>bifT q7 fun hcond q8=>?_
  clear q q1 q2 q3 q4 q5 q6 q7
  refine xE21 (asgS_some h1) fun pa ps e1=>xE11 (nameE_some h4) fun po e2=>?_
  refine rwE e1 (rwE e2 ?_)
  clear e1 e2 h1 h4
  have h3:=asPVE h3
  have h6:=asCell_some h6
  subst h3 h6
  simp only [Bool.and_eq_true,decide_eq_true_eq] at hcond
  refine wpAny_execs_cons (plainObj_wpAny_Assign_Attribute (hs:=swap_attr _ _) (W.then (iv_ok D h2 H) fun v G1 s1 T1 X1 S1 r1=>?_))
  obtain ⟨e2,w2⟩:=ev_name (p:=po) (prog:=prog) (A:=A) D h5 H.E T1
  refine W.then w2 fun u G2 s2 T2 X2 S2 r2=>?_
  subst e2
  refine xE12 r2 fun p hp e_2=>?_;refine Bc.rwE e_2 ?_
  refine field_ok (a:=.pv d) (D.kin.keeps T2.keep0) SO T2 hp (instAt_some h7) hcond.1.1 hcond.1.2 (fun d z=>by cases z) (Nat.le_trans (putA_len (x:=a.2.1) (a:=.pv d) c.2) (Nat.succ_le_succ hcond.2)) (RepA.mono X2.grow r1) fun s3 T3 X3 S3=>?_
  have X:=(X1.trans X2).trans X3
  have S:=(S1.trans S2).trans S3
  exact wpAny_mono (ih q8 (H.next rfl T3)) (fun z_ z_ z=>z.comp X.none S) fun z_ z_ z=>z.comp X.none S
set_option tactic.hygienic true in
theorem mk_ok{c:Str}{body:List Stmt}{names:List (Str × NameKind)}{ns:List Str}{dflt:List Value}{vs:List Value}{ds dd:List PV}{fs:List (Str × AV)}{f:Value}{vars1:Vars}(D:Wd K w H0 fns mg mb)(SO:SetOk K)
  (MK:MkRec K c body names ds.length ns dflt) (hg:gval K c=some f) (hnn:ns.Nodup) (hlen:ns.length=1+ds.length+dflt.length) (hdd:∀h fz,RepL K w h fz dflt dd)
  (hgood:goodVars names ((frV names (ns.zip (some (AV.cell 0)::(ds++dd).map fun d=>some (AV.pv d)))).map (·.1))=true)
  (hrun:initRun fns ⟨names,true⟩ body ⟨frV names (ns.zip (some (AV.cell 0)::(ds++dd).map fun d=>some (AV.pv d))),[.inst c []]⟩=some ⟨vars1,[.inst c fs]⟩) (hflat:flatMO (.inst c fs)=true)
  (rm:Room A 1) (hh:A.handled=none) (hf:A.frames=some fr) (T:Rel K w H0 fr G st locs s.heap) (r:RepL K w s.heap G.fz vs ds) :
  W K w H0 fr prog A (call f vs) G ⟨st.vars,st.cells++[.inst c fs]⟩ locs s fun v G' h'=>RepA K w G' h' v (.cell st.cells.length):=by
 obtain ⟨C,fI,oc,od,osl,fd,hg',hcl,hmk,hfi,hty,hK,hbody,hsc,hgl,hclo,hbi,hcode,hk,hco,hgen,hbind⟩:=MK
 rw [hg] at hg';refine Bc.rwE (Option.some.inj hg') ?_
 have X0:=D.kin.keeps T.keep0
 obtain ⟨hp,g,dr,tk,os⟩:=s
 refine wpAny_call (make_core (makes_of X0 hmk) (looks_findIn X0 hfi) (fun self=>bind_fn X0 self hty) (.inl rfl) ?_)
 have hn1:=sizeNone hp
 dsimp only at T r X0
 generalize hh2:(hp.push emptyDict).push (instObj C hp.objs.size)=h2
 have keep:∀b o,hp.get? b=some o→h2.get? b=some o:=fun b o e=>hh2▸Heap.get?_push_of_some _ (Heap.get?_push_of_some _ e)
 have g1:h2.get? (hp.objs.size+1)=some (instObj C hp.objs.size):=by refine rwB hh2 ?_;heap_get
 have g2:h2.get? hp.objs.size=some emptyDict:=by refine rwB hh2 ?_;heap_get
 have hn2:hp.get? (hp.objs.size+1)=none:=Heap.get?_none_of_le (Nat.le_succ _)
 obtain ⟨T1,X1⟩:=T.keepAll keep
 refine xE04 (T.sizeNot hn1) fun a1 a2 a3 a4=>?_
 refine xE04 (T.sizeNot hn2) fun b1 b2 b3 b4=>?_
 have T2:Rel K w H0 fr ⟨G.fz,G.ad++[(hp.objs.size+1,hp.objs.size)]⟩ ⟨st.vars,st.cells++[.inst c []]⟩ locs h2 :=
  T1.addC (p:=(hp.objs.size+1,hp.objs.size)) (o:=.inst c []) ⟨_,g1⟩ ⟨_,g2⟩ ⟨b2,b3,b4⟩ ⟨a2,a3,a4⟩ ⟨b1,a1,(Nat.succ_ne_self _),C,[],0,hcl,g1,g2,trivial,by simp⟩
 have X2:Ext fr G hp ⟨G.fz,G.ad++[(hp.objs.size+1,hp.objs.size)]⟩ h2 None_ :=
  ⟨X1.fz,X1.keep,X1.nofz,⟨_,rfl,fun p hp'=>by refine rwE (List.mem_singleton.mp hp') ?_;exact ⟨hn2,hn1⟩⟩,X1.live⟩
 have hkl:G.ad.length=st.cells.length:=T.len
 have same:∀b,G.fz b→G.fz b∧h2.get? b=hp.get? b:=X1.fz
 have ra:RepAL K w ⟨G.fz,G.ad++[(hp.objs.size+1,hp.objs.size)]⟩ h2 (.ref (hp.objs.size+1)::(vs++dflt)) (.cell st.cells.length::(ds++dd).map AV.pv):=by
  refine .cons ⟨(hp.objs.size+1,hp.objs.size),?_,rfl⟩ ?_
  ·show (G.ad++[_])[st.cells.length]? = _
   refine rwB hkl ?_;simp
  ·have rr:=(RepL.mono same r).append (hdd h2 G.fz)
   have key:∀{us:List Value} {es:List PV},RepL K w h2 G.fz us es→RepAL K w ⟨G.fz,G.ad++[(hp.objs.size+1,hp.objs.size)]⟩ h2 us (es.map AV.pv):=by
    intro us es rr
    induction us generalizing es with
    |nil=>cases rr;exact .nil
    |cons u us ih=>cases rr with | cons q rr=>exact .cons q (ih rr)
   exact key rr
 have hac:aCs (AV.cell st.cells.length::(ds++dd).map AV.pv)=[st.cells.length]:=by
  have key:∀es:List PV,aCs (es.map AV.pv)=[]:=by
   intro es
   induction es with
   |nil=>rfl
   |cons e es ih=>exact ih
  show st.cells.length::aCs _=_
  rw [key]
 have hvl:(Value.ref (hp.objs.size+1)::(vs++dflt)).length=ns.length:=by
  have:=r.length
  simp only [List.length_cons,List.length_append];omega
 have hins:takeMO (st.cells++[.inst c []]) [st.cells.length]=some [.inst c []]:=by
  have:(st.cells++[MO.inst c []])[st.cells.length]? = some (.inst c []):=by simp
  unfold takeMO;refine rwE this ?_;rfl
 have hput:putMO [st.cells.length] [.inst c fs] (st.cells++[.inst c []])=some (st.cells++[.inst c fs]):=by
  show (bif flatMO (MO.inst c fs)||isDead (MO.inst c fs) then some ((st.cells++[MO.inst c []]).set st.cells.length (MO.inst c fs)) else none)=_
  refine rwE hflat ?_
  simp
 have hpr:∀e∈ns.zip (some (AV.cell 0)::(ds++dd).map fun d=>some (AV.pv d)),∃a v,e.2=some a∧(e.1,v)∈ns.zip (.ref (hp.objs.size+1)::(vs++dflt))∧RepA K w (subG ⟨G.fz,G.ad++[(hp.objs.size+1,hp.objs.size)]⟩ (aCs (AV.cell st.cells.length::(ds++dd).map AV.pv))) h2 v a:=by
  have ra':=renum_rep (pre:=[]) (ks:=aCs (AV.cell st.cells.length::(ds++dd).map AV.pv)) ra rfl
  have hren:renum 0 (AV.cell st.cells.length::(ds++dd).map AV.pv)=(some (AV.cell 0)::(ds++dd).map fun d=>some (AV.pv d)).filterMap id:=by
   have key:∀(es:List PV) i,renum i (es.map AV.pv)=(es.map fun d=>some (AV.pv d)).filterMap id:=by
    intro es
    induction es with
    |nil=>intro i;rfl
    |cons e es ih=>intro i;show AV.pv e::renum i _=_;rw [ih];rfl
   show AV.cell 0::renum 1 _=_
   rw [key];rfl
  change RepAL _ _ _ _ _ (renum 0 _) at ra'
  rw [hren] at ra'
  have key:∀(ns:List Str) (us:List Value) (os:List (Option AV)) (G:Gh),(∀o∈os,∃a,o=some a)→RepAL K w G h2 us (os.filterMap id)→∀e∈ns.zip os,∃a v,e.2=some a∧(e.1,v)∈ns.zip us∧RepA K w G h2 v a:=by
   intro ns
   induction ns with
   |nil=>intro us os G _ _ e he;simp at he
   |cons y ns ih =>
    intro us os G ho rr e he
    cases os with
    |nil=>simp at he
    |cons o os =>
     obtain ⟨a,rfl⟩:=ho o (List.mem_cons_self ..)
     cases rr with
     |cons q rr =>
      rcases List.mem_cons.mp he with rfl | he
      ·exact ⟨a,_,rfl,List.mem_cons_self ..,q⟩
      ·refine xE23 (ih _ os G (fun o h=>ho o (List.mem_cons_of_mem _ h)) rr e he) fun a' v' z1 z2 z3=>?_
       exact ⟨a',v',z1,List.mem_cons_of_mem _ z2,z3⟩
  exact key ns _ _ _ (fun o ho=>by
   rcases List.mem_cons.mp ho with rfl | ho
   ·exact ⟨_,rfl⟩
   ·obtain ⟨d,_,rfl⟩:=List.mem_map.mp ho;exact ⟨_,rfl⟩) ra'
 have fin:=frame_ok (n:=0) (prog:=prog) (w:=w) (A:=A.under (.builtin "type.__call__" ⟨.ref C::vs,[]⟩)) (fr:=fr) (H0:=H0) (G:=⟨G.fz,G.ad++[(hp.objs.size+1,hp.objs.size)]⟩) (locs:=locs) (vars:=st.vars) (s:=⟨h2,g,dr,tk,os⟩)
  (as:=AV.cell st.cells.length::(ds++dd).map AV.pv) (vals:=.ref (hp.objs.size+1)::vs) (vs:=.ref (hp.objs.size+1)::(vs++dflt)) (fl:=.next) (r:=.ok (.pv .none)) (cs:=st.cells++[.inst c []]) (cs':=st.cells++[.inst c fs]) (ins:=[.inst c []]) (outs:=[.inst c fs]) (st2:=⟨vars1,[.inst c fs]⟩)
  (ps:=ns.zip (some (AV.cell 0)::(ds++dd).map fun d=>some (AV.pv d)))
  (D.nolimit.keeps fun b o e=>keep b o (T.base b o e).2) (X0.keeps keep) hK hbody hsc hgl hclo hbi hcode hk hco hgen hnn (by
   have hd:dd.length=dflt.length:=((hdd h2 G.fz).length).symm
   rw [List.map_fst_zip]
   simp only [List.length_cons,List.length_map,List.length_append];omega) hvl hpr (hbind _ _ vs r.length (X0.keeps keep)) (by refine rwE hac ?_;simp) (by refine rwE hac ?_;exact hins) (by refine rwE hac ?_;exact hput) hgood rfl (.inr (.inl ⟨rfl,rfl⟩))
  (fun HH=>initRun_ok D SO hrun HH) (fun env=>⟨by have:=rm.depth;show A.depth+1+1+2 * 0≤940;omega,by have:=rm.units;show A.units+(1+3 * 0)+3+16 * 0≤9000;omega⟩) hh (by
   unfold Around.under
   dsimp only
   rw [pushEnvs_eq,hf];rfl) T2 (by
   refine rwE hac ?_;intro k hk';refine rwE (List.mem_singleton.mp hk') (rwB hkl ?_);simp)
 refine codeAny_mono fin fun rr s3 z=>?_
 cases rr with
 |error e=>obtain ⟨d,q,_⟩:=z;cases q
 |ok fl =>
  cases fl<;>first | exact z.elim | skip
  obtain ⟨a,q,G3,T3,X3,S3,r3⟩:=z
  cases q
  rename_i v3
  refine ⟨rep_none r3,G3,T3,X2.trans X3,(Sh.mk' ⟨hp,g,dr,tk,os⟩ h2 tk).trans S3,(hp.objs.size+1,hp.objs.size),?_,rfl⟩
  refine X3.grow.at ?_
  show (G.ad++[_])[st.cells.length]? = _
  refine rwB hkl ?_;simp
end
end Bc
namespace Bc
noncomputable abbrev excMro:List Value:=[.type "Exception",.type "BaseException",.type "object"]
structure RefRec(K:Frag):Prop where
 h:∀{P:Prop},(∀(C Cv fI N:Addr) (nm q:Str) (bs:List Value) (sn:List Str) (sub:List Value) (ab:Bool) (col:Option Bool) (dd:Option Addr) (k0 k1 k2 k3 k5:Option Value) (od:Option Addr) (osl:Array (Option Value)) (fd:FuncData) (p1 p2 p3 p4:Pos),
  gval K "Refusal" = some (.ref C)→clsA K "Refusal" = some C→K.lookup C=some (excClassObj nm q C N bs (.ref Cv::excMro) true sn sub ab col dd k0 k1 k2 k3 k5 "Exception.__new__") →
  (∀h:Heap,K.In h→OwnTail h excMro (.ref Cv::excMro))→(∀h:Heap,K.In h→∃mN,h.Ns N mN∧mN "__init__" = some (.ref fI)) →
  K.lookup fI=some ⟨.type "function",od,.func fd,osl⟩→fd.body=.stmts [.Assign [.Attribute (.Name "self" p1) "message" p2] (.Name "message" p3) p4]→fd.closure=[]→codeIn K fd.code fd.qualname=true →
  fd.scope.kind=.function→fd.scope.isCoroutine=false→fd.scope.isGenerator=false→fd.scope.names.lookup ("self" : Str)=some .local→fd.scope.names.lookup ("message" : Str)=some .local →
  (∀(s:Shared) (x v:Value),K.In s.heap→BindsTo s fd ⟨[x,v],[]⟩ [("self",x),("message",v)])→P)→P
section
variable{prog:Program}{w:World}{A:Around}{E:Value→Shared→Prop}{h:Heap}{g:Array GenState}{d:Drawn}{t:Nat}{os:OsState}
variable{nm q:Str}{C N:Addr}{bs bm bmB:List Value}{hdct:Bool}{sn:List Str}{sub:List Value}{ab:Bool}{col:Option Bool}{dd:Option Addr}{k0 k1 k2 k3 k5:Option Value}{B newId initId:String}
theorem exc_type_call(F:ExcBaseFacts B newId initId bmB)(T:OwnTail h bmB bm){mN:Str→Option Value}{rest:List Value}{fI:Addr}{oI:Obj}{Q:Fin→Shared→Prop}
  (hC:h.get? C=some (excClassObj nm q C N bs bm hdct sn sub ab col dd k0 k1 k2 k3 k5 newId)) (hn:h.Ns N mN) (hi:mN "__init__" = some (.ref fI))
  (hfI:h.get? fI=some oI) (hfc:oI.cls=.type "function")
  (hq:∀h' e,Heap.MadeExcOf h h' e (.ref C) rest →
   wpAny (model prog w) A (call (.ref fI) (.ref e::rest)) (fun r s'=>r=.none∧Q (.done (.ret (.ref e))) s') E ⟨h',g,d,t,os⟩) (hrest:rest.length≤sizeLine) :
  wpAny (model prog w) A (Builtin.«type.__call__» ⟨.ref C::rest,[]⟩) Q E ⟨h,g,d,t,os⟩:=by
 repeat (first | with_reducible refine wpAny_loadPart_at hC ?_ | with_reducible refine wpAny_madeBy_exc hC ?_ | wp_step)
 refine codeAny_call_builtin_code (Code.quiet_builtin _ F.quiet) (wpAny_check_new_subT F T hC ?_)
 refine codeAny_exc_new_subT F T hC ?_ hrest
 show wpAny _ _ _ _ _ _
 have hC₁:=Heap.get?_push_of_some { cls:=.ref C,data:=.fields #[.ref h.objs.size,.none,.none,.none,.bool false,.none] }
  (Heap.get?_push_of_some { cls:=.type "tuple",data:=.seq rest.toArray } hC)
 have hfI₁:=Heap.get?_push_of_some { cls:=.ref C,data:=.fields #[.ref h.objs.size,.none,.none,.none,.bool false,.none] }
  (Heap.get?_push_of_some { cls:=.type "tuple",data:=.seq rest.toArray } hfI)
 have hn₁:((h.push { cls:=.type "tuple",data:=.seq rest.toArray }).push { cls:=.ref C,data:=.fields #[.ref h.objs.size,.none,.none,.none,.bool false,.none] }).Ns N mN :=
  let ⟨o,es,ep,e,r⟩:=hn;⟨o,es,ep,Heap.get?_push_of_some _ (Heap.get?_push_of_some _ e),r⟩
 have hget:((h.push { cls:=.type "tuple",data:=.seq rest.toArray }).push
   { cls:=.ref C,data:=.fields #[.ref h.objs.size,.none,.none,.none,.bool false,.none] }).get? (h.objs.size+1)=some
   { cls:=.ref C,data:=.fields #[.ref h.objs.size,.none,.none,.none,.bool false,.none] }:=by heap_get
 have hcC:(Value.ref C::bm).contains (.ref C)=true:=by simp
 have T₁:=T.keeps (h':=(h.push { cls:=.type "tuple",data:=.seq rest.toArray }).push { cls:=.ref C,data:=.fields #[.ref h.objs.size,.none,.none,.none,.bool false,.none] })
  fun b o e=>Heap.get?_push_of_some _ (Heap.get?_push_of_some _ e)
 unfold isInstance
 repeat (first | with_reducible refine wpAny_loadPart_at hget ?_ | (with_reducible refine wpAny_isSubtype_exc hC₁ ?_;refine rwE hcC ?_) | wp_step)
 show wpAny _ _ (typeLookup (.ref C) _) _ _ _
 refine wpAny_typeLookup_tail hC₁ hn₁ T₁ F.mroIs F.init.lookup ?_
 refine rwE hi ?_
 refine wpAny_holding (wpAny_bind ?_)
 unfold bindSpecial
 refine wpAny_bind (wpAny_typeOf (T:="function") ⟨_,hfI₁,hfc⟩ ?_)
 refine rwE (if_pos (by decide)) ?_
 refine wpAny_pure (wpAny_bind (wpAny_mono (hq _ (h.objs.size+1) ⟨fun b o hb=>Heap.get?_push_of_some _ (Heap.get?_push_of_some _ hb),Heap.get?_none_of_le (Nat.le_succ _),h.objs.size,hget,Heap.get?_none_of_le (Nat.le_refl _),?_⟩) (fun r s' hr=>?_) fun _ _ x=>x))
 ·exact Heap.get?_push_of_some _ (Heap.get?_push_at rfl rfl)
 ·obtain ⟨rfl,hQ⟩:=hr
  wp_walk
  exact hQ
theorem exc_call(F:ExcBaseFacts B newId initId bmB)(T:OwnTail h bmB bm){mN:Str→Option Value}{rest:List Value}{fI:Addr}{oI:Obj}{Q:Value→Shared→Prop}
  (hC:h.get? C=some (excClassObj nm q C N bs bm hdct sn sub ab col dd k0 k1 k2 k3 k5 newId)) (hn:h.Ns N mN) (hi:mN "__init__" = some (.ref fI))
  (hfI:h.get? fI=some oI) (hfc:oI.cls=.type "function")
  (hq:∀h' e,Heap.MadeExcOf h h' e (.ref C) rest →
   wpAny (model prog w) (A.under (.builtin "type.__call__" ⟨.ref C::rest,[]⟩)) (call (.ref fI) (.ref e::rest)) (fun r s'=>r=.none∧Q (.ref e) s') E ⟨h',g,d,t,os⟩) (hrest:rest.length≤sizeLine) :
  wpAny (model prog w) A (call (.ref C) rest) Q E ⟨h,g,d,t,os⟩:=by
 have f1:=tc_lookup
 have f2:=tc_bind (.ref C)
 have hT:(⟨h,g,d,t,os⟩:Shared).TypeIs (.ref C) "type":=⟨_,hC,rfl⟩
 refine wpAny_call (codeAny_of_tree ?_)
 show wpAny _ _ (callAny (.ref C) _) _ _ _
 repeat (any_goals (first | assumption | with_reducible refine wpAny_loadPart_at hC ?_ | wp_step))
 refine ⟨rfl,?_⟩
 refine codeAny_call_builtin_at (Code.quiet_builtin _ (by decide +kernel)) entry_typeCall (wpAny_check_type_call_sub hC (exc_type_call (hrest:=hrest) F T hC hn hi hfI hfc fun h' e hm=>?_))
 exact hq h' e hm
theorem exc_raise{s:Shared}{env:Env}{x:Sem Value}{Q:Flow→Shared→Prop}(hbase:bm.contains (.type "BaseException")=true)(hh:A.handled=none)
  (h:wpAny (model prog w) A x (fun v s₁=>∃e t dx sl,v=.ref e∧s₁.heap.get? C=some (excClassObj nm q C N bs bm hdct sn sub ab col dd k0 k1 k2 k3 k5 newId) ∧
   s₁.heap.get? e=some { cls:=.ref C,dict:=dx,data:=.fields #[.ref t,.none,.none,.none,.bool false,.none],slots:=sl }∧E (.ref e) s₁) E s) :
  wpAny (model prog w) A (raiseStmt env (some x) none) Q E s:=by
 have hcB:(Value.ref C::bm).contains (.type "BaseException")=true:=by rw [List.contains_cons,hbase,Bool.or_true]
 unfold raiseStmt
 refine wpAny_bind (wpAny_mono h (fun v s₁ h₁=>?_) fun _ _ x=>x)
 refine xE44 h₁ fun e t dx sl e_4 hC he hE=>?_;refine Bc.rwE e_4 ?_
 obtain ⟨hp,g,d,tk,os⟩:=s₁
 repeat (first | with_reducible refine wpAny_loadPart_at he ?_ | with_reducible refine wpAny_loadPart_at hC ?_ | (with_reducible refine wpAny_isSubtype_exc hC ?_;rw [hcB]) | wp_step)
 exact wpAny_raiseNew_none hh hE
end
section
variable{K:Frag}{w:World}{H0 h0:Heap}{fns:List DefRec}{mg mb:Str→Option Value}{fr outer:List Env}{prog:Program}{A:Around}{G G0 G1 G2 G':Gh}{st st' st1 st2 st3:Bc.St}{locs locs':List Loc}{s s1 s2 s':Shared}{env:Env}{h h' h1 h2:Heap}{P P':Addr→Prop}{n:Nat}{R:Rc}{cx:Cx}
 {φ:Gh→Heap→Prop} {b:Addr} {v:Value} {d:PV} {a:AV} {x:Str} {M:Model} {E:Value→Shared→Prop}
structure ExcMade(s s':Shared)(e C:Addr)(v:Value):Prop where
 keep:∀b o,s.heap.get? b=some o→s'.heap.get? b=some o
 new:s.heap.get? e=none
 sh:Sh s s'
 obj:∃dx od sl t,s'.heap.get? e=some { cls:=.ref C,dict:=some dx,data:=.fields #[.ref t,.none,.none,.none,.bool false,.none],slots:=sl }∧s.heap.get? dx=none∧dx≠e∧s'.heap.get? dx=some od∧lookIn ("message" : Str) od=some (some v)
theorem exc_make(RF:RefRec K)(SO:SetOk K){C:Addr}(hg:gval K "Refusal" = some (.ref C))(X:K.In s.heap)(hlim:s.heap.NoLimit)(hd:A.depth+3 < 1000) :
  wpAny (model prog w) A (call (.ref C) [v]) (fun r s'=>∃e,r=.ref e∧ExcMade s s' e C v) (fun _ _=>False) s:=by
 refine RF.h fun C' Cv fI N nm q bs sn sub ab col dd k0 k1 k2 k3 k5 od osl fd p1 p2 p3 p4 hg' hcl hC hT hN hfI hbody hclo hcode hk hco hgen hself hmsg hbind=>?_
 rw [hg] at hg';cases (hg')
 obtain ⟨hp,g,dr,tk,os⟩:=s
 refine xE12 (hN _ X) fun mN hn hi=>?_
 refine exc_call PySem.F.excBase_Exception (hT _ X) (X _ _ hC) hn hi (X _ _ hfI) rfl (fun h1 e hm=>?_) (by refine rwE sizeLine_eq ?_;simp)
 have X1:K.In h1:=X.keeps hm.keeps
 have hds:(A.under (.builtin "type.__call__" ⟨[.ref C,v],[]⟩)).depth=A.depth+1:=rfl
 have kd:∀y,Env.kindOf (callEnvC fd h1.objs.size fI) y=fd.scope.names.lookup y:=fun y=>rfl
 have bn:([(("self" : Str),Value.ref e),(("message" : Str),v)].map (·.1)).Nodup:=(by decide:([("self" : Str),("message" : Str)]).Nodup)
 refine wpAny_call (codeAny_call_fn (s:=⟨h1,g,dr,tk,os⟩) (body:=_) (binds:=[("self",.ref e),("message",v)]) (by refine rwE hds ?_;show A.depth+1 < 1000;omega) (X1 _ _ hfI) rfl (hlim.keeps hm.keeps) (codeRec_of X1 hcode) hbody (hbind _ _ _ X1) hclo (fun y hy=>?_) (fun s2 C2=>?_) hco hgen hk)
 ·rcases List.mem_cons.mp hy with rfl | hy
  ·exact .inl hself
  ·refine rwE (List.mem_singleton.mp hy) ?_;exact .inl hmsg
 ·refine xE21 C2.toInCall.same fun h2 tk2 e_2=>?_;subst e_2
  have keep2:=C2.toInCall.keep
  dsimp only at keep2
  refine wpAny_execs_cons (plainObj_wpAny_Assign_Attribute (hs:=swap_attr _ _) (NameLC C2 hk ((kd _).trans hmsg) (bindL_mem (v:=v) ((kd _).trans hmsg) bn (by simp)) (NameLC C2 hk ((kd _).trans hself) (bindL_mem (v:=.ref e) ((kd _).trans hself) bn (by simp)) ?_ (by decide)) (by decide)))
  refine xE13 hm.there fun t he ht0 ht=>?_
  have he2:=keep2 _ _ he
  refine set_first (s:={ (⟨h1,g,dr,tk,os⟩:Shared) with heap:=h2,toks:=tk2 }) (X1.keeps keep2) ⟨he2,rfl,rfl,trivial⟩ rfl (SO.msg C hcl) (wpAny_execs_nil ⟨rfl,e,rfl,?_⟩)
  have ed:e≠h2.objs.size:=Nat.ne_of_lt (Heap.lt_size he2)
  have hnew:∀b,hp.get? b=none→∀b',hp.get? b'≠none→b'≠b:=fun b hb b' hb' z=>hb' (z▸hb)
  have n2:hp.get? h2.objs.size=none:=by
   cases q:hp.get? h2.objs.size with
   |none=>rfl
   |some o=>exact absurd (Heap.lt_size (keep2 _ _ (hm.keeps _ _ q))) (Nat.lt_irrefl _)
  have g1:((h2.push { cls:=.type "dict",data:=.dict #[] }).update e fun o=>{ o with dict:=some h2.objs.size }).get? h2.objs.size=some (dictOf [] 0) :=
   (Heap.get?_update_ne _ _ _ _ (Ne.symm ed)).trans (Heap.get?_push_at rfl rfl)
  have g2:=Heap.get?_update_self (Obj.putName ("message" : Str) (PyData.keyHash w.params "message") (.str "message" (tk2+1)) v) g1 (by rw [putName_dict];rfl)
  have g3:((h2.push { cls:=.type "dict",data:=.dict #[] }).update e fun o=>{ o with dict:=some h2.objs.size }).get? e=some { cls:=.ref C,dict:=some h2.objs.size,data:=.fields #[.ref t,.none,.none,.none,.bool false,.none] } :=
   Heap.get?_update_self _ (Heap.get?_push_of_some _ he2) rfl
  refine ⟨fun b o eb=>?_,hm.new,⟨_,_,rfl⟩,h2.objs.size,_,_,t,(Heap.get?_update_ne _ _ _ _ ed).trans g3,n2,Ne.symm ed,g2,?_⟩
  ·have b1:b≠e:=fun z=>by rw [z,hm.new] at eb;cases eb
   have b2:b≠h2.objs.size:=fun z=>by rw [z,n2] at eb;cases eb
   exact (Heap.get?_update_ne _ _ _ _ b2).trans ((Heap.get?_update_ne _ _ _ _ b1).trans (Heap.get?_push_of_some _ (keep2 _ _ (hm.keeps _ _ eb))))
  ·rw [putName_dict,lookIn_dict]
   unfold getL putL
   refine rwE (List.find?_cons) ?_
   dsimp only
   rw [isStr_beq,beq_self_eq_true]
theorem raise_ok(RF:RefRec K)(SO:SetOk K)(D:Wd K w H0 fns mg mb){np cp pos:Pos}{e:Expr}{m:Str}(IE:SndE prog K w H0 fns n R)(hs:isS e=false)(hq:cx.names.lookup ("Refusal" : Str)=some .globalImplicit)(h1:evP R cx e st=some (.str m,st1))(hh:A.handled=none)
  (H:Here K w H0 n cx st A (env::outer) env G locs s) :
  wpAny (model prog w) A (exec (.Raise (some (.Call (.Name "Refusal" np) [e] [] cp)) none pos) env) (StOk K w H0 (env::outer) G s st1 locs (.exc (.str m))) (StExc K w H0 (env::outer) G s st1 locs (.exc (.str m))) s:=by
 refine RF.h fun C Cv fI N nm q bs sn sub ab col dd k0 k1 k2 k3 k5 od osl fd p1 p2 p3 p4 hg hcl hC hT _ _ _ _ _ _ _ _ _ _ _=>?_
 obtain ⟨v1,w1⟩:=evP_here IE h1
 have hbase:(Value.ref Cv::excMro).contains (.type "BaseException")=true:=(hT _ (D.kin.keeps H.T.keep0)).hasType (by decide)
 have kd:env.kindOf ("Refusal" : Str)=some .globalImplicit:=by unfold Env.kindOf;refine rwE H.E.names ?_;exact hq
 rw [arm_exec_Raise]
 have made:wpAny (model prog w) A (eval (.Call (.Name "Refusal" np) [e] [] cp) env) (fun v s₁=>∃ea t dx sl,v=.ref ea∧s₁.heap.get? C=some (excClassObj nm q C N bs (.ref Cv::excMro) true sn sub ab col dd k0 k1 k2 k3 k5 "Exception.__new__") ∧
   s₁.heap.get? ea=some { cls:=.ref C,dict:=dx,data:=.fields #[.ref t,.none,.none,.none,.bool false,.none],slots:=sl }∧StExc K w H0 (env::outer) G s st1 locs (.exc (.str m)) (.ref ea) s₁) (StExc K w H0 (env::outer) G s st1 locs (.exc (.str m))) s:=by
  refine wpAny_Call_ofName (Name_function_global H.E.kind kd (W.then (load_glob D H.E H.T hg) fun f G1 s1 T1 X1 S1 z=>?_) (by decide))
  obtain ⟨rfl,_⟩:=z
  unfold callWith
  have hpl:=(starEach_plain (env:=env) (pos:=cp) (es:=[e]) (by refine rwE List.any_cons (rwE hs ?_);rfl)).1
  refine wpAny_bind (wpAny_holding (evalArgs_any hpl (wpAny_items_cons (W.then (w1 (H.next rfl T1)) fun v G2 s2 T2 X2 S2 r2=>wpAny_items_nil ?_) (starEach_cons hs))))
  refine wpAny_bind (wpAny_standAt ?_)
  obtain ⟨tm,rfl⟩:=rep_str r2
  have X0:=D.kin.keeps T2.keep0
  simp only [hpl]
  obtain ⟨hp,g,dr,tk,os⟩:=s2
  refine wpAny_bind (wpAny_keeperOf_exc (X0 _ _ hC) ?_)
  refine wpAny_bind (wpAny_mono (exc_make RF SO hg X0 (D.nolimit.keeps T2.keep0) (by have:=H.rm.depth;omega)) (fun r s3 z=>?_) fun _ _ f=>f.elim)
  refine xE12 z fun ea e_1 Z=>?_;refine Bc.rwE e_1 ?_
  obtain ⟨dx,odx,sl,t,g1,n1,ne,g2,lk⟩:=Z.obj
  obtain ⟨T3,X3⟩:=T2.freezeN Z.keep n1 g2
  have en:=T2.sizeNot Z.new
  refine wpAny_bind (wpAny_holding (wpAny_point (wpAny_pure ⟨ea,t,some dx,sl,rfl,Z.keep _ _ (X0 _ _ hC),g1,.str m,rfl,_,T3,((X1.trans X2).trans X3).none,(S1.trans S2).trans Z.sh,ea,rfl,?_⟩)))
  refine ⟨?_,en.2.1,?_,_,_,g1,rfl,Nat.lt_of_lt_of_le (by decide:1 < 6) (Nat.le_refl 6),⟨dx,odx,C,m,tm,hcl,rfl,rfl,.inr rfl,g2,lk,rfl⟩,.inl ⟨rfl,rfl⟩⟩
  ·rintro (f | f)
   ·exact en.1 f
   ·exact ne f.symm
  ·cases q:s.heap.get? ea with
   |none=>rfl
   |some o =>
    obtain ⟨o',e'⟩:=(X1.trans X2).live ea o q
    have:=Z.new
    rw [e'] at this;cases this
 first
  |exact wpAny_bind (wpAny_standAt (exc_raise (C:=C) hbase hh (wpAny_bind (wpAny_mono made (fun v s₃ h₃=>wpAny_bind (wpAny_standAt (wpAny_pure h₃))) fun _ _ x=>x))))
  |(simp only [evalOpt,Option.map];exact wpAny_bind (wpAny_standAt (exc_raise (C:=C) hbase hh (wpAny_bind (wpAny_mono made (fun v s₃ h₃=>wpAny_bind (wpAny_standAt (wpAny_pure h₃))) fun _ _ x=>x)))))
end
end Bc
namespace Bc
structure GlOk(K:Frag)(fns:List DefRec):Prop where
 bi:BiOk K
 vec:∃C,gval K "Vector" = some (.ref C)∧keepIn K (.ref C)=true
 nul:∃C,gval K "Null" = some (.ref C)∧keepIn K (.ref C)=true
 fn:∀d∈fns,FnRec K d
structure MkOk(prog:Program)(K:Frag)(w:World)(H0:Heap):Prop where
 vec:∀(A:Around) (fr:List Env) (G:Gh) (st:Bc.St) (locs:List Loc) (s:Shared) (f:Value) (vs:List Value) (d1 d2:PV),Room A 1→A.handled=none→A.frames=some fr→gval K "Vector" = some f→Rel K w H0 fr G st locs s.heap→RepL K w s.heap G.fz vs [d1,d2] →
  W K w H0 fr prog A (call f vs) G ⟨st.vars,st.cells++[.inst "Vector" (vecFields (.pv d1) (.pv d2) (.pv .none))]⟩ locs s fun v G' h'=>RepA K w G' h' v (.cell st.cells.length)
 nul:∀(A:Around) (fr:List Env) (G:Gh) (st:Bc.St) (locs:List Loc) (s:Shared) (f:Value),Room A 1→A.handled=none→A.frames=some fr→gval K "Null" = some f→Rel K w H0 fr G st locs s.heap →
  W K w H0 fr prog A (call f []) G ⟨st.vars,st.cells++[.inst "Null" nullFields]⟩ locs s fun v G' h'=>RepA K w G' h' v (.cell st.cells.length)
section
variable{K:Frag}{w:World}{H0 h0:Heap}{fns:List DefRec}{mg mb:Str→Option Value}{fr outer:List Env}{prog:Program}{A:Around}{G G0 G1 G2 G':Gh}{st st' st1 st2 st3:Bc.St}{locs locs':List Loc}{s s1 s2 s':Shared}{env:Env}{h h' h1 h2:Heap}{P P':Addr→Prop}{n:Nat}{R:Rc}{cx:Cx}
 {φ:Gh→Heap→Prop} {b:Addr} {v:Value} {d:PV} {a:AV} {x:Str} {M:Model} {E:Value→Shared→Prop} {raw:Bool}
theorem evArg_names(I:SndE prog K w H0 fns n R){e:Expr}(q:evArg R raw cx e st=some (a,st')):vnm st'.vars=vnm st.vars :=
 bifE q (fun _ q=>I.vars _ _ _ _ _ q) fun q=>liftPE q fun _ h1 _=>ePn I h1
theorem evArg_ok(I:SndE prog K w H0 fns n R){e:Expr}(q:evArg R raw cx e st=some (a,st'))(H:Here K w H0 n cx st A fr env G locs s):W K w H0 fr prog A (eval e env) G st' locs s fun v G' h'=>RepA K w G' h' v a :=
 bifE q (fun _ q=>((I.evok q).2 _ _ _ _ _ _ H).1) fun q=>liftPE q fun _ h1 e=>e▸evP_ok I h1 H
theorem evArgs_names(I:SndE prog K w H0 fns n R){es:List Expr}{as:List AV}{st st':Bc.St}(q:evArgs R raw cx es st=some (as,st')):vnm st'.vars=vnm st.vars∧as.length=es.length:=⟨evL_names (fun _ _ _ _=>evArg_names I) q,evL_len q⟩
theorem evArgs_ok(I:SndE prog K w H0 fns n R){pos:Pos}{es:List Expr}{as:List AV}{st st':Bc.St}{G:Gh}{s:Shared}(q:evArgs R raw cx es st=some (as,st'))(hs:es.any isS=false)(H:Here K w H0 n cx st A fr env G locs s) :
  W K w H0 fr prog A (spliced (backTo pos (starEach es env))) G st' locs s fun vs G' h'=>RepAL K w G' h' vs as :=
 evL_ok (ρ:=fun G h=>RepA K w G h) (Lρ:=fun G h=>RepAL K w G h) (fun _ _ _ _=>evArg_names I) (evArg_ok I) (fun _ _=>.nil) (fun X p r=>.cons (RepA.mono X.grow p) r) q hs H
theorem W.call{t:Sem Value}{r:Rs}(h:W K w H0 fr prog A t G st' locs s fun v G' h'=>RepA K w G' h' v a)(e:r=.ok a):wpAny (model prog w) A t (CallOk K w H0 fr G s st' locs r) (CallExc K w H0 fr G s st' locs r) s :=
 wpAny_mono h (fun _ _ o=>⟨a,e,o⟩) fun _ _ f=>f.elim
theorem bi_names{x:Str}(h:biNames.contains x=true):x="len"∨x="list"∨x="max"∨x="abs"∨x="str"∨x="range"∨x="isinstance"∨x="sum":=by
 unfold biNames at h
 simpa using h
theorem keeper_of(GO:GlOk K fns){f:Value}{as:List AV}{r:Rs}{cs cs':List MO}(Cl:∀y as cs r,R.call y as cs=some r→∃d∈fns,d.name=y)(q:callG R cx x as cs=some (r,cs'))(hg:gval K x=some f) :
  (∃id,f=.builtin id)∨(∃t,f=.type t)∨keepIn K f=true:=by
 refine bifE q (fun hb _=>?_) fun q=>bifF q fun _ q=>bifE q (fun hx _=>?_) fun q=>bifE q (fun hx _=>?_) fun q=>?_
 ·have B:=GO.bi
  have go:∀{g:Value},gval K x=some g→f=g:=fun e=>Option.some.inj (hg.symm.trans e)
  rcases bi_names hb with rfl | rfl | rfl | rfl | rfl | rfl | rfl | rfl
  ·exact .inl ⟨_,go B.len⟩
  ·exact .inr (.inl ⟨_,go B.list⟩)
  ·exact .inl ⟨_,go B.max⟩
  ·exact .inl ⟨_,go B.abs⟩
  ·exact .inr (.inl ⟨_,go B.str⟩)
  ·exact .inr (.inl ⟨_,go B.range⟩)
  ·exact .inl ⟨_,go B.isinstance⟩
  ·exact .inl ⟨_,go B.sum⟩
 ·refine xE12 GO.vec fun C h1 h2=>?_
  rw [beqs hx,h1] at hg
  exact .inr (.inr (Option.some.inj hg▸h2))
 ·refine xE12 GO.nul fun C h1 h2=>?_
  rw [beqs hx,h1] at hg
  exact .inr (.inr (Option.some.inj hg▸h2))
 ·refine xE12 (Cl _ _ _ _ q) fun d hd e_2=>?_
  subst e_2
  obtain ⟨a,oc,od,osl,fd,hg',hK,_⟩:=GO.fn d hd
  have hg:=Option.some.inj (hg.symm.trans hg')
  refine Bc.rwE hg ?_
  refine .inr (.inr ?_)
  unfold keepIn;dsimp only;refine rwE hK rfl
theorem callG_ok(GO:GlOk K fns)(MO_:MkOk prog K w H0)(D:Wd K w H0 fns mg mb)(IC:SndC prog K w H0 n R){f:Value}{as:List AV}{vs:List Value}{r:Rs}{cs cs':List MO}{vars:Vars}(q:callG R cx x as cs=some (r,cs'))(hg:gval K x=some f)
  (rm:Room A n) (rm1:Room A 1) (hlp:cx.lp=true→A.handled=none) (hf:A.frames=some fr) (T:Rel K w H0 fr G ⟨vars,cs⟩ locs s.heap) (ra:RepAL K w G s.heap vs as) :
  wpAny (model prog w) A (call f vs) (CallOk K w H0 fr G s ⟨vars,cs'⟩ locs r) (CallExc K w H0 fr G s ⟨vars,cs'⟩ locs r) s:=by
 refine bifE q (fun _ q=>?_) fun q=>?_
 ·refine bifT q fun hl q=>obE q fun ds hds q=>obE q fun d hd q=>cz4 q ?_
  have hl:cx.lp=true∨x=("str" : Str):=(Bool.or_eq_true_iff.mp hl).imp id beqs
  exact (bi_ok GO.bi D hg hd (fun ne=>hlp (hl.resolve_right ne)) T (ra.allPV hds)).2.call rfl
 refine bifF q fun hl q=>?_
 have hh:=hlp (by simpa using hl)
 refine bifE q (fun hx q=>?_) fun q=>?_
 ·refine obE q fun ds hds q=>obE q fun p hp q=>cz4 q ?_
  have hx:=beqs hx
  have hp:=arg2E hp
  subst hx hp
  exact (MO_.vec A fr G ⟨vars,cs⟩ locs s f vs _ _ rm1 hh hf hg T (ra.allPV hds)).call rfl
 refine bifE q (fun hx q=>?_) fun q=>?_
 ·refine bifT q fun he q=>cz4 q ?_
  have hx:=beqs hx
  have he:=List.isEmpty_iff.mp he
  subst hx he
  refine rwE (show vs=[] from by cases ra;rfl) ?_
  exact (MO_.nul A fr G ⟨vars,cs⟩ locs s f rm1 hh hf hg T).call rfl
 ·exact IC _ _ _ _ _ q A fr G vars locs s f vs rm hh hf hg T ra
theorem call_any{f:Expr}{args:List Expr}{kws:List Keyword}{pos:Pos}(hf:∀o y p,f≠.Attribute o y p):eval (.Call f args kws pos) env=(do callWith pos (← eval f env) [] (backTo pos (starEach args env)) (backToKw pos (keywordEach kws env))):=by
 cases f<;>first | rfl | exact absurd rfl (hf _ _ _)
theorem evCall_ok(GO:GlOk K fns)(MO_:MkOk prog K w H0)(D:Wd K w H0 fns mg mb)(IE:SndE prog K w H0 fns n R)(IC:SndC prog K w H0 n R)(Cl:∀y as cs r,R.call y as cs=some r→∃d∈fns,d.name=y){f:Expr}{args:List Expr}{pos:Pos}{r:Rs}
  (q:evCall R cx f args st=some (r,st')) (hf:∀o y p,f≠.Attribute o y p) :
  vnm st'.vars=vnm st.vars∧∀{A:Around} {fr:List Env} {env:Env} {G:Gh} {locs:List Loc} {s:Shared},Here K w H0 n cx st A fr env G locs s→Room A 1 →
   wpAny (model prog w) A (eval (.Call f args [] pos) env) (CallOk K w H0 fr G s st' locs r) (CallExc K w H0 fr G s st' locs r) s:=by
 refine bifF q fun hs q=>obE2 q fun a st1 h1 q=>obE q fun d hd q=>obE q fun x hx q=>obE2 q fun as st2 h2 q=>obE2 q fun r' cs h3 q=>cz4 q ?_
 have hd:=asPVE hd
 have hx:=asGlbE hx
 dsimp only at hd
 subst hd hx
 have hs:=Bool.or_eq_false_iff.mp hs
 have e1:=IE.evok h1
 obtain ⟨v2,_⟩:=evArgs_names IE h2
 refine ⟨v2.trans e1.1,fun {A fr env G locs s} H rm1=>?_⟩
 refine rwE (call_any hf) ?_
 refine wpAny_bind (W.then (e1.2 _ _ _ _ _ _ H).1 fun fv G1 s1 T1 X1 S1 rf=>?_)
 have hg:gval K x=some fv:=Rep.inv rf
 have hpl:=(starEach_plain (env:=env) (pos:=pos) hs.1).1
 refine callWith_of (P:=fun h=>K.In h) (by refine rwE hpl ?_;rfl) (fun h X=>?_) (evalArgs_any hpl (W.then (evArgs_ok IE h2 hs.1 (H.next e1.1 T1)) fun vs G2 s2 T2 X2 S2 ra=>?_))
 ·rcases keeper_of GO Cl h3 hg with ⟨id,rfl⟩ | ⟨t,rfl⟩ | hk
  ·exact ⟨.machine,.inr (.inl rfl),Looks.of_pure rfl⟩
  ·exact ⟨.machine,.inr (.inl rfl),Looks.of_pure rfl⟩
  ·refine xE12 (looks_keep (M:=model prog w) hk X) fun k a b=>?_
   exact ⟨k,a.elim .inl (fun e=>.inr (.inl e)),b⟩
 ·refine ⟨D.kin.keeps T2.keep0,?_⟩
  refine wpAny_mono (callG_ok GO MO_ D IC h3 hg H.rm rm1 H.hh H.hf T2 ra) (fun _ _ o=>?_) fun _ _ o=>?_
  ·exact CallOk.comp (X1.trans X2) (S1.trans S2) o
  ·exact CallExc.comp (X1.trans X2) (S1.trans S2) o
theorem evR_ok(GO:GlOk K fns)(MO_:MkOk prog K w H0)(D:Wd K w H0 fns mg mb)(IE:SndE prog K w H0 fns n R)(IC:SndC prog K w H0 n R)(Cl:∀y as cs r,R.call y as cs=some r→∃d∈fns,d.name=y){e:Expr}{r:Rs}
  (q:evR R cx e st=some (r,st')) :
  vnm st'.vars=vnm st.vars∧∀{A:Around} {fr:List Env} {env:Env} {G:Gh} {locs:List Loc} {s:Shared},Here K w H0 n cx st A fr env G locs s→Room A 1 →
   wpAny (model prog w) A (eval e env) (CallOk K w H0 fr G s st' locs r) (CallExc K w H0 fr G s st' locs r) s:=by
 have okc:∀{x:Option (AV × Bc.St)},okR x=some (r,st')→∃a,x=some (a,st')∧r=.ok a:=fun {x} q=>obE2 q fun a st1 h q=>cz4 (P:=fun r st'=>∃a,x=some (a,st')∧r=.ok a) q ⟨a,h,rfl⟩
 have pl:okR (R.ev cx e st)=some (r,st')→_:=fun q=>xE12 (okc q) fun a h1 e=>(⟨(IE.evok h1).1,fun H _=>((IE.evok h1).2 _ _ _ _ _ _ H).1.call e⟩:vnm st'.vars=vnm st.vars∧∀{A:Around} {fr:List Env} {env:Env} {G:Gh} {locs:List Loc} {s:Shared},Here K w H0 n cx st A fr env G locs s→Room A 1 →
   wpAny (model prog w) A (eval _ env) (CallOk K w H0 fr G s st' locs r) (CallExc K w H0 fr G s st' locs r) s)
 unfold evR at q
 cases hc:callE e with
 |some c =>
  rw [hc] at q
  refine bifE q (fun _ q=>pl q) fun q'=>?_
  cases hb:((attrE c.1).isSome||!c.2.2.isEmpty) with
  |true =>
   replace q:(bif (attrE c.1).isSome||!c.2.2.isEmpty then okR (R.ev cx e st) else evCall R cx c.1 c.2.1 st)=some (r,st'):=q
   rw [hb] at q;exact pl q
  |false =>
   obtain ⟨b1,b2⟩:=Bool.or_eq_false_iff.mp hb
   refine xE11 (callE_some hc) fun p e1=>?_
   have b2:c.2.2=[]:=List.isEmpty_iff.mp (by simpa using b2)
   rw [b2] at e1
   refine Bc.rwE e1 ?_
   exact evCall_ok GO MO_ D IE IC Cl q' (fun o y p z=>by rw [z] at b1;exact cz3 b1)
 |none =>
  rw [hc] at q
  refine bifE q (fun _ q=>xE12 (okc q) fun a h1 e1=>liftPE h1 fun d h2 e2=>?_) fun q=>pl q
  exact ⟨ePn IE h2,fun H _=>W.call (a:=a) (e2▸evP_ok IE h2 H) e1⟩
theorem ev_call(GO:GlOk K fns)(MO_:MkOk prog K w H0)(D:Wd K w H0 fns mg mb)(IE:SndE prog K w H0 fns n R)(IC:SndC prog K w H0 n R)(Cl:∀y as cs r,R.call y as cs=some r→∃d∈fns,d.name=y){f:Expr}{args:List Expr}{pos:Pos}
  (q:evCall R cx f args st=some (.ok a,st')) (hf:∀o y p,f≠.Attribute o y p):EvOk prog K w H0 (n+1) cx (.Call f args [] pos) st a st':=by
 obtain ⟨v1,w1⟩:=evCall_ok (pos:=pos) GO MO_ D IE IC Cl q hf
 refine EvOk.plain (fun _ _=>rfl) v1 fun A fr env G locs s H=>?_
 have rm1:Room A 1:=H.rm.le (by exact Nat.le_add_left 1 n)
 refine wpAny_mono (w1 H.pred rm1) (fun v s' o=>?_) fun e s' o=>?_
 ·refine CallOk.el o fun a' e o=>?_
  cases e
  exact o
 ·refine CallExc.el o fun d e _=>?_
  cases e
end
end Bc
namespace Bc
section
variable{K:Frag}{w:World}{H0 h0:Heap}{fns:List DefRec}{mg mb:Str→Option Value}{fr outer:List Env}{prog:Program}{A:Around}{G G0 G1 G2 G':Gh}{st st' st1 st2 st3:Bc.St}{locs locs':List Loc}{s s1 s2 s':Shared}{env:Env}{h h' h1 h2:Heap}{P P':Addr→Prop}{n:Nat}{R:Rc}{cx:Cx}
 {φ:Gh→Heap→Prop} {b:Addr} {v:Value} {d:PV} {a:AV} {x:Str} {M:Model} {E:Value→Shared→Prop} {ea:Addr}
theorem not_loc(T:Rel K w H0 fr G st locs h){o:Obj}{vs:Array Value}(e:h.get? ea=some o)(hd:o.data=.fields vs):(∀l∈locs,l.addr≠ea)∧∀env∈fr,env.frame≠some ea:=by
 have no:∀{o':Obj},h.get? ea=some o'→(∃z,o'.data=z∧z≠.fields vs)→False:=fun {o'} q dd=>by
  have:=Option.some.inj (e.symm.trans q)
  subst this
  exact dd.elim fun z dd=>dd.2 (dd.1.symm.trans hd)
 refine ⟨fun l hl z=>?_,fun env he z=>?_⟩
 ·obtain ⟨i,hi⟩:=List.mem_iff_getElem?.mp hl
  have hlt:i < st.vars.length:=T.nloc▸(List.getElem?_eq_some_iff.mp hi).1
  have S:=T.slot i _ l (List.getElem?_eq_getElem hlt) hi
  cases l with
  |dict L x=>obtain ⟨_,m,⟨o',_,_,q,dd,_⟩,_⟩:=S;exact no (show h.get? ea=_ from z▸q) ⟨_,dd,fun z=>nomatch z⟩
  |cell c=>obtain ⟨o',⟨_,q,dd⟩,_⟩:=S;exact no (show h.get? ea=_ from z▸q) ⟨_,dd,fun z=>nomatch z⟩
 ·obtain ⟨_,L,m,f,_,⟨o',_,_,q,dd,_⟩,_⟩:=T.frames env he
  have:=Option.some.inj (f.symm.trans z)
  subst this
  exact no q ⟨_,dd,fun z=>nomatch z⟩
theorem XMsg.cls{oe:Obj}{C:Addr}(m:XMsg K G h oe d)(hcl:clsA K "Refusal" = some C):oe.cls=.ref C:=by
 obtain ⟨dx,od,C',s,t,e1,e2,_⟩:=m
 refine rwE e2 (rwE (Option.some.inj (hcl.symm.trans e1)) rfl)
theorem catch_ok{d:PV}(T:Rel K w H0 fr G st locs h)(X:Ext fr G0 h0 G h P)(F:Flies K G h0 h true ea d) :
  Rel K w H0 fr ⟨fun c=>G.fz c∨c=ea,G.ad⟩ st locs h∧Ext fr G0 h0 ⟨fun c=>G.fz c∨c=ea,G.ad⟩ h P∧RepA K w ⟨fun c=>G.fz c∨c=ea,G.ad⟩ h (.ref ea) (.exn d):=by
 refine Flies.el F fun oe vs he hd hsz m z_=>?_
 obtain ⟨nl,nfr⟩:=not_loc T he hd
 refine ⟨T.freeze (fun c=>c=ea) (fun c e=>e▸⟨oe,he⟩) (fun c e=>⟨fun l hl q=>nl l hl (q.trans e),fun env' hm q=>nfr env' hm (e▸q)⟩)
  (fun k p c e1 z_ x z_=>.inr ⟨fun q=>F.nm ⟨p,List.mem_of_getElem? e1,.inl q.symm⟩,fun q=>F.nm ⟨p,List.mem_of_getElem? e1,.inr q.symm⟩⟩),
  ⟨fun c f=>⟨.inl (X.fz c f).1,(X.fz c f).2⟩,X.keep,fun c o e n f=>f.elim (X.nofz c o e n) fun q=>(by subst q;rw [F.new] at e;exact cz0 e),X.ad,X.live⟩,?_⟩
 obtain ⟨dx,od,C,sx,tx,hC,hcls,hdx,hfx,hodx,hlk,e⟩:=m
 exact ⟨ea,rfl,oe,dx,od,C,sx,tx,.inr rfl,.inl hfx,he,hC,hcls,by unfold notCls;refine rwE hd rfl,hdx,hodx,hlk,e⟩
theorem Flies.ext{tr:Bool}(F:Flies K G h0 h tr ea d)(T:Rel K w H0 fr G st locs h)(X:Ext fr G h G1 h1 None_):Flies K G1 h0 h1 tr ea d:=by
 have stand:∀{b:Addr} {o:Obj} {vs:Array Value},h.get? b=some o→o.data=.fields vs→¬ G.fz b→¬ G.mut b→h1.get? b=some o∧¬ G1.fz b∧¬ G1.mut b:=fun {b o vs} e hd nf nm=>by
  refine xE12 (X.keep b o e nm id) fun sl e1 q=>?_
  rw [q (not_loc T e hd).2] at e1
  exact ⟨e1,fun f=>nf (X.nofz b o e nm f),X.mutLt e nm⟩
 refine Flies.el F fun oe vs he hd hsz m htr=>xE03 (stand he hd F.nf F.nm) fun a1 a2 a3=>⟨a2,a3,F.new,oe,vs,a1,hd,hsz,m.keep (fun z_ f=>(X.fz _ f).1) (fun a o f e=>(X.fz a f).2.trans e) rfl rfl,htr.imp id fun q=>?_⟩
 obtain ⟨TT,oT,ts,x,q1,q2,q3,q4,q5,q6,q7,q8⟩:=q
 exact xE03 (stand q6 q7 q3 q4) fun b1 b2 b3=>⟨TT,oT,ts,x,q1,q2,b2,b3,q5,b1,q7,q8⟩
theorem try_ok(RF:RefRec K)(D:Wd K w H0 fns mg mb)(IX:SndX prog K w H0 n R){body hb:List Stmt}{b0:Stmt}{tp hp pos:Pos}{nm:Str}{f:Fl}{d:PV}{st1 st2:Bc.St}(hlp:cx.lp=true)(ht:cx.names.lookup ("Refusal" : Str)=some .globalImplicit)(hn:cx.names.lookup nm=some .local)(hv:hasV nm st.vars=true)
  (h1:exs R cx body st=some (.exc d,st1)) (h2:exs R ⟨cx.names,false⟩ (b0::hb) ⟨setV nm (.exn d) st1.vars,st1.cells⟩=some (f,st2)) (hf:∀d,f≠.exc d) :
  vnm (unsetV nm st2.vars)=vnm st.vars∧∀{A:Around} {outer:List Env} {env:Env} {G:Gh} {locs:List Loc} {s:Shared},Here K w H0 n cx st A (env::outer) env G locs s →
   wpAny (model prog w) A (exec (.Try body [.ExceptHandler (some (.Name "Refusal" tp)) (some nm) (b0::hb) hp] [] [] pos) env) (StOk K w H0 (env::outer) G s ⟨unsetV nm st2.vars,st2.cells⟩ locs f) (StExc K w H0 (env::outer) G s ⟨unsetV nm st2.vars,st2.cells⟩ locs f) s:=by
 obtain ⟨v1,w1⟩:=exs_ok IX h1
 obtain ⟨v2,w2⟩:=exs_ok IX h2
 have vn:vnm st2.vars=vnm st.vars:=v2.trans ((names_setV _).trans v1)
 refine ⟨(names_unsetV _).trans vn,fun {A outer env G locs s} H=>?_⟩
 refine RF.h fun C Cv fI N cn cq bs sn sub ab col dd k0 k1 k2 k3 k5 od osl fd p1 p2 p3 p4 hg hcl hC hT z_ z_ z_ z_ z_ z_ z_ z_ z_ z_ z_=>?_
 refine wpAny_Try_except (wpAny_mono (w1 H) (fun fl s1 z=>?_) fun e s1 z=>?_)
 ·refine OutP.el z fun G1 T1 X1 S1 z=>?_
  cases fl<;>exact z.elim
 refine StExc.el z fun d' hd' z=>OutP.el z fun G1 T1 X1 S1 z=>Exc.el z fun ea e1 F1=>?_
 injection hd' with hd';subst hd';refine Bc.rwE e1 ?_
 refine note_ok H.hf T1 X1 F1 fun h3 U3 F3=>?_
 have T3:=T1.turn U3
 have X3:=X1.turn T1 U3
 refine flight_ok (s:={ s1 with heap:=h3 }) T3 F3 fun h4 U4 F4=>?_
 have T4:=T3.turn U4
 have X4:=X3.turn T3 U4
 have S4:Sh s { s1 with heap:=h4 }:=S1.trans (Sh.mk' s1 h4 s1.toks)
 have E1:=H.E.of_names v1
 have kd:env.kindOf ("Refusal" : Str)=some .globalImplicit:=by unfold Env.kindOf;refine rwE H.E.names ?_;exact ht
 have knm:env.kindOf nm=some .local:=by unfold Env.kindOf;refine rwE H.E.names ?_;exact hn
 have hbase:(Value.ref Cv::excMro).contains (.type "BaseException")=true:=(hT _ (D.kin.keeps H.T.keep0)).hasType (by decide)
 refine wpAny_handleBy_cons (codeAny_handlers_test (Name_function_global H.E.kind kd (W.then (load_glob (prog:=prog) (A:=A.mark (some (.ref ea))) (s:={ s1 with heap:=h4 }) D E1 T4 hg) fun c G5 s5 T5 X5 S5 z=>?_) (by decide))) (by intro q;cases q)
 obtain ⟨rfl,_⟩:=z
 have F5:Flies K G5 s.heap s5.heap true ea d:=F4.ext T4 X5
 have X5':=X4.trans X5.none
 have S5':=S4.trans S5
 refine Flies.el F5 fun oe vs he hdt hsz m5 z_=>?_
 have hcls:=m5.cls hcl
 have X0:=D.kin.keeps T5.keep0
 obtain ⟨hp5,g5,dr5,tk5,os5⟩:=s5
 refine wpAny_excMatches_sub_self (X0 _ _ hC) he hcls hbase ?_
 refine codeAny_handlers_suite_as (flight_ok (s:=⟨hp5,g5,dr5,tk5,os5⟩) T5 F5 fun h6 U6 F6=>?_)
 have T6:=T5.turn U6
 have X6:=X5'.turn T5 U6
 refine xE03 (catch_ok T6 X6 F6) fun T7 X7 r7=>?_
 have hv1:hasV nm st1.vars=true:=(hasV_names v1).trans hv
 refine WP.then (store_ok (prog:=prog) (A:=A.mark (some (.ref ea))) (s:=⟨h6,g5,dr5,tk5,os5⟩) E1 (by refine rwE hn ?_;rfl) (by refine rwE hn ?_;intro z;cases (z)) hv1 T7 r7) fun z_ G8 s8 T8 X8 S8 z_=>?_
 have X8':=X7.trans (X8.weaken (Q:=Own locs) fun c z_ z_ z=>At.own z)
 have S8':Sh s s8:=(S5'.trans (Sh.mk' ⟨hp5,g5,dr5,tk5,os5⟩ h6 tk5)).trans S8
 have E8:EnvOk ⟨cx.names,false⟩ env (setV nm (.exn d) st1.vars) locs:=⟨H.E.names,H.E.kind,H.E.glob,H.E.bi,fun x i k f=>(E1.of_names (names_setV _)).at_ x i k f⟩
 have H8:Here K w H0 n ⟨cx.names,false⟩ ⟨setV nm (.exn d) st1.vars,st1.cells⟩ (A.mark (some (.ref ea))) (env::outer) env G8 locs s8:=⟨⟨H.rm.depth,H.rm.units⟩,fun z=>(by cases z),H.hf,E8,T8⟩
 refine wpAny_mono (w2 H8) (fun fl s9 z=>?_) fun e s9 z=>?_
 ·refine OutP.el z fun G9 T9 X9 S9 z9=>?_
  have E9:EnvOk ⟨cx.names,false⟩ env st2.vars locs:=E8.of_names v2
  have hv9:hasV nm st2.vars=true:=(hasV_names vn).trans hv
  refine xE22 (hasV_fix hv9) fun i b hfx hi=>?_
  obtain ⟨l,hl,hlo⟩:=E9.at_ nm i (by show isLocalK (cx.names.lookup nm)=true;refine rwE hn ?_;rfl) hfx
  have Sl:=T9.slot i _ l hi hl
  unfold locOf at hlo
  rw [H.E.names,hn] at hlo
  cases (hlo)
  obtain ⟨_,m,hm,_⟩:=Sl
  refine wpAny_nameGoes_keeps knm hm (by refine rwE H.E.kind ?_;rfl) fun h10 v10 hm10 hs10=>?_
  obtain ⟨T10,X10⟩:=T9.store (h':=h10) (oa:=none) hi hl (fun c o e ne=>(hs10.2 c ne).trans e) ⟨m,v10,hm,hm10,fun a ha=>by cases ha⟩
  rw [← unsetV_fix hfx] at T10
  refine ⟨G9,T10,X8'.trans (X9.trans (X10.weaken fun c z_ z_ z=>⟨_,List.mem_of_getElem? hl,z⟩)),(S8'.trans S9).trans (Sh.mk' s9 h10 _),?_⟩
  cases f<;>cases fl<;>first | exact z9 | exact z9.elim | skip
  exact Rep.mono X10.fz z9
 ·refine StExc.el z fun d' q z_=>?_
  exact absurd q (hf d')
end
end Bc
namespace Bc
section
variable{K:Frag}{w:World}{H0 h0:Heap}{fns:List DefRec}{mg mb:Str→Option Value}{fr outer:List Env}{prog:Program}{A:Around}{G G0 G1 G2 G':Gh}{st st' st1 st2 st3:Bc.St}{locs locs':List Loc}{s s1 s2 s':Shared}{env:Env}{h h' h1 h2:Heap}{P P':Addr→Prop}{n:Nat}{R:Rc}{cx:Cx}
 {φ:Gh→Heap→Prop} {b:Addr} {v:Value} {d:PV} {a:AV} {x:Str} {M:Model} {E:Value→Shared→Prop} {f:Fl}
noncomputable def StmtOk(prog:Program)(K:Frag)(w:World)(H0:Heap)(n:Nat)(cx:Cx)(stm:Stmt)(st:Bc.St)(f:Fl)(st':Bc.St):Prop :=
 vnm st'.vars=vnm st.vars∧∀(A:Around) (outer:List Env) (env:Env) (G:Gh) (locs:List Loc) (s:Shared),Here K w H0 (n+1) cx st A (env::outer) env G locs s →
  wpAny (model prog w) A (exec stm env) (StOk K w H0 (env::outer) G s st' locs f) (StExc K w H0 (env::outer) G s st' locs f) s
theorem CallExc.toSt{e:Value}(o:CallExc K w H0 fr G s st' locs (.exc d) e s'):StExc K w H0 fr G s st' locs (.exc d) e s':=by
 obtain ⟨d',q,G1,T1,X1,S1,ea,rfl,F⟩:=o
 cases q
 exact ⟨d,rfl,G1,T1,X1.none,S1,ea,rfl,F.le⟩
set_option tactic.hygienic true in
theorem st_return{e:Expr}{pos:Pos}{r:Rs}(hR:∀{A:Around} {fr:List Env} {env:Env} {G:Gh} {locs:List Loc} {s:Shared},Here K w H0 n cx st A fr env G locs s→Room A 1→wpAny (model prog w) A (eval e env) (CallOk K w H0 fr G s st1 locs r) (CallExc K w H0 fr G s st1 locs r) s)
  (hv:vnm st1.vars=vnm st.vars) (q:(match r with | .ok a=>(match frz st1.cells a with | some (d,cs)=>some (Fl.ret d,(⟨st1.vars,cs⟩:Bc.St)) | none=>none) | .exc d=>some (Fl.exc d,st1))=some (f,st')) :
  StmtOk prog K w H0 n cx (.Return (some e) pos) st f st':=by
 cases r with
 |ok a =>
  dsimp only at q
  split at q
  ·rename_i d cs hz
   cases q
   refine ⟨hv,fun A outer env G locs s H=>wpAny_Return_some (wpAny_mono (hR H.pred (H.rm.le (by exact Nat.le_add_left 1 n))) (fun v s1 o=>?_) fun e s1 o=>?_)⟩
   ·obtain ⟨a',q,G1,T1,X1,S1,r1⟩:=o
    cases q
    refine xE13 (frz_ok T1 hz r1) fun G2 T2 X2 r2=>?_
    exact ⟨G2,T2,(X1.trans X2).none,S1,r2⟩
   ·obtain ⟨d',q,_⟩:=o;cases q
  ·cases q
 |exc d =>
  cases q
  refine ⟨hv,fun A outer env G locs s H=>wpAny_Return_some (wpAny_mono (hR H.pred (H.rm.le (by exact Nat.le_add_left 1 n))) (fun v s1 o=>?_) fun e s1 o=>o.toSt)⟩
  obtain ⟨a',q,_⟩:=o;cases q
theorem store_end(E:EnvOk cx env st1.vars locs)(hs:sOk cx.names x st1.vars=true)(T:Rel K w H0 fr G1 st1 locs s1.heap)(X:Ext fr G s.heap G1 s1.heap (Own locs))(S:Sh s s1)(r:RepA K w G1 s1.heap v a){EE:Value→Shared→Prop} :
  wpAny (model prog w) A (storeName env x v) (fun z_=>StOk K w H0 fr G s ⟨setV x a st1.vars,st1.cells⟩ locs .next .next) EE s1:=by
 simp only [sOk,Bool.and_eq_true] at hs
 exact WP.then (store_ok (prog:=prog) (A:=A) E hs.1.1.1 (kind_ne hs.1.1.2) hs.1.2 T r) fun z_ G2 s2 T2 X2 S2 z_=>⟨G2,T2,X.trans (X2.weaken fun c z_ z_ z=>At.own z),S.trans S2,trivial⟩
theorem storeOk_names{names:List (Str × NameKind)}{v v':Vars}(e:vnm v'=vnm v)(h:sOk names x v=true):sOk names x v'=true:=by
 unfold sOk at h ⊢
 refine rwE (hasV_names e) ?_;exact h
theorem swap_plain{v:Expr}{t:Option Expr}(h1:∀a b c d,v≠.ListComp a b c d)(h2:∀a b c d,v≠.SetComp a b c d)(h3:∀a b c d e,v≠.DictComp a b c d e)(line:Nat)(env:Env):swapsWith v t line env=pure false:=by
 cases v<;>first | rfl | exact absurd rfl (h1 _ _ _ _) | exact absurd rfl (h2 _ _ _ _) | exact absurd rfl (h3 _ _ _ _ _)
theorem st_assign{v:Expr}{px pos:Pos}{r:Rs}(hs:sOk cx.names x st.vars=true)(h1:∀a b c d,v≠.ListComp a b c d)(h2:∀a b c d,v≠.SetComp a b c d)(h3:∀a b c d e,v≠.DictComp a b c d e)
  (hR:∀{A:Around} {fr:List Env} {env:Env} {G:Gh} {locs:List Loc} {s:Shared},Here K w H0 n cx st A fr env G locs s→Room A 1→wpAny (model prog w) A (eval v env) (CallOk K w H0 fr G s st1 locs r) (CallExc K w H0 fr G s st1 locs r) s)
  (hv:vnm st1.vars=vnm st.vars) (q:(match r with | .ok a=>some (Fl.next,(⟨setV x a st1.vars,st1.cells⟩:Bc.St)) | .exc d=>some (Fl.exc d,st1))=some (f,st')) :
  StmtOk prog K w H0 n cx (.Assign [.Name x px] v pos) st f st':=by
 cases r with
 |ok a =>
  cases q
  refine ⟨(names_setV _).trans hv,fun A outer env G locs s H=>wpAny_Assign_Name (hs:=swap_plain h1 h2 h3 _ _) (wpAny_mono (hR H.pred (H.rm.le (by exact Nat.le_add_left 1 n))) (fun u s1 o=>?_) fun e s1 o=>?_)⟩
  ·obtain ⟨a',q,G1,T1,X1,S1,r1⟩:=o
   cases q
   exact store_end (H.E.of_names hv) (storeOk_names hv hs) T1 X1.none S1 r1
  ·obtain ⟨d',q,_⟩:=o;cases q
 |exc d =>
  cases q
  refine ⟨hv,fun A outer env G locs s H=>wpAny_Assign_Name (hs:=swap_plain h1 h2 h3 _ _) (wpAny_mono (hR H.pred (H.rm.le (by exact Nat.le_add_left 1 n))) (fun u s1 o=>?_) fun e s1 o=>o.toSt)⟩
  obtain ⟨a',q,_⟩:=o;cases q
theorem st_comp{elt:Expr}{gens:List Comprehension}{scope:Scope}{cp px pos:Pos}(IE:SndE prog K w H0 fns n R)(hs:sOk cx.names x st.vars=true)(q:evComp R cx elt gens scope st=some (a,st1)) :
  StmtOk prog K w H0 n cx (.Assign [.Name x px] (.ListComp elt gens scope cp) pos) st .next ⟨setV x a st1.vars,st1.cells⟩:=by
 obtain ⟨hv,_⟩:=comp_use (pos:=cp) (use:=none) (Q:=fun z_ z_=>True) IE q
 refine ⟨(names_setV _).trans hv,fun A outer env G locs s H=>?_⟩
 have hb:∃b:Bool,swapsWithSole [.Name x px] (.ListComp elt gens scope cp) pos.line env=pure b:=⟨_,rfl⟩
 obtain ⟨bb,hb⟩:=hb
 rw [PyProof.Rows.exec_Assign]
 refine wpAny_bind (wpAny_standAt ?_)
 refine rwE hb ?_
 refine wpAny_bind (wpAny_pure ?_)
 cases bb with
 |true =>
  refine rwE (if_pos rfl) ?_
  obtain ⟨_,acc,rfl,ha,hk⟩:=comp_use (pos:=cp) (use:=some fun v=>assignAll v ((assignEach [.Name x px] env).map (·.2))) (Q:=fun z_ s'=>StOk K w H0 (env::outer) G s ⟨setV x a st1.vars,st1.cells⟩ locs .next .next s') IE q
  show wpAny _ _ ((comprehension (.ListComp elt gens scope cp) scope env (firstIterPos gens cp) (newList []) (firstAsync gens) (firstIter gens env) (some _) >>= fun z_=>pure ()) >>= fun z_=>pure Flow.next) _ _ _
  refine wpAny_bind (wpAny_bind (wpAny_mono (hk (E:=StExc K w H0 (env::outer) G s ⟨setV x (.pv (.lst acc)) st1.vars,st1.cells⟩ locs .next) H.pred fun D C G5 s5 c=>?_) (fun z_ s6 z=>wpAny_pure (wpAny_pure z)) fun z_ z_ z=>z))
  show wpAny _ _ (assign (.Name x px) env (.ref D)) _ _ _
  refine wpAny_assign_Name ?_
  have E5:EnvOk cx env st1.vars locs:=H.E.of_names hv
  have hs5:=storeOk_names (v':=st1.vars) hv hs
  simp only [sOk,Bool.and_eq_true] at hs5
  refine WP.then (store_ok (prog:=prog) (A:=A) (a:=.pv (.lst acc)) E5 hs5.1.1.1 (kind_ne hs5.1.1.2) hs5.1.2 c.T c.r) fun z_ G6 s6 T6 X6 S6 z_=>?_
  refine xE42 c.ns fun m o es ep ho r=>?_
  have nC:¬ At locs env [x] C:=fun z=>let ⟨l,hl,e⟩:=z.own;c.J.nl l hl e
  have ho6:=c.J.keep X6 nC ho
  refine ⟨m,⟨o,es,ep,ho6,r⟩,fun h7 hs7=>?_⟩
  have J6:Junk (env::outer) G6 locs s6.heap C:=c.J.ext X6
  have hk7:∀c' o,s6.heap.get? c'=some o→c'≠C→h7.get? c'=some o:=fun c' o e ne=>(hs7.2 c' ne).trans e
  have X56:=c.X.none.trans (X6.weaken (Q:=Own locs) fun c z_ z_ z=>At.own z)
  exact ⟨G6,T6.junk J6 hk7,X56.junk T6 J6.nf c.new hk7,(c.S.trans S6).trans (Sh.mk' s6 h7 s6.toks),trivial⟩
 |false =>
  refine rwE (if_neg (by decide)) ?_
  have ev:=ev_comp (pos:=cp) IE q
  refine wpAny_bind (W.then (ev.2 A (env::outer) env G locs s H.pred).1 fun v G1 s1 T1 X1 S1 r1=>?_)
  have hw:swappedStores [.Name x px] (.ListComp elt gens scope cp) env=pure none:=rfl
  refine rwE hw ?_
  refine wpAny_bind (wpAny_pure ?_)
  show wpAny _ _ (assign (.Name x px) env v >>= fun z_=>pure Flow.next) _ _ _
  refine wpAny_bind (wpAny_assign_Name (wpAny_mono (store_end (E:=H.E.of_names hv) (EE:=fun z_ z_=>False) (storeOk_names hv hs) T1 X1.none S1 r1) (fun z_ z_ z=>wpAny_pure z) fun z_ z_ f=>f.elim))
theorem iadd_list{l b:Addr}{items items2:Array Value}{n1 n2:Nat}{Q:Value→Shared→Prop}(g1:s.heap.get? l=some { cls:=.type "list",data:=.seq items n1 })(g2:s.heap.get? b=some { cls:=.type "list",data:=.seq items2 n2 })
  (z1:items.size≤1000) (z2:items2.size≤1000) (hQ:Q (.ref l) { s with heap:=s.heap.update l (Obj.mapSeq fun x=>x++items2) }):wpAny (model prog w) A (inplaceOp .Add (.ref l) (.ref b)) Q E s:=by
 have hT:s.TypeIs (.ref l) "list":=⟨_,g1,rfl⟩
 have hT2:s.TypeIs (.ref b) "list":=⟨_,g2,rfl⟩
 unfold inplaceOp
 refine wpAny_holding ?_
 have hfi:fillsInplaceSlot (.type "list") "add" (Operator.Add==.Add)=pure false:=by
  unfold fillsInplaceSlot
  show (typeLookup (.type "list") (dunderI "add") >>= _)=pure false
  refine rwE F.slot_list_iadd.lookup ?_;kernel_rfl
 have hsi:seqSlot? (.type "list") (dunderI "add")=pure (some (.builtin "list.__iadd__")):=by
  unfold seqSlot?
  refine rwE F.slot_list_iadd.lookup ?_;kernel_rfl
 refine wpAny_bind (wpAny_typeOf hT (wpAny_bind (wpAny_of_eq hfi ?_)))
 show wpAny _ A (if false=true then _ else _) Q E s
 refine rwE (if_neg Bool.false_ne_true) ?_
 refine wpAny_bind (wpAny_binaryOp1_none (nm:="add") hT hT2 noFill_list_add ?_)
 refine wpAny_bind (wpAny_of_eq hsi ?_)
 refine wpAny_bind (wpAny_rule ?_)
 have hz:¬(!items.isEmpty&&Builtin.List.listTooLong (items.size+items2.size))=true:=by
  intro z
  have:Builtin.List.listTooLong (items.size+items2.size)=true:=by
   rw [Bool.and_eq_true] at z;exact z.2
  unfold Builtin.List.listTooLong at this
  have h3:=of_decide_eq_true this
  rw [sizeLine_eq] at h3
  omega
 exact (call_meets F.slot_list_iadd hT F.entry_list_iadd (F.args_list_iadd_2 _ _) (PySem.AutoSeq1.list___iadd___list_list_0 l items n1 b items2 n2 hz (sizeOk (by omega)) (Nat.le_succ_of_le (sizeOk (by exact add1000 z1 z2)))) ⟨g1,g2,hQ⟩)
end
end Bc
namespace Bc
section
variable{K:Frag}{w:World}{H0 h0:Heap}{fns:List DefRec}{mg mb:Str→Option Value}{fr outer:List Env}{prog:Program}{A:Around}{G G0 G1 G2 G':Gh}{st st' st1 st2 st3:Bc.St}{locs locs':List Loc}{s s1 s2 s':Shared}{env:Env}{h h' h1 h2:Heap}{P P':Addr→Prop}{n:Nat}{R:Rc}{cx:Cx}
 {φ:Gh→Heap→Prop} {b:Addr} {v:Value} {d:PV} {a:AV} {x:Str} {M:Model} {E:Value→Shared→Prop} {f:Fl}
theorem evName_loc(q:evName fns cx x st=some (a,st1))(hs:sOk cx.names x st.vars=true):st1=st∧isLocalK (cx.names.lookup x)=true∧(cx.names.lookup x≠some .free)∧getV x st.vars=some a:=by
 simp only [sOk,Bool.and_eq_true] at hs
 have hk:=hs.1.1.1
 have hn:=kind_ne hs.1.1.2
 refine bifF q fun z_ q=>obE q fun k hq q=>?_
 rw [hq] at hk hn ⊢
 cases k with
 | «local»=>exact obE q fun b hb q=>cz4 q ⟨rfl,hk,hn,hb⟩
 |cell=>exact obE q fun b hb q=>cz4 q ⟨rfl,hk,hn,hb⟩
 |free=>exact absurd rfl hn
 |_=>exact cz2 hk
theorem load_nm(q:evName fns cx x st=some (a,st1))(hs:sOk cx.names x st.vars=true)(Ev:EnvOk cx env st.vars locs)(T:Rel K w H0 fr G st locs s.heap) :
  W K w H0 fr prog A (loadName env x) G st1 locs s fun v G' h'=>RepA K w G' h' v a:=by
 refine xE04 (evName_loc q hs) fun e_0 hk hn hg=>?_;refine Bc.rwE e_0 ?_
 exact load_local Ev T hk (fun z=>absurd z hn) hg
theorem st_aug_int{e:Expr}{px pos:Pos}{op:Operator}{i j r:Int}(IE:SndE prog K w H0 fns n R)(hs:sOk cx.names x st.vars=true)(h1:evName fns cx x st=some (.pv (.int i),st1))(h2:evP R cx e st1=some (.int j,st2))
  (hop:(op=.Add∧r=i+j)∨(op=.Sub∧r=i - j)):StmtOk prog K w H0 n cx (.AugAssign (.Name x px) op e pos) st .next ⟨setV x (.pv (.int r)) st2.vars,st2.cells⟩:=by
 obtain ⟨v2,w2⟩:=evP_here IE h2
 obtain ⟨e1,_⟩:=evName_loc h1 hs
 have v1:vnm st1.vars=vnm st.vars:=by refine rwE e1 rfl
 refine ⟨(names_setV _).trans (v2.trans v1),fun A outer env G locs s H=>?_⟩
 refine wpAny_AugAssign_Name (W.then (load_nm h1 hs H.E H.T) fun u G1 s1 T1 X1 S1 r1=>?_)
 refine W.then (w2 (H.pred.next v1 T1)) fun u2 G2 s2 T2 X2 S2 r2=>?_
 obtain ⟨t1,rfl⟩:=rep_int (K:=K) (w:=w) (h:=s1.heap) (fz:=G1.fz) r1
 obtain ⟨t2,rfl⟩:=rep_int r2
 have fin:wpAny (model prog w) A (storeName env x (.int r s2.toks)) (fun z_=>StOk K w H0 (env::outer) G s ⟨setV x (.pv (.int r)) st2.vars,st2.cells⟩ locs .next .next) (StExc K w H0 (env::outer) G s ⟨setV x (.pv (.int r)) st2.vars,st2.cells⟩ locs .next) { s2 with toks:=s2.toks+1 } :=
  store_end (a:=.pv (.int r)) (s1:={ s2 with toks:=s2.toks+1 }) (H.E.of_names (v2.trans v1)) (storeOk_names (v2.trans v1) hs) T2 (X1.trans X2).none ((S1.trans S2).trans (Sh.mk' s2 s2.heap _)) (.int r _)
 rcases hop with ⟨rfl,rfl⟩ | ⟨rfl,rfl⟩
 ·exact PySem.AutoIntOps.iadd_0 fin
 ·exact PySem.AutoIntOps.isub_0 fin
theorem st_aug_list{e:Expr}{px pos:Pos}{k:Nat}{l r:List PV}(IE:SndE prog K w H0 fns n R)(hs:sOk cx.names x st.vars=true)(h1:evName fns cx x st=some (.cell k,st1))(h2:evP R cx e st1=some (.lst r,st2))
  (hc:st2.cells[k]? = some (.lst l)) (z1:l.length≤1000) (z2:r.length≤1000):StmtOk prog K w H0 n cx (.AugAssign (.Name x px) .Add e pos) st .next ⟨setV x (.cell k) st2.vars,st2.cells.set k (.lst (l++r))⟩:=by
 obtain ⟨v2,w2⟩:=evP_here IE h2
 obtain ⟨e1,_⟩:=evName_loc h1 hs
 have v1:vnm st1.vars=vnm st.vars:=by refine rwE e1 rfl
 refine ⟨(names_setV _).trans (v2.trans v1),fun A outer env G locs s H=>?_⟩
 refine wpAny_AugAssign_Name (W.then (load_nm h1 hs H.E H.T) fun u G1 s1 T1 X1 S1 r1=>?_)
 refine W.then (w2 (H.pred.next v1 T1)) fun u2 G2 s2 T2 X2 S2 r2=>?_
 refine xE12 r1 fun p hp e_2=>?_;refine Bc.rwE e_2 ?_
 have hp2:=X2.grow.at hp
 refine xE34 (rep_lst r2) fun b ws n2 e_3 f2 g2 rl2=>?_;refine Bc.rwE e_3 ?_
 obtain ⟨n1,e1',vs,nn,g,rl⟩:=T2.cells k p _ hp2 hc
 have hl1:=rl.length
 have hl2:=rl2.length
 refine iadd_list g g2 (by refine rwE List.size_toArray ?_;exact le_of_eq_of_le hl1 z1) (by refine rwE List.size_toArray ?_;exact le_of_eq_of_le hl2 z2) ?_
 obtain ⟨T3,X3⟩:=turn_fin (f:=fun xs=>xs++ws.toArray) (vs':=vs++ws) T2 hp2 hc g (by simp) (rl.append rl2)
 exact store_end (a:=.cell k) (st1:=⟨st2.vars,st2.cells.set k (.lst (l++r))⟩) (H.E.of_names (v2.trans v1)) (storeOk_names (v2.trans v1) hs) T3 ((X1.trans X2).trans X3).none ((S1.trans S2).trans (Sh.mk' s2 _ s2.toks)) ⟨p,hp2,rfl⟩
theorem st_expr{fe:Expr}{args:List Expr}{ks:List Keyword}{cp pos:Pos}{r:Rs}(hR:∀{A:Around} {fr:List Env} {env:Env} {G:Gh} {locs:List Loc} {s:Shared},Here K w H0 n cx st A fr env G locs s→Room A 1→wpAny (model prog w) A (eval (.Call fe args ks cp) env) (CallOk K w H0 fr G s st1 locs r) (CallExc K w H0 fr G s st1 locs r) s)
  (hv:vnm st1.vars=vnm st.vars) (hr:(r=.ok (.pv .none)∧f=.next)∨∃d,r=.exc d∧f=.exc d):StmtOk prog K w H0 n cx (.Expr (.Call fe args ks cp) pos) st f st1:=by
 refine ⟨hv,fun A outer env G locs s H=>wpAny_Expr (wpAny_mono (hR H.pred (H.rm.le (by exact Nat.le_add_left 1 n))) (fun u s1 o=>?_) fun e s1 o=>?_) (by unfold interactive;refine rwE H.E.kind ?_;rfl)⟩
 ·obtain ⟨a',q,G1,T1,X1,S1,r1⟩:=o
  rcases hr with ⟨rfl,rfl⟩ | ⟨d,rfl,rfl⟩
  ·cases q
   refine rwE (rep_none (K:=K) (w:=w) (h:=s1.heap) (fz:=G1.fz) r1) ?_
   exact ⟨G1,T1,X1.none,S1,trivial⟩
  ·cases q
 ·rcases hr with ⟨rfl,rfl⟩ | ⟨d,rfl,rfl⟩
  ·obtain ⟨d',q,_⟩:=o;cases q
  ·exact o.toSt
theorem st_tuple{ts:List Expr}{k:Nat}{p pos:Pos}{e:Expr}(IE:SndE prog K w H0 fns n R)(hlp:cx.lp=true)(hne:∀a b c,e≠.Tuple a b c)(h1:evP R cx e st=some (d,st1))(h2:bindT cx.names (.Tuple ts k p) d st1=some st2) :
  StmtOk prog K w H0 n cx (.Assign [.Tuple ts k p] e pos) st .next st2:=by
 obtain ⟨v1,w1⟩:=evP_here IE h1
 refine ⟨(bindT_names h2).trans v1,fun A outer env G locs s H=>?_⟩
 refine PyProof.Rows.Assign_Tuple (W.then (w1 H.pred) fun v G1 s1 T1 X1 S1 r1=>?_) (by cases e<;>rfl) (by cases e<;>first | rfl | exact absurd rfl (hne _ _ _))
 exact WP.then (bindT_ok (H.hh hlp) h2 (H.E.of_names v1) T1 r1) fun z_ G2 s2 T2 X2 S2 z_=>⟨G2,T2,X1.none.trans (X2.weaken fun c z_ z_ z=>At.own z),S1.trans S2,trivial⟩
theorem st_attr{o:Str}{po p pos:Pos}{e:Expr}{k:Nat}{c:Str}{fs:List (Str × AV)}(D:Wd K w H0 fns mg mb)(SO:SetOk K)(IE:SndE prog K w H0 fns n R)(h1:R.ev cx e st=some (a,st1))(h2:R.ev cx (.Name o po) st1=some (.cell k,st2))(hc:st2.cells[k]? = some (.inst c fs))
  (hx:fieldNames.contains x=true) (hpl:plainCls c=true) (hk:hasKeyA x fs=true) (ha:∀d,a≠.exn d):StmtOk prog K w H0 n cx (.Assign [.Attribute (.Name o po) x p] e pos) st .next ⟨st2.vars,st2.cells.set k (.inst c (putA x a fs))⟩:=by
 have e1:=IE.evok h1
 have e2:=IE.evok h2
 refine ⟨e2.1.trans e1.1,fun A outer env G locs s H=>?_⟩
 refine plainObj_wpAny_Assign_Attribute (hs:=swap_attr _ _) (W.then (e1.2 _ _ _ _ _ _ H.pred).1 fun v G1 s1 T1 X1 S1 r1=>?_)
 refine W.then (e2.2 _ _ _ _ _ _ (H.pred.next e1.1 T1)).1 fun u G2 s2 T2 X2 S2 r2=>?_
 refine xE12 r2 fun pp hp e_2=>?_;refine Bc.rwE e_2 ?_
 obtain ⟨_,_,_,C,es,nn,_,_,_,rf,hz⟩:=T2.cells k pp _ hp hc
 refine field_ok (D.kin.keeps T2.keep0) SO T2 hp hc hx hpl ha (by refine rwE (hasKeyA_len hk) (rwB rf.length ?_);exact hz) (RepA.mono X2.grow r1) fun s3 T3 X3 S3=>?_
 exact ⟨G2,T3,((X1.trans X2).trans X3).none,(S1.trans S2).trans S3,trivial⟩
theorem st_item{o:Str}{po p pos:Pos}{e i:Expr}{k:Nat}{l:List PV}{j:Int}(IE:SndE prog K w H0 fns n R)(h1:evP R cx e st=some (d,st1))(h2:R.ev cx (.Name o po) st1=some (.cell k,st2))(h3:evP R cx i st2=some (.int j,st3))(hc:st3.cells[k]? = some (.lst l))
  (h0:0≤j) (hj:j.toNat < l.length) (hz:j < 100000):StmtOk prog K w H0 n cx (.Assign [.Subscript (.Name o po) i p] e pos) st .next ⟨st3.vars,st3.cells.set k (.lst (l.set j.toNat d))⟩:=by
 obtain ⟨v1,w1⟩:=evP_here IE h1
 have e2:=IE.evok h2
 obtain ⟨v3,w3⟩:=evP_here IE h3
 refine ⟨v3.trans (e2.1.trans v1),fun A outer env G locs s H=>?_⟩
 refine wpAny_Assign_Subscript (hs:=swap_sub _ _) (W.then (w1 H.pred) fun v G1 s1 T1 X1 S1 r1=>?_)
 refine W.then (e2.2 _ _ _ _ _ _ (H.pred.next v1 T1)).1 fun u G2 s2 T2 X2 S2 r2=>?_
 refine W.then (w3 (H.pred.next (e2.1.trans v1) T2)) fun iv G3 s3 T3 X3 S3 r3=>?_
 refine xE12 r2 fun pp hp e_2=>?_;refine Bc.rwE e_2 ?_
 obtain ⟨t,rfl⟩:=rep_int r3
 refine item_ok T3 (X3.grow.at hp) hc h0 hz hj (Rep.mono X3.fz (Rep.mono X2.fz r1)) fun s4 T4 X4 S4=>?_
 exact ⟨G3,T4,(((X1.trans X2).trans X3).trans X4).none,((S1.trans S2).trans S3).trans S4,trivial⟩
theorem field_get{k j:Nat}{p:Addr × Addr}{c:Str}{fs:List (Str × AV)}(D:Wd K w H0 fns mg mb)(C:ClsOk K)(T:Rel K w H0 fr G st locs s.heap)(hp:G.ad[k]? = some p)(hc:st.cells[k]? = some (.inst c fs))(hx:fieldNames.contains x=true)(hpl:plainCls c=true)(hl:lookA x fs=some (.cell j)) :
  W K w H0 fr prog A (getAttr (.ref p.1) x true) G st locs s fun v G' h'=>RepA K w G' h' v (.cell j):=by
 obtain ⟨n1,n2,ne,Ca,es,nn,hC,g1,g2,rf,hz⟩:=T.cells k p _ hp hc
 refine xE12 ((findFA rf).1 _ hl) fun v gl rv=>?_
 refine xE03 (C.attrs _ _ x hC hpl hx) fun p1 p2 p3=>?_
 have hv:handedIn v=true:=by obtain ⟨q,_,rfl⟩:=rv;rfl
 exact get_value (D.kin.keeps T.keep0) ⟨g1,rfl,rfl,g2⟩ (plainGet_at p1) (findObj_own p2 p3 rfl ((lookIn_dict _ _ _).trans gl)) hv (Out.tok T rv)
theorem st_entry{o key:Str}{po pa pc p pos:Pos}{kk:Nat}{e:Expr}{k j:Nat}{es:List (Str × PV)}(D:Wd K w H0 fns mg mb)(C:ClsOk K)(IE:SndE prog K w H0 fns n R)(h1:evP R cx e st=some (d,st1))(h2:R.ev cx (.Name o po) st1=some (.cell k,st2))(h3:fieldOf st2.cells k x=some (.cell j))(hc:st2.cells[j]? = some (.dct es))
  (hz:es.length≤100) (hn:nodupS (es.map (·.1))=true):StmtOk prog K w H0 n cx (.Assign [.Subscript (.Attribute (.Name o po) x pa) (.Constant (.str key) kk pc) p] e pos) st .next ⟨st2.vars,st2.cells.set j (.dct (putA key d es))⟩:=by
 obtain ⟨v1,w1⟩:=evP_here IE h1
 have e2:=IE.evok h2
 refine ⟨e2.1.trans v1,fun A outer env G locs s H=>?_⟩
 refine wpAny_Assign_Subscript (hs:=swap_sub _ _) (W.then (w1 H.pred) fun v G1 s1 T1 X1 S1 r1=>?_)
 have hat:wpAny (model prog w) A (eval (.Attribute (.Name o po) x pa) env) (fun v s'=>Out K w H0 (env::outer) G1 s1 st2 locs (fun G' h'=>RepA K w G' h' v (.cell j)) s') (fun z_ z_=>False) s1:=by
  rw [arm_eval_Attribute,aBP rfl]
  refine wpAny_bind (W.then (e2.2 _ _ _ _ _ _ (H.pred.next v1 T1)).1 fun u G2 s2 T2 X2 S2 r2=>?_)
  refine xE12 r2 fun pp hp e_2=>?_;refine Bc.rwE e_2 ?_
  refine obE h3 fun c hcc h3=>bifT h3 fun hcond h3=>?_
  rw [Bool.and_eq_true] at hcond
  refine wpAny_bind (wpAny_standAt (wpAny_bind (wpAny_holding (W.then (field_get D C T2 hp (instAt_some hcc) hcond.1 hcond.2 h3) fun v G3 s3 T3 X3 S3 r3=>?_))))
  exact wpAny_bind (wpAny_letTemporaryGo (wpAny_pure ⟨G3,T3,X2.trans X3,S2.trans S3,r3⟩))
 refine wpAny_mono hat (fun u s2 o=>?_) fun z_ z_ f=>f.elim
 refine OutP.el o fun G2 T2 X2 S2 r2=>?_
 refine xE12 r2 fun pp hp e_2=>?_;refine Bc.rwE e_2 ?_
 refine wpAny_Constant_str ?_
 refine entry_ok (s:={ s2 with toks:=s2.toks+1 }) T2 hp hc hz hn (Rep.mono X2.fz r1) fun s4 T4 X4 S4=>?_
 exact ⟨G2,T4,((X1.trans X2).trans X4).none,((S1.trans S2).trans (Sh.mk' s2 s2.heap _)).trans S4,trivial⟩
end
end Bc
namespace Bc
structure Facts(prog:Program)(K:Frag)(w:World)(H0:Heap)(fns:List DefRec)(mg mb:Str→Option Value):Prop where
 D:Wd K w H0 fns mg mb
 C:ClsOk K
 SO:SetOk K
 GO:GlOk K fns
 MO:MkOk prog K w H0
 RF:RefRec K
structure Snd(prog:Program)(K:Frag)(w:World)(H0:Heap)(fns:List DefRec)(n:Nat)(R:Rc):Prop where
 e:SndE prog K w H0 fns n R
 x:SndX prog K w H0 n R
 c:SndC prog K w H0 n R
 k:∀y as cs r,R.call y as cs=some r→∃d∈fns,d.name=y
theorem ob_some{α β:Type}{x:Option α}{f:α→Option β}{y:β}(h:ob x f=some y):∃a,x=some a∧f a=some y:=obE h fun a h1 h2=>⟨a,h1,h2⟩
theorem cf_some{β:Type}{c:Bool}{z:Option β}{y:β}(h:(bif c then none else z)=some y):c=false∧z=some y:=bifF h fun a b=>⟨a,b⟩
theorem ct_some{β:Type}{c:Bool}{z:Option β}{y:β}(h:(bif c then z else none)=some y):c=true∧z=some y:=bifT h fun a b=>⟨a,b⟩
theorem asInt_some{d:PV}{i:Int}(h:asInt d=some i):d=.int i:=asIntE h
theorem asStr_some{d:PV}{i:Str}(h:asStr d=some i):d=.str i:=asStrE h
theorem asLst_some{d:PV}{i:List PV}(h:asLst d=some i):d=.lst i:=asLstE h
theorem asPV_some{d:AV}{i:PV}(h:asPV d=some i):d=.pv i:=asPVE h
theorem noneA_true{d:AV}(h:isNoneA d=true):d=.pv .none:=by
 cases d with
 |pv d=>cases d<;>cases h<;>rfl
 |_=>cases h
theorem notExn_true{d:AV}(h:notExn d=true):∀e,d≠.exn e:=by
 cases d with
 |exn _=>cases h
 |_=>intro e z;cases z
theorem nameE_true{e:Expr}(h:(nameE e).isSome=true):∃x p,e=.Name x p:=by
 cases q:nameE e with
 |none=>rw [q] at h;cases h
 |some x=>obtain ⟨p,r⟩:=nameE_some q;exact ⟨x,p,r⟩
theorem attrE_none{e:Expr}(h:attrE e=none):∀o y p,e≠.Attribute o y p:=by
 intro o y p z;subst z;exact cz1 h
theorem sliceOf_none{e:Expr}(h:sliceOf e=none):isSliceE e=false:=by
 unfold sliceOf at h
 unfold isSliceE
 cases hk:ek e with
 |slice a b c=>rw [hk] at h;exact cz1 h
 |_=>rfl
section
variable{K:Frag}{w:World}{H0 h0:Heap}{fns:List DefRec}{mg mb:Str→Option Value}{fr outer:List Env}{prog:Program}{A:Around}{G G0 G1 G2 G':Gh}{st st' st1 st2 st3:Bc.St}{locs locs':List Loc}{s s1 s2 s':Shared}{env:Env}{h h' h1 h2:Heap}{P P':Addr→Prop}{n:Nat}{R:Rc}{cx:Cx}
 {φ:Gh→Heap→Prop} {b:Addr} {v:Value} {d:PV} {a:AV} {x:Str} {M:Model} {E:Value→Shared→Prop} {f:Fl}
theorem ev_meth{o:Expr}{m:Str}{args:List Expr}{apos pos:Pos}(IE:SndE prog K w H0 fns n R)(hl:(apos.endLine==pos.line)=true)(q:evMeth R cx o m args st=some (a,st')):EvOk prog K w H0 n cx (.Call (.Attribute o m apos) args [] pos) st a st':=by
 refine bifF q fun hc q1=>?_
 rw [Bool.or_eq_false_iff,Bool.or_eq_false_iff] at hc
 have hs:=hc.1.1
 have hn:=len_le hc.1.2
 have ho:nSC o=true:=by simpa using hc.2
 refine bifE q1 (fun z_ q1=>?_) fun q1=>?_
 ·refine obE2 q1 fun c st1 h1 q1=>obE q1 fun k hk0 q1=>bifT q1 fun hk q1=>obE2 q1 fun ds st2 h2 q1=>obE q1 fun o1 h3 q1=>obE q1 fun o2 h4 q1=>cz4 q1 ?_
  have hk0:=asCell_some hk0
  dsimp only at hk0
  subst hk0
  refine EvOk.plain (fun z_ z_=>rfl) ((evPs_names IE h2).trans (IE.evok h1).1) fun A fr env G locs s H=>?_
  exact W.mono (turn_ok IE H hs hn hl ho h1 hk h2 h3 h4) fun v G h e=>e▸.none
 ·refine obE2 q1 fun d st1 h1 q1=>obE2 q1 fun ds st2 h2 q1=>obE q1 fun r h3 q1=>cz4 q1 ?_
  refine EvOk.plain (fun z_ z_=>rfl) ((evPs_names IE h2).trans (ePn IE h1)) fun A fr env G locs s H=>?_
  exact methP_ok IE H hs hn hl ho h1 h2 h3
theorem ev_fstr'{ps:List Expr}{pos:Pos}{y:Str}(IE:SndE prog K w H0 fns n R)(n1:ps=[]→False)(n2:∀x,ps=[x]→False)(h1:evParts R cx ps Str.empty st=some (y,st')):EvOk prog K w H0 n cx (.JoinedStr ps pos) st (.pv (.str y)) st':=by
 cases ps with
 |nil=>exact absurd rfl n1
 |cons p1 ps=>cases ps with
  |nil=>exact absurd rfl (n2 _)
  |cons p2 ps=>exact ev_fstr IE h1
theorem evName_st(q:evName fns cx x st=some (a,st')):st'=st:=by
 refine bifF q fun z_ q=>obE q fun k hq q=>?_
 cases k with
 | «local»=>exact obE q fun z_ z_ q=>cz4 (P:=fun z_ st'=>st'=st) q rfl
 |cell=>exact obE q fun z_ z_ q=>cz4 (P:=fun z_ st'=>st'=st) q rfl
 |free=>exact bifF q fun z_ q=>obE q fun z_ z_ q=>cz4 (P:=fun z_ st'=>st'=st) q rfl
 |globalImplicit=>exact bifT q fun z_ q=>cz4 (P:=fun z_ st'=>st'=st) q rfl
 |globalExplicit=>exact cz0 q
theorem stp_un{op:UnaryOp}{l:Expr}{p:Pos}(IE:SndE prog K w H0 fns n R)(q:evUnE R cx op l st=some (a,st')):EvOk prog K w H0 n cx (.UnaryOp op l p) st a st':=by
 cases op with
 |USub =>
  refine obE q fun x h1 q1=>?_
  refine obE q1 fun i h2 q2=>?_
  have h1:evP R cx l st=some (.int i,x.2):=by refine rwE h1 (rwB (asInt_some h2) rfl)
  refine cz4 q2 ?_;exact ev_neg IE h1
 |Not =>
  refine obE q fun x h1 q3=>?_
  refine cz4 q3 ?_;exact ev_not (evT_here IE h1)
 |_=>exact cz0 q
theorem stp_bool{op:BoolOp}{vs:List Expr}{p:Pos}(IE:SndE prog K w H0 fns n R)(q:evBoolE R cx op vs st=some (a,st')):EvOk prog K w H0 n cx (.BoolOp op vs p) st a st':=by
 refine bifF q fun hne q1=>?_
 have hne:vs≠[]:=fun z=>by subst z;cases hne
 cases op with
 |And =>
  refine obE q1 fun x h1 q2=>?_
  refine cz4 q2 ?_;exact ev_and IE hne h1
 |Or =>
  refine obE q1 fun x h1 q3=>?_
  refine cz4 q3 ?_;exact ev_or IE hne h1
theorem stp_if{t b o:Expr}{p:Pos}(IE:SndE prog K w H0 fns n R)(q:evIfE R cx t b o st=some (a,st')):EvOk prog K w H0 n cx (.IfExp t b o p) st a st':=by
 refine obE2 q fun c st1 h1 q1=>?_
 cases c
 ·exact ev_ifexp (b:=false) (evT_here IE h1) (IE.evok q1)
 ·exact ev_ifexp (b:=true) (evT_here IE h1) (IE.evok q1)
theorem stp_cmp{l r:Expr}{op:CmpOp}{p:Pos}(IE:SndE prog K w H0 fns n R)(q:evCmpE R cx l op r st=some (a,st')):EvOk prog K w H0 n cx (.Compare l [op] [r] p) st a st':=by
 refine bifF q fun hb q1=>?_
 refine obE q1 fun x h1 q2=>?_
 refine obE q2 fun y h2 q3=>?_
 refine obE q3 fun d h3 q4=>?_
 refine cz4 q4 ?_;exact ev_cmp IE hb h1 h2 h3
theorem star_of{es:List Expr}(h:(es.any isS||decide (1000 < es.length))=false):es.any isS=false∧es.length≤1000:=by
 rw [Bool.or_eq_false_iff,decide_eq_false_iff_not] at h
 exact ⟨h.1,Nat.le_of_not_lt h.2⟩
theorem stp_list{es:List Expr}{p:Pos}(IE:SndE prog K w H0 fns n R)(q:evListE R cx es st=some (a,st')):EvOk prog K w H0 n cx (.List es p) st a st':=by
 refine bifF q fun hb q1=>?_
 refine obE q1 fun x h1 q2=>?_
 refine cz4 q2 ?_;exact ev_list IE (star_of hb).1 (star_of hb).2 h1
theorem stp_tup{es:List Expr}{k:Nat}{p:Pos}(IE:SndE prog K w H0 fns n R)(q:evTupE R cx es st=some (a,st')):EvOk prog K w H0 n cx (.Tuple es k p) st a st':=by
 refine bifF q fun hb q1=>?_
 refine obE q1 fun x h1 q2=>?_
 refine cz4 q2 ?_;exact ev_tuple IE (star_of hb).1 (star_of hb).2 h1
theorem stp_dict{ks:List (Option Expr)}{vs:List Expr}{p:Pos}(D:Wd K w H0 fns mg mb)(IE:SndE prog K w H0 fns n R)(q:evDictE R cx ks vs st=some (a,st')):EvOk prog K w H0 n cx (.Dict ks vs p) st a st':=by
 refine obE q fun ns h1 q1=>?_
 refine bifT q1 fun hb q2=>?_
 refine obE q2 fun x h2 q3=>?_
 simp only [Bool.and_eq_true,decide_eq_true_eq,beq_iff_eq] at hb
 refine cz4 q3 ?_;exact ev_dict D IE h1 hb.1.1.1 hb.1.1.2 hb.1.2 hb.2 h2
theorem stp_str{ps:List Expr}{p:Pos}(IE:SndE prog K w H0 fns n R)(q:evStrE R cx ps st=some (a,st')):EvOk prog K w H0 n cx (.JoinedStr ps p) st a st':=by
 refine bifT q fun hb q1=>?_
 refine obE q1 fun x h1 q2=>?_
 cases q2
 exact ev_fstr' IE (fun z=>by subst z;cases hb) (fun z_ z=>by subst z;cases hb) h1
theorem stp_attr{o:Expr}{p:Pos}(D:Wd K w H0 fns mg mb)(C:ClsOk K)(IE:SndE prog K w H0 fns n R)(q:evAttrE R cx o x st=some (a,st')):EvOk prog K w H0 n cx (.Attribute o x p) st a st':=by
 refine bifT q fun hb q1=>?_
 refine obE q1 fun y h1 q2=>?_
 refine obE q2 fun z h2 q3=>?_
 refine cz4 q3 ?_;exact ev_attr D C IE hb h1 h2
theorem stp_item{o i:Expr}{p:Pos}(IE:SndE prog K w H0 fns n R)(hs:isSliceE i=false)(q:evItemE R cx o i st=some (a,st')):EvOk prog K w H0 n cx (.Subscript o i p) st a st':=by
 refine obE2 q fun b st1 h1 q1=>?_
 cases b with
 |pv d =>
  refine obE q1 fun y h2 q2=>?_
  refine obE q2 fun z h3 q3=>?_
  refine cz4 q3 ?_;exact ev_sub IE hs h1 h2 h3
 |cell k =>
  refine obE2 q1 fun y st2 h2 q4=>?_
  refine obE q4 fun j h3 q5=>?_
  refine obE q5 fun l h4 q6=>?_
  refine obE q6 fun z h5 q7=>?_
  have eq1:=asInt_some h3
  subst eq1
  refine cz4 q7 ?_;exact ev_subC IE hs h1 h2 (lstAt_some h4) h5
 |exn _=>exact cz0 q1
theorem stp_slice{o:Expr}{lo hi:Option Expr}{p p2:Pos}(IE:SndE prog K w H0 fns n R)(q:evSliceE R cx o lo hi st=some (a,st')):EvOk prog K w H0 n cx (.Subscript o (.Slice lo hi none p2) p) st a st':=by
 refine obE2 q fun b st1 h1 q1=>?_
 refine obE q1 fun d h0 q2=>?_
 have eq2:=asPV_some h0
 subst eq2
 refine obE q2 fun y h2 q3=>?_
 refine obE q3 fun z h3 q4=>?_
 refine obE q4 fun u h4 q5=>?_
 refine cz4 q5 ?_;exact ev_slice IE h1 h2 h3 h4
theorem stp_sub{o i:Expr}{p:Pos}(IE:SndE prog K w H0 fns n R)(q:evSubE R cx o i st=some (a,st')):EvOk prog K w H0 n cx (.Subscript o i p) st a st':=by
 unfold evSubE at q
 cases hs:sliceOf i with
 |none =>
  rw [hs] at q
  exact stp_item IE (sliceOf_none hs) q
 |some z =>
  rw [hs] at q
  obtain ⟨lo,hi,sp⟩:=z
  refine xE11 (sliceOf_some hs) fun p2 e=>?_
  refine Bc.rwE e ?_
  cases sp with
  |none=>exact stp_slice IE q
  |some _=>exact cz0 q
theorem okRs_some{r:Rs}{s0:Bc.St}(h:okRs r s0=some (a,st')):r=.ok a∧s0=st':=by cases r<;>cases h<;>exact ⟨rfl,rfl⟩
theorem stp_call{fe:Expr}{args:List Expr}{p:Pos}(F:Facts prog K w H0 fns mg mb)(S:Snd prog K w H0 fns n R)(q:evCallE R cx fe args p st=some (a,st')):EvOk prog K w H0 (n+1) cx (.Call fe args [] p) st a st':=by
 unfold evCallE at q
 cases hf:attrE fe with
 |some z =>
  rw [hf] at q
  have e:=attrE_some hf
  refine Bc.rwE e ?_
  refine bifT q fun hl q1=>?_
  exact (ev_meth S.e hl q1).pred
 |none =>
  rw [hf] at q
  refine obE2 q fun r s0 h1 q2=>?_
  obtain ⟨e1,e2⟩:=okRs_some q2
  cases e1;cases e2
  exact ev_call F.GO F.MO F.D S.e S.c S.k h1 (attrE_none hf)
theorem ev_step(F:Facts prog K w H0 fns mg mb)(S:Snd prog K w H0 fns n R){e:Expr}(q:stepEv fns R cx e st=some (a,st')):EvOk prog K w H0 (n+1) cx e st a st':=by
 have IE:=S.e
 cases e with
 |Name x p =>
  have q:evName fns cx x st=some (a,st'):=q
  have hst:st'=st:=evName_st q
  refine EvOk.plain (fun z_ z_=>rfl) (by refine rwE hst rfl) fun A fr env G locs s H=>?_
  exact (ev_name F.D q H.E H.T).2
 |Constant c k p =>
  replace q:=ob_some (show ob (evConst c) _=_ from q)
  refine xE12 q fun d h1 q=>?_
  cases q
  exact EvOk.plain (fun z_ z_=>rfl) rfl fun A fr env G locs s H=>ev_const h1 H.T
 |BinOp l op r p =>
  replace q:=ob_some (show ob (evP R cx l st) _=_ from q)
  refine xE12 q fun y h1 q=>?_
  refine obE q fun z h2 q1=>?_
  refine obE q1 fun d h3 q2=>?_
  refine cz4 q2 ?_;exact (ev_binop IE h1 h2 h3).pred
 |UnaryOp op l p=>exact (stp_un IE q).pred
 |IfExp t b o p=>exact (stp_if IE q).pred
 |BoolOp op vs p=>exact (stp_bool IE q).pred
 |Compare l ops rs p =>
  cases ops with
  |nil=>exact cz0 q
  |cons op ops =>
   cases ops with
   |cons _ _=>exact cz0 q
   |nil =>
    cases rs with
    |nil=>exact cz0 q
    |cons r rs =>
     cases rs with
     |cons _ _=>exact cz0 q
     |nil=>exact (stp_cmp IE q).pred
 |List es p=>exact (stp_list IE q).pred
 |Tuple es k p=>exact (stp_tup IE q).pred
 |Dict ks vs p=>exact (stp_dict F.D IE q).pred
 |ListComp elt gens sc p=>exact (ev_comp IE q).pred
 |JoinedStr ps p=>exact (stp_str IE q).pred
 |Attribute o x p=>exact (stp_attr F.D F.C IE q).pred
 |Subscript o i p=>exact (stp_sub IE q).pred
 |Call fe args ks p =>
  cases ks with
  |nil=>exact stp_call F S q
  |cons _ _=>exact cz0 q
 |_=>exact cz0 q
theorem try_none{body hb:List Stmt}{b0:Stmt}{t:Expr}{hp pos:Pos}{nm:Str}(IX:SndX prog K w H0 n R)(h1:exs R cx body st=some (f,st'))(hf:∀d,f≠.exc d):StmtOk prog K w H0 n cx (.Try body [.ExceptHandler (some t) (some nm) (b0::hb) hp] [] [] pos) st f st':=by
 obtain ⟨v1,w1⟩:=exs_ok IX h1
 refine ⟨v1,fun A outer env G locs s H=>wpAny_Try_except (wpAny_mono (w1 H.pred) (fun fl s1 z=>?_) fun e s1 z=>?_)⟩
 ·cases fl with
  |next=>exact wpAny_pure z
  |_=>exact z
 ·refine StExc.el z fun d' q z_=>?_
  exact absurd q (hf d')
theorem sx_R(F:Facts prog K w H0 fns mg mb)(S:Snd prog K w H0 fns n R){e:Expr}{r:Rs}(h:evR R cx e st=some (r,st1)):vnm st1.vars=vnm st.vars∧∀{A:Around} {fr:List Env} {env:Env} {G:Gh} {locs:List Loc} {s:Shared},Here K w H0 n cx st A fr env G locs s→Room A 1 →
   wpAny (model prog w) A (eval e env) (CallOk K w H0 fr G s st1 locs r) (CallExc K w H0 fr G s st1 locs r) s:=evR_ok F.GO F.MO F.D S.e S.c S.k h
theorem sx_lift(S:Snd prog K w H0 fns n R){stms:List Stmt}(h:exs R cx stms st1=some (f,st2))(H:Here K w H0 n cx st1 A fr env G1 locs s1)(he:fr=env::outer)(X:Ext fr G s.heap G1 s1.heap None_)(S1:Sh s s1) :
   wpAny (model prog w) A (execs stms env) (StOk K w H0 fr G s st2 locs f) (StExc K w H0 fr G s st2 locs f) s1:=by
 subst he
 exact wpAny_mono ((exs_ok S.x h).2 H) (fun z_ z_ o=>o.comp X.none S1) fun z_ z_ o=>o.comp X.none S1
theorem sx_return{eo:Option Expr}{p:Pos}(F:Facts prog K w H0 fns mg mb)(S:Snd prog K w H0 fns n R)(q:exReturn R cx eo st=some (f,st')):StmtOk prog K w H0 n cx (.Return eo p) st f st':=by
 cases eo with
 |none=>refine cz4 q ?_;exact ⟨rfl,fun A outer env G locs s H=>wpAny_Return_none ⟨G,H.T,Ext.refl ..,Sh.refl _,.none⟩⟩
 |some e =>
  refine obE2 q fun r st1 h1 q1=>?_
  obtain ⟨v1,w1⟩:=sx_R F S h1
  refine st_return w1 v1 ?_
  cases r with
  |exc d=>exact q1
  |ok a =>
   refine obE q1 fun z h2 q2=>?_
   dsimp only
   refine rwE h2 ?_;exact q2
theorem sx_if{t:Expr}{b o:List Stmt}{p:Pos}(S:Snd prog K w H0 fns n R)(q:exIf R cx t b o st=some (f,st')):StmtOk prog K w H0 n cx (.If t b o p) st f st':=by
 refine obE2 q fun c st1 h1 q1=>?_
 have e1:=evT_here S.e h1
 cases c
 ·have q1:exs R cx o st1=some (f,st'):=q1
  refine ⟨(exs_ok S.x q1).1.trans e1.1,fun A outer env G locs s H=>wpAny_If (W.then ((e1.2 _ _ _ _ _ _ H.pred).2 false rfl) fun b' G1 s1 T1 X1 S1 hb=>?_)⟩
  subst hb
  exact sx_lift S q1 (H.pred.next e1.1 T1) rfl X1 S1
 ·have q1:exs R cx b st1=some (f,st'):=q1
  refine ⟨(exs_ok S.x q1).1.trans e1.1,fun A outer env G locs s H=>wpAny_If (W.then ((e1.2 _ _ _ _ _ _ H.pred).2 true rfl) fun b' G1 s1 T1 X1 S1 hb=>?_)⟩
  subst hb
  exact sx_lift S q1 (H.pred.next e1.1 T1) rfl X1 S1
theorem sx_for{t i:Expr}{body:List Stmt}{p:Pos}(S:Snd prog K w H0 fns n R)(q:exFor R cx t i body st=some (f,st')):StmtOk prog K w H0 n cx (.For t i body [] p) st f st':=by
 refine bifF q fun hc q1=>?_
 refine obE q1 fun x h1 q2=>?_
 refine obE q2 fun ds hds q3=>?_
 rw [Bool.or_eq_false_iff,Bool.not_eq_false'] at hc
 obtain ⟨v1,w1⟩:=evP_here S.e h1
 refine ⟨(loop_names S.x q3).trans v1,fun A outer env G locs s H=>?_⟩
 have hh:=H.hh hc.1
 refine wpAny_For (hs:=fun x=>notSet hc.2 env x) (W.then (w1 H.pred) fun v G1 s1 T1 X1 S1 r1=>W.then (iter_ok hh hds T1 r1) fun it G2 s2 T2 X2 S2 z=>?_)
 refine codeAny_mono (for_ok S.x q3 hh (H.pred.next v1 T1) z T2 X2.none S2) fun r s3 z3=>?_
 cases r with
 |ok fl=>exact StOk.comp X1.none S1 z3
 |error e=>exact wpAny_mono z3 (fun z_ z_ o=>StExc.comp X1.none S1 o) fun z_ z_ o=>StExc.comp X1.none S1 o
theorem sx_while{t:Expr}{body:List Stmt}{p:Pos}(S:Snd prog K w H0 fns n R)(q:exWhile R cx t body st=some (f,st')):StmtOk prog K w H0 n cx (.While t body [] p) st f st':=by
 refine bifF q fun z_ q1=>?_
 refine ⟨whl_names S.e S.x q1,fun A outer env G locs s H=>wpAny_While (codeAny_mono (whl_ok S.e S.x q1 H.pred) fun r s3 z3=>?_)⟩
 cases r with
 |ok fl=>exact z3
 |error e=>exact z3
theorem sx_expr{e:Expr}{p:Pos}(F:Facts prog K w H0 fns mg mb)(S:Snd prog K w H0 fns n R)(q:exExpr R cx e st=some (f,st')):StmtOk prog K w H0 n cx (.Expr e p) st f st':=by
 refine bifT q fun hc q1=>?_
 refine obE2 q1 fun r st1 h1 q2=>?_
 obtain ⟨v1,w1⟩:=sx_R F S h1
 cases he:callE e with
 |none=>rw [he] at hc;cases hc
 |some z =>
  refine xE11 (callE_some he) fun p' e'=>?_
  subst e'
  cases r with
  |exc d=>refine cz4 q2 ?_;exact st_expr w1 v1 (.inr ⟨_,rfl,rfl⟩)
  |ok a =>
   refine bifT q2 fun hz q3=>?_
   have eq3:=noneA_true hz
   subst eq3
   refine cz4 q3 ?_;exact st_expr w1 v1 (.inl ⟨rfl,rfl⟩)
theorem aug_some{op:Operator}{i j k:Int}(h:augI op i j=some k):(op=.Add∧k=i+j)∨(op=.Sub∧k=i - j):=by
 cases op<;>cases h
 ·exact .inl ⟨rfl,rfl⟩
 ·exact .inr ⟨rfl,rfl⟩
theorem isAdd_true{op:Operator}(h:isAddO op=true):op=.Add:=by cases op<;>first | rfl | cases h
theorem sx_aug{op:Operator}{v:Expr}{p p2:Pos}(S:Snd prog K w H0 fns n R)(q:exAug fns R cx x op v st=some (f,st')):StmtOk prog K w H0 n cx (.AugAssign (.Name x p2) op v p) st f st':=by
 refine bifF q fun hs q1=>?_
 rw [Bool.not_eq_false'] at hs
 refine obE2 q1 fun b st1 h1 q2=>?_
 cases b with
 |pv d =>
  refine obE2 q2 fun y st2 h2 q3=>?_
  refine obE q3 fun i h3 q4=>?_
  refine obE q4 fun j h4 q5=>?_
  refine obE q5 fun k h5 q6=>?_
  have eq4:=asInt_some h3
  subst eq4
  have eq5:=asInt_some h4
  subst eq5
  refine cz4 q6 ?_;exact st_aug_int S.e hs h1 h2 (aug_some h5)
 |cell k =>
  refine obE2 q2 fun y st2 h2 q7=>?_
  refine obE q7 fun r h3 q8=>?_
  refine obE q8 fun l h4 q9=>?_
  refine bifT q9 fun hb q10=>?_
  rw [Bool.and_eq_true,decide_eq_true_eq] at hb
  cases asLst_some h3;cases isAdd_true hb.1
  refine cz4 q10 ?_;exact st_aug_list S.e hs h1 h2 (lstAt_some h4) hb.2.1 hb.2.2
 |exn _=>exact cz0 q2
theorem vk_lc{v elt:Expr}{gens:List Comprehension}{sc:Scope}(h:vkOf v=.lc elt gens sc):∃p,v=.ListComp elt gens sc p:=by
 have q:=ekd v
 unfold vkOf at h
 cases hk:ek v with
 |lc e g s=>rw [hk] at h q;injection h with a b c;subst a b c;exact q
 |_=>rw [hk] at h;exact nomatch h
theorem vk_not{v:Expr}(h1:∀elt gens sc,vkOf v≠.lc elt gens sc)(h2:vkOf v≠.bad):(∀a b c d,v≠.ListComp a b c d)∧(∀a b c d,v≠.SetComp a b c d)∧∀a b c d e,v≠.DictComp a b c d e :=
 ⟨fun a b c z_ z=>h1 a b c (by refine rwE z ?_;rfl),fun z_ z_ z_ z_ z=>h2 (by refine rwE z ?_;rfl),fun z_ z_ z_ z_ z_ z=>h2 (by refine rwE z ?_;rfl)⟩
theorem sx_asgR{v:Expr}{p p2:Pos}(F:Facts prog K w H0 fns mg mb)(S:Snd prog K w H0 fns n R)(hs:sOk cx.names x st.vars=true)(h1:∀elt gens sc,vkOf v≠.lc elt gens sc)(h2:vkOf v≠.bad)
  (q:(ob (evR R cx v st) fun p=>match p.1 with | .ok a=>some (Fl.next,(⟨setV x a p.2.vars,p.2.cells⟩:Bc.St)) | .exc d=>some (.exc d,p.2))=some (f,st')):StmtOk prog K w H0 n cx (.Assign [.Name x p2] v p) st f st':=by
 refine obE2 q fun r st1 h3 q1=>?_
 obtain ⟨v1,w1⟩:=sx_R F S h3
 refine xE03 (vk_not h1 h2) fun n1 n2 n3=>?_
 refine st_assign hs n1 n2 n3 w1 v1 ?_
 cases r<;>exact q1
theorem sx_asgN{v:Expr}{p p2:Pos}(F:Facts prog K w H0 fns mg mb)(S:Snd prog K w H0 fns n R)(q:exAsgN R cx x v st=some (f,st')):StmtOk prog K w H0 n cx (.Assign [.Name x p2] v p) st f st':=by
 refine bifF q fun hs q1=>?_
 rw [Bool.not_eq_false'] at hs
 cases hv:vkOf v with
 |lc elt gens sc =>
  rw [hv] at q1
  refine xE11 (vk_lc hv) fun p' e'=>?_
  refine Bc.rwE e' ?_
  refine obE q1 fun y h1 q2=>?_
  refine cz4 q2 ?_;exact st_comp S.e hs h1
 |bad=>rw [hv] at q1;cases q1
 |tup=>rw [hv] at q1;exact sx_asgR F S hs (by refine rwE hv ?_;intro _ _ _ z;cases z) (by refine rwE hv ?_;intro z;cases z) q1
 |plain=>rw [hv] at q1;exact sx_asgR F S hs (by refine rwE hv ?_;intro _ _ _ z;cases z) (by refine rwE hv ?_;intro z;cases z) q1
theorem sx_asgS{o i v:Expr}{p p2:Pos}(F:Facts prog K w H0 fns mg mb)(S:Snd prog K w H0 fns n R)(q:exAsgS R cx o i v st=some (f,st')):StmtOk prog K w H0 n cx (.Assign [.Subscript o i p2] v p) st f st':=by
 unfold exAsgS at q
 cases ho:attrE o with
 |some z =>
  rw [ho] at q
  obtain ⟨o2,x,p3⟩:=z
  have eq6:=attrE_some ho
  refine Bc.rwE eq6 ?_
  refine bifT q fun hn q1=>?_
  refine xE21 (nameE_true hn) fun y p4 e4=>?_
  subst e4
  refine obE q1 fun key hk q2=>?_
  refine xE21 (strE_some hk) fun k' p5 e5=>?_
  refine Bc.rwE e5 ?_
  refine obE q2 fun d h1 q3=>?_
  refine obE2 q3 fun c st2 h2 q4=>?_
  refine obE q4 fun k h3 q5=>?_
  refine obE q5 fun a' h4 q6=>?_
  refine obE q6 fun j h5 q7=>?_
  refine obE q7 fun es h6 q8=>?_
  refine bifT q8 fun hb q9=>?_
  have hb:=of_decide_eq_true hb
  have eq7:=asCell_some h3
  subst eq7
  have eq8:=asCell_some h5
  subst eq8
  refine cz4 q9 ?_;exact st_entry F.D F.C S.e h1 h2 h4 (dctAt_some h6) hb.1 hb.2.2
 |none =>
  rw [ho] at q
  refine bifT q fun hn q10=>?_
  refine xE21 (nameE_true hn) fun y p4 e4=>?_
  subst e4
  refine bifF q10 fun z_ q11=>?_
  refine obE q11 fun d h1 q12=>?_
  refine obE2 q12 fun c st2 h2 q13=>?_
  refine obE q13 fun k h3 q14=>?_
  refine obE2 q14 fun j' st3 h4 q15=>?_
  refine obE q15 fun j h5 q16=>?_
  refine obE q16 fun l h6 q17=>?_
  refine bifT q17 fun hb q18=>?_
  have hb:=of_decide_eq_true hb
  have eq9:=asCell_some h3
  subst eq9
  have eq10:=asInt_some h5
  subst eq10
  refine cz4 q18 ?_;exact st_item S.e h1 h2 h4 (lstAt_some h6) hb.1 hb.2.1 hb.2.2
theorem sx_asg1{t v:Expr}{p:Pos}(F:Facts prog K w H0 fns mg mb)(S:Snd prog K w H0 fns n R)(q:exAsg1 R cx t v st=some (f,st')):StmtOk prog K w H0 n cx (.Assign [t] v p) st f st':=by
 cases t with
 |Name x p2=>exact sx_asgN F S q
 |Tuple ts k p2 =>
  replace q:=cf_some (show (bif !cx.lp||isTupV (vkOf v) then none else _)=_ from q)
  obtain ⟨hc,q⟩:=q
  rw [Bool.or_eq_false_iff,Bool.not_eq_false'] at hc
  refine obE q fun d h1 q1=>?_
  refine obE q1 fun st2 h2 q2=>?_
  refine cz4 q2 ?_;exact st_tuple S.e hc.1 (fun z_ z_ z_ z=>by subst z;cases hc.2) h1 h2
 |Attribute o x p2 =>
  replace q:=ct_some (show (bif (nameE o).isSome then _ else none)=_ from q)
  obtain ⟨hn,q⟩:=q
  refine xE21 (nameE_true hn) fun y p4 e4=>?_
  subst e4
  replace q:=ob_some q
  refine xE12 q fun a' h1 q=>?_
  refine obE2 q fun c st2 h2 q3=>?_
  refine obE q3 fun k h3 q4=>?_
  refine obE q4 fun r h4 q5=>?_
  refine bifT q5 fun hb q6=>?_
  simp only [Bool.and_eq_true] at hb
  have eq11:=asCell_some h3
  subst eq11
  refine cz4 q6 ?_;exact st_attr F.D F.SO S.e h1 h2 (instAt_some h4) hb.1.1.1 hb.1.1.2 hb.1.2 (notExn_true hb.2)
 |Subscript o i p2=>exact sx_asgS F S q
 |_=>exact cz0 q
theorem sx_raise{e:Expr}{p:Pos}(F:Facts prog K w H0 fns mg mb)(S:Snd prog K w H0 fns n R)(q:exRaise R cx e st=some (f,st')):StmtOk prog K w H0 n cx (.Raise (some e) none p) st f st':=by
 replace q:=ob_some q
 obtain ⟨⟨c,as,ks⟩,h0,q⟩:=q
 refine xE11 (callE_some h0) fun p' e'=>?_
 subst e'
 cases as with
 |nil=>exact cz0 q
 |cons a as =>
  cases as with
  |cons _ _=>cases ks<;>cases q
  |nil =>
   cases ks with
   |cons _ _=>exact cz0 q
   |nil =>
    refine obE q fun y h1 q1=>?_
    refine xE11 (nameE_some h1) fun p4 e4=>?_
    refine Bc.rwE e4 ?_
    refine bifT q1 fun hb q2=>?_
    simp only [Bool.and_eq_true] at hb
    refine obE2 q2 fun z st1 h2 q3=>?_
    refine obE q3 fun m h3 q4=>?_
    have eq12:=asStr_some h3
    subst eq12
    have hr:=beqs hb.1.2
    subst hr
    cases q4
    exact ⟨ePn S.e h2,fun A outer env G locs s H=>raise_ok F.RF F.SO F.D S.e (by simpa using hb.1.1.2) (beq_okind hb.2) h2 (H.hh hb.1.1.1) H.pred⟩
theorem exc_some{d:PV}(h:excOf f=some d):f=.exc d:=by cases f<;>cases h<;>rfl
theorem hand_some{hs:List ExceptHandler}{z:Str × Str × List Stmt}(h:handOf hs=some z):∃p p2 b0 hb,hs=[.ExceptHandler (some (.Name z.1 p)) (some z.2.1) (b0::hb) p2]∧z.2.2=b0::hb:=obE h fun e h1 h=>by
 refine rwE (arg1E h1) ?_
 cases e with
 |ExceptHandler t n b p2 =>
  refine obE (show ob t _=_ from h) fun t' ht h=>obE h fun x hx h=>obE h fun n' hn h=>bifF h fun hb h=>?_
  have h:=Option.some.inj h
  refine Bc.rwB h ?_
  refine rwE ht (rwE hn ?_)
  refine xE11 (nameE_some hx) fun p e=>?_
  refine rwE e ?_
  cases b with
  |nil=>exact cz3 hb
  |cons b0 hb=>exact ⟨_,_,_,_,rfl,rfl⟩
theorem sx_try{body:List Stmt}{hs:List ExceptHandler}{p:Pos}(F:Facts prog K w H0 fns mg mb)(S:Snd prog K w H0 fns n R)(q:exTry R cx body hs st=some (f,st')):StmtOk prog K w H0 n cx (.Try body hs [] [] p) st f st':=by
 replace q:=ob_some q
 obtain ⟨⟨t,nm,blk⟩,h0,q⟩:=q
 refine xE42 (hand_some h0) fun p1 p2 b0 hb e e2=>?_
 cases e2;refine Bc.rwE e ?_
 refine bifF q fun hc q1=>?_
 simp only [Bool.not_eq_false',Bool.and_eq_true] at hc
 have hr:=beqs hc.1.1.1.2
 subst hr
 refine obE2 q1 fun g st1 h1 q2=>?_
 cases hg:excOf g with
 |none =>
  have q2:(match excOf g with | some d=>ob (exs R ⟨cx.names,false⟩ (b0::hb) ⟨setV nm (.exn d) st1.vars,st1.cells⟩) (fun q2=>bif (excOf q2.1).isSome then none else some (q2.1,⟨unsetV nm q2.2.vars,q2.2.cells⟩)) | none=>some (g,st1))=some (f,st'):=q2
  rw [hg] at q2
  cases q2
  exact try_none S.x h1 (fun d z=>by subst z;cases hg)
 |some d =>
  have q2:(match excOf g with | some d=>ob (exs R ⟨cx.names,false⟩ (b0::hb) ⟨setV nm (.exn d) st1.vars,st1.cells⟩) (fun q2=>bif (excOf q2.1).isSome then none else some (q2.1,⟨unsetV nm q2.2.vars,q2.2.cells⟩)) | none=>some (g,st1))=some (f,st'):=q2
  rw [hg] at q2
  have eq13:=exc_some hg
  subst eq13
  refine obE2 q2 fun g2 st2 h2 q3=>?_
  refine bifF q3 fun hx q4=>?_
  cases q4
  obtain ⟨v1,w1⟩:=try_ok F.RF F.D S.x hc.1.1.1.1 (beq_okind hc.1.1.2) (beq_okind hc.1.2) hc.2 h1 h2 (fun d z=>by subst z;cases hx)
  exact ⟨v1,fun A outer env G locs s H=>w1 H.pred⟩
theorem ex_step(F:Facts prog K w H0 fns mg mb)(S:Snd prog K w H0 fns n R){stm:Stmt}(q:stepEx fns R cx stm st=some (f,st')):StmtOk prog K w H0 n cx stm st f st':=by
 cases stm with
 |Pass p=>refine cz4 q ?_;exact ⟨rfl,fun A outer env G locs s H=>wpAny_Pass ⟨G,H.T,Ext.refl ..,Sh.refl _,trivial⟩⟩
 |Continue p=>refine cz4 q ?_;exact ⟨rfl,fun A outer env G locs s H=>wpAny_Continue ⟨G,H.T,Ext.refl ..,Sh.refl _,trivial⟩⟩
 |Break p=>refine cz4 q ?_;exact ⟨rfl,fun A outer env G locs s H=>wpAny_Break ⟨G,H.T,Ext.refl ..,Sh.refl _,trivial⟩⟩
 |Return eo p=>exact sx_return F S q
 |If t b o p=>exact sx_if S q
 |For t i body oe p =>
  cases oe with
  |nil=>exact sx_for S q
  |cons _ _=>exact cz0 q
 |While t body oe p =>
  cases oe with
  |nil=>exact sx_while S q
  |cons _ _=>exact cz0 q
 |Expr e p=>exact sx_expr F S q
 |AugAssign t op v p =>
  replace q:=ob_some (show ob (nameE t) _=_ from q)
  obtain ⟨y,h1,q⟩:=q
  obtain ⟨p2,e⟩:=nameE_some h1
  subst e
  exact sx_aug S q
 |Assign ts v p =>
  cases ts with
  |nil=>exact cz0 q
  |cons t ts =>
   cases ts with
   |nil=>exact sx_asg1 F S q
   |cons _ _=>exact cz0 q
 |Raise eo co p =>
  cases eo with
  |none=>exact cz0 q
  |some e =>
   cases co with
   |none=>exact sx_raise F S q
   |some _=>exact cz0 q
 |Try body hs oe fb p =>
  cases oe with
  |cons _ _=>exact cz0 q
  |nil =>
   cases fb with
   |cons _ _=>exact cz0 q
   |nil=>exact sx_try F S q
 |_=>exact cz0 q
theorem call_step(F:Facts prog K w H0 fns mg mb)(S:Snd prog K w H0 fns n R):SndC prog K w H0 (n+1) (step fns R):=by
 intro x as cs r cs' q0 A fr G vars locs s f vs rm hh hf hg T ra
 have q:stepCall fns R x as cs=some (r,cs'):=q0
 clear q0
 refine obE q fun d hd q1=>bifT q1 fun hp q2=>?_
 have hn:d.name=x:=beqs (List.find?_some (p:=fun d:DefRec=>d.name==x) hd)
 subst hn
 exact fn_ok F.D (F.GO.fn d (List.mem_of_find?_eq_some hd)) S.x hp q2 rm hh hf hg T ra
theorem snd_step(F:Facts prog K w H0 fns mg mb)(S:Snd prog K w H0 fns n R):Snd prog K w H0 fns (n+1) (step fns R) where
 e:={
  nm:=fun cx x p st a st' q=>q
  vars:=fun cx e st a st' q=>(ev_step F S q).1
  ev:=fun cx e st a st' q A env fr G locs s rm hh hf Ev T=>((ev_step F S q).2 A fr env G locs s ⟨rm,hh,hf,Ev,T⟩).1
  tr:=fun cx e st b st' q A env fr G locs s rm hh hf Ev T=>((ev_step F S q).2 A fr env G locs s ⟨rm,hh,hf,Ev,T⟩).2 b rfl }
 x:=fun cx stm st f st' q=>ex_step F S q
 c:=call_step F S
 k:=fun y as cs r q=>by
  have q:stepCall fns R y as cs=some r:=q
  exact obE q fun d hd z_=>⟨d,List.mem_of_find?_eq_some hd,beqs (List.find?_some (p:=fun d:DefRec=>d.name==y) hd)⟩
theorem snd_bot:Snd prog K w H0 fns 0 bot where
 e:={
  nm:=fun cx x p st a st' q=>by cases q
  vars:=fun cx e st a st' q=>by cases q
  ev:=fun cx e st a st' q=>by cases q
  tr:=fun cx e st b st' q=>by cases q }
 x:=fun cx stm st f st' q=>by cases q
 c:=fun x as cs r cs' q=>by cases q
 k:=fun y as cs r q=>by cases q
theorem snd_run(F:Facts prog K w H0 fns mg mb):∀n,Snd prog K w H0 fns n (run fns n)
 |0=>snd_bot
 |n+1=>snd_step F (snd_run F n)
end
end Bc
namespace Bc
variable{prog:Program}{K:Frag}{w:World}{fns:List DefRec}{mg mb:Str→Option Value}
theorem rep_ints{h:Heap}{fz:Addr→Prop}{vs:List Value}{ns:List Int}(q:WellAll w.params h vs (ofPys (ns.map .int))):RepL K w h fz vs (ns.map .int):=by
 induction ns generalizing vs with
 |nil=>cases q;exact .nil
 |cons i ns ih =>
  obtain ⟨v,vs',e,a,b⟩:=wellAll_cons_inv q
  rw [e]
  have a:Well w.params h v (.int i):=a
  cases a
  exact .cons (.int _ _) (ih b)
theorem law_call{s:Shared}(F:Facts prog K w s.heap fns mg mb){fa a:Addr}{ns:List Int}{N:Nat}(hg:gval K "law" = some (.ref fa))(hW:Well w.params s.heap (.ref a) (ofPy (.list (ns.map .int))))
  (hcall:(run fns N).call "law" [.pv (.lst (ns.map .int))] []=some (.ok (.pv (.bool true)),[])) (hN:N≤319) :
  wpAny (model prog w) callerA (call (.ref fa) [.ref a]) (fun v s'=>v=.bool true∧(∀b o,s.heap.get? b=some o→s'.heap.get? b=some o)∧s'.os=s.os∧s'.gens=s.gens) (fun _ _=>False) s:=by
 let G:Gh:=⟨fun c=>∃o,s.heap.get? c=some o,[]⟩
 have T:Rel K w s.heap [] G ⟨[],[]⟩ [] s.heap:=by
  refine ⟨fun c o e=>⟨⟨o,e⟩,e⟩,fun c f=>f,rfl,?_,?_,?_,rfl,?_,?_,?_,?_⟩
  ·intro k p o e;cases e
  ·intro j k p q _ e;cases e
  ·intro b m;obtain ⟨p,hp,_⟩:=m;cases hp
  ·intro i e l q;cases q
  ·intro l hl;cases hl
  ·intro i j l m _ q;cases q
  ·intro env he;cases he
 have r:RepAL K w G s.heap [.ref a] [.pv (.lst (ns.map .int))]:=by
  have hW':Well w.params s.heap (.ref a) (.list (ofPys (ns.map .int))):=hW
  cases hW' with
  |list e q=>exact .cons (Rep.lst ⟨_,e⟩ e (rep_ints q)) .nil
 refine wpAny_mono ((snd_run F N).c _ _ _ _ _ hcall callerA [] G [] [] s (.ref fa) [.ref a] ⟨?_,?_⟩ rfl rfl hg T r) (fun v s' z=>?_) (fun e s' z=>?_)
 ·show 1+300+2 * N≤940;omega
 ·show 4+16 * N≤9000;omega
 ·obtain ⟨b,hb,G',T',X,S,q⟩:=z
  cases hb
  refine xE21 S fun h2 t2 e_2=>?_;subst e_2
  refine ⟨?_,fun b o e=>(X.fz b ⟨o,e⟩).2.trans e,rfl,rfl⟩
  have q:Rep K w h2 G'.fz v (.bool true):=q
  cases q;rfl
 ·refine CallExc.el z fun d hd _=>?_
  cases hd
end Bc
set_option tactic.hygienic true
namespace Bc
noncomputable def defsOf(p:Program):List DefRec:=p.main.body.filterMap fun st=>(sx st).2.2.2.2.2
noncomputable def isD(x:Str)(d:DefRec):Bool:=d.name==x
noncomputable def fnsP:List DefRec:=defsOf PySem.Challenge.pw_nz0507_01
end Bc
set_option tactic.hygienic false
namespace Bc
noncomputable def vA(v:Value):Addr:=Value.casesOn v 0 0 0 (fun _=>0) (fun _ _=>0) (fun _ _=>0) (fun _ _=>0) (fun _ _=>0) (fun _=>0) (fun _=>0) fun a=>a
noncomputable def adOf(K:Frag)(x:Str):Addr:=vA ((gval K x).getD .none)
noncomputable def objA(K:Frag)(a:Addr):Obj:=(K.lookup a).getD ⟨.none,none,.plain,#[]⟩
noncomputable def funcD(d:Data):FuncData:=Data.casesOn d default (fun _=>default) (fun _ _=>default) (fun _ _=>default) (fun _ _ _=>default) (fun _ _=>default) (fun _=>default) (fun fd=>fd) (fun _=>default) (fun _=>default) default
noncomputable def seqN(d:Data):Nat:=Data.casesOn d 0 (fun _=>0) (fun _ n=>n) (fun _ n=>n) (fun _ _ _=>0) (fun _ _=>0) (fun _=>0) (fun _=>0) (fun _=>0) (fun _=>0) 0
noncomputable def seqL(d:Data):Array Value:=Data.casesOn d #[] (fun _=>#[]) (fun l _=>l) (fun _ _=>#[]) (fun _ _ _=>#[]) (fun _ _=>#[]) (fun _=>#[]) (fun _=>#[]) (fun _=>#[]) (fun _=>#[]) #[]
noncomputable def dctL(d:Data):Array DictEntry:=Data.casesOn d #[] (fun _=>#[]) (fun _ _=>#[]) (fun l _=>l) (fun _ _ _=>#[]) (fun _ _=>#[]) (fun _=>#[]) (fun _=>#[]) (fun _=>#[]) (fun _=>#[]) #[]
noncomputable def fdOf(K:Frag)(a:Addr):FuncData:=funcD (objA K a).data
noncomputable def iniA(K:Frag)(c:Str):Addr:=vA (((findIn K (.ref (adOf K c)) "__init__").getD none).getD .none)
noncomputable def inif(K:Frag)(c:Str):FuncData:=fdOf K (iniA K c)
noncomputable def dT(K:Frag)(fd:FuncData):Addr:=vA fd.defaults
noncomputable def cdA(K:Frag)(C:Addr):ClassData:=(clsIn K C).getD default
noncomputable def bodyA(fd:FuncData):List Stmt:=FuncBody.casesOn fd.body (fun b=>b) fun _=>[]
noncomputable def argA(fd:FuncData)(i:Nat)(x:Str):Arg:={ fd.params.args.getD i ⟨x,none,0,0,0,0⟩ with arg:=x }
noncomputable def noD(d:DefRec):Bool:=d.params.defaults.isEmpty
theorem map_at{α β:Type}{f g:α→β}{l:List α}(e:l.map f=l.map g)(x:α)(h:x∈l):f x=g x:=by
 induction l with
 |nil=>exact nomatch h
 |cons a r ih =>
  have e1:=List.cons.inj e
  exact (List.mem_cons.mp h).elim (fun z=>z▸e1.1) (ih e1.2)
theorem dOr{K:Frag}{v:Value}{a:Addr}{o:Obj}{items:Array Value}{n:Nat}{b:Bool}(h4:v=bif b then .none else .ref a)(h5:(bif b then none else K.lookup a)=bif b then none else some { o with data:=.seq items n }) :
  v=.none∨∃T o items n,v=.ref T∧K.lookup T=some o∧o.data=.seq items n:=by
 cases b with
 |true=>exact .inl h4
 |false=>exact .inr ⟨a,_,_,_,h4,h5,rfl⟩
section
variable{K:Frag}
noncomputable def fnL(K:Frag)(d:DefRec):Option Value × Option Obj × Bool × Value × Option Obj :=
 (gval K d.name,K.lookup (adOf K d.name),codeIn K (fdOf K (adOf K d.name)).code (fdOf K (adOf K d.name)).qualname,(fdOf K (adOf K d.name)).defaults,bif noD d then none else K.lookup (dT K (fdOf K (adOf K d.name))))
noncomputable def fnR(K:Frag)(d:DefRec):Option Value × Option Obj × Bool × Value × Option Obj :=
 (some (.ref (adOf K d.name)),some { objA K (adOf K d.name) with data:=.func { fdOf K (adOf K d.name) with params:=d.params,body:=.stmts d.body,scope:=d.scope,globals:=mainGlobals,closure:=[],builtins:=builtinsNs } },true,
  bif noD d then .none else .ref (dT K (fdOf K (adOf K d.name))),bif noD d then none else some { objA K (dT K (fdOf K (adOf K d.name))) with data:=.seq (seqL (objA K (dT K (fdOf K (adOf K d.name)))).data) (seqN (objA K (dT K (fdOf K (adOf K d.name)))).data) })
theorem fns_rec(q:fnsP.map (fnL K)=fnsP.map (fnR K))(d:DefRec)(hd:d∈fnsP):FnRec K d :=
 have e:=map_at q d hd
 .mk _ _ _ _ _ (congrArg (·.1) e) (congrArg (·.2.1) e) rfl rfl rfl rfl rfl rfl (congrArg (·.2.2.1) e) (dOr (congrArg (·.2.2.2.1) e) (congrArg (·.2.2.2.2) e))
noncomputable def allN(fns:List DefRec):List Str:=biNames++(["Vector","Null","number_text"]:List Str)++fns.map (·.name)
theorem known_ok(hb:(allN fnsP).all (fun x=>(gval K x).isSome)=true)(x:Str)(h:knownGlb fnsP x=true):∃v,gval K x=some v:=by
 have hm:x∈allN fnsP:=by
  simp only [knownGlb,Bool.or_eq_true,List.any_eq_true,List.contains_iff_mem,beq_iff_eq] at h
  unfold allN
  simp only [List.mem_append,List.mem_cons,List.mem_map]
  rcases h with (((h | h) | h) | h) | h
  ·exact .inl (.inl h)
  ·exact .inl (.inr (.inl h))
  ·exact .inl (.inr (.inr (.inl h)))
  ·exact .inl (.inr (.inr (.inr (.inl h))))
  ·exact .inr h
 exact Option.isSome_iff_exists.mp (List.all_eq_true.mp hb x hm)
noncomputable def glbR(K:Frag):Option Obj:=some { objA K mainGlobals with data:=.dict (dctL (objA K mainGlobals).data) (seqN (objA K mainGlobals).data) }
noncomputable def glbB(K:Frag):Bool:=(dctL (objA K mainGlobals).data).toList.all fun e=>handedIn e.val
theorem handed_b2:(Manifest.builtinsNames.all fun y=>handedIn (bootValue y.2 y.1))=true:=by decide +kernel
theorem lookup_mem{α β:Type}[BEq α][LawfulBEq α]{a:α}{b:β}{l:List (α × β)}(h:l.lookup a=some b):(a,b)∈l:=by
 induction l with
 |nil=>exact nomatch h
 |cons p r ih =>
  rw [List.lookup_cons] at h
  cases e:a==p.1 with
  |true=>rw [e] at h;rw [beq_iff_eq.mp e,← Option.some.inj h];exact List.mem_cons_self
  |false=>rw [e] at h;exact List.mem_cons_of_mem _ (ih h)
theorem ns_in{x:Str}{u:Value}(hK:K.lookup mainGlobals=glbR K)(h:nsIn K mainGlobals x=some (some u)):∃e∈(dctL (objA K mainGlobals).data).toList,e.val=u:=by
 unfold nsIn at h
 rw [hK] at h
 dsimp only [glbR] at h
 cases q:(dctL (objA K mainGlobals).data).toList.find? (·.key.isStr x) with
 |some e=>rw [q] at h;exact ⟨e,List.mem_of_find?_eq_some q,Option.some.inj (Option.some.inj h)⟩
 |none =>
  rw [q] at h
  dsimp only at h
  by_cases c:(dctL (objA K mainGlobals).data).toList.any (·.refKey)=true
  ·rw [if_pos c] at h;exact nomatch h
  ·rw [if_neg c] at h;exact nomatch h
theorem handed_ok(hK:K.lookup mainGlobals=glbR K)(hb:glbB K=true)(x:Str)(v:Value)(h:gval K x=some v):handedIn v=true:=by
 unfold gval at h
 cases e:nsIn K mainGlobals x with
 |none=>rw [e] at h;exact nomatch h
 |some o =>
  rw [e] at h
  cases o with
  |some u =>
   obtain ⟨y,hy,z⟩:=ns_in hK e
   rw [← Option.some.inj h,← z]
   exact List.all_eq_true.mp hb y hy
  |none =>
   dsimp only at h
   by_cases c:(x==("__name__" : Str))=true
   ·rw [if_pos c] at h;exact nomatch h
   ·rw [if_neg c] at h
    have hm:=lookup_mem h
    rw [List.mem_reverse,List.mem_map] at hm
    obtain ⟨y,hy,e⟩:=hm
    rw [← (Prod.mk.inj e).2]
    exact List.all_eq_true.mp handed_b2 y hy
noncomputable def pcs:List Str:=["Vector","Null"]
theorem plain_cls{c:Str}(h:plainCls c=true):c∈pcs:=by
 rcases Bool.or_eq_true_iff.mp h with z | z
 ·rw [beq_iff_eq.mp z];exact .head _
 ·rw [beq_iff_eq.mp z];exact .tail _ (.head _)
theorem field_in{x:Str}(h:fieldNames.contains x=true):x∈fieldNames:=List.contains_iff_mem.mp h
noncomputable def clL(K:Frag)(c x:Str):Option Addr × Bool × Bool × Option (Option Value) × Option (Option Value) × Option (Option Value) × Option ClassData :=
 (clsA K c,plainGet K (adOf K c) x,hasDictIn K (adOf K c),findIn K (.ref (adOf K c)) x,findIn K (.ref (adOf K c)) "__setattr__",takerIn K (adOf K c) x,clsIn K (adOf K c))
noncomputable def clR(K:Frag)(c:Str)(b:Bool)(m:List Value):Option Addr × Bool × Bool × Option (Option Value) × Option (Option Value) × Option (Option Value) × Option ClassData :=
 (some (adOf K c),b,true,some none,some (some (.builtin "object.__setattr__")),some none,some { cdA K (adOf K c) with hasDict:=true,mro:=.ref (adOf K c)::m })
theorem stOk{c x:Str}{b:Bool}{m:List Value}{C:Addr}(q:clL K c x=clR K c b m)(e:clsA K c=some C)(ho:m.contains (.type "object")=true)(hm:∀self,refuseLoop self "__setattr__" m=pure ()):StOkC K C x:=by
 have e1:C=adOf K c:=Option.some.inj (e.symm.trans (congrArg (·.1) q))
 subst e1
 exact ⟨congrArg (·.2.2.2.2.1) q,congrArg (·.2.2.2.2.2.1) q,_,congrArg (·.2.2.2.2.2.2) q,rfl,rfl,by
  rw [List.contains_cons,ho];exact Bool.or_true _,fun self=>(refuseLoop_ref self _ _ _).trans (hm self)⟩
theorem refuse_exc(self:Value):refuseLoop self "__setattr__" [.type "Exception",.type "BaseException",.type "object"]=pure ():=by
 kernel_rfl
noncomputable def clsF(K:Frag):Prop:=pcs.map (fun c=>fieldNames.map (clL K c))=pcs.map fun c=>fieldNames.map fun _=>clR K c true [.type "object"]
theorem cls_at{c x:Str}(q:clsF K)(hp:plainCls c=true)(hx:fieldNames.contains x=true):clL K c x=clR K c true [.type "object"]:=map_at (map_at q c (plain_cls hp)) x (field_in hx)
noncomputable def refM(K:Frag):List Value:=[.ref (adOf K "CoveError"),.type "Exception",.type "BaseException",.type "object"]
noncomputable def msgL(K:Frag):Option (Option Value) × Option (Option Value) × Option Bool:=(findIn K (.ref (adOf K "Refusal")) "__getattribute__",findIn K (.ref (adOf K "Refusal")) "__getattr__",mroIn K (adOf K "Refusal") (.type "BaseException"))
theorem cls_ok(q:clsF K)(q1:clL K "Refusal" "message" = clR K "Refusal" false (refM K))(q2:msgL K=(some (some (.builtin "BaseException.__getattribute__")),some none,some true)):ClsOk K where
 attrs:=fun c C x e hp hx=>by
  have z:=cls_at q hp hx
  have e1:C=adOf K c:=Option.some.inj (e.symm.trans (congrArg (·.1) z))
  subst e1
  exact ⟨congrArg (·.2.1) z,congrArg (·.2.2.1) z,congrArg (·.2.2.2.1) z⟩
 msg:=fun C e=>by
  have e1:C=adOf K "Refusal":=Option.some.inj (e.symm.trans (congrArg (·.1) q1))
  subst e1
  exact ⟨⟨congrArg (·.1) q2,congrArg (·.2.1) q2,congrArg (·.2.2) q2⟩,congrArg (·.2.2.1) q1,congrArg (·.2.2.2.1) q1⟩
theorem set_ok(q:clsF K)(q1:clL K "Refusal" "message" = clR K "Refusal" false (refM K)):SetOk K where
 st:=fun _ _ _ e hp hx=>stOk (cls_at q hp hx) e rfl fun self=>refuse_only self rfl
 msg:=fun _ e=>stOk q1 e rfl fun self=>(refuseLoop_ref self _ _ _).trans (refuse_exc self)
theorem nodup4:(["self","kind","items","attrs"]:List Str).Nodup:=by decide +kernel
theorem nodup1:(["self"]:List Str).Nodup:=by decide +kernel
theorem nodup2:(["self","message"]:List Str).Nodup:=by decide +kernel
theorem binds_vec{s:Shared}{f:FuncData}{T:Addr}{o:Obj}{n:Nat}{a0 a1 a2 a3:Arg}{dd:List Expr}(ho:s.heap.get? T=some { o with data:=.seq #[.none] n })(x a b:Value) :
  BindsTo s { f with params:=⟨[],[{ a0 with arg:="self" },{ a1 with arg:="kind" },{ a2 with arg:="items" },{ a3 with arg:="attrs" }],none,[],[],none,dd⟩,defaults:=.ref T } ⟨[x,a,b],[]⟩ [("self",x),("kind",a),("items",b),("attrs",.none)]:=by
 refine BindsTo.of_defaults rfl ho rfl rfl ?_
 kernel_rfl
theorem binds_one{s:Shared}{fd:FuncData}{a0:Arg}{dd:List Expr}(hpar:fd.params=⟨[],[{ a0 with arg:="self" }],none,[],[],none,dd⟩)
  (hd:fd.defaults=.none) (x:Value):BindsTo s fd ⟨[x],[]⟩ [("self",x)] :=
 .of_eq ((bindArgs_aux hpar rfl nodup1).trans (by rw [hd];rfl))
theorem binds_two{s:Shared}{fd:FuncData}{a0 a1:Arg}{dd:List Expr}(hpar:fd.params=⟨[],[{ a0 with arg:="self" },{ a1 with arg:="message" }],none,[],[],none,dd⟩)
  (hd:fd.defaults=.none) (x v:Value):BindsTo s fd ⟨[x,v],[]⟩ [("self",x),("message",v)] :=
 .of_eq ((bindArgs_aux hpar rfl nodup2).trans (by rw [hd];rfl))
@[elab_as_elim] theorem len0{P:List Value→Prop}{vs:List Value}(h:vs.length=0)(z:P []):P vs:=by
 cases vs with
 |nil=>exact z
 |cons a r=>exact nomatch h
@[elab_as_elim] theorem len2{P:List Value→Prop}{vs:List Value}(h:vs.length=2)(z:∀a b,P [a,b]):P vs:=by
 cases vs with
 |nil=>exact nomatch h
 |cons a r =>
  cases r with
  |nil=>exact nomatch h
  |cons b r=>exact len0 (P:=fun r=>P (a::b::r)) (Nat.succ.inj (Nat.succ.inj h)) (z a b)
noncomputable def iniL(K:Frag)(c:Str):Option Value × Option Addr × Bool × Option (Option Value) × Option Value × Option Obj × Bool :=
 (gval K c,clsA K c,makesIn K (adOf K c),findIn K (.ref (adOf K c)) "__init__",typeIn K (.ref (iniA K c)),K.lookup (iniA K c),codeIn K (inif K c).code (inif K c).qualname)
noncomputable def iniD(K:Frag)(c:Str)(l:List Arg)(d:Value):FuncData:={ inif K c with body:=.stmts (bodyA (inif K c)),params:=⟨[],l,none,[],[],none,(inif K c).params.defaults⟩,defaults:=d,globals:=mainGlobals,closure:=[],builtins:=builtinsNs,scope:={ (inif K c).scope with kind:=.function,isCoroutine:=false,isGenerator:=false } }
noncomputable def iniR(K:Frag)(c:Str)(l:List Arg)(d:Value)(b:Bool):Option Value × Option Addr × Bool × Option (Option Value) × Option Value × Option Obj × Bool :=
 (some (.ref (adOf K c)),some (adOf K c),b,some (some (.ref (iniA K c))),some (.type "function"),some { objA K (iniA K c) with cls:=.type "function",data:=.func (iniD K c l d) },true)
noncomputable def vecArgs(K:Frag):List Arg:=[argA (inif K "Vector") 0 "self",argA (inif K "Vector") 1 "kind",argA (inif K "Vector") 2 "items",argA (inif K "Vector") 3 "attrs"]
noncomputable def vecD(K:Frag):Option Obj:=some { objA K (dT K (inif K "Vector")) with data:=.seq #[.none] (seqN (objA K (dT K (inif K "Vector"))).data) }
theorem vec_mk(q:iniL K "Vector" = iniR K "Vector" (vecArgs K) (.ref (dT K (inif K "Vector"))) true)(q1:K.lookup (dT K (inif K "Vector"))=vecD K):MkRec K "Vector" (bodyA (inif K "Vector")) (inif K "Vector").scope.names 2 ["self","kind","items","attrs"] [.none] :=
 .mk _ _ _ _ _ (iniD K "Vector" (vecArgs K) (.ref (dT K (inif K "Vector")))) (congrArg (·.1) q) (congrArg (·.2.1) q) (congrArg (·.2.2.1) q) (congrArg (·.2.2.2.1) q) (congrArg (·.2.2.2.2.1) q) (congrArg (·.2.2.2.2.2.1) q) rfl rfl rfl rfl rfl (congrArg (·.2.2.2.2.2.2) q) rfl rfl rfl fun s x vs hl X=>len2 hl fun a b=>binds_vec (X _ _ q1) x a b
theorem nul_mk(q:iniL K "Null" = iniR K "Null" [argA (inif K "Null") 0 "self"] .none true):MkRec K "Null" (bodyA (inif K "Null")) (inif K "Null").scope.names 0 ["self"] [] :=
 .mk _ _ _ _ _ (iniD K "Null" [argA (inif K "Null") 0 "self"] .none) (congrArg (·.1) q) (congrArg (·.2.1) q) (congrArg (·.2.2.1) q) (congrArg (·.2.2.2.1) q) (congrArg (·.2.2.2.2.1) q) (congrArg (·.2.2.2.2.2.1) q) rfl rfl rfl rfl rfl (congrArg (·.2.2.2.2.2.2) q) rfl rfl rfl fun s x vs hl X=>len0 hl (binds_one rfl rfl x)
noncomputable def runVars(o:Option Bc.St):Vars:=(o.getD ⟨[],[]⟩).vars
noncomputable def iniVars(K:Frag)(c:Str)(ns:List Str)(ds:List PV):Vars:=frV (inif K c).scope.names (ns.zip (some (AV.cell 0)::ds.map fun d=>some (AV.pv d)))
noncomputable def iniRun(K:Frag)(c:Str)(ns:List Str)(ds:List PV):Option Bc.St:=initRun fnsP ⟨(inif K c).scope.names,true⟩ (bodyA (inif K c)) ⟨iniVars K c ns ds,[.inst c []]⟩
noncomputable def iniG(K:Frag)(c:Str)(ns:List Str)(ds:List PV):Bool:=goodVars (inif K c).scope.names ((iniVars K c ns ds).map (·.1))
noncomputable def vns:List Str:=["self","kind","items","attrs"]
theorem mk_ok'{prog:Program}{w:World}{h:Heap}{mg mb:Str→Option Value}(D:Wd K w h fnsP mg mb)(SO:SetOk K)(v1:iniL K "Vector" = iniR K "Vector" (vecArgs K) (.ref (dT K (inif K "Vector"))) true)(v2:K.lookup (dT K (inif K "Vector"))=vecD K)
  (v3:∀d1 d2,iniRun K "Vector" ["self","kind","items","attrs"] [d1,d2,.none]=some ⟨runVars (iniRun K "Vector" ["self","kind","items","attrs"] [d1,d2,.none]),[.inst "Vector" (vecFields (.pv d1) (.pv d2) (.pv .none))]⟩) (v4:∀d1 d2,iniG K "Vector" ["self","kind","items","attrs"] [d1,d2,.none]=true)
  (n1:iniL K "Null" = iniR K "Null" [argA (inif K "Null") 0 "self"] .none true) (n2:iniRun K "Null" ["self"] []=some ⟨runVars (iniRun K "Null" ["self"] []),[.inst "Null" nullFields]⟩) (n3:iniG K "Null" ["self"] []=true):MkOk prog K w h where
 vec:=fun A fr G st locs s f vs d1 d2 rm hh hf hg T r =>
  mk_ok (ds:=[d1,d2]) (dd:=[.none]) (ns:=["self","kind","items","attrs"]) (dflt:=[.none]) D SO (vec_mk v1 v2) hg nodup4 rfl (fun _ _=>.cons .none .nil) (v4 d1 d2) (v3 d1 d2) rfl rm hh hf T r
 nul:=fun A fr G st locs s f rm hh hf hg T =>
  mk_ok (ds:=[]) (dd:=[]) (ns:=["self"]) (dflt:=[]) D SO (nul_mk n1) hg nodup1 rfl (fun _ _=>.nil) n3 n2 rfl rm hh hf T .nil
theorem ns_at{h:Heap}{N:Addr}{m:Str→Option Value}{n:Str}{v:Value}{o:Obj}{es:Array DictEntry}{k:Nat}(X:K.In h)(G:h.Ns N m)(hK:K.lookup N=some { o with data:=.dict es k })(e:nsFind es n=some v):m n=some v :=
 xE34 G fun o es' ep ho hd _ hf=>by
  have z:=Option.some.inj (ho.symm.trans (X _ _ hK))
  rw [z] at hd
  cases hd
  exact (hf n).symm.trans e
noncomputable def st0(fd:FuncData):Nat × List Expr × List Stmt × List Stmt × Pos × Option DefRec:=sx ((bodyA fd).getD 0 (.Pass default))
noncomputable def ex0(fd:FuncData)(i:Nat):Expr:=(st0 fd).2.1.getD i (.Name "self" default)
noncomputable def at0(fd:FuncData):Expr × Str × Pos:=(attrE (ex0 fd 1)).getD (.Name "self" default,"self",default)
noncomputable def refN(K:Frag):Addr:=(cdA K (adOf K "Refusal")).ns
noncomputable def slotA(K:Frag)(i:Nat):Option Value:=(objA K (adOf K "Refusal")).slots.toList.getD i none
noncomputable def refD(K:Frag):FuncData:={ inif K "Refusal" with body:=.stmts [.Assign [.Attribute (.Name "self" (Expr.pos (at0 (inif K "Refusal")).1)) "message" (at0 (inif K "Refusal")).2.2] (.Name "message" (Expr.pos (ex0 (inif K "Refusal") 0))) (st0 (inif K "Refusal")).2.2.2.2.1],params:=⟨[],[argA (inif K "Refusal") 0 "self",argA (inif K "Refusal") 1 "message"],none,[],[],none,(inif K "Refusal").params.defaults⟩,defaults:=.none,closure:=[],scope:={ (inif K "Refusal").scope with kind:=.function,isCoroutine:=false,isGenerator:=false } }
noncomputable def refCo(K:Frag):Obj:=excClassObj (cdA K (adOf K "Refusal")).name (cdA K (adOf K "Refusal")).qualname (adOf K "Refusal") (refN K) (cdA K (adOf K "Refusal")).bases (.ref (adOf K "CoveError")::excMro) true (cdA K (adOf K "Refusal")).slotNames (cdA K (adOf K "Refusal")).subclasses (cdA K (adOf K "Refusal")).abstract (cdA K (adOf K "Refusal")).collection (objA K (adOf K "Refusal")).dict (slotA K 0) (slotA K 1) (slotA K 2) (slotA K 3) (slotA K 5) "Exception.__new__"
noncomputable def refL(K:Frag):Option Value × Option Obj × Bool × Bool × Option Obj × Option Value × Option Obj × Bool × Option NameKind × Option NameKind :=
 (gval K "Refusal",K.lookup (adOf K "Refusal"),tailIn K excMro (.ref (adOf K "CoveError")::excMro),nsOkIn K (refN K),K.lookup (refN K),nsFind (dctL (objA K (refN K)).data) "__init__",K.lookup (iniA K "Refusal"),codeIn K (inif K "Refusal").code (inif K "Refusal").qualname,(inif K "Refusal").scope.names.lookup ("self" : Str),(inif K "Refusal").scope.names.lookup ("message" : Str))
noncomputable def refR(K:Frag):Option Value × Option Obj × Bool × Bool × Option Obj × Option Value × Option Obj × Bool × Option NameKind × Option NameKind :=
 (some (.ref (adOf K "Refusal")),some (refCo K),true,true,some { objA K (refN K) with data:=.dict (dctL (objA K (refN K)).data) (seqN (objA K (refN K)).data) },some (.ref (iniA K "Refusal")),some { objA K (iniA K "Refusal") with cls:=.type "function",data:=.func (refD K) },true,some .local,some .local)
theorem ref_ok(q:refL K=refR K)(q1:clL K "Refusal" "message" = clR K "Refusal" false (refM K)):RefRec K :=
 ⟨fun k=>k _ _ _ _ _ _ _ _ _ _ _ _ _ _ _ _ _ _ _ (refD K) _ _ _ _ (congrArg (·.1) q) (congrArg (·.1) q1) (congrArg (·.2.1) q) (fun _ X=>tail_of_in X (congrArg (·.2.2.1) q)) (fun h X =>
  have N1:h.Ns (refN K) (h.nsMap (refN K)):=.of_isNs (isNs_of_in X (congrArg (·.2.2.2.1) q))
  ⟨_,N1,ns_at X N1 (congrArg (·.2.2.2.2.1) q) (congrArg (·.2.2.2.2.2.1) q)⟩) (congrArg (·.2.2.2.2.2.2.1) q) rfl rfl (congrArg (·.2.2.2.2.2.2.2.1) q) rfl rfl rfl (congrArg (·.2.2.2.2.2.2.2.2.1) q) (congrArg (·.2.2.2.2.2.2.2.2.2) q) fun _ x v _=>binds_two rfl rfl x v⟩
theorem law_holds{prog:Program}{w:World}{s:Shared}{mg mb:Str→Option Value}{p:Program}{loose:List Str}{mean:ExcName→Option Value}{fa a:Addr}{ns:List Int}(X:K.In s.heap)(T:Top p loose mean mg mb s.heap)
  (hmg:mg "law" = some (.ref fa)) (hW:Well w.params s.heap (.ref a) (ofPy (.list (ns.map .int)))) (hcall:(run fnsP 300).call "law" [.pv (.lst (ns.map .int))] []=some (.ok (.pv (.bool true)),[]))
  (a1:fnsP.map (fnL K)=fnsP.map (fnR K)) (a2:(allN fnsP).all (fun x=>(gval K x).isSome)=true) (a3:K.lookup mainGlobals=glbR K) (a4:glbB K=true) (a5:pcs.map (fun c=>fieldNames.map (clL K c))=pcs.map fun c=>fieldNames.map fun _=>clR K c true [.type "object"]) (a6:clL K "Refusal" "message" = clR K "Refusal" false (refM K))
  (a7:msgL K=(some (some (.builtin "BaseException.__getattribute__")),some none,some true)) (a8:([gval K "len",gval K "list",gval K "max",gval K "abs",gval K "str",gval K "range",gval K "isinstance",gval K "sum"]:List (Option Value))=[some (.builtin "len"),some (.type "list"),some (.builtin "max"),some (.builtin "abs"),some (.type "str"),some (.type "range"),some (.builtin "isinstance"),some (.builtin "sum")])
  (a9:(keepIn K (.ref (adOf K "Vector"))&&keepIn K (.ref (adOf K "Null")))=true)
  (v1:iniL K "Vector" = iniR K "Vector" (vecArgs K) (.ref (dT K (inif K "Vector"))) true) (v2:K.lookup (dT K (inif K "Vector"))=vecD K)
  (v3:∀d1 d2,iniRun K "Vector" ["self","kind","items","attrs"] [d1,d2,.none]=some ⟨runVars (iniRun K "Vector" ["self","kind","items","attrs"] [d1,d2,.none]),[.inst "Vector" (vecFields (.pv d1) (.pv d2) (.pv .none))]⟩) (v4:∀d1 d2,iniG K "Vector" ["self","kind","items","attrs"] [d1,d2,.none]=true)
  (n1:iniL K "Null" = iniR K "Null" [argA (inif K "Null") 0 "self"] .none true) (n2:iniRun K "Null" ["self"] []=some ⟨runVars (iniRun K "Null" ["self"] []),[.inst "Null" nullFields]⟩) (n3:iniG K "Null" ["self"] []=true)
  (r1:refL K=refR K) (l1:gval K "law" = some (.ref (adOf K "law"))) (l2:nsFind (dctL (objA K mainGlobals).data) "law" = some (.ref (adOf K "law"))) :
  wpAny (model prog w) callerA (call (.ref fa) [.ref a]) (fun v s'=>v=.bool true∧(∀b o,s.heap.get? b=some o→s'.heap.get? b=some o)∧s'.os=s.os∧s'.gens=s.gens) (fun _ _=>False) s:=by
 have hfa:fa=adOf K "law":=Value.ref.inj (Option.some.inj (hmg.symm.trans (ns_at X T.g a3 l2)))
 subst hfa
 have D:Wd K w s.heap fnsP mg mb:=⟨X,T.g,T.b,T.builtins,T.nolimit,known_ok a2,handed_ok a3 a4⟩
 have SO:=set_ok a5 a6
 have k:=Bool.and_eq_true_iff.mp a9
 have b1:=List.cons.inj a8
 have b2:=List.cons.inj b1.2
 have b3:=List.cons.inj b2.2
 have b4:=List.cons.inj b3.2
 have b5:=List.cons.inj b4.2
 have b6:=List.cons.inj b5.2
 have b7:=List.cons.inj b6.2
 exact law_call ⟨D,cls_ok a5 a6 a7,SO,⟨⟨b1.1,b2.1,b3.1,b4.1,b5.1,b6.1,b7.1,(List.cons.inj b7.2).1⟩,⟨_,congrArg (·.1) v1,k.1⟩,⟨_,congrArg (·.1) n1,k.2⟩,fns_rec a1⟩,mk_ok' D SO v1 v2 v3 v4 n1 n2 n3,ref_ok r1 a6⟩ l1 hW hcall (by decide)
end
end Bc
end
namespace Bc
section
variable{β α:Type}
noncomputable def bL(F:Bool→β):β × β:=(F false,F true)
noncomputable def bR(F:Bool→β):β × β:=(F false,F true)
theorem bQ{F G:Bool→β}(b:Bool)(q:bL F=bR G):F b=G b:=match b with
 |false=>congrArg (·.1) q
 |true=>congrArg (·.2) q
noncomputable def oL(F:Option α→β):β × (α→β):=(F none,fun a=>F (some a))
noncomputable def oR(F:Option α→β):β × (α→β):=(F none,fun a=>F (some a))
theorem oQ{F G:Option α→β}(b:Option α)(q:oL F=oR G):F b=G b:=match b with
 |none=>congrArg (·.1) q
 |some a=>congrArg (·.2 a) q
noncomputable def sL(F:Nat→β):β × β × β × β:=(F 0,F 1,F 2,F 3)
noncomputable def sR(F:Nat→β):β × β × β × β:=(F 0,F 1,F 2,F 3)
theorem sQ{F G:Nat→β}{m:Nat}(h:m=0∨m=1∨m=2∨m=3)(q:sL F=sR G):F m=G m:=by
 rcases h with rfl | rfl | rfl | rfl
 ·exact congrArg (·.1) q
 ·exact congrArg (·.2.1) q
 ·exact congrArg (·.2.2.1) q
 ·exact congrArg (·.2.2.2) q
noncomputable def iL(F:Int→β):β × β × β × β × β:=(F (-1),F 0,F 1,F 2,F 3)
noncomputable def iR(F:Int→β):β × β × β × β × β:=(F (-1),F 0,F 1,F 2,F 3)
theorem iQ{F G:Int→β}{m:Int}(h:m=-1∨m=0∨m=1∨m=2∨m=3)(q:iL F=iR G):F m=G m:=by
 rcases h with rfl | rfl | rfl | rfl | rfl
 ·exact congrArg (·.1) q
 ·exact congrArg (·.2.1) q
 ·exact congrArg (·.2.2.1) q
 ·exact congrArg (·.2.2.2.1) q
 ·exact congrArg (·.2.2.2.2) q
noncomputable def lL(F:List α→β):β × (α→β) × (α→α→β) × (α→α→α→β):=(F [],fun a=>F [a],fun a b=>F [a,b],fun a b c=>F [a,b,c])
noncomputable def lR(F:List α→β):β × (α→β) × (α→α→β) × (α→α→α→β):=(F [],fun a=>F [a],fun a b=>F [a,b],fun a b c=>F [a,b,c])
theorem lQ{F G:List α→β}{l:List α}(h:l.length≤3)(q:lL F=lR G):F l=G l:=match l,h with
 |[],_=>congrArg (·.1) q
 |[a],_=>congrArg (·.2.1 a) q
 |[a,b],_=>congrArg (·.2.2.1 a b) q
 |[a,b,c],_=>congrArg (·.2.2.2 a b c) q
 |_::_::_::_::_,h=>absurd h (Nat.not_le_of_gt (Nat.le_add_left 4 _))
noncomputable def mL(F:List α→β):β × (α→β) × (α→α→β) × (α→α→α→β) × (α→α→α→α→β):=(F [],fun a=>F [a],fun a b=>F [a,b],fun a b c=>F [a,b,c],fun a b c d=>F [a,b,c,d])
noncomputable def mR(F:List α→β):β × (α→β) × (α→α→β) × (α→α→α→β) × (α→α→α→α→β):=(F [],fun a=>F [a],fun a b=>F [a,b],fun a b c=>F [a,b,c],fun a b c d=>F [a,b,c,d])
theorem mQ{F G:List α→β}{l:List α}(h:l.length≤4)(q:mL F=mR G):F l=G l:=match l,h with
 |[],_=>congrArg (·.1) q
 |[a],_=>congrArg (·.2.1 a) q
 |[a,b],_=>congrArg (·.2.2.1 a b) q
 |[a,b,c],_=>congrArg (·.2.2.2.1 a b c) q
 |[a,b,c,d],_=>congrArg (·.2.2.2.2 a b c d) q
 |_::_::_::_::_::_,h=>absurd h (Nat.not_le_of_gt (Nat.le_add_left 5 _))
noncomputable def tL(F:Nat→β):List β:=[F 0,F 1,F 2,F 3,F 4,F 5,F 6,F 7,F 8,F 9,F 10,F 11,F 12]
noncomputable def tR(F:Nat→β):List β:=[F 0,F 1,F 2,F 3,F 4,F 5,F 6,F 7,F 8,F 9,F 10,F 11,F 12]
theorem tQ{F G:Nat→β}{m:Nat}(h:m=0∨m=1∨m=2∨m=3∨m=4∨m=5∨m=6∨m=7∨m=8∨m=9∨m=10∨m=11∨m=12)(q:tL F=tR G):F m=G m:=by
 have k:∀i:Nat,(tL F)[i]? = (tR G)[i]?:=fun i=>congrArg (·[i]?) q
 rcases h with rfl | rfl | rfl | rfl | rfl | rfl | rfl | rfl | rfl | rfl | rfl | rfl | rfl
 ·exact Option.some.inj (k 0)
 ·exact Option.some.inj (k 1)
 ·exact Option.some.inj (k 2)
 ·exact Option.some.inj (k 3)
 ·exact Option.some.inj (k 4)
 ·exact Option.some.inj (k 5)
 ·exact Option.some.inj (k 6)
 ·exact Option.some.inj (k 7)
 ·exact Option.some.inj (k 8)
 ·exact Option.some.inj (k 9)
 ·exact Option.some.inj (k 10)
 ·exact Option.some.inj (k 11)
 ·exact Option.some.inj (k 12)
noncomputable def wL(F:Str→β):β × β:=(F "rows",F "columns")
noncomputable def wR(F:Str→β):β × β:=(F "rows",F "columns")
theorem wQ{F G:Str→β}{w:Str}(h:w="rows"∨w="columns")(q:wL F=wR G):F w=G w:=by
 rcases h with rfl | rfl
 ·exact congrArg (·.1) q
 ·exact congrArg (·.2) q
theorem impB{b:Bool}{p:Prop}[Decidable p](h:b=true→p):(!b||decide p)=true:=by
 cases b with
 |false=>rfl
 |true=>exact decide_eq_true (h rfl)
theorem andB{a b:Bool}(h:a=true)(k:b=true):(a&&b)=true:=by refine rwE h (rwE k ?_);rfl
theorem gQ{c:Bool}{x z:β}(h:c=true)(q:(bif c then x else z)=z):x=z:=by rw [h] at q;exact q
end
inductive Kd where
 |lg | it | db | ch
section
variable{β:Type}
noncomputable def kL(F:Kd→β):β × β × β × β:=(F .lg,F .it,F .db,F .ch)
noncomputable def kR(F:Kd→β):β × β × β × β:=(F .lg,F .it,F .db,F .ch)
theorem kQ{F G:Kd→β}(k:Kd)(q:kL F=kR G):F k=G k:=match k with
 | .lg=>congrArg (·.1) q
 | .it=>congrArg (·.2.1) q
 | .db=>congrArg (·.2.2.1) q
 | .ch=>congrArg (·.2.2.2) q
noncomputable def s2L(F:Nat→β):β × β × β:=(F 0,F 1,F 2)
noncomputable def s2R(F:Nat→β):β × β × β:=(F 0,F 1,F 2)
theorem s2Q{F G:Nat→β}{m:Nat}(h:m=0∨m=1∨m=2)(q:s2L F=s2R G):F m=G m:=by
 rcases h with rfl | rfl | rfl
 ·exact congrArg (·.1) q
 ·exact congrArg (·.2.1) q
 ·exact congrArg (·.2.2) q
end
end Bc
set_option tactic.hygienic false
namespace Bc
theorem ob_eq{α β:Type}{x:Option α}{f:α→Option β}{a:α}(h:x=some a):ob x f=f a:=by refine rwE h ?_;rfl
theorem lstAt_of{cs:List MO}{k:Nat}{l:List PV}(h:cs[k]? = some (.lst l)):lstAt cs k=some l:=ob_eq h
theorem sliceOf_of{e:Expr}(h:isSliceE e=false):sliceOf e=none:=by
 unfold sliceOf
 unfold isSliceE at h
 cases hk:ek e with
 |slice a b c=>rw [hk] at h;exact cz3 h
 |_=>rfl
theorem attrE_of{e:Expr}(h:∀y q z,e≠.Attribute y q z):attrE e=none:=by
 cases hk:attrE e with
 |none=>rfl
 |some x=>exact absurd (attrE_some hk) (h _ _ _)
noncomputable def flOut:Option (Fl × St)→Option (Rs × List MO)
 |some (.ret d,st)=>some (.ok (.pv d),st.cells)
 |some (.next,st)=>some (.ok (.pv .none),st.cells)
 |some (.exc d,st)=>some (.exc d,st.cells)
 |_=>Option.none
theorem call_of{n:Nat}{x:Str}{d:DefRec}{as:List AV}{cs ins cs':List MO}{ps vars0:Vars}{r:Rs}{outs:List MO}(hd:fnsP.find? (isD x)=some d)(hp:plF d=true)(h1:nodupN (aCs as)=true)
  (h2:takeMO cs (aCs as)=some ins) (h3:paramVars d.params.args (renum 0 as)=some ps) (h4:frV d.scope.names ps=vars0) (h5:goodVars d.scope.names (vars0.map (·.1))=true)
  (h6:putMO (aCs as) outs cs=some cs') (hr:flOut (exs (run fnsP n) ⟨d.scope.names,true⟩ d.body ⟨vars0,ins⟩)=some (r,outs)):(run fnsP (n+1)).call x as cs=some (r,cs'):=by
 have e:endFn (match exs (run fnsP n) ⟨d.scope.names,true⟩ d.body ⟨vars0,ins⟩ with
   |some p=>p
   |none=>(.next,⟨[],[]⟩))=some (r,outs)∧∃p,exs (run fnsP n) ⟨d.scope.names,true⟩ d.body ⟨vars0,ins⟩=some p:=by
  cases he:exs (run fnsP n) ⟨d.scope.names,true⟩ d.body ⟨vars0,ins⟩ with
  |none=>rw [he] at hr;exact cz0 hr
  |some q =>
   obtain ⟨f,st⟩:=q
   rw [he] at hr
   exact ⟨by cases f<;>exact hr,_,rfl⟩
 obtain ⟨e,p,he⟩:=e
 rw [he] at e
 refine (ob_eq hd).trans ?_
 refine rwE hp ?_
 show (bif nodupN (aCs as) then _ else _)=_
 refine rwE h1 ?_
 refine (ob_eq h2).trans ((ob_eq (?_:runFn _ _ _ _ _ _=some (r,outs))).trans (ob_eq h6))
 refine (ob_eq h3).trans ?_
 refine rwE h4 (rwE h5 ?_)
 exact (ob_eq he).trans e
theorem gd_of{α:Type}{c:Bool}{x:α}(h:c=true):gd c x=some x:=by refine rwE h ?_;rfl
theorem bi_len{l:List PV}(h:l.length≤100000):biPV "len" [.lst l]=some (.int (l.length:Nat)):=by
 have e:biPV "len" [.lst l]=oo (gd (decide (l.length≤100000)) (.int (l.length:Nat))) none:=by kernel_rfl
 refine rwE e (rwE (gd_of (decide_eq_true h)) ?_);rfl
theorem sub_lst{l:List PV}{i:Int}{d:PV}(h:nthPV l i=some d):subPV (.lst l) (.int i)=some d:=by
 show oo (oo (nthPV l i) _) _=_
 refine rwE h ?_;rfl
theorem app_lst{l:List PV}{d:PV}(h:l.length≤1000):methMO (.lst l) "append" [d]=some (.lst (l++[d])):=by
 have e:methMO (.lst l) "append" [d]=gd (decide (l.length≤1000)) (.lst (l++[d])):=by kernel_rfl
 refine rwE e (rwE (gd_of (decide_eq_true h)) rfl)
theorem ext_lst{l r:List PV}(h1:l.length≤1000)(h2:r.length≤1000):methMO (.lst l) "extend" [.lst r]=some (.lst (l++r)):=by
 have e:methMO (.lst l) "extend" [.lst r]=gd (decide (l.length≤1000∧r.length≤1000)) (.lst (l++r)):=by kernel_rfl
 refine rwE e (rwE (gd_of (decide_eq_true ⟨h1,h2⟩)) rfl)
theorem items_lst{l:List PV}(h:l.length≤1000):items (.lst l)=some l:=by
 show oo (gd (decide (l.length≤1000)) l) _=_
 refine rwE (gd_of (decide_eq_true h)) ?_;rfl
theorem bi_list{l:List PV}(h:l.length≤1000):biPV "list" [.lst l]=some (.lst l):=by
 have e:biPV "list" [.lst l]=gd (decide (l.length≤1000)) (.lst l):=by kernel_rfl
 refine rwE e (rwE (gd_of (decide_eq_true h)) rfl)
theorem bi_max{l:List PV}{a:Int}{r:List Int}(h:intsOf l=some (a::r))(hl:r.length≤1000):biPV "max" [.lst l]=some (.int (maxI a r)):=by
 have e:biPV "max" [.lst l]=ob (intsOf l) fun is=>ob (unc is) fun p=>gd (decide (p.2.length≤1000)) (.int (maxI p.1 p.2)):=by kernel_rfl
 refine rwE e ?_;exact (ob_eq h).trans (gd_of (decide_eq_true hl))
theorem bi_sum{l:List PV}{r:List Int}(h:intsOf l=some r)(hl:r.length≤1000):biPV "sum" [.lst l]=some (.int (sumI r)):=by
 have e:biPV "sum" [.lst l]=ob (intsOf l) fun r=>gd (decide (r.length≤1000)) (.int (sumI r)):=by kernel_rfl
 refine rwE e ?_;exact (ob_eq h).trans (gd_of (decide_eq_true hl))
theorem bi_range{i:Int}(h0:0≤i)(h1:i≤1000):biPV "range" [.int i]=some (.rng i.toNat):=by
 have e:biPV "range" [.int i]=gd (decide (0≤i∧i≤1000)) (.rng i.toNat):=by kernel_rfl
 refine rwE e (rwE (gd_of (decide_eq_true ⟨h0,h1⟩)) rfl)
theorem ne_of_eq{a c:PV}{b:Bool}(h:eqPV a c=some b):cmpPV .NotEq a c=some (!b):=ob_eq h
theorem ints_cons{i:Int}{r:List PV}{l:List Int}(h:intsOf r=some l):intsOf (.int i::r)=some (i::l):=ob_eq h
theorem mul_small{i j:Int}(h:(smallI i&&smallI j)=true):binPV .Mult (.int i) (.int j)=some (.int (i * j)):=by
 show oo (gd (smallI i&&smallI j) (PV.int (i * j))) _=_
 refine rwE h ?_;rfl
theorem add_lst{l r:List PV}(h1:l.length≤1000)(h2:r.length≤1000):binPV .Add (.lst l) (.lst r)=some (.lst (l++r)):=by
 show gd (decide (l.length≤1000∧r.length≤1000)) (PV.lst (l++r))=_
 refine rwE (gd_of (decide_eq_true ⟨h1,h2⟩)) rfl
theorem eqPV_int(a b:Int):eqPV (.int a) (.int b)=some (decide (a=b)):=by
 kernel_rfl
theorem cmp_eq_int(a b:Int):cmpPV .Eq (.int a) (.int b)=some (decide (a=b)):=eqPV_int a b
theorem cmp_gt(a b:Int):cmpPV .Gt (.int a) (.int b)=some (decide (b < a)):=rfl
end Bc
namespace Bc
variable{R:Rc}{cx:Cx}{st st1 st2:St}{φ:Fl→St→Prop}{s:Stmt}{r:List Stmt}
inductive X(R:Rc)(cx:Cx)(l:List Stmt)(st:St)(φ:Fl→St→Prop):Prop
 |mk (f:Fl) (st':St):exs R cx l st=some (f,st')→φ f st'→X R cx l st φ
theorem X.el{l:List Stmt}{C:Prop}(x:X R cx l st φ)(k:∀f st',exs R cx l st=some (f,st')→φ f st'→C):C:=let ⟨f,st',a,b⟩:=x;k f st' a b
theorem X.nil(h:φ .next st):X R cx [] st φ:=⟨_,_,rfl,h⟩
theorem X.step(h:R.ex cx s st=some (.next,st1))(k:X R cx r st1 φ):X R cx (s::r) st φ:=by
 exact X.el k fun f st' e q=>⟨f,st',(ob_eq h).trans e,q⟩
theorem X.last{f:Fl}(h:R.ex cx s st=some (f,st1))(hf:f≠.next)(q:φ f st1):X R cx (s::r) st φ:=by
 refine ⟨f,st1,?_,q⟩
 refine (ob_eq h).trans ?_
 cases f<;>first | rfl | exact absurd rfl hf
theorem X.ret{d:PV}(h:R.ex cx s st=some (.ret d,st1))(q:φ (.ret d) st1):X R cx (s::r) st φ:=X.last h (by intro z;cases z) q
theorem X.seg(k:Nat){l:List Stmt}(h:exs R cx (l.take k) st=some (.next,st1))(q:X R cx (l.drop k) st1 φ):X R cx l st φ:=by
 induction l generalizing k st with
 |nil=>rw [List.take_nil] at h;exact cz4 (P:=fun _ st1=>X R cx [] st1 φ→X R cx [] st φ) h id (by rwa [List.drop_nil] at q)
 |cons s r ih=>cases k with
  |zero=>exact cz4 (P:=fun _ st1=>X R cx (s::r) st1 φ→X R cx (s::r) st φ) h id q
  |succ k =>
   rw [List.take_succ_cons] at h
   refine obE2 h fun f st1 e h=>?_
   cases f with
   |next=>exact X.step e (ih k h q)
   |_=>exact nomatch h
noncomputable def Then(R:Rc)(cx:Cx)(r:List Stmt)(φ:Fl→St→Prop)(f:Fl)(st:St):Prop:=match f with
 | .next=>X R cx r st φ
 |f=>φ f st
theorem X.of{f:Fl}(h:R.ex cx s st=some (f,st1))(q:Then R cx r φ f st1):X R cx (s::r) st φ:=by
 cases f with
 |next=>exact X.step h q
 |_=>exact X.last h (by intro z;cases z) q
theorem X.iff'{n:Nat}{b:Bool}{t:Expr}{bd o:List Stmt}{p:Pos}(h:evT (run fnsP n) cx t st=some (b,st1))(q:X (run fnsP n) cx (bif b then bd else o) st1 (Then (run fnsP (n+1)) cx r φ)):X (run fnsP (n+1)) cx (.If t bd o p::r) st φ:=by
 refine X.el q fun f st' e z=>?_
 refine X.of (f:=f) (st1:=st') ?_ z
 show ob (evT (run fnsP n) cx t st) _=_
 refine rwE (ob_eq h) ?_
 cases b<;>exact e
theorem X.iff{n:Nat}{b:Bool}{t:Expr}{bd o:List Stmt}{p:Pos}(h:evT (run fnsP n) cx t st=some (b,st1))(qt:b=true→X (run fnsP n) cx bd st1 (Then (run fnsP (n+1)) cx r φ))(qf:b=false→X (run fnsP n) cx o st1 (Then (run fnsP (n+1)) cx r φ)) :
  X (run fnsP (n+1)) cx (.If t bd o p::r) st φ:=X.iff' h (by cases b;exact qf rfl;exact qt rfl)
theorem X.mono{ψ:Fl→St→Prop}{l:List Stmt}(h:X R cx l st φ)(k:∀f st',φ f st'→ψ f st'):X R cx l st ψ:=let ⟨f,st',e,q⟩:=h;⟨f,st',e,k f st' q⟩
theorem loop_inv{I:List PV→St→Prop}{t:Expr}{body:List Stmt}(hb:∀d r st,I (d::r) st→∃st1,bindT cx.names t d st=some st1∧X R cx body st1 (fun f st2=>match f with
   | .next=>I r st2
   | .cont=>I r st2
   | .brk=>φ .next st2
   |f=>φ f st2)) (h0:∀st,I [] st→φ .next st):∀(ds:List PV) (st:St),I ds st→∃f st',loop R cx t body ds st=some (f,st')∧φ f st'
 |[],st,h=>⟨_,_,rfl,h0 st h⟩
 |d::r,st,h=>by
  obtain ⟨st1,e1,f,st2,e2,q⟩:=hb d r st h
  cases f with
  |next=>exact xE22 (loop_inv hb h0 r st2 q) fun f' st' e z=>⟨f',st',(ob_eq e1).trans ((ob_eq e2).trans e),z⟩
  |cont=>exact xE22 (loop_inv hb h0 r st2 q) fun f' st' e z=>⟨f',st',(ob_eq e1).trans ((ob_eq e2).trans e),z⟩
  |brk=>exact ⟨_,_,(ob_eq e1).trans (ob_eq e2),q⟩
  |ret d=>exact ⟨_,_,(ob_eq e1).trans (ob_eq e2),q⟩
  |exc d=>exact ⟨_,_,(ob_eq e1).trans (ob_eq e2),q⟩
theorem X.for{n:Nat}{t i:Expr}{body:List Stmt}{p:Pos}{x:PV}{ds:List PV}(I:List PV→St→Prop)(hlp:(!cx.lp||isSetE i)=false)(h:evP (run fnsP n) cx i st=some (x,st1))(hi:items x=some ds)(h1:I ds st1)
  (hb:∀d r' st,I (d::r') st→∃st1,bindT cx.names t d st=some st1∧X (run fnsP n) cx body st1 (fun f st2=>match f with
   | .next=>I r' st2
   | .cont=>I r' st2
   | .brk=>Then (run fnsP (n+1)) cx r φ .next st2
   |f=>Then (run fnsP (n+1)) cx r φ f st2)) (h0:∀st,I [] st→X (run fnsP (n+1)) cx r st φ):X (run fnsP (n+1)) cx (.For t i body [] p::r) st φ:=by
 refine xE22 (loop_inv (φ:=Then (run fnsP (n+1)) cx r φ) hb h0 ds st1 h1) fun f st' e q=>?_
 refine X.of (f:=f) (st1:=st') ?_ q
 show (bif !cx.lp||isSetE i then none else ob (evP (run fnsP n) cx i st) _)=_
 refine rwE hlp ?_
 show ob _ _=_
 refine rwE (ob_eq h) ?_
 exact (ob_eq hi).trans e
theorem call_pure{n:Nat}{x:Str}{d:DefRec}{as:List AV}{cs:List MO}{ps vars0:Vars}{v:PV}(hd:fnsP.find? (isD x)=some d)(hp:plF d=true)(h1:aCs as=[])
  (h3:paramVars d.params.args (renum 0 as)=some ps) (h4:frV d.scope.names ps=vars0) (h5:goodVars d.scope.names (vars0.map (·.1))=true)
  (hr:X (run fnsP n) ⟨d.scope.names,true⟩ d.body ⟨vars0,[]⟩ (fun f _=>f=.ret v)):(run fnsP (n+1)).call x as cs=some (.ok (.pv v),cs):=by
 refine X.el hr fun f st' e e_3=>?_;subst e_3
 exact call_of (outs:=st'.cells) hd hp (by refine rwE h1 ?_;rfl) (ins:=[]) (by refine rwE h1 ?_;rfl) h3 h4 h5 (by refine rwE h1 ?_;rfl) (by refine rwE e ?_;rfl)
theorem comp1_map{R:Rc}{cx:Cx}{V:Vars}{cells:List MO}{α:Type}{enc:α→PV}{pre:Option α→Vars}{f:α→PV}{g:α→Bool}{elt t:Expr}{ifs:List Expr}{as:List α}
  (hb:∀d∈as,∀a,bindT cx.names t (enc d) ⟨pre a++V,cells⟩=some ⟨pre (some d)++V,cells⟩) (hf:∀d∈as,evAnd R cx ifs ⟨pre (some d)++V,cells⟩=some (g d,⟨pre (some d)++V,cells⟩))
  (he:∀d∈as,g d=true→evP R cx elt ⟨pre (some d)++V,cells⟩=some (f d,⟨pre (some d)++V,cells⟩)) :
  ∀{acc:List PV} {a0:Option α},acc.length+as.length≤1000→∃a,comp1 R cx elt t ifs (as.map enc) acc ⟨pre a0++V,cells⟩=some (acc++(as.filter g).map f,⟨pre a++V,cells⟩):=by
 induction as with
 |nil=>exact fun {acc a0} _=>⟨a0,congrArg (fun l=>some (l,St.mk (pre a0++V) cells)) (List.append_nil acc).symm⟩
 |cons d as ih =>
  intro acc a0 hl
  have ih:=@ih (fun x h=>hb x (.tail _ h)) (fun x h=>hf x (.tail _ h)) (fun x h=>he x (.tail _ h))
  have hl1:acc.length≤1000:=Nat.le_trans (Nat.le_add_right _ _) hl
  have e1:=hf d (.head _)
  cases hg:g d with
  |true =>
   rw [hg] at e1
   refine xE11 (ih (acc:=acc++[f d]) (a0:=some d) ?_) fun a e=>⟨a,(ob_eq (hb d (.head _) a0)).trans ((ob_eq e1).trans ((ob_eq (he d (.head _) hg)).trans ?_))⟩
   ·rw [List.length_append,List.length_singleton,Nat.add_assoc,Nat.add_comm 1];exact hl
   ·rw [decide_eq_true hl1,List.filter_cons,hg]
    rw [List.append_assoc] at e
    exact e
  |false =>
   rw [hg] at e1
   refine xE11 (ih (acc:=acc) (a0:=some d) (Nat.le_of_succ_le hl)) fun a e=>⟨a,(ob_eq (hb d (.head _) a0)).trans ((ob_eq e1).trans ?_)⟩
   rw [List.filter_cons,hg]
   exact e
theorem comp_mapT{R:Rc}{cx:Cx}{st st1:St}{α:Type}{enc:α→PV}{as:List α}{pre:Option α→Vars}{f:α→PV}{g:α→Bool}{elt t i:Expr}{ifs:List Expr}{scope:Scope}{x:PV}(c1:(!(cx.lp&&scO cx.names scope&&compOk scope st.vars))=false)(c2:(isSetE i||!ownT scope t)=false)
  (hi:evP R cx i st=some (x,st1)) (hx:items x=some (as.map enc)) (hl:as.length≤1000) (h0:(oNm scope).map (fun n=>(n,Option.none))=pre none) (hk:∀a,(pre a).length=(oNm scope).length)
  (hb:∀d∈as,∀a,bindT (rlN cx.names scope.names) t (enc d) ⟨pre a++st1.vars,st1.cells⟩=some ⟨pre (some d)++st1.vars,st1.cells⟩)
  (hf:∀d∈as,evAnd R ⟨rlN cx.names scope.names,cx.lp⟩ ifs ⟨pre (some d)++st1.vars,st1.cells⟩=some (g d,⟨pre (some d)++st1.vars,st1.cells⟩))
  (he:∀d∈as,g d=true→evP R ⟨rlN cx.names scope.names,cx.lp⟩ elt ⟨pre (some d)++st1.vars,st1.cells⟩=some (f d,⟨pre (some d)++st1.vars,st1.cells⟩)) :
  evComp R cx elt [⟨t,i,ifs,0⟩] scope st=some (.pv (.lst ((as.filter g).map f)),st1):=by
 refine xE11 (comp1_map (cx:=⟨rlN cx.names scope.names,cx.lp⟩) (a0:=none) (acc:=[]) hb hf he ((Nat.zero_add _).symm▸hl)) fun a e=>?_
 rw [← h0] at e
 unfold evComp
 refine rwE c1 ?_
 show (bif isSetE i||!ownT scope t then none else _)=_
 refine rwE c2 ?_
 refine (ob_eq hi).trans ((ob_eq hx).trans ((ob_eq e).trans ?_))
 show some (AV.pv (.lst ((as.filter g).map f)),St.mk ((pre a++st1.vars).drop _) st1.cells)=_
 refine rwB (hk a) (rwE List.drop_left rfl)
theorem comp_map{R:Rc}{cx:Cx}{st st1:St}{pre:Option PV→Vars}{f:PV→PV}{g:PV→Bool}{elt t i:Expr}{ifs:List Expr}{scope:Scope}{x:PV}{ds:List PV}(c1:(!(cx.lp&&scO cx.names scope&&compOk scope st.vars))=false)(c2:(isSetE i||!ownT scope t)=false)
  (hi:evP R cx i st=some (x,st1)) (hx:items x=some ds) (hl:ds.length≤1000) (h0:(oNm scope).map (fun n=>(n,Option.none))=pre none) (hk:∀a,(pre a).length=(oNm scope).length)
  (hb:∀d∈ds,∀a,bindT (rlN cx.names scope.names) t d ⟨pre a++st1.vars,st1.cells⟩=some ⟨pre (some d)++st1.vars,st1.cells⟩)
  (hf:∀d∈ds,evAnd R ⟨rlN cx.names scope.names,cx.lp⟩ ifs ⟨pre (some d)++st1.vars,st1.cells⟩=some (g d,⟨pre (some d)++st1.vars,st1.cells⟩))
  (he:∀d∈ds,g d=true→evP R ⟨rlN cx.names scope.names,cx.lp⟩ elt ⟨pre (some d)++st1.vars,st1.cells⟩=some (f d,⟨pre (some d)++st1.vars,st1.cells⟩)) :
  evComp R cx elt [⟨t,i,ifs,0⟩] scope st=some (.pv (.lst ((ds.filter g).map f)),st1):=comp_mapT (enc:=fun d=>d) c1 c2 hi (hx.trans (congrArg some (List.map_id' ds).symm)) hl h0 hk hb hf he
end Bc
set_option tactic.hygienic true
namespace Bc
noncomputable def defN(x:Str)(h:(fnsP.find? (isD x)).isSome=true):DefRec:=(fnsP.find? (isD x)).get h
noncomputable def d_law_pick:DefRec:=defN "_law_pick" (by decide +kernel)
theorem find_law_pick:fnsP.find? (isD "_law_pick")=some d_law_pick:=by kernel_rfl
theorem plain_law_pick:plF d_law_pick=true:=by kernel_rfl
noncomputable def d_law_array:DefRec:=defN "_law_array" (by decide +kernel)
theorem find_law_array:fnsP.find? (isD "_law_array")=some d_law_array:=by kernel_rfl
theorem plain_law_array:plF d_law_array=true:=by kernel_rfl
noncomputable def dLA:DefRec:=defN "_law_is_array" (by decide +kernel)
theorem find_law_is_array:fnsP.find? (isD "_law_is_array")=some dLA:=by kernel_rfl
theorem plain_law_is_array:plF dLA=true:=by kernel_rfl
noncomputable def dLI:DefRec:=defN "_law_item" (by decide +kernel)
theorem find_law_item:fnsP.find? (isD "_law_item")=some dLI:=by kernel_rfl
theorem plain_law_item:plF dLI=true:=by kernel_rfl
noncomputable def dLP:DefRec:=defN "_law_part" (by decide +kernel)
theorem find_law_part:fnsP.find? (isD "_law_part")=some dLP:=by kernel_rfl
theorem plain_law_part:plF dLP=true:=by kernel_rfl
noncomputable def d_law_bound:DefRec:=defN "_law_bound" (by decide +kernel)
theorem find_law_bound:fnsP.find? (isD "_law_bound")=some d_law_bound:=by kernel_rfl
theorem plain_law_bound:plF d_law_bound=true:=by kernel_rfl
noncomputable def d_law:DefRec:=defN "law" (by decide +kernel)
theorem find_law:fnsP.find? (isD "law")=some d_law:=by kernel_rfl
theorem plain_law:plF d_law=true:=by kernel_rfl
noncomputable def d_bind_cols:DefRec:=defN "bind_cols" (by decide +kernel)
theorem find_bind_cols:fnsP.find? (isD "bind_cols")=some d_bind_cols:=by kernel_rfl
theorem plain_bind_cols:plF d_bind_cols=true:=by kernel_rfl
noncomputable def dBR:DefRec:=defN "bind_rows" (by decide +kernel)
theorem find_bind_rows:fnsP.find? (isD "bind_rows")=some dBR:=by kernel_rfl
theorem plain_bind_rows:plF dBR=true:=by kernel_rfl
noncomputable def d_bind_by:DefRec:=defN "bind_by" (by decide +kernel)
theorem find_bind_by:fnsP.find? (isD "bind_by")=some d_bind_by:=by kernel_rfl
theorem plain_bind_by:plF d_bind_by=true:=by kernel_rfl
noncomputable def dCA:DefRec:=defN "column_as" (by decide +kernel)
theorem find_column_as:fnsP.find? (isD "column_as")=some dCA:=by kernel_rfl
theorem plain_column_as:plF dCA=true:=by kernel_rfl
noncomputable def dBN:DefRec:=defN "bound_row_names" (by decide +kernel)
theorem find_bound_row_names:fnsP.find? (isD "bound_row_names")=some dBN:=by kernel_rfl
theorem plain_bound_row_names:plF dBN=true:=by kernel_rfl
noncomputable def dNR:DefRec:=defN "note_recycling" (by decide +kernel)
theorem find_note_recycling:fnsP.find? (isD "note_recycling")=some dNR:=by kernel_rfl
theorem plain_note_recycling:plF dNR=true:=by kernel_rfl
noncomputable def dKP:DefRec:=defN "kept_places" (by decide +kernel)
theorem find_kept_places:fnsP.find? (isD "kept_places")=some dKP:=by kernel_rfl
theorem plain_kept_places:plF dKP=true:=by kernel_rfl
noncomputable def dBE:DefRec:=defN "bound_extent" (by decide +kernel)
theorem find_bound_extent:fnsP.find? (isD "bound_extent")=some dBE:=by kernel_rfl
theorem plain_bound_extent:plF dBE=true:=by kernel_rfl
noncomputable def d_joined_kind:DefRec:=defN "joined_kind" (by decide +kernel)
theorem find_joined_kind:fnsP.find? (isD "joined_kind")=some d_joined_kind:=by kernel_rfl
theorem plain_joined_kind:plF d_joined_kind=true:=by kernel_rfl
noncomputable def dTR:DefRec:=defN "transpose" (by decide +kernel)
theorem find_transpose:fnsP.find? (isD "transpose")=some dTR:=by kernel_rfl
theorem plain_transpose:plF dTR=true:=by kernel_rfl
noncomputable def dAK:DefRec:=defN "as_kind" (by decide +kernel)
theorem find_as_kind:fnsP.find? (isD "as_kind")=some dAK:=by kernel_rfl
theorem plain_as_kind:plF dAK=true:=by kernel_rfl
noncomputable def dCK:DefRec:=defN "common_kind" (by decide +kernel)
theorem find_common_kind:fnsP.find? (isD "common_kind")=some dCK:=by kernel_rfl
theorem plain_common_kind:plF dCK=true:=by kernel_rfl
theorem call_X{n:Nat}{x:Str}{d:DefRec}{as:List AV}{cs ins cs':List MO}{ps vars0:Vars}{r:Rs}{outs:List MO}(hd:fnsP.find? (isD x)=some d)(hp:plF d=true)(h1:nodupN (aCs as)=true)
  (h2:takeMO cs (aCs as)=some ins) (h3:paramVars d.params.args (renum 0 as)=some ps) (h4:frV d.scope.names ps=vars0) (h5:goodVars d.scope.names (vars0.map (·.1))=true)
  (h6:putMO (aCs as) outs cs=some cs') (hr:X (run fnsP n) ⟨d.scope.names,true⟩ d.body ⟨vars0,ins⟩ (fun f st=>flOut (some (f,st))=some (r,outs))):(run fnsP (n+1)).call x as cs=some (r,cs'):=by
 refine X.el hr fun f st' e q=>?_
 exact call_of hd hp h1 h2 h3 h4 h5 h6 (by refine rwE e ?_;exact q)
end Bc
set_option tactic.hygienic false
namespace Bc
variable{R:Rc}{cx:Cx}{st st1 st2 st3:St}{e l r f o v:Expr}{d a b:PV}{n:Nat}{p p2 p3:Pos}{x:Str}
theorem X.nilT{R1:Rc}{rr:List Stmt}{φ:Fl→St→Prop}(q:X R1 cx rr st φ):X R cx [] st (Then R1 cx rr φ):=X.nil q
theorem X.run{l:List Stmt}{v:PV}{φ:Fl→St→Prop}(h:(exs R cx l st).map (·.1)=some (.ret v))(q:∀st',φ (.ret v) st'):X R cx l st φ:=by
 refine Bc.optE (exs R cx l st) (fun e=>?_) fun z e=>?_
 ·rw [e] at h;cases h
 ·
  rw [e] at h
  obtain ⟨f,st'⟩:=z
  cases h
  exact ⟨_,_,e,q _⟩
noncomputable def flR:Fl→Option Rs
 | .ret d=>some (.ok (.pv d))
 | .next=>some (.ok (.pv .none))
 | .exc d=>some (.exc d)
 |_=>Option.none
theorem call_pureR{n:Nat}{x:Str}{d:DefRec}{as:List AV}{cs:List MO}{ps vars0:Vars}{rs:Rs}(hd:fnsP.find? (isD x)=some d)(hp:plF d=true)(h1:aCs as=[])
  (h3:paramVars d.params.args (renum 0 as)=some ps) (h4:frV d.scope.names ps=vars0) (h5:goodVars d.scope.names (vars0.map (·.1))=true)
  (hr:X (run fnsP n) ⟨d.scope.names,true⟩ d.body ⟨vars0,[]⟩ (fun f _=>flR f=some rs)):(run fnsP (n+1)).call x as cs=some (rs,cs):=by
 refine X.el hr fun f st' e q=>?_
 refine call_of (outs:=st'.cells) hd hp (by refine rwE h1 ?_;rfl) (ins:=[]) (by refine rwE h1 ?_;rfl) h3 h4 h5 (by refine rwE h1 ?_;rfl) ?_
 refine rwE e ?_
 cases f<;>cases q<;>rfl
noncomputable def isListE(e:Expr):Bool:=(listE e).isSome
theorem evP_of(h0:isListE e=false)(h:R.ev cx e st=some (.pv d,st1)):evP R cx e st=some (d,st1):=by
 unfold evP
 unfold isListE at h0
 cases hl:listE e with
 |none=>exact ob_eq h
 |some x=>rw [hl] at h0;exact cz3 h0
theorem evT_of{q:Bool}(h:R.ev cx e st=some (.pv (.bool q),st1)):evT R cx e st=some (q,st1):=ob_eq h
theorem ev_cmp'{op:CmpOp}{q:Bool}(h0:behindInMarks op r=false)(h1:evP (run fnsP n) cx l st=some (a,st1))(h2:evP (run fnsP n) cx r st1=some (b,st2))(h3:cmpPV op a b=some q):(run fnsP (n+1)).ev cx (.Compare l [op] [r] p) st=some (.pv (.bool q),st2):=by
 show (bif behindInMarks op r then none else ob (evP (run fnsP n) cx l st) _)=_
 refine rwE h0 ?_
 exact (ob_eq h1).trans ((ob_eq h2).trans (ob_eq h3))
theorem evT_cmp{op:CmpOp}{q:Bool}(h0:behindInMarks op r=false)(h1:evP (run fnsP n) cx l st=some (a,st1))(h2:evP (run fnsP n) cx r st1=some (b,st2))(h3:cmpPV op a b=some q):evT (run fnsP (n+1)) cx (.Compare l [op] [r] p) st=some (q,st2):=evT_of (ev_cmp' h0 h1 h2 h3)
theorem ev_bin{op:Operator}(h1:evP (run fnsP n) cx l st=some (a,st1))(h2:evP (run fnsP n) cx r st1=some (b,st2))(h3:binPV op a b=some d):(run fnsP (n+1)).ev cx (.BinOp l op r p) st=some (.pv d,st2):=by
 show ob (evP (run fnsP n) cx l st) _=_
 exact (ob_eq h1).trans ((ob_eq h2).trans (ob_eq h3))
theorem ev_sub'(h0:isSliceE r=false)(h1:evBase (run fnsP n) cx o st=some (.pv a,st1))(h2:evP (run fnsP n) cx r st1=some (b,st2))(h3:subPV a b=some d):(run fnsP (n+1)).ev cx (.Subscript o r p) st=some (.pv d,st2):=by
 show evSubE (run fnsP n) cx o r st=_
 unfold evSubE
 refine rwE (sliceOf_of h0) ?_
 show ob (evBase (run fnsP n) cx o st) _=_
 refine rwE (ob_eq h1) ?_
 exact (ob_eq h2).trans (ob_eq h3)
theorem allPV_map:∀ds:List PV,allPV (ds.map AV.pv)=some ds
 |[]=>rfl
 |_::r=>ob_eq (allPV_map r)
theorem evCall_bi{args:List Expr}{ds:List PV}(hk:(args.any isS||decide (30 < args.length))=false)(hf:evName fnsP cx x st=some (.pv (.glb x),st))(hb:biNames.contains x=true)(hl:cx.lp=true)(hr:(x==("_law_named" : Str))=false)
  (ha:evArgs (run fnsP (n+1)) false cx args st=some (ds.map .pv,st1)) (hd:biPV x ds=some d):evCall (run fnsP (n+1)) cx (.Name x p2) args st=some (.ok (.pv d),st1):=by
 unfold evCall
 have he:(run fnsP (n+1)).ev cx (.Name x p2) st=some (.pv (.glb x),st):=hf
 refine rwE hk ?_
 refine (ob_eq he).trans ((ob_eq rfl).trans ((ob_eq rfl).trans ?_))
 refine rwE hr ?_
 refine (ob_eq ha).trans (ob_eq (?_:callG _ _ _ _ _=some (.ok (.pv d),_)))
 unfold callG
 refine rwE hb (rwE hl ?_)
 exact (ob_eq (allPV_map ds)).trans (ob_eq hd)
theorem ev_of_call{args:List Expr}{c:AV}(hf:∀y q z,f≠.Attribute y q z)(h:evCall (run fnsP n) cx f args st=some (.ok c,st1)):(run fnsP (n+1)).ev cx (.Call f args [] p) st=some (c,st1):=by
 show evCallE (run fnsP n) cx f args p st=_
 unfold evCallE
 refine rwE (attrE_of hf) ?_
 exact ob_eq h
theorem ev_bi{args:List Expr}{ds:List PV}(hk:(args.any isS||decide (30 < args.length))=false)(hf:evName fnsP cx x st=some (.pv (.glb x),st))(hb:biNames.contains x=true)(hl:cx.lp=true)(hr:(x==("_law_named" : Str))=false)
  (ha:evArgs (run fnsP (n+1)) false cx args st=some (ds.map .pv,st1)) (hd:biPV x ds=some d):(run fnsP (n+2)).ev cx (.Call (.Name x p2) args [] p) st=some (.pv d,st1) :=
 ev_of_call (fun _ _ _ z=>nomatch z) (evCall_bi hk hf hb hl hr ha hd)
theorem evCall_fn{args:List Expr}{as:List AV}{rs:Rs}{cs:List MO}(hk:(args.any isS||decide (30 < args.length))=false)(hf:evName fnsP cx x st=some (.pv (.glb x),st))(hl:cx.lp=true)(hb:(biNames.contains x||x==("Vector" : Str)||x==("Null" : Str))=false)
  (ha:evArgs (run fnsP (n+1)) (x==("_law_named" : Str)) cx args st=some (as,st1)) (hc:(run fnsP (n+1)).call x as st1.cells=some (rs,cs)):evCall (run fnsP (n+1)) cx (.Name x p2) args st=some (rs,⟨st1.vars,cs⟩):=by
 simp only [Bool.or_eq_false_iff] at hb
 unfold evCall
 have he:(run fnsP (n+1)).ev cx (.Name x p2) st=some (.pv (.glb x),st):=hf
 refine rwE hk ?_
 refine (ob_eq he).trans ((ob_eq rfl).trans ((ob_eq rfl).trans ((ob_eq ha).trans (ob_eq (?_:callG _ _ _ _ _=some (rs,cs))))))
 unfold callG
 refine rwE hb.1.1 (rwE hl (rwE hb.1.2 (rwE hb.2 ?_)))
 exact hc
theorem ev_fn{args:List Expr}{as:List AV}{c:AV}{cs:List MO}(hk:(args.any isS||decide (30 < args.length))=false)(hf:evName fnsP cx x st=some (.pv (.glb x),st))(hl:cx.lp=true)(hb:(biNames.contains x||x==("Vector" : Str)||x==("Null" : Str))=false)
  (ha:evArgs (run fnsP (n+1)) (x==("_law_named" : Str)) cx args st=some (as,st1)) (hc:(run fnsP (n+1)).call x as st1.cells=some (.ok c,cs)):(run fnsP (n+2)).ev cx (.Call (.Name x p2) args [] p) st=some (c,⟨st1.vars,cs⟩) :=
 ev_of_call (fun _ _ _ z=>nomatch z) (evCall_fn hk hf hl hb ha hc)
noncomputable def isCompE(e:Expr):Bool:=match vkOf e with
 | .lc _ _ _=>true
 | .bad=>true
 |_=>false
theorem asgN_eq{z:Option (Fl × St)}(hs:sOk cx.names x st.vars=true)(hc:isCompE v=false)(h:(ob (evR (run fnsP n) cx v st) fun p=>match p.1 with
   | .ok a=>some (.next,⟨setV x a p.2.vars,p.2.cells⟩)
   | .exc d=>some (.exc d,p.2))=z):(run fnsP (n+1)).ex cx (.Assign [.Name x p2] v p) st=z:=by
 subst h
 show exAsgN (run fnsP n) cx x v st=_
 unfold exAsgN
 refine rwE hs ?_
 unfold isCompE at hc
 cases hk:vkOf v with
 |lc _ _ _=>rw [hk] at hc;exact cz3 hc
 |bad=>rw [hk] at hc;exact cz3 hc
 |_=>rfl
theorem ex_asg{rs:AV}{st4:St}(hs:sOk cx.names x st.vars=true)(hc:isCompE v=false)(h:evR (run fnsP n) cx v st=some (.ok rs,st1))(h4:st4=⟨setV x rs st1.vars,st1.cells⟩):(run fnsP (n+1)).ex cx (.Assign [.Name x p2] v p) st=some (.next,st4):=by
 subst h4
 exact asgN_eq hs hc (ob_eq h)
theorem ex_comp{rs:AV}{st4:St}{elt:Expr}{gens:List Comprehension}{sc:Scope}(hs:sOk cx.names x st.vars=true)(h:evComp (run fnsP n) cx elt gens sc st=some (rs,st1))(h4:st4=⟨setV x rs st1.vars,st1.cells⟩):(run fnsP (n+1)).ex cx (.Assign [.Name x p2] (.ListComp elt gens sc p3) p) st=some (.next,st4):=by
 refine Bc.rwE h4 ?_
 show (bif !sOk cx.names x st.vars then none else _)=_
 refine rwE hs ?_
 exact ob_eq h
noncomputable def isCallE(e:Expr):Bool:=match ek e with
 | .call _ _ _=>true
 | .name _=>true
 |_=>false
theorem notCall(h:isCallE e=false):callE e=none∧nameE e=none∧∀raw,rawE raw e=false:=by
 unfold isCallE at h
 unfold callE nameE rawE
 cases hk:ek e with
 |call _ _ _=>rw [hk] at h;exact cz3 h
 |name _=>rw [hk] at h;exact cz3 h
 |_=>exact ⟨rfl,rfl,fun _=>rfl⟩
theorem evR_of{c:AV}(h0:isCallE e=false)(h:R.ev cx e st=some (c,st1)):evR R cx e st=some (.ok c,st1):=by
 unfold evR
 refine rwE ((notCall h0).1) (rwE ((notCall h0).2.1) ?_)
 exact ob_eq h
theorem evR_call{args:List Expr}{rs:Rs}(hf:∀y q z,f≠.Attribute y q z)(h:evCall R cx f args st=some (rs,st1)):evR R cx (.Call f args [] p) st=some (rs,st1):=by
 show (bif (attrE f).isSome||false then _ else _)=_
 refine rwE (attrE_of hf) ?_
 exact h
theorem ex_meth{st4:St}{m:Str}{k:Nat}{args:List Expr}{ds:List PV}{ob ob':MO}{ap:Pos}(hl:(ap.endLine==p2.line)=true)(h0:(args.any isS||decide (20 < args.length)||!nSC o)=false)(ht:turner m=true)(h1:(run fnsP n).ev cx o st=some (.cell k,st1))(hk:isLst st1.cells k=true)
  (h2:evPs (run fnsP n) cx args st1=some (ds,st2)) (h3:st2.cells[k]? = some ob) (h4:methMO ob m ds=some ob') (h5:st4=⟨st2.vars,st2.cells.set k ob'⟩):(run fnsP (n+2)).ex cx (.Expr (.Call (.Attribute o m ap) args [] p2) p) st=some (.next,st4):=by
 refine Bc.rwE h5 ?_
 have h6:(run fnsP (n+1)).ev cx (.Call (.Attribute o m ap) args [] p2) st=some (.pv .none,⟨st2.vars,st2.cells.set k ob'⟩):=by
  show (bif ap.endLine==p2.line then evMeth (run fnsP n) cx o m args st else none)=_
  refine rwE hl ?_
  show evMeth (run fnsP n) cx o m args st=_
  unfold evMeth
  refine rwE h0 (rwE ht ?_)
  refine (ob_eq h1).trans ((ob_eq rfl).trans ?_)
  refine rwE hk ?_
  exact (ob_eq h2).trans ((ob_eq h3).trans (ob_eq h4))
 have h7:evR (run fnsP (n+1)) cx (.Call (.Attribute o m ap) args [] p2) st=some (.ok (.pv .none),⟨st2.vars,st2.cells.set k ob'⟩):=Bc.ob_eq h6
 exact Bc.ob_eq h7
theorem ex_item{i:Expr}{y:Str}{k:Nat}{j:Int}{ll:List PV}{st4:St}(h0:isSliceE i=false)(h1:evP (run fnsP n) cx v st=some (d,st1))(h2:(run fnsP n).ev cx (.Name y p2) st1=some (.cell k,st2))(h3:evP (run fnsP n) cx i st2=some (.int j,st3))
  (h4:st3.cells[k]? = some (.lst ll)) (h5:0≤j∧j.toNat < ll.length∧j < 100000) (h6:st4=⟨st3.vars,st3.cells.set k (.lst (ll.set j.toNat d))⟩):(run fnsP (n+1)).ex cx (.Assign [.Subscript (.Name y p2) i p3] v p) st=some (.next,st4):=by
 subst h6
 show (bif isSliceE i then none else ob (evP (run fnsP n) cx v st) _)=_
 refine rwE h0 ?_
 refine (ob_eq h1).trans ((ob_eq h2).trans ((ob_eq rfl).trans ((ob_eq h3).trans ((ob_eq rfl).trans ((ob_eq (lstAt_of h4)).trans ?_)))))
 refine rwE (decide_eq_true h5) ?_;rfl
theorem ev_ife{q:Bool}{c:AV}{t g:Expr}(h1:evT (run fnsP n) cx t st=some (q,st1))(h2:(run fnsP n).ev cx (bif q then e else g) st1=some (c,st2)):(run fnsP (n+1)).ev cx (.IfExp t e g p) st=some (c,st2):=by
 show ob (evT (run fnsP n) cx t st) _=_
 refine rwE (ob_eq h1) ?_
 cases q<;>exact h2
theorem eAc{raw:Bool}{es:List Expr}{c:AV}{as:List AV}(h:evArg R raw cx e st=some (c,st1))(h2:evArgs R raw cx es st1=some (as,st2)):evArgs R raw cx (e::es) st=some (c::as,st2):=by
 exact (ob_eq h).trans (ob_eq h2)
theorem evArgs_nil{raw:Bool}:evArgs R raw cx [] st=some ([],st):=rfl
theorem evArg_P{raw:Bool}(h0:isCallE e=false)(h:evP R cx e st=some (d,st1)):evArg R raw cx e st=some (.pv d,st1):=by
 unfold evArg
 rw [(notCall h0).2.2]
 exact ob_eq h
theorem evPs_cons{es:List Expr}{ds:List PV}(h:evP R cx e st=some (d,st1))(h2:evPs R cx es st1=some (ds,st2)):evPs R cx (e::es) st=some (d::ds,st2):=by
 exact (ob_eq h).trans (ob_eq h2)
theorem ev_tup{es:List Expr}{ds:List PV}{k:Nat}(h0:(es.any isS||decide (1000 < es.length))=false)(h:evPs (run fnsP n) cx es st=some (ds,st1)):(run fnsP (n+1)).ev cx (.Tuple es k p) st=some (.pv (.tup ds),st1):=by
 show (bif es.any isS||decide (1000 < es.length) then none else ob (evPs (run fnsP n) cx es st) _)=_
 refine rwE h0 ?_
 exact ob_eq h
theorem ev_and2{q1 q2:Bool}{e1 e2:Expr}(h1:evT (run fnsP n) cx e1 st=some (q1,st1))(h2:evT (run fnsP n) cx e2 st1=some (q2,st1)):(run fnsP (n+1)).ev cx (.BoolOp .And [e1,e2] p) st=some (.pv (.bool (q1&&q2)),st1):=by
 show ob (evAnd (run fnsP n) cx [e1,e2] st) _=_
 have h3:evAnd (run fnsP n) cx [e1,e2] st=some (q1&&q2,st1):=by
  refine (ob_eq h1).trans ?_
  cases q1
  ·rfl
  ·refine (ob_eq h2).trans ?_
   cases q2<;>rfl
 exact ob_eq h3
theorem ev_lc{rs:AV}{elt:Expr}{gens:List Comprehension}{sc:Scope}(h:evComp (run fnsP n) cx elt gens sc st=some (rs,st1)):(run fnsP (n+1)).ev cx (.ListComp elt gens sc p) st=some (rs,st1):=h
theorem evCall_vec{args:List Expr}{d1 d2:PV}{st4:St}(hk:(args.any isS||decide (30 < args.length))=false)(hf:evName fnsP cx "Vector" st=some (.pv (.glb "Vector"),st))(hl:cx.lp=true)
  (ha:evArgs (run fnsP (n+1)) false cx args st=some ([.pv d1,.pv d2],st1)) (h4:st4=⟨st1.vars,st1.cells++[.inst "Vector" (vecFields (.pv d1) (.pv d2) (.pv .none))]⟩) :
  evCall (run fnsP (n+1)) cx (.Name "Vector" p2) args st=some (.ok (.cell st1.cells.length),st4):=by
 have e1:(("Vector" : Str)==("_law_named" : Str))=false:=by kernel_rfl
 have e2:biNames.contains ("Vector" : Str)=false:=by kernel_rfl
 subst h4
 unfold evCall
 have he:(run fnsP (n+1)).ev cx (.Name "Vector" p2) st=some (.pv (.glb "Vector"),st):=hf
 refine rwE hk ?_
 refine (ob_eq he).trans ((ob_eq rfl).trans ((ob_eq rfl).trans ?_))
 rw [e1]
 refine (ob_eq ha).trans (ob_eq (?_:callG _ _ _ _ _=some (_,_)))
 unfold callG
 rw [e2,hl,beq_self_eq_true]
 rfl
theorem ex_ret{c:AV}{cs:List MO}{st4:St}(h:evR (run fnsP n) cx e st=some (.ok c,st1))(hf:frz st1.cells c=some (d,cs))(h4:st4=⟨st1.vars,cs⟩):(run fnsP (n+1)).ex cx (.Return (some e) p) st=some (.ret d,st4):=by
 refine Bc.rwE h4 ?_
 show ob (evR (run fnsP n) cx e st) _=_
 refine rwE (ob_eq h) ?_
 exact ob_eq hf
end Bc
namespace Bc
noncomputable def hnd(cs:List Int)(pos rest seed:Int):List PV:=[.lst (cs.map .int),.int pos,.int rest,.int seed]
structure HV(cs:List Int)(pos rest seed:Int):Prop where
 len:cs.length≤63
 p0:0≤pos
 p1:pos≤cs.length
 r0:0≤rest
 s1:seed.natAbs < 2147483647
noncomputable def pkV(lim:Int)(f d:Option AV):Vars:=[("hand",some (.cell 0)),("limit",some (.pv (.int lim))),("figure",f),("digit",d)]
noncomputable def okLim(lim:Int):Prop:=lim=3∨lim=4∨lim=5∨lim=6
inductive pkP(lim:Int)(cs:List Int)(f:Fl)(st:St):Prop
 |mk (v pos rest seed:Int):0≤v→v < lim→HV cs pos rest seed→flOut (some (f,st))=some (.ok (.pv (.int v)),[.lst (hnd cs pos rest seed)])→pkP lim cs f st
theorem pick_draw{n:Nat}{l:List Stmt}(hbd:l=d_law_pick.body.drop 1){cs:List Int}{pos rest seed lim:Int}{f:Option AV}(hl:okLim lim)(H:HV cs pos rest seed) :
  X (run fnsP (n+19)) ⟨d_law_pick.scope.names,true⟩ l ⟨pkV lim f none,[.lst (hnd cs pos rest seed)]⟩ (pkP lim cs):=by
 subst hbd
 have hm:0 < lim:=by rcases hl with rfl | rfl | rfl | rfl<;>decide
 refine ⟨.ret (.int (Int.fmod rest lim)),⟨pkV lim f (some (.pv (.int (Int.fmod rest lim)))),[.lst (hnd cs pos (Int.fdiv rest lim) seed)]⟩,?_,Int.fmod rest lim,pos,Int.fdiv rest lim,seed,Int.fmod_nonneg_of_pos _ hm,Int.fmod_lt_of_pos _ hm,⟨H.len,H.p0,H.p1,?_,H.s1⟩,rfl⟩
 ·rcases hl with rfl | rfl | rfl | rfl<;>kernel_rfl
 ·exact Int.fdiv_nonneg H.r0 (Int.le_of_lt hm)
theorem nth_int{cs:List Int}{pos:Int}(h0:0≤pos)(h1:pos < cs.length)(h2:cs.length≤63):∃v:Int,nthPV (cs.map .int) pos=some (.int v):=by
 have h3:pos.toNat < cs.length:=(Int.toNat_lt h0).mpr h1
 refine ⟨cs[pos.toNat],?_⟩
 unfold nthPV
 refine rwE (decide_eq_true ⟨h0,Int.lt_trans h1 (Int.ofNat_lt.mpr (Nat.lt_of_le_of_lt h2 (by decide)))⟩) (rwE (List.getElem?_map) (rwE (List.getElem?_eq_getElem h3) ?_))
 rfl
theorem pick_body{n:Nat}{cs:List Int}{pos rest seed lim:Int}(hl:okLim lim)(H:HV cs pos rest seed) :
  X (run fnsP (n+19)) ⟨d_law_pick.scope.names,true⟩ d_law_pick.body ⟨pkV lim none none,[.lst (hnd cs pos rest seed)]⟩ (pkP lim cs):=by
 have hm:0 < lim:=by rcases hl with rfl | rfl | rfl | rfl<;>decide
 conv=>arg 3;whnf
 refine X.iff (n:=n+18) (b:=decide (rest=0)) (st1:=⟨pkV lim none none,[.lst (hnd cs pos rest seed)]⟩) ?_ (fun hb=>?_) (fun hb=>?_)
 ·kernel_rfl
 rotate_left
 ·refine X.nilT ?_
  refine pick_draw ?_ hl H
  kernel_rfl
 have hb:rest=0:=of_decide_eq_true hb
 refine Bc.rwE hb ?_
 have hlen:(cs.map PV.int).length≤100000:=by rw [List.length_map];exact Nat.le_trans H.len (by decide)
 refine X.iff (n:=n+17) (b:=decide (pos=cs.length)) (st1:=⟨pkV lim none none,[.lst (hnd cs pos 0 seed)]⟩) ?_ (fun hb=>?_) (fun hb=>?_)
 ·refine evT_cmp (n:=n+16) (a:=.int pos) (b:=.int cs.length) (st1:=⟨pkV lim none none,[.lst (hnd cs pos 0 seed)]⟩) (by kernel_rfl) (by kernel_rfl) (evP_of (by kernel_rfl) (ev_bi (n:=n+14) (ds:=[.lst (cs.map .int)]) (by kernel_rfl) (by kernel_rfl) (by kernel_rfl) (by kernel_rfl) (by kernel_rfl) (by kernel_rfl) ?_)) (cmp_eq_int _ _)
  rw [bi_len hlen,List.length_map]
 ·-- the hand is empty: a draw of the seed
  have hs:=H.s1
  have g1:smallI seed=true:=by unfold smallI;exact decide_eq_true (Nat.lt_trans hs (by decide))
  have m1:binPV .Mult (.int seed) (.int 48271)=some (.int (seed * 48271)):=mul_small (by rw [g1];rfl)
  have hf:=Int.fmod_nonneg_of_pos (seed * 48271) (b:=2147483647) (by decide)
  have hf2:=Int.fmod_lt_of_pos (seed * 48271) (b:=2147483647) (by decide)
  refine X.step (st1:=⟨pkV lim none none,[.lst (hnd cs pos 0 (Int.fmod (seed * 48271) 2147483647))]⟩) ?_ ?_
  ·refine ex_item (n:=n+16) (d:=.int (Int.fmod (seed * 48271) 2147483647)) (k:=0) (j:=3) (ll:=hnd cs pos 0 seed) (by kernel_rfl) (evP_of (by kernel_rfl) (ev_bin (n:=n+15) (a:=.int (seed * 48271)) (b:=.int 2147483647) (evP_of (by kernel_rfl) (ev_bin (n:=n+14) (a:=.int seed) (b:=.int 48271) (st1:=⟨pkV lim none none,[.lst (hnd cs pos 0 seed)]⟩) (st2:=⟨pkV lim none none,[.lst (hnd cs pos 0 seed)]⟩) ?_ ?_ m1)) (st2:=⟨pkV lim none none,[.lst (hnd cs pos 0 seed)]⟩) ?_ (by kernel_rfl))) (st2:=⟨pkV lim none none,[.lst (hnd cs pos 0 seed)]⟩) (st3:=⟨pkV lim none none,[.lst (hnd cs pos 0 seed)]⟩) ?_ ?_ (by kernel_rfl) (by simp [hnd]) (by kernel_rfl)
   all_goals kernel_rfl
  ·refine ⟨.ret (.int (Int.fmod (Int.fdiv (Int.fmod (seed * 48271) 2147483647) 7) lim)),⟨pkV lim none none,[.lst (hnd cs pos 0 (Int.fmod (seed * 48271) 2147483647))]⟩,?_,_,pos,0,Int.fmod (seed * 48271) 2147483647,Int.fmod_nonneg_of_pos _ hm,Int.fmod_lt_of_pos _ hm,⟨H.len,H.p0,H.p1,by decide,Int.ofNat_lt.mp (by refine rwE (Int.natAbs_of_nonneg hf) ?_;exact hf2)⟩,rfl⟩
   rcases hl with rfl | rfl | rfl | rfl<;>kernel_rfl
 ·have hne:¬ pos=cs.length:=of_decide_eq_false hb
  refine xE11 (nth_int H.p0 (Int.lt_iff_le_and_ne.mpr ⟨H.p1,hne⟩) H.len) fun v hv=>?_
  have hp:=H.p0
  have hp1:=H.p1
  refine X.nilT ?_
  refine X.step (st1:=⟨pkV lim (some (.pv (.int v))) none,[.lst (hnd cs pos 0 seed)]⟩) ?_ ?_
  ·refine ex_asg (rs:=.pv (.int v)) (st1:=⟨pkV lim none none,[.lst (hnd cs pos 0 seed)]⟩) (by kernel_rfl) (by kernel_rfl) (evR_of (by kernel_rfl) (ev_sub' (a:=.lst (cs.map .int)) (b:=.int pos) (st1:=⟨pkV lim none none,[.lst (hnd cs pos 0 seed)]⟩) (by kernel_rfl) (by kernel_rfl) (by kernel_rfl) (sub_lst hv))) (by kernel_rfl)
  refine X.step (st1:=⟨pkV lim (some (.pv (.int v))) none,[.lst (hnd cs (pos+1) 0 seed)]⟩) (by kernel_rfl) ?_
  have H2:∀r:Int,0≤r→HV cs (pos+1) r seed:=fun r hr=>⟨H.len,Int.le_add_one hp,Int.add_one_le_of_lt (Int.lt_iff_le_and_ne.mpr ⟨hp1,hne⟩),hr,H.s1⟩
  by_cases hv0:0≤v
  ·refine X.step (st1:=⟨pkV lim (some (.pv (.int v))) none,[.lst (hnd cs (pos+1) v seed)]⟩) ?_ (X.nilT (pick_draw (by kernel_rfl) hl (H2 v hv0)))
   refine ex_item (d:=.int v) (k:=0) (j:=2) (ll:=hnd cs (pos+1) 0 seed) (by kernel_rfl) (evP_of (by kernel_rfl) (ev_ife (q:=decide (0≤v)) (st1:=⟨pkV lim (some (.pv (.int v))) none,[.lst (hnd cs (pos+1) 0 seed)]⟩) ?_ ?_)) (st1:=⟨pkV lim (some (.pv (.int v))) none,[.lst (hnd cs (pos+1) 0 seed)]⟩) (st2:=⟨pkV lim (some (.pv (.int v))) none,[.lst (hnd cs (pos+1) 0 seed)]⟩) (st3:=⟨pkV lim (some (.pv (.int v))) none,[.lst (hnd cs (pos+1) 0 seed)]⟩) ?_ ?_ (by kernel_rfl) (by simp [hnd]) (by kernel_rfl)
   ·kernel_rfl
   ·refine rwE (decide_eq_true hv0) ?_;kernel_rfl
   ·kernel_rfl
   ·kernel_rfl
  ·refine X.step (st1:=⟨pkV lim (some (.pv (.int v))) none,[.lst (hnd cs (pos+1) (-v) seed)]⟩) ?_ (X.nilT (pick_draw (by kernel_rfl) hl (H2 (-v) (Int.neg_nonneg_of_nonpos (Int.le_of_lt (Int.not_le.mp hv0))))))
   refine ex_item (d:=.int (-v)) (k:=0) (j:=2) (ll:=hnd cs (pos+1) 0 seed) (by kernel_rfl) (evP_of (by kernel_rfl) (ev_ife (q:=decide (0≤v)) (st1:=⟨pkV lim (some (.pv (.int v))) none,[.lst (hnd cs (pos+1) 0 seed)]⟩) ?_ ?_)) (st1:=⟨pkV lim (some (.pv (.int v))) none,[.lst (hnd cs (pos+1) 0 seed)]⟩) (st2:=⟨pkV lim (some (.pv (.int v))) none,[.lst (hnd cs (pos+1) 0 seed)]⟩) (st3:=⟨pkV lim (some (.pv (.int v))) none,[.lst (hnd cs (pos+1) 0 seed)]⟩) ?_ ?_ (by kernel_rfl) (by simp [hnd]) (by kernel_rfl)
   ·kernel_rfl
   ·refine rwE (decide_eq_false hv0) ?_;kernel_rfl
   ·kernel_rfl
   ·kernel_rfl
theorem pick_ok{cs:List Int}{pos rest seed lim:Int}(n:Nat)(more:List MO)(hl:okLim lim)(H:HV cs pos rest seed) :
  ∃v pos' rest' seed',0≤v∧v < lim∧HV cs pos' rest' seed'∧(run fnsP (n+20)).call "_law_pick" [.cell 0,.pv (.int lim)] (.lst (hnd cs pos rest seed)::more)=some (.ok (.pv (.int v)),.lst (hnd cs pos' rest' seed')::more):=by
 obtain ⟨f,st,e,v,pos',rest',seed',h1,h2,h3,h4⟩:=pick_body (n:=n) hl H
 exact ⟨v,pos',rest',seed',h1,h2,h3,call_X (vars0:=pkV lim none none) (outs:=[.lst (hnd cs pos' rest' seed')]) (ins:=[.lst (hnd cs pos rest seed)]) find_law_pick plain_law_pick rfl rfl rfl (by kernel_rfl) (by kernel_rfl) rfl ⟨f,st,e,h4⟩⟩
noncomputable def Kd.s:Kd→Str
 | .lg=>"logical"
 | .it=>"integer"
 | .db=>"double"
 | .ch=>"character"
noncomputable def itm:Kd→Int→PV
 | .lg,v=>.int (v % 2)
 | .it,v=>.int v
 | .db,v=>.tup [.int v,.int 1]
 | .ch,v=>.str ⟨#[(118+v).toNat]⟩
noncomputable def OkIt(k:Kd)(x:PV):Prop:=x=.none∨∃v:Int,(v=0∨v=1∨v=2∨v=3∨v=4)∧x=itm k v
noncomputable def kiL{β:Type}(F:PV→β)(k:Kd):List β:=[F .none,F (itm k 0),F (itm k 1),F (itm k 2),F (itm k 3),F (itm k 4)]
noncomputable def kiR{β:Type}(F:PV→β)(k:Kd):List β:=[F .none,F (itm k 0),F (itm k 1),F (itm k 2),F (itm k 3),F (itm k 4)]
theorem okQ{β:Type}{F G:PV→β}{k:Kd}{x:PV}(h:OkIt k x)(q:kiL F k=kiR G k):F x=G x:=by
 have t:∀i:Nat,(kiL F k)[i]? = (kiR G k)[i]?:=fun i=>congrArg (·[i]?) q
 rcases h with rfl | ⟨v,rfl | rfl | rfl | rfl | rfl,rfl⟩
 ·exact Option.some.inj (t 0)
 ·exact Option.some.inj (t 1)
 ·exact Option.some.inj (t 2)
 ·exact Option.some.inj (t 3)
 ·exact Option.some.inj (t 4)
 ·exact Option.some.inj (t 5)
noncomputable def itV(k:Kd)(f:Option AV):Vars:=[("hand",some (.cell 0)),("kind",some (.pv (.str k.s))),("figure",f)]
theorem item_first{cs:List Int}{pos rest seed pos' rest' seed' v:Int}{n:Nat}{k:Kd}(hp:(run fnsP (n+28)).call "_law_pick" [.cell 0,.pv (.int 6)] [.lst (hnd cs pos rest seed)]=some (.ok (.pv (.int v)),[.lst (hnd cs pos' rest' seed')])) :
  (run fnsP (n+29)).ex ⟨dLI.scope.names,true⟩ (dLI.body.headD default) ⟨itV k none,[.lst (hnd cs pos rest seed)]⟩=some (.next,⟨itV k (some (.pv (.int v))),[.lst (hnd cs pos' rest' seed')]⟩):=by
 conv=>lhs;arg 3;whnf
 refine ex_asg (rs:=.pv (.int v)) (st1:=⟨itV k none,[.lst (hnd cs pos' rest' seed')]⟩) ?_ ?_ (evR_call ?_ (evCall_fn (as:=[.cell 0,.pv (.int 6)]) (st1:=⟨itV k none,[.lst (hnd cs pos rest seed)]⟩) ?_ ?_ ?_ ?_ ?_ hp)) ?_
 ·kernel_rfl
 ·kernel_rfl
 ·intro _ _ _ z;cases z
 ·kernel_rfl
 ·kernel_rfl
 ·kernel_rfl
 ·kernel_rfl
 ·kernel_rfl
 ·kernel_rfl
theorem item_rest{cs:List Int}{pos' rest' seed' v:Int}{n:Nat}{k:Kd}(hv:v=0∨v=1∨v=2∨v=3∨v=4∨v=5) :
  ∃x junk,OkIt k x∧exs (run fnsP (n+29)) ⟨dLI.scope.names,true⟩ (dLI.body.drop 1) ⟨itV k (some (.pv (.int v))),[.lst (hnd cs pos' rest' seed')]⟩=some (.ret x,⟨itV k (some (.pv (.int v))),.lst (hnd cs pos' rest' seed')::junk⟩):=by
 rcases hv with rfl | rfl | rfl | rfl | rfl | rfl
 ·exact ⟨itm k 0,[.dead],.inr ⟨0,.inl rfl,rfl⟩,by apply kQ k;kernel_rfl⟩
 ·exact ⟨itm k 1,[.dead],.inr ⟨1,.inr (.inl rfl),rfl⟩,by apply kQ k;kernel_rfl⟩
 ·exact ⟨itm k 2,[.dead],.inr ⟨2,.inr (.inr (.inl rfl)),rfl⟩,by apply kQ k;kernel_rfl⟩
 ·exact ⟨itm k 3,[.dead],.inr ⟨3,.inr (.inr (.inr (.inl rfl))),rfl⟩,by apply kQ k;kernel_rfl⟩
 ·exact ⟨itm k 4,[.dead],.inr ⟨4,.inr (.inr (.inr (.inr rfl))),rfl⟩,by apply kQ k;kernel_rfl⟩
 ·exact ⟨.none,[],.inl rfl,by apply kQ k;kernel_rfl⟩
theorem item_bd:dLI.body=dLI.body.headD default::dLI.body.drop 1:=by kernel_rfl
theorem item_okB{cs:List Int}{pos rest seed:Int}(n:Nat)(k:Kd)(more:List MO)(H:HV cs pos rest seed) :
  ∃x pos' rest' seed',OkIt k x∧HV cs pos' rest' seed'∧(run fnsP (n+30)).call "_law_item" [.cell 0,.pv (.str k.s)] (.lst (hnd cs pos rest seed)::more)=some (.ok (.pv x),.lst (hnd cs pos' rest' seed')::more):=by
 refine xE44 (pick_ok (lim:=6) (n+8) [] (.inr (.inr (.inr rfl))) H) fun v pos' rest' seed' h1 h2 h3 hp=>?_
 refine xE22 (item_rest (cs:=cs) (pos':=pos') (rest':=rest') (seed':=seed') (n:=n) (k:=k) (v:=v) (by omega)) fun x junk hx1 hx2=>?_
 have hX:X (run fnsP (n+29)) ⟨dLI.scope.names,true⟩ (dLI.body.headD default::dLI.body.drop 1) ⟨itV k none,[.lst (hnd cs pos rest seed)]⟩ (fun f st=>flOut (some (f,st))=some (.ok (.pv x),.lst (hnd cs pos' rest' seed')::junk)) :=
  X.step (item_first hp) ⟨_,_,hx2,rfl⟩
 rw [← item_bd] at hX
 exact ⟨x,pos',rest',seed',hx1,h3,call_X (vars0:=itV k none) (outs:=.lst (hnd cs pos' rest' seed')::junk) (ins:=[.lst (hnd cs pos rest seed)]) find_law_item plain_law_item rfl rfl rfl (by kernel_rfl) (by kernel_rfl) rfl hX⟩
end Bc
namespace Bc
noncomputable def ptV(fo ki ta v wi ma:Option AV):Vars:=[("hand",some (.cell 0)),("form",fo),("kind",ki),("tall",ta),("v",v),("wide",wi),("marks",ma)]
noncomputable def iA(i:Int):Option AV:=some (.pv (.int i))
noncomputable def sA(k:Kd):Option AV:=some (.pv (.str k.s))
noncomputable abbrev ptC:Cx:=⟨dLP.scope.names,true⟩
noncomputable def sAt(d:DefRec)(i:Nat):Stmt:=d.body.getD i default
theorem ev_pick{n:Nat}{cx:Cx}{V:Vars}{more:List MO}{cs:List Int}{pos rest seed pos' rest' seed' v lim:Int}{args:List Expr}{p p2:Pos}(hp:(run fnsP (n+21)).call "_law_pick" [.cell 0,.pv (.int lim)] (.lst (hnd cs pos rest seed)::more)=some (.ok (.pv (.int v)),.lst (hnd cs pos' rest' seed')::more))
  (hk:(args.any isS||decide (30 < args.length))=false) (hf:evName fnsP cx "_law_pick" ⟨V,.lst (hnd cs pos rest seed)::more⟩=some (.pv (.glb "_law_pick"),⟨V,.lst (hnd cs pos rest seed)::more⟩)) (hl:cx.lp=true)
  (ha:evArgs (run fnsP (n+21)) false cx args ⟨V,.lst (hnd cs pos rest seed)::more⟩=some ([.cell 0,.pv (.int lim)],⟨V,.lst (hnd cs pos rest seed)::more⟩)) :
  (run fnsP (n+22)).ev cx (.Call (.Name "_law_pick" p2) args [] p) ⟨V,.lst (hnd cs pos rest seed)::more⟩=some (.pv (.int v),⟨V,.lst (hnd cs pos' rest' seed')::more⟩):=by
 have hr:(("_law_pick" : Str)==("_law_named" : Str))=false:=by kernel_rfl
 exact ev_fn (n:=n+20) (c:=.pv (.int v)) (st1:=⟨V,.lst (hnd cs pos rest seed)::more⟩) hk hf hl (by kernel_rfl) (by refine rwE hr ?_;exact ha) hp
theorem part_0{n:Nat}{cs:List Int}{pos rest seed pos' rest' seed' v:Int}(hp:(run fnsP (n+48)).call "_law_pick" [.cell 0,.pv (.int 5)] [.lst (hnd cs pos rest seed)]=some (.ok (.pv (.int v)),[.lst (hnd cs pos' rest' seed')])) :
  (run fnsP (n+49)).ex ptC (sAt dLP 0) ⟨ptV none none none none none none,[.lst (hnd cs pos rest seed)]⟩=some (.next,⟨ptV (iA v) none none none none none,[.lst (hnd cs pos' rest' seed')]⟩):=by
 conv=>lhs;arg 3;whnf
 refine ex_asg (rs:=.pv (.int v)) (st1:=⟨ptV none none none none none none,[.lst (hnd cs pos' rest' seed')]⟩) ?_ ?_ (evR_call ?_ (evCall_fn (as:=[.cell 0,.pv (.int 5)]) (st1:=⟨ptV none none none none none none,[.lst (hnd cs pos rest seed)]⟩) ?_ ?_ ?_ ?_ ?_ hp)) ?_
 ·kernel_rfl
 ·kernel_rfl
 ·intro _ _ _ z;cases z
 all_goals kernel_rfl
theorem part_2{n:Nat}{cs:List Int}{pos rest seed pos' rest' seed' v fo:Int}{k:Kd}(hp:(run fnsP (n+46)).call "_law_pick" [.cell 0,.pv (.int 4)] [.lst (hnd cs pos rest seed)]=some (.ok (.pv (.int v)),[.lst (hnd cs pos' rest' seed')]))
  (hk:subPV (.lst [.str "integer",.str "double",.str "logical",.str "character"]) (.int v)=some (.str k.s)) :
  (run fnsP (n+49)).ex ptC (sAt dLP 2) ⟨ptV (iA fo) none none none none none,[.lst (hnd cs pos rest seed)]⟩=some (.next,⟨ptV (iA fo) (sA k) none none none none,[.lst (hnd cs pos' rest' seed')]⟩):=by
 conv=>lhs;arg 3;whnf
 refine ex_asg (rs:=.pv (.str k.s)) (st1:=⟨ptV (iA fo) none none none none none,[.lst (hnd cs pos' rest' seed')]⟩) ?_ ?_ (evR_of ?_ (ev_sub' (a:=.lst [.str "integer",.str "double",.str "logical",.str "character"]) (b:=.int v) (st1:=⟨ptV (iA fo) none none none none none,[.lst (hnd cs pos rest seed)]⟩) ?_ ?_ (evP_of ?_ (ev_pick hp ?_ ?_ ?_ ?_)) hk)) ?_
 all_goals kernel_rfl
theorem part_3{n:Nat}{cs:List Int}{pos rest seed pos' rest' seed' v fo:Int}{k:Kd}{m:Nat}(hp:(run fnsP (n+46)).call "_law_pick" [.cell 0,.pv (.int 4)] [.lst (hnd cs pos rest seed)]=some (.ok (.pv (.int v)),[.lst (hnd cs pos' rest' seed')]))
  (hk:subPV (.lst [.int 1,.int 2,.int 3,.int 0]) (.int v)=some (.int m)) :
  (run fnsP (n+49)).ex ptC (sAt dLP 3) ⟨ptV (iA fo) (sA k) none none none none,[.lst (hnd cs pos rest seed)]⟩=some (.next,⟨ptV (iA fo) (sA k) (iA m) none none none,[.lst (hnd cs pos' rest' seed')]⟩):=by
 conv=>lhs;arg 3;whnf
 refine ex_asg (rs:=.pv (.int m)) (st1:=⟨ptV (iA fo) (sA k) none none none none,[.lst (hnd cs pos' rest' seed')]⟩) ?_ ?_ (evR_of ?_ (ev_sub' (a:=.lst [.int 1,.int 2,.int 3,.int 0]) (b:=.int v) (st1:=⟨ptV (iA fo) (sA k) none none none none,[.lst (hnd cs pos rest seed)]⟩) ?_ ?_ (evP_of ?_ (ev_pick hp ?_ ?_ ?_ ?_)) hk)) ?_
 all_goals kernel_rfl
theorem part_5{n:Nat}{cs:List Int}{pos rest seed pos' rest' seed' v fo:Int}{k:Kd}{m c:Nat}(hp:(run fnsP (n+46)).call "_law_pick" [.cell 0,.pv (.int 3)] [.lst (hnd cs pos rest seed)]=some (.ok (.pv (.int v)),[.lst (hnd cs pos' rest' seed')]))
  (hk:subPV (.lst [.int 1,.int 2,.int 0]) (.int v)=some (.int c)) :
  (run fnsP (n+49)).ex ptC (sAt dLP 5) ⟨ptV (iA fo) (sA k) (iA m) none none none,[.lst (hnd cs pos rest seed)]⟩=some (.next,⟨ptV (iA fo) (sA k) (iA m) none (iA c) none,[.lst (hnd cs pos' rest' seed')]⟩):=by
 conv=>lhs;arg 3;whnf
 refine ex_asg (rs:=.pv (.int c)) (st1:=⟨ptV (iA fo) (sA k) (iA m) none none none,[.lst (hnd cs pos' rest' seed')]⟩) ?_ ?_ (evR_of ?_ (ev_sub' (a:=.lst [.int 1,.int 2,.int 0]) (b:=.int v) (st1:=⟨ptV (iA fo) (sA k) (iA m) none none none,[.lst (hnd cs pos rest seed)]⟩) ?_ ?_ (evP_of ?_ (ev_pick hp ?_ ?_ ?_ ?_)) hk)) ?_
 all_goals kernel_rfl
inductive Drawn{α:Type}(ok:α→Prop)(cs:List Int)(m:Nat)(φ:List α→MO→Prop):Prop
 |mk (xs:List α) (pos rest seed:Int):xs.length=m→(∀x∈xs,ok x)→HV cs pos rest seed→φ xs (.lst (hnd cs pos rest seed))→Drawn ok cs m φ
inductive Draw1{α:Type}(ok:α→Prop)(cs:List Int)(φ:α→MO→Prop):Prop
 |mk (x:α) (pos rest seed:Int):ok x→HV cs pos rest seed→φ x (.lst (hnd cs pos rest seed))→Draw1 ok cs φ
theorem comp1_draw{R:Rc}{cx:Cx}{V:Vars}{α:Type}{enc:α→PV}{ok:α→Prop}{cs:List Int}{more:List MO}{pre:Option PV→Vars}{elt t:Expr}{ds:List PV}(hb:∀d a h,bindT cx.names t d ⟨pre a++V,h⟩=some ⟨pre (some d)++V,h⟩)
  (he:∀d∈ds,∀pos rest seed,HV cs pos rest seed→Draw1 ok cs fun x o=>evP R cx elt ⟨pre (some d)++V,.lst (hnd cs pos rest seed)::more⟩=some (enc x,⟨pre (some d)++V,o::more⟩)) :
  ∀{acc:List PV} {pos rest seed:Int} {a0:Option PV},HV cs pos rest seed→acc.length+ds.length≤1000 →
   Drawn ok cs ds.length fun xs o=>∃a,comp1 R cx elt t [] ds acc ⟨pre a0++V,.lst (hnd cs pos rest seed)::more⟩=some (acc++xs.map enc,⟨pre a++V,o::more⟩):=by
 induction ds with
 |nil=>exact fun {acc pos rest seed a0} H _=>⟨[],pos,rest,seed,rfl,nofun,H,a0,congrArg (fun l=>some (l,St.mk (pre a0++V) (.lst (hnd cs pos rest seed)::more))) (List.append_nil acc).symm⟩
 |cons d ds ih =>
  intro acc pos rest seed a0 H hl
  obtain ⟨x,p1,r1,s1,hx,H1,e1⟩:=he d (.head _) pos rest seed H
  obtain ⟨xs,p2,r2,s2,hn,hok,H2,a,e⟩:=@ih (fun d h=>he d (.tail _ h)) (acc++[enc x]) p1 r1 s1 (some d) H1 (by rw [List.length_append,List.length_singleton,Nat.add_assoc,Nat.add_comm 1];exact hl)
  refine ⟨x::xs,p2,r2,s2,congrArg (·+1) hn,List.forall_mem_cons.mpr ⟨hx,hok⟩,H2,a,(ob_eq (hb d a0 _)).trans ((ob_eq rfl).trans ((ob_eq e1).trans ?_))⟩
  rw [decide_eq_true (Nat.le_trans (Nat.le_add_right _ _) hl)]
  rw [List.append_assoc] at e
  exact e
theorem comp_draw{R:Rc}{cx:Cx}{V:Vars}{α:Type}{enc:α→PV}{ok:α→Prop}{cs:List Int}{more:List MO}{pre:Option PV→Vars}{elt t i:Expr}{ds:List PV}{scope:Scope}{st:St}{x:PV}{pos rest seed:Int}
  (c1:(!(cx.lp&&scO cx.names scope&&compOk scope st.vars))=false) (c2:(isSetE i||!ownT scope t)=false) (hi:evP R cx i st=some (x,⟨V,.lst (hnd cs pos rest seed)::more⟩)) (hx:items x=some ds) (hl:ds.length≤1000) (H:HV cs pos rest seed)
  (h0:(oNm scope).map (fun n=>(n,Option.none))=pre none) (hk:∀a,(pre a).length=(oNm scope).length) (hb:∀d a h,bindT (rlN cx.names scope.names) t d ⟨pre a++V,h⟩=some ⟨pre (some d)++V,h⟩)
  (he:∀d∈ds,∀pos rest seed,HV cs pos rest seed→Draw1 ok cs fun x o=>evP R ⟨rlN cx.names scope.names,cx.lp⟩ elt ⟨pre (some d)++V,.lst (hnd cs pos rest seed)::more⟩=some (enc x,⟨pre (some d)++V,o::more⟩)) :
  Drawn ok cs ds.length fun xs o=>evComp R cx elt [⟨t,i,[],0⟩] scope st=some (.pv (.lst (xs.map enc)),⟨V,o::more⟩):=by
 obtain ⟨xs,p2,r2,s2,hn,hok,H2,a,e⟩:=comp1_draw (R:=R) (cx:=⟨rlN cx.names scope.names,cx.lp⟩) (acc:=[]) (a0:=none) hb he H ((Nat.zero_add _).symm▸hl)
 refine ⟨xs,p2,r2,s2,hn,hok,H2,?_⟩
 rw [← h0] at e
 unfold evComp
 rw [c1]
 show (bif isSetE i||!ownT scope t then none else _)=_
 refine rwE c2 ?_
 refine (ob_eq hi).trans ((ob_eq hx).trans ((ob_eq e).trans ?_))
 show some (AV.pv (.lst (xs.map enc)),St.mk ((pre a++V).drop _) _)=_
 refine rwB (hk a) (rwE List.drop_left rfl)
theorem items_comp{n m:Nat}{cx:Cx}{sc:Scope}{V:Vars}{more:List MO}{cs:List Int}{pos rest seed:Int}{k:Kd}{i e1 e2:Expr}{p1 p2 p3:Pos}(hm:m≤900)(H:HV cs pos rest seed)(hlp:cx.lp=true)(hown:oNm sc=([".0","_"]:List Str))
  (c1:∀h,(!(cx.lp&&scO cx.names sc&&compOk sc (St.vars ⟨V,h⟩)))=false) (c2:(isSetE i||!ownT sc (.Name "_" p3))=false)
  (hi:evP (run fnsP (n+33)) cx i ⟨V,.lst (hnd cs pos rest seed)::more⟩=some (.rng m,⟨V,.lst (hnd cs pos rest seed)::more⟩))
  (hb:∀d a h,bindT (rlN cx.names sc.names) (.Name "_" p3) d ⟨(".0",none)::("_",a)::V,h⟩=some ⟨(".0",none)::("_",some (.pv d))::V,h⟩)
  (hk:([e1,e2].any isS||decide (30 < [e1,e2].length))=false) (hf:∀a h,evName fnsP ⟨rlN cx.names sc.names,cx.lp⟩ "_law_item" ⟨(".0",none)::("_",a)::V,h⟩=some (.pv (.glb "_law_item"),⟨(".0",none)::("_",a)::V,h⟩))
  (ha:∀a h,evArgs (run fnsP (n+32)) false ⟨rlN cx.names sc.names,cx.lp⟩ [e1,e2] ⟨(".0",none)::("_",a)::V,h⟩=some ([.cell 0,.pv (.str k.s)],⟨(".0",none)::("_",a)::V,h⟩)) :
  ∃its pos' rest' seed',its.length=m∧(∀x∈its,OkIt k x)∧HV cs pos' rest' seed' ∧
   evComp (run fnsP (n+33)) cx (.Call (.Name "_law_item" p1) [e1,e2] [] p2) [⟨.Name "_" p3,i,[],0⟩] sc ⟨V,.lst (hnd cs pos rest seed)::more⟩=some (.pv (.lst its),⟨V,.lst (hnd cs pos' rest' seed')::more⟩):=by
 obtain ⟨xs,pos',rest',seed',hn,hok,H',e⟩:=comp_draw (R:=run fnsP (n+33)) (cx:=cx) (V:=V) (enc:=fun x=>x) (ok:=OkIt k) (cs:=cs) (more:=more) (pre:=fun a=>[(".0",none),("_",a.map AV.pv)]) (elt:=.Call (.Name "_law_item" p1) [e1,e2] [] p2) (t:=.Name "_" p3) (ds:=(List.range m).map fun (i:Nat)=>PV.int (i:Int))
  (c1 (.lst (hnd cs pos rest seed)::more)) c2 hi rfl (by rw [List.length_map,List.length_range];exact Nat.le_trans hm (by decide)) H (by refine rwE hown ?_;rfl) (fun a=>by refine rwE hown ?_;rfl) (fun d a h=>hb d _ h) fun d _ pos rest seed H=>xE43 (item_okB (n+2) k more H) fun x pos2 rest2 seed2 hx H2 hc=>⟨x,pos2,rest2,seed2,hx,H2,by
   have hr:(("_law_item" : Str)==("_law_named" : Str))=false:=by kernel_rfl
   exact evP_of rfl (ev_fn (n:=n+31) (c:=.pv x) (st1:=⟨(".0",none)::("_",some (.pv d))::V,.lst (hnd cs pos rest seed)::more⟩) hk (hf _ _) hlp (by kernel_rfl) (by refine rwE hr ?_;exact ha _ _) hc)⟩
 rw [List.length_map,List.length_range] at hn
 rw [List.map_id'] at e
 exact ⟨xs,pos',rest',seed',hn,hok,H',e⟩
end Bc
namespace Bc
noncomputable def ifBody(s:Stmt):List Stmt:=(sx s).2.2.1
noncomputable def vecPV(k:Str)(its:List PV)(at_:PV):PV:=.inst "Vector" [("kind",.str k),("items",.lst its),("attrs",at_),("shared",.bool false),("loose",.bool false)]
noncomputable def nulPV:PV:=.inst "Null" [("kind",.str "NULL"),("attrs",.none)]
noncomputable def abcN(m:Nat):List PV:=(["a","b","c"]:List Str).take m |>.map PV.str
noncomputable def pqrN(m:Nat):List PV:=(["p","q","r"]:List Str).take m |>.map PV.str
noncomputable def small3(m:Nat):Prop:=m=0∨m=1∨m=2∨m=3
theorem lt4_all:∀i,i < 4→(i=0∨i=1∨i=2∨i=3):=by decide
theorem small3_c{c:Nat}(h:c=0∨c=1∨c=2):small3 c:=by
 rcases h with h | h | h
 ·exact .inl h
 ·exact .inr (.inl h)
 ·exact .inr (.inr (.inl h))
theorem small3_le{m:Nat}(h:small3 m):m≤3:=by rcases h with rfl | rfl | rfl | rfl<;>decide
theorem small3_len{m:Nat}{l:List PV}(h:small3 m)(e:l.length=m):l.length≤3:=e▸small3_le h
noncomputable def cellVec(k:Str)(its:List PV):MO:=.inst "Vector" (vecFields (.pv (.str k)) (.pv (.lst its)) (.pv .none))
theorem vec_stmt{n m:Nat}{k:Kd}{cs:List Int}{pos rest seed fo:Int}{q1 q2 q3 q4 q5 q6 p1 p2 p3:Pos}{e1 e2 i:Expr}{sc:Scope}(hm:m≤900)(H:HV cs pos rest seed)(hown:oNm sc=([".0","_"]:List Str))
  (c1:(!(ptC.lp&&scO ptC.names sc&&compOk sc (ptV (iA fo) (sA k) (iA m) none none none)))=false) (c2:(isSetE i||!ownT sc (.Name "_" p3))=false)
  (hi:evP (run fnsP (n+46)) ptC i ⟨ptV (iA fo) (sA k) (iA m) none none none,[.lst (hnd cs pos rest seed)]⟩=some (.rng m,⟨ptV (iA fo) (sA k) (iA m) none none none,[.lst (hnd cs pos rest seed)]⟩))
  (hb:∀d a h,bindT (rlN ptC.names sc.names) (.Name "_" p3) d ⟨(".0",none)::("_",a)::ptV (iA fo) (sA k) (iA m) none none none,h⟩=some ⟨(".0",none)::("_",some (.pv d))::ptV (iA fo) (sA k) (iA m) none none none,h⟩)
  (hk:([e1,e2].any isS||decide (30 < [e1,e2].length))=false) (hf:∀a h,evName fnsP ⟨rlN ptC.names sc.names,ptC.lp⟩ "_law_item" ⟨(".0",none)::("_",a)::ptV (iA fo) (sA k) (iA m) none none none,h⟩=some (.pv (.glb "_law_item"),⟨(".0",none)::("_",a)::ptV (iA fo) (sA k) (iA m) none none none,h⟩))
  (ha:∀a h,evArgs (run fnsP (n+45)) false ⟨rlN ptC.names sc.names,ptC.lp⟩ [e1,e2] ⟨(".0",none)::("_",a)::ptV (iA fo) (sA k) (iA m) none none none,h⟩=some ([.cell 0,.pv (.str k.s)],⟨(".0",none)::("_",a)::ptV (iA fo) (sA k) (iA m) none none none,h⟩))
  (g1:sOk ptC.names "v" (ptV (iA fo) (sA k) (iA m) none none none)=true) (g2:∀h,evName fnsP ptC "Vector" ⟨ptV (iA fo) (sA k) (iA m) none none none,h⟩=some (.pv (.glb "Vector"),⟨ptV (iA fo) (sA k) (iA m) none none none,h⟩))
  (g3:([.Name "kind" q3,.ListComp (.Call (.Name "_law_item" p1) [e1,e2] [] p2) [⟨.Name "_" p3,i,[],0⟩] sc q4].any isS||decide (30 < 2))=false) (g4:∀h,evArg (run fnsP (n+47)) false ptC (.Name "kind" q3) ⟨ptV (iA fo) (sA k) (iA m) none none none,h⟩=some (.pv (.str k.s),⟨ptV (iA fo) (sA k) (iA m) none none none,h⟩))
  (g5:∀d,setV "v" d (ptV (iA fo) (sA k) (iA m) none none none)=ptV (iA fo) (sA k) (iA m) (some d) none none) :
  ∃its pos' rest' seed',its.length=m∧(∀x∈its,OkIt k x)∧HV cs pos' rest' seed' ∧
   (run fnsP (n+48)).ex ptC (.Assign [.Name "v" q1] (.Call (.Name "Vector" q2) [.Name "kind" q3,.ListComp (.Call (.Name "_law_item" p1) [e1,e2] [] p2) [⟨.Name "_" p3,i,[],0⟩] sc q4] [] q5) q6) ⟨ptV (iA fo) (sA k) (iA m) none none none,[.lst (hnd cs pos rest seed)]⟩
    = some (.next,⟨ptV (iA fo) (sA k) (iA m) (some (.cell 1)) none none,[.lst (hnd cs pos' rest' seed'),cellVec k.s its]⟩):=by
 refine xE44 (items_comp (n:=n+13) (cx:=ptC) (sc:=sc) (V:=ptV (iA fo) (sA k) (iA m) none none none) (more:=[]) (k:=k) (i:=i) (e1:=e1) (e2:=e2) (p1:=p1) (p2:=p2) (p3:=p3) hm H rfl hown (fun z_=>c1) c2 hi hb hk hf ha) fun its pos' rest' seed' h1 h2 h3 h4=>?_
 refine ⟨its,pos',rest',seed',h1,h2,h3,?_⟩
 have hc:=ev_lc (p:=q4) h4
 refine ex_asg (rs:=.cell 1) (st1:=⟨ptV (iA fo) (sA k) (iA m) none none none,[.lst (hnd cs pos' rest' seed'),cellVec k.s its]⟩) g1 rfl (evR_call (fun z_ z_ z_ z=>nomatch z) (evCall_vec (n:=n+46) (st1:=⟨ptV (iA fo) (sA k) (iA m) none none none,[.lst (hnd cs pos' rest' seed')]⟩) (d1:=.str k.s) (d2:=.lst its) g3 (g2 _) rfl ?_ rfl)) ?_
 ·exact eAc (g4 _) (eAc (evArg_P rfl (evP_of rfl hc)) rfl)
 ·rw [g5]
theorem part_4v{n m:Nat}{k:Kd}{cs:List Int}{pos rest seed fo:Int}(hm:small3 m)(H:HV cs pos rest seed) :
  ∃its pos' rest' seed',its.length=m∧(∀x∈its,OkIt k x)∧HV cs pos' rest' seed' ∧
   (run fnsP (n+48)).ex ptC ((ifBody (sAt dLP 4)).getD 0 default) ⟨ptV (iA fo) (sA k) (iA m) none none none,[.lst (hnd cs pos rest seed)]⟩=some (.next,⟨ptV (iA fo) (sA k) (iA m) (some (.cell 1)) none none,[.lst (hnd cs pos' rest' seed'),cellVec k.s its]⟩):=by
 conv=>rhs;intro its;rhs;intro pos';rhs;intro rest';rhs;intro seed';rhs;rhs;rhs;lhs;arg 3;whnf
 refine vec_stmt (by rcases hm with rfl | rfl | rfl | rfl<;>decide) H ?_ ?_ ?_ ?_ ?_ ?_ ?_ ?_ ?_ ?_ ?_ ?_ ?_
 case refine_4=>apply sQ hm;kernel_rfl
 all_goals (intros;kernel_rfl)
noncomputable def atV(m:Nat):Bool→PV
 |true=>.dct [("names",vecPV "character" (abcN m) .none)]
 |false=>.none
noncomputable def mkV(m:Nat):Bool→PV
 |true=>.lst (abcN m)
 |false=>.none
theorem named_ok{n m:Nat}{k:Kd}{its:List PV}{h:MO}{b:Bool}(hm:small3 m):(run fnsP (n+30)).call "_law_named" [.cell 1,.pv (mkV m b)] [h,cellVec k.s its]=some (.ok (.pv (vecPV k.s its (atV m b))),[h,.dead]):=by
 apply bQ b;apply sQ hm;kernel_rfl
noncomputable def ptW(fo:Int)(k:Kd)(m:Nat):Vars:=ptV (iA fo) (sA k) (iA m) (some (.cell 1)) none none
theorem ret_stmt{n m:Nat}{k:Kd}{cs:List Int}{pos rest seed pos' rest' seed' fo v:Int}{its:List PV}{p1 p2 p3 p4 p5 p6 p7 p9 q:Pos}{args:List Expr}{c ce ne le:Expr}{kz:Nat}(hm:small3 m)
  (hp:(run fnsP (n+42)).call "_law_pick" [.cell 0,.pv (.int 3)] [.lst (hnd cs pos rest seed),cellVec k.s its]=some (.ok (.pv (.int v)),[.lst (hnd cs pos' rest' seed'),cellVec k.s its]))
  (h0:behindInMarks .Eq c=false) (h1:∀h,evP (run fnsP (n+43)) ptC c ⟨ptW fo k m,h⟩=some (.int 1,⟨ptW fo k m,h⟩)) (hk:(args.any isS||decide (30 < args.length))=false) (hf:∀h,evName fnsP ptC "_law_pick" ⟨ptW fo k m,h⟩=some (.pv (.glb "_law_pick"),⟨ptW fo k m,h⟩))
  (ha:∀h,evArgs (run fnsP (n+42)) false ptC args ⟨ptW fo k m,h⟩=some ([.cell 0,.pv (.int 3)],⟨ptW fo k m,h⟩))
  (hc:∀h,(run fnsP (n+44)).ev ptC ce ⟨ptW fo k m,h⟩=some (.pv (.lst (abcN m)),⟨ptW fo k m,h⟩)) (hn:∀h,(run fnsP (n+44)).ev ptC ne ⟨ptW fo k m,h⟩=some (.pv .none,⟨ptW fo k m,h⟩))
  (hv:∀h,evArg (run fnsP (n+45)) true ptC (.Name "v" p2) ⟨ptW fo k m,h⟩=some (.cell 1,⟨ptW fo k m,h⟩)) (hnm:∀h,evName fnsP ptC "_law_named" ⟨ptW fo k m,h⟩=some (.pv (.glb "_law_named"),⟨ptW fo k m,h⟩))
  (hl:∀h,evP (run fnsP (n+46)) ptC le ⟨ptW fo k m,h⟩=some (.none,⟨ptW fo k m,h⟩)) (hs1:isS ce=false) (hs2:isS le=false) :
  (run fnsP (n+48)).ex ptC (.Return (some (.Tuple [.Call (.Name "_law_named" p1) [.Name "v" p2,.IfExp (.Compare (.Call (.Name "_law_pick" p3) args [] p4) [.Eq] [c] p5) ce ne p6] [] p7,le] kz p9)) q) ⟨ptW fo k m,[.lst (hnd cs pos rest seed),cellVec k.s its]⟩
   = some (.ret (.tup [vecPV k.s its (atV m (decide (v=1))),.none]),⟨ptW fo k m,[.lst (hnd cs pos' rest' seed'),.dead]⟩):=by
 have e1:(("_law_named" : Str)==("_law_named" : Str))=true:=by kernel_rfl
 have t1:=evT_cmp (n:=n+43) (p:=p5) (op:=.Eq) (q:=decide (v=1)) h0 (evP_of rfl (ev_pick (n:=n+21) (p:=p4) (p2:=p3) hp hk (hf _) rfl (ha _))) (h1 _) (cmp_eq_int _ _)
 have t2:(run fnsP (n+45)).ev ptC (.IfExp (.Compare (.Call (.Name "_law_pick" p3) args [] p4) [.Eq] [c] p5) ce ne p6) ⟨ptW fo k m,[.lst (hnd cs pos rest seed),cellVec k.s its]⟩=some (.pv (mkV m (decide (v=1))),⟨ptW fo k m,[.lst (hnd cs pos' rest' seed'),cellVec k.s its]⟩):=by
  refine ev_ife (n:=n+44) t1 ?_
  cases decide (v=1)
  ·exact hn _
  ·exact hc _
 have t3:evArgs (run fnsP (n+45)) (("_law_named" : Str)==("_law_named" : Str)) ptC [.Name "v" p2,.IfExp (.Compare (.Call (.Name "_law_pick" p3) args [] p4) [.Eq] [c] p5) ce ne p6] ⟨ptW fo k m,[.lst (hnd cs pos rest seed),cellVec k.s its]⟩=some ([.cell 1,.pv (mkV m (decide (v=1)))],⟨ptW fo k m,[.lst (hnd cs pos' rest' seed'),cellVec k.s its]⟩):=by
  refine rwE e1 ?_
  exact eAc (hv _) (eAc (evArg_P rfl (evP_of rfl t2)) rfl)
 have t4:=ev_fn (n:=n+44) (p:=p7) (p2:=p1) (cx:=ptC) (c:=.pv (vecPV k.s its (atV m (decide (v=1))))) rfl (hnm _) rfl (by kernel_rfl) t3 (named_ok (n:=n+15) (h:=.lst (hnd cs pos' rest' seed')) hm)
 refine ex_ret (n:=n+47) (c:=.pv (.tup [vecPV k.s its (atV m (decide (v=1))),.none])) (st1:=⟨ptW fo k m,[.lst (hnd cs pos' rest' seed'),.dead]⟩) (evR_of rfl (ev_tup (n:=n+46) ?_ (evPs_cons (evP_of rfl t4) (evPs_cons (hl _) rfl)))) rfl rfl
 show ((false||(isS le||false))||decide (1000 < 2))=false
 refine rwE hs2 ?_;rfl
theorem part_4r{n m:Nat}{k:Kd}{cs:List Int}{pos rest seed pos' rest' seed' fo v:Int}{its:List PV}(hm:small3 m)
  (hp:(run fnsP (n+42)).call "_law_pick" [.cell 0,.pv (.int 3)] [.lst (hnd cs pos rest seed),cellVec k.s its]=some (.ok (.pv (.int v)),[.lst (hnd cs pos' rest' seed'),cellVec k.s its])) :
  (run fnsP (n+48)).ex ptC ((ifBody (sAt dLP 4)).getD 1 default) ⟨ptW fo k m,[.lst (hnd cs pos rest seed),cellVec k.s its]⟩
   = some (.ret (.tup [vecPV k.s its (atV m (decide (v=1))),.none]),⟨ptW fo k m,[.lst (hnd cs pos' rest' seed'),.dead]⟩):=by
 conv=>lhs;arg 3;whnf
 refine ret_stmt hm hp ?_ ?_ ?_ ?_ ?_ ?_ ?_ ?_ ?_ ?_ ?_ ?_
 case refine_6=>rcases hm with rfl | rfl | rfl | rfl<;>intro h<;>kernel_rfl
 all_goals (intros;kernel_rfl)
noncomputable def mqV(m:Nat):Bool→PV
 |true=>.lst (pqrN m)
 |false=>.none
end Bc
namespace Bc
noncomputable def ptM(fo:Int)(k:Kd)(m c:Nat)(ma:Option AV):Vars:=ptV (iA fo) (sA k) (iA m) none (iA c) ma
theorem mark_elt{n e:Nat}{cx:Cx}{W:Vars}{cs:List Int}{pos rest seed:Int}{p1 p2 p3 p4 p5:Pos}{args:List Expr}{c1 e2 ce ne:Expr}(H:HV cs pos rest seed)(hlp:cx.lp=true)
  (h0:behindInMarks .Eq c1=false) (h1:∀h,evP (run fnsP (n+45)) cx c1 ⟨W,h⟩=some (.int 1,⟨W,h⟩)) (hk:(args.any isS||decide (30 < args.length))=false) (hf:∀h,evName fnsP cx "_law_pick" ⟨W,h⟩=some (.pv (.glb "_law_pick"),⟨W,h⟩))
  (ha:∀h,evArgs (run fnsP (n+44)) false cx args ⟨W,h⟩=some ([.cell 0,.pv (.int 3)],⟨W,h⟩)) (h2:∀h,evT (run fnsP (n+46)) cx e2 ⟨W,h⟩=some (decide ((0:Int) < e),⟨W,h⟩))
  (hc:∀h,(run fnsP (n+47)).ev cx ce ⟨W,h⟩=some (.pv (.lst (pqrN e)),⟨W,h⟩)) (hn:∀h,(run fnsP (n+47)).ev cx ne ⟨W,h⟩=some (.pv .none,⟨W,h⟩)) :
  ∃b pos' rest' seed',(b=true→0 < e)∧HV cs pos' rest' seed' ∧
   evP (run fnsP (n+48)) cx (.IfExp (.BoolOp .And [.Compare (.Call (.Name "_law_pick" p1) args [] p2) [.Eq] [c1] p3,e2] p4) ce ne p5) ⟨W,[.lst (hnd cs pos rest seed)]⟩=some (mqV e b,⟨W,[.lst (hnd cs pos' rest' seed')]⟩):=by
 refine xE44 (pick_ok (lim:=3) (n+24) [] (.inl rfl) H) fun v pos' rest' seed' z_ z_ H2 hp=>?_
 refine ⟨decide (v=1)&&decide ((0:Int) < e),pos',rest',seed',?_,H2,?_⟩
 ·intro hb
  rw [Bool.and_eq_true] at hb
  have:=of_decide_eq_true hb.2
  exact Int.natCast_pos.mp this
 have t1:=evT_cmp (n:=n+45) (p:=p3) (op:=.Eq) (q:=decide (v=1)) h0 (evP_of rfl (ev_pick (n:=n+23) (p:=p2) (p2:=p1) hp hk (hf _) hlp (ha _))) (h1 _) (cmp_eq_int _ _)
 refine evP_of rfl (ev_ife (n:=n+47) (evT_of (ev_and2 (n:=n+46) t1 (h2 _))) ?_)
 cases (decide (v=1)&&decide ((0:Int) < e))
 ·exact hn _
 ·exact hc _
theorem comp_two{R:Rc}{cx:Cx}{st st1 s1 s1' s2 s2':St}{elt t i:Expr}{scope:Scope}{x d1 d2 y1 y2:PV}(c1:(!(cx.lp&&scO cx.names scope&&compOk scope st.vars))=false)(c2:(isSetE i||!ownT scope t)=false)
  (hi:evP R cx i st=some (x,st1)) (hx:items x=some [d1,d2]) (b1:bindT (rlN cx.names scope.names) t d1 ⟨(oNm scope).map (fun n=>(n,Option.none))++st1.vars,st1.cells⟩=some s1)
  (e1:evP R ⟨rlN cx.names scope.names,cx.lp⟩ elt s1=some (y1,s1')) (b2:bindT (rlN cx.names scope.names) t d2 s1'=some s2) (e2:evP R ⟨rlN cx.names scope.names,cx.lp⟩ elt s2=some (y2,s2')) :
  evComp R cx elt [⟨t,i,[],0⟩] scope st=some (.pv (.lst [y1,y2]),⟨s2'.vars.drop (oNm scope).length,s2'.cells⟩):=by
 have h:comp1 R ⟨rlN cx.names scope.names,cx.lp⟩ elt t [] [d1,d2] [] ⟨(oNm scope).map (fun n=>(n,Option.none))++st1.vars,st1.cells⟩=some ([y1,y2],s2'):=by
  refine (ob_eq b1).trans ((ob_eq rfl).trans ((ob_eq e1).trans ?_))
  exact (ob_eq b2).trans ((ob_eq rfl).trans (ob_eq e2))
 unfold evComp
 refine rwE c1 ?_
 show (bif isSetE i||!ownT scope t then none else _)=_
 refine rwE c2 ?_
 exact (ob_eq hi).trans ((ob_eq hx).trans (ob_eq h))
theorem marks_stmt{V:Vars}{n m c:Nat}{k:Kd}{cs:List Int}{pos rest seed fo:Int}{q1 q2 q3 p3:Pos}{i elt:Expr}{sc:Scope}(H:HV cs pos rest seed)(hown:oNm sc=([".0","extent"]:List Str))
  (c1:(!(ptC.lp&&scO ptC.names sc&&compOk sc (V)))=false) (c2:(isSetE i||!ownT sc (.Name "extent" p3))=false)
  (hi:evP (run fnsP (n+48)) ptC i ⟨V,[.lst (hnd cs pos rest seed)]⟩=some (.lst [.int m,.int c],⟨V,[.lst (hnd cs pos rest seed)]⟩))
  (hb:∀d a h,bindT (rlN ptC.names sc.names) (.Name "extent" p3) d ⟨(".0",none)::("extent",a)::V,h⟩=some ⟨(".0",none)::("extent",some (.pv d))::V,h⟩)
  (he:∀(e:Nat) (pos rest seed:Int),(e=m∨e=c)→HV cs pos rest seed→∃b pos' rest' seed',(b=true→0 < e)∧HV cs pos' rest' seed' ∧
   evP (run fnsP (n+48)) ⟨rlN ptC.names sc.names,true⟩ elt ⟨(".0",none)::("extent",iA e)::V,[.lst (hnd cs pos rest seed)]⟩=some (mqV e b,⟨(".0",none)::("extent",iA e)::V,[.lst (hnd cs pos' rest' seed')]⟩))
  (g1:sOk ptC.names "marks" (V)=true) (g5:∀d,setV "marks" d (V)=ptM fo k m c (some d)) :
  ∃b1 b2 pos' rest' seed',(b1=true→0 < m)∧(b2=true→0 < c)∧HV cs pos' rest' seed' ∧
   (run fnsP (n+49)).ex ptC (.Assign [.Name "marks" q1] (.ListComp elt [⟨.Name "extent" p3,i,[],0⟩] sc q2) q3) ⟨V,[.lst (hnd cs pos rest seed)]⟩
    = some (.next,⟨ptM fo k m c (some (.pv (.lst [mqV m b1,mqV c b2]))),[.lst (hnd cs pos' rest' seed')]⟩):=by
 refine xE43 (he m pos rest seed (.inl rfl) H) fun b1 p1 r1 s1 hb1 H1 e1=>?_
 refine xE43 (he c p1 r1 s1 (.inr rfl) H1) fun b2 p2 r2 s2 hb2 H2 e2=>?_
 have t:=comp_two (cx:=ptC) (d1:=.int m) (d2:=.int c) (st1:=⟨V,[.lst (hnd cs pos rest seed)]⟩) c1 c2 hi rfl (by refine rwE hown ?_;exact hb _ none _) e1 (hb _ _ _) e2
 refine ⟨b1,b2,p2,r2,s2,hb1,hb2,H2,ex_comp (n:=n+48) g1 t ?_⟩
 refine rwE hown ?_
 show _=St.mk (setV "marks" _ V) _
 rw [g5]
theorem part_6{n m c:Nat}{k:Kd}{cs:List Int}{pos rest seed fo:Int}(hm:small3 m)(hc:small3 c)(H:HV cs pos rest seed) :
  ∃b1 b2 pos' rest' seed',(b1=true→0 < m)∧(b2=true→0 < c)∧HV cs pos' rest' seed' ∧
   (run fnsP (n+49)).ex ptC (sAt dLP 6) ⟨ptM fo k m c none,[.lst (hnd cs pos rest seed)]⟩=some (.next,⟨ptM fo k m c (some (.pv (.lst [mqV m b1,mqV c b2]))),[.lst (hnd cs pos' rest' seed')]⟩):=by
 conv=>rhs;intro b1;rhs;intro b2;rhs;intro pos';rhs;intro rest';rhs;intro seed';rhs;rhs;rhs;lhs;arg 3;whnf
 refine marks_stmt H ?_ ?_ ?_ ?_ ?_ ?_ ?_ ?_
 case refine_6 =>
  intro e pos rest seed hh H
  have he:small3 e:=by rcases hh with rfl | rfl<;>assumption
  refine mark_elt H rfl ?_ ?_ ?_ ?_ ?_ ?_ ?_ ?_
  case refine_7=>rcases he with rfl | rfl | rfl | rfl<;>intro h<;>kernel_rfl
  all_goals (intros;kernel_rfl)
 all_goals (intros;kernel_rfl)
noncomputable def nmPV(m:Nat):Bool→PV
 |true=>vecPV "character" (pqrN m) .none
 |false=>nulPV
noncomputable def atM(r c:Nat)(b1 b2:Bool):PV:=match b1||b2 with
 |true=>.dct [("dim",vecPV "integer" [.int r,.int c] .none),("dimnames",vecPV "list" [nmPV r b1,nmPV c b2] .none)]
 |false=>.dct [("dim",vecPV "integer" [.int r,.int c] .none)]
noncomputable def arV(k:Kd)(its:List PV)(r c:Nat)(b1 b2:Bool)(v:Option AV):Vars:=[("kind",some (.pv (.str k.s))),("items",some (.pv (.lst its))),("spans",some (.pv (.lst [.int r,.int c]))),("marks",some (.pv (.lst [mqV r b1,mqV c b2]))),("v",v)]
theorem evArg_call{R:Rc}{raw:Bool}{cx:Cx}{f:Expr}{args:List Expr}{ks:List Keyword}{p:Pos}{st st1:St}{c:AV}(h:R.ev cx (.Call f args ks p) st=some (c,st1)):evArg R raw cx (.Call f args ks p) st=some (c,st1):=h
theorem array_first{n r c:Nat}{k:Kd}{its:List PV}{b1 b2:Bool}(hl:its.length≤1000) :
  (run fnsP (n+39)).ex ⟨d_law_array.scope.names,true⟩ (sAt d_law_array 0) ⟨arV k its r c b1 b2 none,[]⟩=some (.next,⟨arV k its r c b1 b2 (some (.cell 0)),[cellVec k.s its]⟩):=by
 conv=>lhs;arg 3;whnf
 refine ex_asg (rs:=.cell 0) (st1:=⟨arV k its r c b1 b2 none,[cellVec k.s its]⟩) ?_ ?_ (evR_call ?_ (evCall_vec (st1:=⟨arV k its r c b1 b2 none,[]⟩) (d1:=.str k.s) (d2:=.lst its) ?_ ?_ ?_ (eAc (st1:=⟨arV k its r c b1 b2 none,[]⟩) ?_ (eAc (st1:=⟨arV k its r c b1 b2 none,[]⟩) ?_ evArgs_nil)) ?_)) ?_
 case refine_8 =>
  refine evArg_call (ev_bi (ds:=[.lst its]) ?_ ?_ ?_ ?_ ?_ ?_ ?_)
  case refine_7 =>
   exact bi_list hl
  all_goals kernel_rfl
 all_goals first | (intro _ _ _ z;cases z;done) | kernel_rfl
noncomputable def mtPV(k:Kd)(its:List PV)(r c:Nat)(b1 b2:Bool):PV:=vecPV k.s its (atM r c b1 b2)
theorem array_rest{n r c:Nat}{k:Kd}{its:List PV}{b1 b2:Bool}(hr:small3 r)(hc:small3 c)(h1:b1=true→0 < r)(h2:b2=true→0 < c) :
  (exs (run fnsP (n+39)) ⟨d_law_array.scope.names,true⟩ (d_law_array.body.drop 1) ⟨arV k its r c b1 b2 (some (.cell 0)),[cellVec k.s its]⟩).map (·.1)=some (.ret (mtPV k its r c b1 b2)):=by
 cases b1<;>cases b2
 ·kernel_rfl
 ·rcases hc with rfl | rfl | rfl | rfl
  ·cases h2 rfl
  all_goals kernel_rfl
 ·rcases hr with rfl | rfl | rfl | rfl
  ·cases h1 rfl
  all_goals kernel_rfl
 ·rcases hr with rfl | rfl | rfl | rfl
  ·cases h1 rfl
  all_goals (rcases hc with rfl | rfl | rfl | rfl<;>first | (cases h2 rfl;done) | kernel_rfl)
theorem array_bd:d_law_array.body=sAt d_law_array 0::d_law_array.body.drop 1:=by kernel_rfl
theorem array_ok{n r c:Nat}{k:Kd}{its:List PV}{b1 b2:Bool}{cells:List MO}(hl:its.length≤1000)(hr:small3 r)(hc:small3 c)(h1:b1=true→0 < r)(h2:b2=true→0 < c) :
  (run fnsP (n+40)).call "_law_array" [.pv (.str k.s),.pv (.lst its),.pv (.lst [.int r,.int c]),.pv (.lst [mqV r b1,mqV c b2])] cells=some (.ok (.pv (mtPV k its r c b1 b2)),cells):=by
 refine call_pure (vars0:=arV k its r c b1 b2 none) find_law_array plain_law_array rfl rfl (by kernel_rfl) (by kernel_rfl) ?_
 refine rwE array_bd ?_
 exact X.step (array_first hl) (X.run (array_rest hr hc h1 h2) fun z_=>rfl)
theorem ret7_stmt{V:Vars}{n m c:Nat}{k:Kd}{cs:List Int}{pos rest seed:Int}{b1 b2:Bool}{q2 q3 q5 q6 q7 p1 p2 p3:Pos}{e1 e2 i ka la ma ls:Expr}{kz:Nat}{sc:Scope}(hm:small3 m)(hc:small3 c)(hb1:b1=true→0 < m)(hb2:b2=true→0 < c)(H:HV cs pos rest seed)(hown:oNm sc=([".0","_"]:List Str))
  (c1:(!(ptC.lp&&scO ptC.names sc&&compOk sc (V)))=false) (c2:(isSetE i||!ownT sc (.Name "_" p3))=false)
  (hi:evP (run fnsP (n+45)) ptC i ⟨V,[.lst (hnd cs pos rest seed)]⟩=some (.rng (m * c),⟨V,[.lst (hnd cs pos rest seed)]⟩))
  (hb:∀d a h,bindT (rlN ptC.names sc.names) (.Name "_" p3) d ⟨(".0",none)::("_",a)::V,h⟩=some ⟨(".0",none)::("_",some (.pv d))::V,h⟩)
  (hk:([e1,e2].any isS||decide (30 < [e1,e2].length))=false) (hf:∀a h,evName fnsP ⟨rlN ptC.names sc.names,ptC.lp⟩ "_law_item" ⟨(".0",none)::("_",a)::V,h⟩=some (.pv (.glb "_law_item"),⟨(".0",none)::("_",a)::V,h⟩))
  (ha:∀a h,evArgs (run fnsP (n+44)) false ⟨rlN ptC.names sc.names,ptC.lp⟩ [e1,e2] ⟨(".0",none)::("_",a)::V,h⟩=some ([.cell 0,.pv (.str k.s)],⟨(".0",none)::("_",a)::V,h⟩))
  (g2:∀h,evName fnsP ptC "_law_array" ⟨V,h⟩=some (.pv (.glb "_law_array"),⟨V,h⟩))
  (g3:(isS ka||(isS la||(isS ma||isS ls)))=false)
  (g4:∀h,evArg (run fnsP (n+46)) false ptC ka ⟨V,h⟩=some (.pv (.str k.s),⟨V,h⟩))
  (g5:∀h,evArg (run fnsP (n+46)) false ptC la ⟨V,h⟩=some (.pv (.lst [.int m,.int c]),⟨V,h⟩))
  (g6:∀h,evArg (run fnsP (n+46)) false ptC ma ⟨V,h⟩=some (.pv (.lst [mqV m b1,mqV c b2]),⟨V,h⟩))
  (g7:∀h,evP (run fnsP (n+47)) ptC ls ⟨V,h⟩=some (.lst [.int m,.int c],⟨V,h⟩)) :
  ∃its pos' rest' seed',its.length=m * c∧(∀x∈its,OkIt k x)∧HV cs pos' rest' seed' ∧
   (run fnsP (n+49)).ex ptC (.Return (some (.Tuple [.Call (.Name "_law_array" q2) [ka,.ListComp (.Call (.Name "_law_item" p1) [e1,e2] [] p2) [⟨.Name "_" p3,i,[],0⟩] sc q3,la,ma] [] q5,ls] kz q6)) q7) ⟨V,[.lst (hnd cs pos rest seed)]⟩
    = some (.ret (.tup [mtPV k its m c b1 b2,.lst [.int m,.int c]]),⟨V,[.lst (hnd cs pos' rest' seed')]⟩):=by
 have hmc:m * c≤900:=by rcases hm with rfl | rfl | rfl | rfl<;>rcases hc with rfl | rfl | rfl | rfl<;>decide
 simp only [Bool.or_eq_false_iff] at g3
 refine xE04 g3 fun s1 s2 s3 s4=>?_
 refine xE44 (items_comp (n:=n+12) (cx:=ptC) (sc:=sc) (V:=V) (more:=[]) (k:=k) (i:=i) (e1:=e1) (e2:=e2) (p1:=p1) (p2:=p2) (p3:=p3) hmc H rfl hown (fun z_=>c1) c2 hi hb hk hf ha) fun its pos' rest' seed' h1 h2 h3 h4=>?_
 refine ⟨its,pos',rest',seed',h1,h2,h3,?_⟩
 have hcc:=ev_lc (p:=q3) h4
 have e1:(("_law_array" : Str)==("_law_named" : Str))=false:=by kernel_rfl
 have t3:=ev_fn (n:=n+45) (p:=q5) (p2:=q2) (cx:=ptC) (x:="_law_array") (args:=[ka,.ListComp (.Call (.Name "_law_item" p1) _ [] p2) [⟨.Name "_" p3,i,[],0⟩] sc q3,la,ma]) (c:=.pv (mtPV k its m c b1 b2)) (as:=[.pv (.str k.s),.pv (.lst its),.pv (.lst [.int m,.int c]),.pv (.lst [mqV m b1,mqV c b2])]) (st1:=⟨V,[.lst (hnd cs pos' rest' seed')]⟩) (cs:=[.lst (hnd cs pos' rest' seed')])
  (by show ((isS ka||(false||(isS la||(isS ma||false))))||decide (30 < 4))=false;refine rwE s1 (rwE s2 (rwE s3 ?_));rfl) (g2 [.lst (hnd cs pos rest seed)]) rfl (by kernel_rfl) (by refine rwE e1 ?_;exact eAc (g4 _) (eAc (evArg_P rfl (evP_of rfl hcc)) (eAc (g5 _) (eAc (g6 _) rfl)))) (array_ok (n:=n+6) (by omega) hm hc hb1 hb2)
 refine ex_ret (n:=n+48) (c:=.pv (.tup [mtPV k its m c b1 b2,.lst [.int m,.int c]])) (st1:=⟨V,[.lst (hnd cs pos' rest' seed')]⟩) (evR_of rfl (ev_tup (n:=n+47) ?_ (evPs_cons (evP_of rfl t3) (evPs_cons (g7 _) rfl)))) rfl rfl
 show ((false||(isS ls||false))||decide (1000 < 2))=false
 refine rwE s4 ?_;rfl
theorem part_7{n m c:Nat}{k:Kd}{cs:List Int}{pos rest seed fo:Int}{b1 b2:Bool}(hm:small3 m)(hc:small3 c)(hb1:b1=true→0 < m)(hb2:b2=true→0 < c)(H:HV cs pos rest seed) :
  ∃its pos' rest' seed',its.length=m * c∧(∀x∈its,OkIt k x)∧HV cs pos' rest' seed' ∧
   (run fnsP (n+49)).ex ptC (sAt dLP 7) ⟨ptM fo k m c (some (.pv (.lst [mqV m b1,mqV c b2]))),[.lst (hnd cs pos rest seed)]⟩=some (.ret (.tup [mtPV k its m c b1 b2,.lst [.int m,.int c]]),⟨ptM fo k m c (some (.pv (.lst [mqV m b1,mqV c b2]))),[.lst (hnd cs pos' rest' seed')]⟩):=by
 conv=>rhs;intro its;rhs;intro pos';rhs;intro rest';rhs;intro seed';rhs;rhs;rhs;lhs;arg 3;whnf
 refine ret7_stmt hm hc hb1 hb2 H ?_ ?_ ?_ ?_ ?_ ?_ ?_ ?_ ?_ ?_ ?_ ?_ ?_ ?_
 case refine_4=>apply sQ hc;apply sQ hm;kernel_rfl
 all_goals (intros;kernel_rfl)
end Bc
namespace Bc
noncomputable def ifT(s:Stmt):Expr:=(sx s).2.1.headD default
noncomputable def ifElse(s:Stmt):List Stmt:=(sx s).2.2.2.1
noncomputable def ifPos(s:Stmt):Pos:=(sx s).2.2.2.2.1
theorem ex_if{n:Nat}{cx:Cx}{s:Stmt}{st st1 st2:St}{f:Fl}(h0:s=.If (ifT s) (ifBody s) (ifElse s) (ifPos s))(ht:evT (run fnsP n) cx (ifT s) st=some (true,st1))(hb:exs (run fnsP n) cx (ifBody s) st1=some (f,st2)):(run fnsP (n+1)).ex cx s st=some (f,st2):=by
 refine rwE h0 ?_
 show ob (evT (run fnsP n) cx (ifT s) st) _=_
 refine rwE (ob_eq ht) ?_
 exact hb
theorem exs2{R:Rc}{cx:Cx}{s t:Stmt}{st st1 st2:St}{d:PV}(h1:R.ex cx s st=some (.next,st1))(h2:R.ex cx t st1=some (.ret d,st2)):exs R cx [s,t] st=some (.ret d,st2):=by
 exact (ob_eq h1).trans (ob_eq h2)
inductive Prt where
 |nul
 |vec (k:Kd) (m:Nat) (its:List PV) (b:Bool)
 |mat (k:Kd) (r c:Nat) (its:List PV) (b1 b2:Bool)
noncomputable def Prt.pv:Prt→PV
 | .nul=>nulPV
 | .vec k m its b=>vecPV k.s its (atV m b)
 | .mat k r c its b1 b2=>mtPV k its r c b1 b2
noncomputable def Prt.sh:Prt→PV
 | .nul=>.none
 | .vec ..=>.none
 | .mat _ r c _ _ _=>.lst [.int r,.int c]
noncomputable def Prt.ok:Prt→Prop
 | .nul=>True
 | .vec k m its _=>small3 m∧its.length=m∧∀x∈its,OkIt k x
 | .mat k r c its b1 b2=>small3 r∧(c=0∨c=1∨c=2)∧its.length=r * c∧(∀x∈its,OkIt k x)∧(b1=true→0 < r)∧(b2=true→0 < c)
noncomputable def partV:Vars:=ptV none none none none none none
theorem part_bd:dLP.body=[sAt dLP 0,sAt dLP 1,sAt dLP 2,sAt dLP 3,sAt dLP 4,sAt dLP 5,sAt dLP 6,sAt dLP 7]:=by kernel_rfl
theorem part_4i:sAt dLP 4=.If (ifT (sAt dLP 4)) (ifBody (sAt dLP 4)) (ifElse (sAt dLP 4)) (ifPos (sAt dLP 4)):=by kernel_rfl
theorem part_4b:ifBody (sAt dLP 4)=[(ifBody (sAt dLP 4)).getD 0 default,(ifBody (sAt dLP 4)).getD 1 default]:=by kernel_rfl
theorem part_1n{n:Nat}{fo:Int}{h:List MO}(hf:fo=0∨fo=1∨fo=2∨fo=3):(run fnsP (n+49)).ex ptC (sAt dLP 1) ⟨ptV (iA fo) none none none none none,h⟩=some (.next,⟨ptV (iA fo) none none none none none,h⟩):=by
 rcases hf with rfl | rfl | rfl | rfl<;>kernel_rfl
theorem part_1r{n:Nat}{h:MO}:(run fnsP (n+49)).ex ptC (sAt dLP 1) ⟨ptV (iA 4) none none none none none,[h]⟩=some (.ret (.tup [nulPV,.none]),⟨ptV (iA 4) none none none none none,[h,.dead]⟩):=by kernel_rfl
theorem part_4n{n m:Nat}{fo:Int}{k:Kd}{h:List MO}(hf:fo=2∨fo=3):(run fnsP (n+49)).ex ptC (sAt dLP 4) ⟨ptV (iA fo) (sA k) (iA m) none none none,h⟩=some (.next,⟨ptV (iA fo) (sA k) (iA m) none none none,h⟩):=by
 rcases hf with rfl | rfl<;>kernel_rfl
theorem part_4t{n m:Nat}{fo:Int}{k:Kd}{h:List MO}(hf:fo=0∨fo=1):evT (run fnsP (n+48)) ptC (ifT (sAt dLP 4)) ⟨ptV (iA fo) (sA k) (iA m) none none none,h⟩=some (true,⟨ptV (iA fo) (sA k) (iA m) none none none,h⟩):=by
 rcases hf with rfl | rfl<;>kernel_rfl
theorem kind_of{v:Int}(h0:0≤v)(h1:v < 4):∃k:Kd,subPV (.lst [.str "integer",.str "double",.str "logical",.str "character"]) (.int v)=some (.str k.s):=by
 have:v=0∨v=1∨v=2∨v=3:=by omega
 rcases this with rfl | rfl | rfl | rfl
 ·exact ⟨.it,by kernel_rfl⟩
 ·exact ⟨.db,by kernel_rfl⟩
 ·exact ⟨.lg,by kernel_rfl⟩
 ·exact ⟨.ch,by kernel_rfl⟩
theorem tall_of{v:Int}(h0:0≤v)(h1:v < 4):∃m:Nat,small3 m∧subPV (.lst [.int 1,.int 2,.int 3,.int 0]) (.int v)=some (.int m):=by
 have:v=0∨v=1∨v=2∨v=3:=by omega
 rcases this with rfl | rfl | rfl | rfl
 ·exact ⟨1,by simp [small3],by kernel_rfl⟩
 ·exact ⟨2,by simp [small3],by kernel_rfl⟩
 ·exact ⟨3,by simp [small3],by kernel_rfl⟩
 ·exact ⟨0,by simp [small3],by kernel_rfl⟩
theorem wide_of{v:Int}(h0:0≤v)(h1:v < 3):∃m:Nat,(m=0∨m=1∨m=2)∧subPV (.lst [.int 1,.int 2,.int 0]) (.int v)=some (.int m):=by
 have:v=0∨v=1∨v=2:=by omega
 rcases this with rfl | rfl | rfl
 ·exact ⟨1,by simp,by kernel_rfl⟩
 ·exact ⟨2,by simp,by kernel_rfl⟩
 ·exact ⟨0,by simp,by kernel_rfl⟩
inductive partPost(cs:List Int)(f:Fl)(st:St):Prop
 |mk (P:Prt) (pos rest seed:Int) (junk:List MO):Prt.ok P→HV cs pos rest seed→flOut (some (f,st))=some (.ok (.pv (.tup [P.pv,P.sh])),.lst (hnd cs pos rest seed)::junk)→partPost cs f st
theorem part_body{cs:List Int}{pos rest seed:Int}(n:Nat)(H:HV cs pos rest seed):X (run fnsP (n+49)) ptC dLP.body ⟨partV,[.lst (hnd cs pos rest seed)]⟩ (partPost cs):=by
 refine rwE part_bd ?_
 refine xE44 (pick_ok (lim:=5) (n+28) [] (.inr (.inr (.inl rfl))) H) fun fo p1 r1 s1 f0 f1 H1 hp1=>?_
 refine X.step (part_0 hp1) ?_
 by_cases h4:fo=4
 ·refine Bc.rwE h4 ?_
  exact X.ret part_1r ⟨.nul,p1,r1,s1,[.dead],trivial,H1,rfl⟩
 refine X.step (part_1n (by omega)) ?_
 refine xE44 (pick_ok (lim:=4) (n+26) [] (.inr (.inl rfl)) H1) fun v2 p2 r2 s2 f2 f3 H2 hp2=>?_
 refine xE11 (kind_of f2 f3) fun k hk=>?_
 refine X.step (part_2 hp2 hk) ?_
 refine xE44 (pick_ok (lim:=4) (n+26) [] (.inr (.inl rfl)) H2) fun v3 p3 r3 s3 f4 f5 H3 hp3=>?_
 refine xE12 (tall_of f4 f5) fun m hm hm'=>?_
 refine X.step (part_3 hp3 hm') ?_
 by_cases h2:fo < 2
 ·refine xE44 (part_4v (n:=n) (k:=k) (fo:=fo) hm H3) fun its p4 r4 s4 hl hi H4 hx=>?_
  refine xE44 (pick_ok (lim:=3) (n+22) [cellVec k.s its] (.inl rfl) H4) fun v5 p5 r5 s5 z_ z_ H5 hp5=>?_
  have hr:=part_4r (n:=n) (fo:=fo) hm hp5
  refine X.ret (d:=.tup [vecPV k.s its (atV m (decide (v5=1))),.none]) (st1:=⟨ptW fo k m,[.lst (hnd cs p5 r5 s5),.dead]⟩) (ex_if part_4i (part_4t (by omega)) ?_) ⟨.vec k m its (decide (v5=1)),p5,r5,s5,[.dead],⟨hm,hl,hi⟩,H5,rfl⟩
  refine rwE part_4b ?_
  exact exs2 hx hr
 ·refine X.step (part_4n (by omega)) ?_
  refine xE44 (pick_ok (lim:=3) (n+26) [] (.inl rfl) H3) fun v5 p5 r5 s5 f6 f7 H5 hp5=>?_
  refine xE12 (wide_of f6 f7) fun c hc hc'=>?_
  refine X.step (part_5 hp5 hc') ?_
  have hc3:small3 c:=small3_c hc
  obtain ⟨b1,b2,p6,r6,s6,hb1,hb2,H6,hx6⟩:=part_6 (n:=n) (fo:=fo) (k:=k) hm hc3 H5
  refine X.step (st1:=⟨ptM fo k m c (some (.pv (.lst [mqV m b1,mqV c b2]))),[.lst (hnd cs p6 r6 s6)]⟩) hx6 ?_
  refine xE44 (part_7 (n:=n) (fo:=fo) (k:=k) hm hc3 hb1 hb2 H6) fun its p7 r7 s7 hl hi H7 hx7=>?_
  exact X.ret hx7 ⟨.mat k m c its b1 b2,p7,r7,s7,[],⟨hm,hc,hl,hi,hb1,hb2⟩,H7,rfl⟩
theorem part_ok{cs:List Int}{pos rest seed:Int}(n:Nat)(more:List MO)(H:HV cs pos rest seed) :
  ∃P pos' rest' seed',Prt.ok P∧HV cs pos' rest' seed'∧(run fnsP (n+50)).call "_law_part" [.cell 0] (.lst (hnd cs pos rest seed)::more)=some (.ok (.pv (.tup [P.pv,P.sh])),.lst (hnd cs pos' rest' seed')::more):=by
 obtain ⟨f,st,e,P,pos',rest',seed',junk,h1,h2,h3⟩:=part_body n H
 exact ⟨P,pos',rest',seed',h1,h2,call_X (vars0:=partV) (outs:=.lst (hnd cs pos' rest' seed')::junk) (ins:=[.lst (hnd cs pos rest seed)]) find_law_part plain_law_part rfl rfl rfl (by kernel_rfl) (by kernel_rfl) rfl ⟨f,st,e,h3⟩⟩
end Bc
namespace Bc
noncomputable def cv(k k':Kd)(x:PV):PV:=match x with
 | .none=>.none
 |x=>(match k,k' with
  | .lg,.db=>.tup [x,.int 1]
  | .it,.db=>.tup [x,.int 1]
  | .lg,.ch=>(match x with
    | .int 1=>.str "TRUE"
    |_=>.str "FALSE")
  | .it,.ch=>(match x with
    | .int v=>.str (Str.ofString (toString v))
    |x=>x)
  | .db,.ch=>(match x with
    | .tup (.int v::_)=>.str (Str.ofString (toString v))
    |x=>x)
  |_,_=>x)
noncomputable def Kd.i:Kd→Nat
 | .lg=>0
 | .it=>1
 | .db=>2
 | .ch=>3
theorem cv_self(k:Kd)(x:PV):cv k k x=x:=by cases k<;>cases x<;>rfl
theorem item_as_ok{n:Nat}{k k':Kd}{x:PV}{cells:List MO}(hk:k.i < k'.i)(hx:OkIt k x):(run fnsP (n+150)).call "item_as" [.pv (.str k.s),.pv x,.pv (.str k'.s),.pv (.lst [])] cells=some (.ok (.pv (cv k k' x)),cells):=by
 refine gQ (decide_eq_true hk) ?_;apply okQ hx;apply kQ k;apply kQ k';kernel_rfl
theorem law_as_ok{n:Nat}{k k':Kd}{x:PV}{cells:List MO}(hk:k.i≤k'.i)(hx:OkIt k x):(run fnsP (n+20)).call "_law_as" [.pv x,.pv (.str k.s),.pv (.str k'.s)] cells=some (.ok (.pv (cv k k' x)),cells):=by
 refine gQ (decide_eq_true hk) ?_;apply okQ hx;apply kQ k;apply kQ k';kernel_rfl
end Bc
namespace Bc
theorem comp_one{R:Rc}{cx:Cx}{sc:Scope}{V:Vars}{cells:List MO}{x:Str}{i elt:Expr}{p3:Pos}{xv:PV}{ds:List PV}{f:PV→PV}(hown:oNm sc=([".0",x]:List Str))(c1:(!(cx.lp&&scO cx.names sc&&compOk sc V))=false)(c2:(isSetE i||!ownT sc (.Name x p3))=false)
  (hi:evP R cx i ⟨V,cells⟩=some (xv,⟨V,cells⟩)) (hx:items xv=some ds) (hl:ds.length≤1000)
  (hb:∀d a,bindT (rlN cx.names sc.names) (.Name x p3) d ⟨(".0",none)::(x,a)::V,cells⟩=some ⟨(".0",none)::(x,some (.pv d))::V,cells⟩)
  (he:∀d∈ds,evP R ⟨rlN cx.names sc.names,cx.lp⟩ elt ⟨(".0",none)::(x,some (.pv d))::V,cells⟩=some (f d,⟨(".0",none)::(x,some (.pv d))::V,cells⟩)) :
  evComp R cx elt [⟨.Name x p3,i,[],0⟩] sc ⟨V,cells⟩=some (.pv (.lst (ds.map f)),⟨V,cells⟩):=by
 have h:=comp_map (R:=R) (cx:=cx) (pre:=fun a=>[(".0",none),(x,a.map AV.pv)]) (f:=f) (g:=fun z_=>true) (elt:=elt) (t:=.Name x p3) (ifs:=[]) (scope:=sc) (st:=⟨V,cells⟩) c1 c2 hi hx hl (by refine rwE hown ?_;rfl) (fun a=>by refine rwE hown ?_;rfl)
  (fun d z_ a=>hb d _) (fun d z_=>rfl) (fun d hd z_=>he d hd)
 refine rwE h ?_
 have:ds.filter (fun z_=>true)=ds:=List.filter_eq_self.mpr (fun z_ z_=>rfl)
 refine rwE this rfl
noncomputable def dimA(r c:Nat):PV:=.dct [("dim",vecPV "integer" [.int r,.int c] .none)]
noncomputable abbrev akC:Cx:=⟨dAK.scope.names,true⟩
noncomputable def akV(k k':Kd)(l:List PV)(m:Nat)(it:Option AV):Vars:=[("v",some (.pv (vecPV k.s l (dimA m 1)))),("kind",some (.pv (.str k'.s))),("notes",some (.pv (.lst []))),("items",it)]
theorem ak_bd:dAK.body=[sAt dAK 0,sAt dAK 1,sAt dAK 2,sAt dAK 3]:=by kernel_rfl
theorem ak_0{n m:Nat}{k k':Kd}{l:List PV}:(run fnsP (n+169)).ex akC (sAt dAK 0) ⟨akV k k' l m none,[]⟩=some (.next,⟨akV k k' l m none,[]⟩):=by kernel_rfl
theorem ak_1{n m:Nat}{k k':Kd}{l:List PV}:(run fnsP (n+169)).ex akC (sAt dAK 1) ⟨akV k k' l m none,[]⟩=some (.next,⟨akV k k' l m (some (.pv (.lst l))),[]⟩):=by kernel_rfl
theorem ak_2i:sAt dAK 2=.If (ifT (sAt dAK 2)) (ifBody (sAt dAK 2)) (ifElse (sAt dAK 2)) (ifPos (sAt dAK 2)):=by kernel_rfl
theorem ak_2b:ifBody (sAt dAK 2)=[(ifBody (sAt dAK 2)).getD 0 default]:=by kernel_rfl
theorem ak_2t{n m:Nat}{k k':Kd}{l:List PV}(hk:k.i < k'.i):evT (run fnsP (n+168)) akC (ifT (sAt dAK 2)) ⟨akV k k' l m (some (.pv (.lst l))),[]⟩=some (true,⟨akV k k' l m (some (.pv (.lst l))),[]⟩):=by
 refine gQ (decide_eq_true hk) ?_;apply kQ k;apply kQ k';kernel_rfl
theorem ak_stmt{V:Vars}{n m:Nat}{k k':Kd}{l:List PV}{q1 q2 q3 p1 p2 p3:Pos}{args:List Expr}{i:Expr}{sc:Scope}(hk:k.i < k'.i)(hl:l.length≤1000)(ho:∀x∈l,OkIt k x)(hown:oNm sc=([".0","item"]:List Str))
  (c1:(!(akC.lp&&scO akC.names sc&&compOk sc (V)))=false) (c2:(isSetE i||!ownT sc (.Name "item" p3))=false)
  (hi:evP (run fnsP (n+167)) akC i ⟨V,[]⟩=some (.lst l,⟨V,[]⟩))
  (hb:∀d a,bindT (rlN akC.names sc.names) (.Name "item" p3) d ⟨(".0",none)::("item",a)::V,[]⟩=some ⟨(".0",none)::("item",some (.pv d))::V,[]⟩)
  (hka:(args.any isS||decide (30 < args.length))=false) (hf:∀a,evName fnsP ⟨rlN akC.names sc.names,akC.lp⟩ "item_as" ⟨(".0",none)::("item",a)::V,[]⟩=some (.pv (.glb "item_as"),⟨(".0",none)::("item",a)::V,[]⟩))
  (ha:∀d,evArgs (run fnsP (n+166)) false ⟨rlN akC.names sc.names,akC.lp⟩ args ⟨(".0",none)::("item",some (.pv d))::V,[]⟩=some ([.pv (.str k.s),.pv d,.pv (.str k'.s),.pv (.lst [])],⟨(".0",none)::("item",some (.pv d))::V,[]⟩))
  (g1:sOk akC.names "items" (V)=true) (g5:∀d,setV "items" d (V)=akV k k' l m (some d)) :
  (run fnsP (n+168)).ex akC (.Assign [.Name "items" q1] (.ListComp (.Call (.Name "item_as" p1) args [] p2) [⟨.Name "item" p3,i,[],0⟩] sc q2) q3) ⟨V,[]⟩=some (.next,⟨akV k k' l m (some (.pv (.lst (l.map (cv k k'))))),[]⟩):=by
 have e1:(("item_as" : Str)==("_law_named" : Str))=false:=by kernel_rfl
 refine ex_comp (n:=n+167) g1 (comp_one hown c1 c2 hi (items_lst hl) hl hb (f:=cv k k') fun d hd=>?_) ?_
 ·exact evP_of rfl (ev_fn (n:=n+165) (c:=.pv (cv k k' d)) (st1:=⟨(".0",none)::("item",some (.pv d))::V,[]⟩) hka (hf _) rfl (by kernel_rfl) (by refine rwE e1 ?_;exact ha d) (item_as_ok (n:=n+16) hk (ho d hd)))
 ·show _=St.mk (setV "items" _ _) _
  rw [g5]
theorem ak_2{n m:Nat}{k k':Kd}{l:List PV}(hk:k.i < k'.i)(hl:l.length≤1000)(ho:∀x∈l,OkIt k x) :
  (run fnsP (n+168)).ex akC ((ifBody (sAt dAK 2)).getD 0 default) ⟨akV k k' l m (some (.pv (.lst l))),[]⟩=some (.next,⟨akV k k' l m (some (.pv (.lst (l.map (cv k k'))))),[]⟩):=by
 conv=>lhs;arg 3;whnf
 refine ak_stmt hk hl ho ?_ ?_ ?_ ?_ ?_ ?_ ?_ ?_ ?_ ?_
 case refine_4=>unfold akV;kernel_rfl
 all_goals (intros;kernel_rfl)
end Bc
namespace Bc
theorem ak_3{n m:Nat}{k k':Kd}{l:List PV}(hl:l.length≤3):(exs (run fnsP (n+169)) akC [sAt dAK 3] ⟨akV k k' l m (some (.pv (.lst (l.map (cv k k'))))),[]⟩).map (·.1)=some (.ret (vecPV k'.s (l.map (cv k k')) .none)):=by
 apply kQ k;apply lQ hl;kernel_rfl
theorem as_kind_ok{n m:Nat}{k k':Kd}{l:List PV}{cells:List MO}(hk:k.i < k'.i)(hl:l.length≤3)(ho:∀x∈l,OkIt k x) :
  (run fnsP (n+170)).call "as_kind" [.pv (vecPV k.s l (dimA m 1)),.pv (.str k'.s),.pv (.lst [])] cells=some (.ok (.pv (vecPV k'.s (l.map (cv k k')) .none)),cells):=by
 refine call_pure (vars0:=akV k k' l m none) find_as_kind plain_as_kind rfl rfl (by kernel_rfl) (by kernel_rfl) ?_
 refine rwE ak_bd ?_
 refine X.step ak_0 (X.step ak_1 (X.step (ex_if ak_2i (ak_2t hk) (f:=.next) (st2:=⟨akV k k' l m (some (.pv (.lst (l.map (cv k k'))))),[]⟩) ?_) (X.run (ak_3 hl) fun z_=>rfl)))
 refine rwE ak_2b ?_
 exact ob_eq (ak_2 hk (by omega) ho)
noncomputable def isNameE(e:Expr):Bool:=(nameE e).isSome
theorem evBase_P{R:Rc}{cx:Cx}{e:Expr}{st st1:St}{d:PV}(h0:isNameE e=false)(h:evP R cx e st=some (d,st1)):evBase R cx e st=some (.pv d,st1):=by
 unfold evBase
 unfold isNameE at h0
 cases hn:nameE e with
 |none=>exact ob_eq h
 |some x=>rw [hn] at h0;exact cz3 h0
theorem ev_attr'{n:Nat}{cx:Cx}{o:Expr}{x:Str}{p:Pos}{st st1:St}{a c:AV}(h0:nSC o=true)(h1:evBase (run fnsP n) cx o st=some (a,st1))(h2:attrOf a x=some c):(run fnsP (n+1)).ev cx (.Attribute o x p) st=some (c,st1):=by
 show (bif nSC o then ob (evBase (run fnsP n) cx o st) _ else none)=_
 refine rwE h0 ?_
 exact (ob_eq h1).trans (ob_eq h2)
noncomputable abbrev caC:Cx:=⟨dCA.scope.names,true⟩
noncomputable def caV(k k':Kd)(l:List PV):Vars:=[("items",some (.pv (.lst l))),("kind",some (.pv (.str k.s))),("wanted",some (.pv (.str k'.s)))]
theorem ca_bd:dCA.body=[sAt dCA 0,sAt dCA 1]:=by kernel_rfl
theorem ca_0{n:Nat}{k k':Kd}{l:List PV}(hk:k.i < k'.i):(run fnsP (n+179)).ex caC (sAt dCA 0) ⟨caV k k' l,[]⟩=some (.next,⟨caV k k' l,[]⟩):=by
 refine gQ (decide_eq_true hk) ?_;apply kQ k;apply kQ k';kernel_rfl
theorem ca_0r{n:Nat}{k:Kd}{l:List PV}:(run fnsP (n+179)).ex caC (sAt dCA 0) ⟨caV k k l,[]⟩=some (.ret (.lst l),⟨caV k k l,[]⟩):=by
 apply kQ k;kernel_rfl
theorem ca_stmt{n m:Nat}{k k':Kd}{l:List PV}{q1 q2 q3 q4:Pos}{nm wa no:Expr}(hk:k.i < k'.i)(hl:l.length≤3)(ho:∀x∈l,OkIt k x)(h0:(isS nm||(isS wa||isS no))=false)
  (h1:∀h,evName fnsP caC "as_kind" ⟨caV k k' l,h⟩=some (.pv (.glb "as_kind"),⟨caV k k' l,h⟩)) {h5:List MO} (h2:evArg (run fnsP (n+176)) false caC nm ⟨caV k k' l,[]⟩=some (.pv (vecPV k.s l (dimA m 1)),⟨caV k k' l,h5⟩))
  (h3:∀h,evArg (run fnsP (n+176)) false caC wa ⟨caV k k' l,h⟩=some (.pv (.str k'.s),⟨caV k k' l,h⟩)) (h4:∀h,evArg (run fnsP (n+176)) false caC no ⟨caV k k' l,h⟩=some (.pv (.lst []),⟨caV k k' l,h⟩)) :
  (run fnsP (n+179)).ex caC (.Return (some (.Attribute (.Call (.Name "as_kind" q1) [nm,wa,no] [] q2) "items" q3)) q4) ⟨caV k k' l,[]⟩=some (.ret (.lst (l.map (cv k k'))),⟨caV k k' l,h5⟩):=by
 have e1:(("as_kind" : Str)==("_law_named" : Str))=false:=by kernel_rfl
 simp only [Bool.or_eq_false_iff] at h0
 refine xE03 h0 fun s1 s2 s3=>?_
 have t3:=ev_fn (n:=n+175) (p:=q2) (p2:=q1) (cx:=caC) (x:="as_kind") (args:=[nm,wa,no]) (st:=⟨caV k k' l,[]⟩) (st1:=⟨caV k k' l,h5⟩) (c:=.pv (vecPV k'.s (l.map (cv k k')) .none)) (as:=[.pv (vecPV k.s l (dimA m 1)),.pv (.str k'.s),.pv (.lst [])])
  (by show ((isS nm||(isS wa||(isS no||false)))||decide (30 < 3))=false;refine rwE s1 (rwE s2 (rwE s3 ?_));rfl) (h1 _) rfl (by kernel_rfl) (by refine rwE e1 ?_;exact eAc h2 (eAc (h3 _) (eAc (h4 _) rfl))) (as_kind_ok (n:=n+6) hk hl ho)
 exact ex_ret (n:=n+178) (c:=.pv (.lst (l.map (cv k k')))) (st1:=⟨caV k k' l,h5⟩) (evR_of rfl (ev_attr' (n:=n+177) rfl (evBase_P rfl (evP_of rfl t3)) (by kernel_rfl))) rfl rfl
noncomputable def cellsOf:Option (AV × St)→List MO
 |some (_,st)=>st.cells
 |_=>[]
noncomputable def retV(s:Stmt):Expr:=(sx s).2.1.headD default
noncomputable def callArgs(e:Expr):List Expr:=((callE e).map (·.2.1)).getD []
noncomputable def attrBase(e:Expr):Expr:=((attrE e).map (·.1)).getD default
noncomputable def caArg0:Expr:=(callArgs (attrBase (retV (sAt dCA 1)))).getD 0 default
theorem ca_1{n:Nat}{k k':Kd}{l:List PV}(hk:k.i < k'.i)(hl:l.length≤3)(ho:∀x∈l,OkIt k x):∃h,(run fnsP (n+179)).ex caC (sAt dCA 1) ⟨caV k k' l,[]⟩=some (.ret (.lst (l.map (cv k k'))),⟨caV k k' l,h⟩):=by
 refine ⟨cellsOf (evArg (run fnsP (n+176)) false caC caArg0 ⟨caV k k' l,[]⟩),?_⟩
 conv=>lhs;arg 3;whnf
 refine ca_stmt (m:=l.length) hk hl ho ?_ ?_ ?_ ?_ ?_
 case refine_3=>apply lQ hl;kernel_rfl
 all_goals (intros;kernel_rfl)
theorem column_as_ok{n:Nat}{k k':Kd}{l:List PV}{cells:List MO}(hk:k.i≤k'.i)(hl:l.length≤3)(ho:∀x∈l,OkIt k x) :
  (run fnsP (n+180)).call "column_as" [.pv (.lst l),.pv (.str k.s),.pv (.str k'.s)] cells=some (.ok (.pv (.lst (l.map (cv k k')))),cells):=by
 refine call_pure (vars0:=caV k k' l) find_column_as plain_column_as rfl rfl (by kernel_rfl) (by kernel_rfl) ?_
 refine rwE ca_bd ?_
 by_cases h:k.i < k'.i
 ·refine xE11 (ca_1 (n:=n) h hl ho) fun h' e=>?_
  exact X.step (ca_0 h) (X.ret e rfl)
 ·have:k=k':=by revert hk h;cases k<;>cases k'<;>first | (intro _ _;rfl) | (intro a b;exact absurd a (by decide)) | (intro a b;exact absurd (by decide) b)
  refine Bc.rwB this ?_
  refine X.ret ca_0r ?_
  refine rwE (show l.map (cv k k)=l from by rw [List.map_congr_left (fun x z_=>cv_self k x),List.map_id']) rfl
end Bc
namespace Bc
noncomputable def forBody(s:Stmt):List Stmt:=(sx s).2.2.1
noncomputable def forT(s:Stmt):Expr:=(sx s).2.1.headD default
noncomputable def forI(s:Stmt):Expr:=(sx s).2.1.getD 1 default
noncomputable def forPos(s:Stmt):Pos:=(sx s).2.2.2.2.1
noncomputable def atO(r c:Nat):Option PV→PV
 |none=>dimA r c
 |some D=>.dct [("dim",vecPV "integer" [.int r,.int c] .none),("dimnames",D)]
noncomputable def dnO(r c:Nat)(b1 b2:Bool):Option PV:=if b1||b2 then some (vecPV "list" [nmPV r b1,nmPV c b2] .none) else none
theorem mt_O{k:Kd}{its:List PV}{r c:Nat}{b1 b2:Bool}:mtPV k its r c b1 b2=vecPV k.s its (atO r c (dnO r c b1 b2)):=by
 cases b1<;>cases b2<;>rfl
theorem nth_pv{l:List PV}{i:Nat}{d:PV}(h:l[i]? = some d)(hl:i < 100000):subPV (.lst l) (.int (i:Int))=some d:=by
 refine sub_lst ?_
 unfold nthPV
 refine rwE (decide_eq_true ⟨by exact Int.natCast_nonneg i,by exact Int.lt_toNat.mp hl⟩) ?_
 exact h
noncomputable def extGo:List Prt→Nat→Int→Int→Sum Nat (Int × Int)
 |[],_,e,l=>.inr (e,l)
 | .nul::r,i,e,l=>extGo r (i+1) e l
 | .vec _ _ its _::r,i,e,l=>extGo r (i+1) e (maxI l [(its.length:Int)])
 | .mat _ rr _ _ _ _::r,i,e,l=>if 0≤e∧(rr:Int)≠e then .inl i else extGo r (i+1) rr l
noncomputable def Prt.okG:Prt→Prop
 | .nul=>True
 | .vec k m its _=>small3 m∧its.length=m∧∀x∈its,OkIt k x
 | .mat k r c its b1 b2=>small3 r∧small3 c∧its.length=r * c∧(∀x∈its,OkIt k x)∧(b1=true→0 < r)∧(b2=true→0 < c)
noncomputable abbrev beC:Cx:=⟨dBE.scope.names,true⟩
noncomputable def beV(pvs:List PV)(w:Str)(e l:Int)(a b c:Option AV):Vars:=[("parts",some (.pv (.lst pvs))),("word",some (.pv (.str w))),("extent",iA e),("longest",iA l),("place",a),("part",b),("rows",c)]
noncomputable def beB(i:Nat):Stmt:=(forBody (sAt dBE 2)).getD i default
theorem be_bd:dBE.body=[sAt dBE 0,sAt dBE 1,sAt dBE 2,sAt dBE 3]:=by kernel_rfl
theorem be_for:sAt dBE 2=.For (forT (sAt dBE 2)) (forI (sAt dBE 2)) (forBody (sAt dBE 2)) [] (forPos (sAt dBE 2)):=by kernel_rfl
theorem be_bb:forBody (sAt dBE 2)=[beB 0,beB 1,beB 2]:=by kernel_rfl
noncomputable def okE(e:Int):Prop:=e=-1∨e=0∨e=1∨e=2∨e=3
theorem okE_small{k:Nat}(h:small3 k):okE k:=h.elim (fun h=>.inr (.inl (congrArg _ h))) fun h=>h.elim (fun h=>.inr (.inr (.inl (congrArg _ h)))) fun h=>h.elim (fun h=>.inr (.inr (.inr (.inl (congrArg _ h))))) fun h=>.inr (.inr (.inr (.inr (congrArg _ h))))
theorem okE_m1{e a:Int}(he:okE e)(hne:¬(0≤e∧a≠e)):e=-1∨e=a:=by
 rcases Decidable.em (0≤e) with h | h
 ·exact .inr (Decidable.not_not.mp fun z=>hne ⟨h,fun q=>z q.symm⟩)
 ·rcases he with rfl | rfl | rfl | rfl | rfl
  ·exact .inl rfl
  all_goals exact absurd (by decide) h
noncomputable def msgOf(w:Str)(i:Nat):Str:=(Str.empty++"number of "++w++" of matrices must match (see arg "++Str.ofString (toString ((i:Int)+1)))++")"
variable{n i:Nat}{pvs:List PV}{w:Str}{e l:Int}{a b c:Option AV}
theorem be_0{d:PV}(h:pvs[i]? = some d)(hi:i < 4):(run fnsP (n+48)).ex beC (beB 0) ⟨beV pvs w e l (iA i) b c,[]⟩=some (.next,⟨beV pvs w e l (iA i) (some (.pv d)) c,[]⟩):=by
 conv=>lhs;arg 3;whnf
 refine ex_asg (rs:=.pv d) (st1:=⟨beV pvs w e l (iA i) b c,[]⟩) ?_ ?_ (evR_of ?_ (ev_sub' (a:=.lst pvs) (b:=.int i) (st1:=⟨beV pvs w e l (iA i) b c,[]⟩) ?_ ?_ ?_ (nth_pv h (by omega)))) ?_
 all_goals kernel_rfl
theorem be_1c:(run fnsP (n+48)).ex beC (beB 1) ⟨beV pvs w e l a (some (.pv nulPV)) c,[]⟩=some (.cont,⟨beV pvs w e l a (some (.pv nulPV)) c,[]⟩):=by kernel_rfl
theorem be_1n{k:Kd}{its:List PV}{at_:PV}:(run fnsP (n+48)).ex beC (beB 1) ⟨beV pvs w e l a (some (.pv (vecPV k.s its at_))) c,[]⟩=some (.next,⟨beV pvs w e l a (some (.pv (vecPV k.s its at_))) c,[]⟩):=by apply kQ k;kernel_rfl
theorem be_2v{k:Kd}{m:Nat}{its:List PV}{q:Bool}(hl:its.length≤3):(run fnsP (n+48)).ex beC (beB 2) ⟨beV pvs w e l a (some (.pv (vecPV k.s its (atV m q)))) c,[]⟩=some (.next,⟨beV pvs w e (maxI l [(its.length:Int)]) a (some (.pv (vecPV k.s its (atV m q)))) c,[]⟩):=by
 apply lQ hl;apply bQ q;kernel_rfl
theorem be_2m{k:Kd}{r c':Nat}{its:List PV}{D:Option PV}(hr:small3 r)(he:okE e)(hne:¬ (0≤e∧(r:Int)≠e)):(run fnsP (n+48)).ex beC (beB 2) ⟨beV pvs w e l a (some (.pv (vecPV k.s its (atO r c' D)))) c,[]⟩=some (.next,⟨beV pvs w r l a (some (.pv (vecPV k.s its (atO r c' D)))) (iA r),[]⟩):=by
 have:e=-1∨e=r:=okE_m1 he hne
 rcases this with rfl | rfl
 ·apply oQ D;kernel_rfl
 ·apply sQ hr;apply oQ D;kernel_rfl
noncomputable def beM(i:Nat):Stmt:=(ifBody (beB 2)).getD i default
theorem be_2i:beB 2=.If (ifT (beB 2)) (ifBody (beB 2)) (ifElse (beB 2)) (ifPos (beB 2)):=by kernel_rfl
theorem be_2b:ifBody (beB 2)=[beM 0,beM 1,beM 2]:=by kernel_rfl
theorem be_Mi:beM 1=.If (ifT (beM 1)) (ifBody (beM 1)) (ifElse (beM 1)) (ifPos (beM 1)):=by kernel_rfl
theorem be_2t{k:Kd}{r c':Nat}{its:List PV}{D:Option PV}:evT (run fnsP (n+47)) beC (ifT (beB 2)) ⟨beV pvs w e l a (some (.pv (vecPV k.s its (atO r c' D)))) c,[]⟩=some (true,⟨beV pvs w e l a (some (.pv (vecPV k.s its (atO r c' D)))) c,[]⟩):=by
 apply oQ D;kernel_rfl
theorem be_M0{k:Kd}{r c':Nat}{its:List PV}{D:Option PV}:(run fnsP (n+47)).ex beC (beM 0) ⟨beV pvs w e l a (some (.pv (vecPV k.s its (atO r c' D)))) c,[]⟩=some (.next,⟨beV pvs w e l a (some (.pv (vecPV k.s its (atO r c' D)))) (iA r),[]⟩):=by
 apply oQ D;kernel_rfl
theorem be_M1{r:Nat}(hr:small3 r)(he:okE e)(hne:0≤e∧(r:Int)≠e):evT (run fnsP (n+46)) beC (ifT (beM 1)) ⟨beV pvs w e l a b (iA r),[]⟩=some (true,⟨beV pvs w e l a b (iA r),[]⟩):=by
 refine gQ (decide_eq_true hne) ?_;apply iQ he;apply sQ hr;kernel_rfl
theorem be_Mx(hi:i < 4)(hw:w="rows"∨w="columns"):exs (run fnsP (n+46)) beC (ifBody (beM 1)) ⟨beV pvs w e l (iA i) b c,[]⟩=some (.exc (.str (msgOf w i)),⟨beV pvs w e l (iA i) b c,[]⟩):=by
 have hi:=lt4_all i hi
 apply wQ hw;apply sQ hi;kernel_rfl
theorem be_2x{k:Kd}{r c':Nat}{its:List PV}{D:Option PV}(hr:small3 r)(he:okE e)(hi:i < 4)(hw:w="rows"∨w="columns")(hne:0≤e∧(r:Int)≠e) :
  ∃st,(run fnsP (n+48)).ex beC (beB 2) ⟨beV pvs w e l (iA i) (some (.pv (vecPV k.s its (atO r c' D)))) c,[]⟩=some (.exc (.str (msgOf w i)),st):=by
 refine ⟨_,ex_if be_2i be_2t ?_ (st2:=⟨beV pvs w e l (iA i) (some (.pv (vecPV k.s its (atO r c' D)))) (iA r),[]⟩)⟩
 refine rwE be_2b ?_
 exact (ob_eq be_M0).trans (ob_eq (ex_if be_Mi (be_M1 hr he hne) (be_Mx hi hw)))
inductive beI(Ps:List Prt)(w:Str)(tgt:Sum Nat (Int × Int))(r:List PV)(st:St):Prop
 |mk (i:Nat) (e l:Int) (a b c:Option AV):i≤Ps.length→okE e→r=(List.range' i (Ps.length - i)).map (fun (j:Nat)=>PV.int (j:Int))→st=⟨beV (Ps.map Prt.pv) w e l a b c,[]⟩→extGo (Ps.drop i) i e l=tgt→beI Ps w tgt r st
theorem extE{Ps:List Prt}{i:Nat}{e l e' l':Int}(ho:∀P∈Ps,Prt.okG P)(he:okE e)(h:extGo Ps i e l=.inr (e',l')):okE e':=by
 induction Ps generalizing i e l with
 |nil=>exact (Prod.mk.inj (Sum.inr.inj h)).1▸he
 |cons P r ih =>
  have hr:∀P∈r,Prt.okG P:=fun P hP=>ho P (List.mem_cons_of_mem _ hP)
  cases P with
  |nul=>exact ih hr he h
  |vec=>exact ih hr he h
  |mat k rr c its b1 b2=>exact iteE h (fun _ h=>nomatch h) fun _ h=>ih hr (okE_small (ho _ List.mem_cons_self).1) h
theorem okG_pv{P:Prt}:P=.nul∨(∃k m its q,P=.vec k m its q)∨∃k r c its b1 b2,P=.mat k r c its b1 b2:=by
 cases P
 ·exact .inl rfl
 ·exact .inr (.inl ⟨_,_,_,_,rfl⟩)
 ·exact .inr (.inr ⟨_,_,_,_,_,_,rfl⟩)
noncomputable def tgtR(w:Str):Sum Nat (Int × Int)→Rs
 | .inl i=>.exc (.str (msgOf w i))
 | .inr (e,l)=>.ok (.pv (.int (if e < 0 then l else e)))
theorem be_3(he:okE e):exs (run fnsP (n+49)) beC [sAt dBE 3] ⟨beV pvs w e l a b c,[]⟩=some (.ret (.int (if e < 0 then l else e)),⟨beV pvs w e l a b c,[]⟩):=by
 apply iQ he;kernel_rfl
theorem be_init:exs (run fnsP (n+49)) beC [sAt dBE 0,sAt dBE 1] ⟨[("parts",some (.pv (.lst pvs))),("word",some (.pv (.str w))),("extent",none),("longest",none),("place",none),("part",none),("rows",none)],[]⟩=some (.next,⟨beV pvs w (-1) 0 none none none,[]⟩):=by kernel_rfl
theorem be_rng(hl:pvs.length≤4):evP (run fnsP (n+48)) beC (forI (sAt dBE 2)) ⟨beV pvs w e l a b c,[]⟩=some (.rng pvs.length,⟨beV pvs w e l a b c,[]⟩):=by
 apply mQ hl;kernel_rfl
theorem be_bind{d:PV}:bindT beC.names (forT (sAt dBE 2)) d ⟨beV pvs w e l a b c,[]⟩=some ⟨beV pvs w e l (some (.pv d)) b c,[]⟩:=by kernel_rfl
theorem extGo_mat{k:Kd}{rr cc:Nat}{its:List PV}{b1 b2:Bool}{r:List Prt}:extGo (.mat k rr cc its b1 b2::r) i e l=if 0≤e∧(rr:Int)≠e then .inl i else extGo r (i+1) rr l:=rfl
theorem be_ok{Ps:List Prt}{cells:List MO}(hlen:Ps.length≤4)(ho:∀P∈Ps,Prt.okG P)(hw:w="rows"∨w="columns") :
  (run fnsP (n+50)).call "bound_extent" [.pv (.lst (Ps.map Prt.pv)),.pv (.str w)] cells=some (tgtR w (extGo Ps 0 (-1) 0),cells):=by
 refine call_pureR (vars0:=[("parts",some (.pv (.lst (Ps.map Prt.pv)))),("word",some (.pv (.str w))),("extent",none),("longest",none),("place",none),("part",none),("rows",none)]) find_bound_extent plain_bound_extent rfl rfl (by kernel_rfl) (by kernel_rfl) ?_
 refine X.seg (st1:=⟨beV (Ps.map Prt.pv) w (-1) 0 none none none,[]⟩) 2 ?_ ?_
 ·refine rwE be_bd ?_;exact be_init
 refine rwE be_bd ?_
 show X _ _ [sAt dBE 2,sAt dBE 3] _ _
 refine rwE be_for ?_
 refine X.for (n:=n+48) (beI Ps w (extGo Ps 0 (-1) 0)) (by kernel_rfl) (be_rng (by simpa using hlen)) rfl ⟨0,-1,0,none,none,none,by exact Nat.zero_le Ps.length,.inl rfl,?_,rfl,by refine rwE List.drop_zero rfl⟩ ?_ ?_
 ·rw [List.length_map,Nat.sub_zero,List.range_eq_range']
 ·intro d r st h
  obtain ⟨i,e,l,a,b,c,hi,he,hr,rfl,ht⟩:=h
  have hi':i < Ps.length:=by
   rcases Nat.lt_or_ge i Ps.length with h | h
   ·exact h
   ·rw [Nat.sub_eq_zero_of_le h] at hr;cases hr
  obtain ⟨q,hq⟩:∃q,Ps.length - i=q+1:=⟨Ps.length - i - 1,by omega⟩
  rw [hq,List.range'_succ,List.map_cons] at hr
  cases hr
  refine ⟨_,be_bind,?_⟩
  refine rwE be_bb ?_
  have hget:(Ps.map Prt.pv)[i]? = some (Ps[i].pv):=by refine rwE (List.getElem?_map) (rwE (List.getElem?_eq_getElem hi') ?_);rfl
  refine X.step (be_0 hget (by exact Nat.lt_of_lt_of_le hi' hlen)) ?_
  have hdrop:Ps.drop i=Ps[i]::Ps.drop (i+1):=List.drop_eq_getElem_cons hi'
  have hoi:=ho _ (List.getElem_mem hi')
  have hq2:q=Ps.length - (i+1):=by omega
  rw [hdrop] at ht
  rcases okG_pv (P:=Ps[i]) with hP | ⟨k,m,its,b',hP⟩ | ⟨k,rr,cc,its,b1,b2,hP⟩
  ·rw [hP] at ht ⊢
   exact X.last be_1c (by intro z;cases z) ⟨i+1,e,l,_,_,_,hi',he,by refine rwE hq2 rfl,rfl,ht⟩
  ·rw [hP] at ht hoi ⊢
   refine X.step be_1n (X.step (be_2v (small3_len hoi.1 hoi.2.1)) (X.nil ⟨i+1,e,_,_,_,_,hi',he,by refine rwE hq2 rfl,rfl,ht⟩))
  ·rw [hP] at ht hoi ⊢
   have hpv:(Prt.mat k rr cc its b1 b2).pv=vecPV k.s its (atO rr cc (dnO rr cc b1 b2)):=mt_O
   refine rwE hpv ?_
   refine X.step be_1n ?_
   by_cases hx:0≤e∧(rr:Int)≠e
   ·refine xE11 (be_2x (n:=n) (pvs:=Ps.map Prt.pv) (w:=w) (l:=l) (c:=c) (k:=k) (c':=cc) (its:=its) (D:=dnO rr cc b1 b2) hoi.1 he (i:=i) (by exact Nat.lt_of_lt_of_le hi' hlen) hw hx) fun st hst=>?_
    refine X.last hst (by intro z;cases z) ?_
    rw [extGo_mat,if_pos hx] at ht
    show flR _=_
    refine rwB ht ?_;rfl
   ·rw [extGo_mat,if_neg hx] at ht
    refine X.step (be_2m hoi.1 he hx) (X.nil ⟨i+1,rr,l,_,_,_,hi',okE_small hoi.1,by refine rwE hq2 rfl,rfl,ht⟩)
 ·intro st h
  obtain ⟨i,e,l,a,b,c,hi,he,hr,rfl,ht⟩:=h
  have hi':i=Ps.length:=by
   rcases Nat.lt_or_ge i Ps.length with h | h
   ·obtain ⟨q,hq⟩:∃q,Ps.length - i=q+1:=⟨Ps.length - i - 1,by omega⟩
    rw [hq,List.range'_succ] at hr;cases hr
   ·exact Nat.le_antisymm hi h
  rw [hi',List.drop_length] at ht
  refine ⟨_,_,be_3 he,?_⟩
  refine rwB ht ?_;rfl
end Bc
namespace Bc
noncomputable abbrev Lk(n:Nat)(cx:Cx)(r:List Stmt)(J:St→Prop)(φ:Fl→St→Prop):Fl→St→Prop:=fun f st2=>match f with
 | .next=>J st2
 | .cont=>J st2
 | .brk=>X (run fnsP (n+1)) cx r st2 φ
 |f=>φ f st2
theorem forN{n:Nat}{cx:Cx}{s:Stmt}{r:List Stmt}{st st1:St}{φ:Fl→St→Prop}{x:PV}{ds:List PV}(J:Nat→St→Prop)(hs:s=.For (forT s) (forI s) (forBody s) [] (forPos s))(hlp:(!cx.lp||isSetE (forI s))=false)(h:evP (run fnsP n) cx (forI s) st=some (x,st1))(hi:items x=some ds)(h1:J 0 st1)
  (hb:∀j d st,ds[j]? = some d→J j st→∃st1,bindT cx.names (forT s) d st=some st1∧X (run fnsP n) cx (forBody s) st1 (Lk n cx r (J (j+1)) φ)) (h0:∀st,J ds.length st→X (run fnsP (n+1)) cx r st φ):X (run fnsP (n+1)) cx (s::r) st φ:=by
 refine rwE hs ?_
 refine X.for (n:=n) (fun r st=>∃j,j≤ds.length∧r=ds.drop j∧J j st) hlp h hi ⟨0,Nat.zero_le _,rfl,h1⟩ ?_ ?_
 ·intro d r' st ⟨j,hj,hr,hJ⟩
  have hj':j < ds.length:=by
   rcases Nat.lt_or_ge j ds.length with h | h
   ·exact h
   ·rw [List.drop_eq_nil_of_le h] at hr;cases hr
  rw [List.drop_eq_getElem_cons hj'] at hr
  cases hr
  obtain ⟨st1,e1,f,st2,e2,q⟩:=hb j _ st (List.getElem?_eq_getElem hj') hJ
  refine ⟨st1,e1,f,st2,e2,?_⟩
  cases f with
  |next=>exact ⟨j+1,hj',rfl,q⟩
  |cont=>exact ⟨j+1,hj',rfl,q⟩
  |brk=>exact q
  |ret _=>exact q
  |exc _=>exact q
 ·intro st ⟨j,hj,hr,hJ⟩
  have hj':j=ds.length:=by
   rcases Nat.lt_or_ge j ds.length with h | h
   ·rw [List.drop_eq_getElem_cons h] at hr;cases hr
   ·exact Nat.le_antisymm hj h
  exact h0 st (hj'▸hJ)
theorem rng_get{m j:Nat}{d:PV}(h:((List.range m).map fun (i:Nat)=>PV.int (i:Int))[j]? = some d):d=.int (j:Int)∧j < m:=by
 rw [List.getElem?_map] at h
 refine Bc.optE ((List.range m)[j]?) (fun e=>?_) fun z e=>?_
 ·rw [e] at h;cases h
 ·
  rw [e] at h
  have:=List.getElem?_eq_some_iff.mp e
  obtain ⟨h1,h2⟩:=this
  rw [List.getElem_range] at h2
  rw [List.length_range] at h1
  subst h2
  cases h
  exact ⟨rfl,h1⟩
noncomputable def keepB(E:Nat):Prt→Bool
 | .nul=>false
 | .vec _ _ its _=>decide (0 < its.length)||decide (E=0)
 | .mat ..=>true
noncomputable def kpGo(E:Nat):List Prt→Nat→List Nat
 |[],_=>[]
 |P::r,i=>if keepB E P then i::kpGo E r (i+1) else kpGo E r (i+1)
theorem kpGo_cons{E:Nat}{P:Prt}{r:List Prt}{i:Nat}:kpGo E (P::r) i=if keepB E P then i::kpGo E r (i+1) else kpGo E r (i+1):=rfl
noncomputable abbrev kpC:Cx:=⟨dKP.scope.names,true⟩
noncomputable def natV(i:Nat):PV:=.int (i:Int)
noncomputable def kpV(pvs:List PV)(E:Nat)(a b:Option AV):Vars:=[("parts",some (.pv (.lst pvs))),("extent",iA E),("found",some (.cell 0)),("place",a),("part",b)]
noncomputable def kpB(i:Nat):Stmt:=(forBody (sAt dKP 1)).getD i default
theorem kp_bd:dKP.body=[sAt dKP 0,sAt dKP 1,sAt dKP 2]:=by kernel_rfl
theorem kp_for:sAt dKP 1=.For (forT (sAt dKP 1)) (forI (sAt dKP 1)) (forBody (sAt dKP 1)) [] (forPos (sAt dKP 1)):=by kernel_rfl
theorem kp_bb:forBody (sAt dKP 1)=[kpB 0,kpB 1]:=by kernel_rfl
theorem kp_i:kpB 1=.If (ifT (kpB 1)) (ifBody (kpB 1)) (ifElse (kpB 1)) (ifPos (kpB 1)):=by kernel_rfl
theorem kp_ib:ifBody (kpB 1)=[(ifBody (kpB 1)).getD 0 default]:=by kernel_rfl
theorem kp_ie:ifElse (kpB 1)=[]:=by kernel_rfl
variable{n i E:Nat}{pvs:List PV}{a b:Option AV}{h:List MO}
theorem kp_0{d:PV}(hd:pvs[i]? = some d)(hi:i < 4):(run fnsP (n+48)).ex kpC (kpB 0) ⟨kpV pvs E (iA i) b,h⟩=some (.next,⟨kpV pvs E (iA i) (some (.pv d)),h⟩):=by
 conv=>lhs;arg 3;whnf
 refine ex_asg (rs:=.pv d) (st1:=⟨kpV pvs E (iA i) b,h⟩) ?_ ?_ (evR_of ?_ (ev_sub' (a:=.lst pvs) (b:=.int i) (st1:=⟨kpV pvs E (iA i) b,h⟩) ?_ ?_ ?_ (nth_pv hd (by omega)))) ?_
 all_goals kernel_rfl
theorem kp_t{P:Prt}(hP:P.okG)(hE:small3 E):evT (run fnsP (n+47)) kpC (ifT (kpB 1)) ⟨kpV pvs E a (some (.pv P.pv)),h⟩=some (keepB E P,⟨kpV pvs E a (some (.pv P.pv)),h⟩):=by
 rcases okG_pv (P:=P) with rfl | ⟨k,m,its,q,rfl⟩ | ⟨k,rr,cc,its,b1,b2,rfl⟩
 ·kernel_rfl
 ·have hl:its.length≤3:=small3_len hP.1 hP.2.1
  show evT (run fnsP (n+47)) kpC (ifT (kpB 1)) ⟨kpV pvs E a (some (.pv (vecPV k.s its (atV m q)))),h⟩=some (keepB E (.vec k m its q),⟨kpV pvs E a (some (.pv (vecPV k.s its (atV m q)))),h⟩)
  apply lQ hl;apply sQ hE;apply bQ q;apply kQ k;kernel_rfl
 ·show evT (run fnsP (n+47)) kpC (ifT (kpB 1)) ⟨kpV pvs E a (some (.pv (mtPV k its rr cc b1 b2))),h⟩=some (true,⟨kpV pvs E a (some (.pv (mtPV k its rr cc b1 b2))),h⟩)
  refine rwE mt_O ?_
  generalize dnO rr cc b1 b2=D
  apply oQ D;apply kQ k;kernel_rfl
theorem kp_app{l:List PV}(hl:l.length≤1000):(run fnsP (n+47)).ex kpC ((ifBody (kpB 1)).getD 0 default) ⟨kpV pvs E (iA i) b,[.lst l]⟩=some (.next,⟨kpV pvs E (iA i) b,[.lst (l++[natV i])]⟩):=by
 conv=>lhs;arg 3;whnf
 refine ex_meth (k:=0) (ds:=[natV i]) (ob:=.lst l) (ob':=.lst (l++[natV i])) (st1:=⟨kpV pvs E (iA i) b,[.lst l]⟩) (st2:=⟨kpV pvs E (iA i) b,[.lst l]⟩) ?_ ?_ ?_ ?_ ?_ ?_ ?_ ?_ ?_
 case refine_8 =>
  exact app_lst hl
 all_goals kernel_rfl
theorem kp_init:(run fnsP (n+49)).ex kpC (sAt dKP 0) ⟨[("parts",some (.pv (.lst pvs))),("extent",iA E),("found",none),("place",none),("part",none)],[]⟩=some (.next,⟨kpV pvs E none none,[.lst []]⟩):=by kernel_rfl
theorem le4(hl:pvs.length≤4):pvs=[]∨(∃a,pvs=[a])∨(∃a b,pvs=[a,b])∨(∃a b c,pvs=[a,b,c])∨∃a b c d,pvs=[a,b,c,d]:=by
 match pvs,hl with
 |[],_=>exact .inl rfl
 |[a],_=>exact .inr (.inl ⟨a,rfl⟩)
 |[a,b],_=>exact .inr (.inr (.inl ⟨a,b,rfl⟩))
 |[a,b,c],_=>exact .inr (.inr (.inr (.inl ⟨a,b,c,rfl⟩)))
 |[a,b,c,d],_=>exact .inr (.inr (.inr (.inr ⟨a,b,c,d,rfl⟩)))
 |_::_::_::_::_::_,h=>simp at h
theorem kp_rng(hl:pvs.length≤4):evP (run fnsP (n+48)) kpC (forI (sAt dKP 1)) ⟨kpV pvs E a b,h⟩=some (.rng pvs.length,⟨kpV pvs E a b,h⟩):=by
 apply mQ hl;kernel_rfl
theorem kp_bind{d:PV}:bindT kpC.names (forT (sAt dKP 1)) d ⟨kpV pvs E a b,h⟩=some ⟨kpV pvs E (some (.pv d)) b,h⟩:=by kernel_rfl
theorem kp_ret{l:List PV}:(run fnsP (n+49)).ex kpC (sAt dKP 2) ⟨kpV pvs E a b,[.lst l]⟩=some (.ret (.lst l),⟨setV "found" (.pv (.lst l)) (kpV pvs E a b),[.dead]⟩):=by kernel_rfl
inductive kpI(Ps:List Prt)(E:Nat)(j:Nat)(st:St):Prop
 |mk (a b:Option AV) (acc:List Nat):j≤Ps.length→acc.length≤j→st=⟨kpV (Ps.map Prt.pv) E a b,[.lst (acc.map natV)]⟩→acc++kpGo E (Ps.drop j) j=kpGo E Ps 0→kpI Ps E j st
theorem kp_ok{Ps:List Prt}{cells:List MO}(hlen:Ps.length≤4)(ho:∀P∈Ps,Prt.okG P)(hE:small3 E) :
  (run fnsP (n+50)).call "kept_places" [.pv (.lst (Ps.map Prt.pv)),.pv (natV E)] cells=some (.ok (.pv (.lst ((kpGo E Ps 0).map natV))),cells):=by
 refine call_pure (vars0:=[("parts",some (.pv (.lst (Ps.map Prt.pv)))),("extent",iA E),("found",none),("place",none),("part",none)]) find_kept_places plain_kept_places rfl rfl (by kernel_rfl) (by kernel_rfl) ?_
 refine rwE kp_bd ?_
 refine X.step kp_init ?_
 refine forN (n:=n+48) (kpI Ps E) kp_for (by kernel_rfl) (kp_rng (by simpa using hlen)) rfl ⟨none,none,[],Nat.zero_le _,Nat.le_refl _,rfl,rfl⟩ ?_ ?_
 ·intro j d st hd ⟨a,b,acc,hj,hacc,hst,ht⟩
  refine Bc.rwE hst ?_
  obtain ⟨rfl,hj'⟩:=rng_get hd
  rw [List.length_map] at hj'
  refine ⟨_,kp_bind,?_⟩
  refine rwE kp_bb ?_
  have hget:(Ps.map Prt.pv)[j]? = some (Ps[j].pv):=by refine rwE (List.getElem?_map) (rwE (List.getElem?_eq_getElem hj') ?_);rfl
  refine X.step (kp_0 hget (by exact Nat.lt_of_lt_of_le hj' hlen)) ?_
  rw [List.drop_eq_getElem_cons hj'] at ht
  have hoi:=ho _ (List.getElem_mem hj')
  refine rwE kp_i ?_
  refine X.iff' (n:=n+47) (kp_t hoi hE) ?_
  rw [kpGo_cons] at ht
  cases hk:keepB E Ps[j] with
  |true =>
   rw [hk] at ht
   rw [cond_true,kp_ib]
   refine X.step (kp_app (by rw [List.length_map];omega)) (X.nilT (X.nil ⟨iA j,some (.pv Ps[j].pv),acc++[j],hj',?_,?_,?_⟩))
   ·simp;exact String.Pos.Raw.mk_le_mk.mp hacc
   ·refine rwE List.map_append ?_;rfl
   ·rw [List.append_assoc];exact ht
  |false =>
   rw [hk] at ht
   rw [cond_false,kp_ie]
   exact X.nilT (X.nil ⟨iA j,some (.pv Ps[j].pv),acc,hj',by exact Nat.le_add_right_of_le hacc,rfl,ht⟩)
 ·intro st ⟨a,b,acc,hj,hacc,hst,ht⟩
  subst hst
  rw [List.length_map,List.length_range,List.length_map,List.drop_length] at ht
  have ht:acc++[]=kpGo E Ps 0:=ht
  rw [List.append_nil] at ht
  refine Bc.rwE ht ?_
  exact X.ret kp_ret rfl
end Bc
namespace Bc
noncomputable def unevB(E:Nat):Prt→Bool
 | .vec _ _ its _=>decide (0 < its.length)&&(decide (E < its.length)||decide (E % its.length≠0))
 |_=>false
noncomputable abbrev nrC:Cx:=⟨dNR.scope.names,true⟩
noncomputable def nrV(pvs kp:List PV)(E:Nat)(w:Str)(a b c:Option AV):Vars:=[("parts",some (.pv (.lst pvs))),("kept",some (.pv (.lst kp))),("extent",iA E),("word",some (.pv (.str w))),("notes",some (.cell 0)),("place",a),("part",b),("count",c)]
noncomputable def nrB(i:Nat):Stmt:=(forBody (sAt dNR 0)).getD i default
theorem nr_bd:dNR.body=[sAt dNR 0]:=by kernel_rfl
theorem nr_for:sAt dNR 0=.For (forT (sAt dNR 0)) (forI (sAt dNR 0)) (forBody (sAt dNR 0)) [] (forPos (sAt dNR 0)):=by kernel_rfl
theorem nr_bb:forBody (sAt dNR 0)=[nrB 0,nrB 1,nrB 2]:=by kernel_rfl
theorem nr_i:nrB 2=.If (ifT (nrB 2)) (ifBody (nrB 2)) (ifElse (nrB 2)) (ifPos (nrB 2)):=by kernel_rfl
theorem nr_ie:ifElse (nrB 2)=[]:=by kernel_rfl
variable{n i E:Nat}{pvs kp:List PV}{a b c:Option AV}{h:List MO}{w:Str}
theorem nr_0{d:PV}(hd:pvs[i]? = some d)(hi:i < 4):(run fnsP (n+48)).ex nrC (nrB 0) ⟨nrV pvs kp E w (iA i) b c,h⟩=some (.next,⟨nrV pvs kp E w (iA i) (some (.pv d)) c,h⟩):=by
 conv=>lhs;arg 3;whnf
 refine ex_asg (rs:=.pv d) (st1:=⟨nrV pvs kp E w (iA i) b c,h⟩) ?_ ?_ (evR_of ?_ (ev_sub' (a:=.lst pvs) (b:=.int i) (st1:=⟨nrV pvs kp E w (iA i) b c,h⟩) ?_ ?_ ?_ (nth_pv hd (by omega)))) ?_
 all_goals kernel_rfl
theorem nr_1{k:Kd}{its:List PV}{at_:PV}(hl:its.length≤1000):(run fnsP (n+48)).ex nrC (nrB 1) ⟨nrV pvs kp E w a (some (.pv (vecPV k.s its at_))) c,h⟩=some (.next,⟨nrV pvs kp E w a (some (.pv (vecPV k.s its at_))) (iA its.length),h⟩):=by
 conv=>lhs;arg 3;whnf
 refine ex_asg (rs:=.pv (.int its.length)) (st1:=⟨nrV pvs kp E w a (some (.pv (vecPV k.s its at_))) c,h⟩) ?_ ?_ (evR_call ?_ (evCall_bi (ds:=[.lst its]) ?_ ?_ ?_ ?_ ?_ ?_ ?_)) ?_
 case refine_3=>intro _ _ _ z;cases z
 case refine_10 =>
  exact bi_len (by omega)
 all_goals kernel_rfl
theorem nr_tm{k:Kd}{its:List PV}{r c':Nat}{D:Option PV}:evT (run fnsP (n+47)) nrC (ifT (nrB 2)) ⟨nrV pvs kp E w a (some (.pv (vecPV k.s its (atO r c' D)))) c,h⟩=some (false,⟨nrV pvs kp E w a (some (.pv (vecPV k.s its (atO r c' D)))) c,h⟩):=by
 apply oQ D;kernel_rfl
theorem nr_tv{k:Kd}{its:List PV}{m:Nat}{q:Bool}(hl:its.length≤3)(hE:small3 E):evT (run fnsP (n+47)) nrC (ifT (nrB 2)) ⟨nrV pvs kp E w a (some (.pv (vecPV k.s its (atV m q)))) (iA its.length),h⟩=some (unevB E (.vec k m its q),⟨nrV pvs kp E w a (some (.pv (vecPV k.s its (atV m q)))) (iA its.length),h⟩):=by
 apply bQ q;apply sQ hE;apply lQ hl;kernel_rfl
noncomputable def noteOf(w:Str)(i:Nat):Str:=(Str.empty++"number of "++w++" of result is not a multiple of vector length (arg "++Str.ofString (toString ((i:Int)+1)))++")"
theorem nr_add(hi:i < 4)(hw:w="rows"∨w="columns"):exs (run fnsP (n+47)) nrC (ifBody (nrB 2)) ⟨nrV pvs kp E w (iA i) b c,[.lst []]⟩=some (.ret .none,⟨nrV pvs kp E w (iA i) b c,[.lst [.str (noteOf w i)]]⟩):=by
 have hi:=lt4_all i hi
 apply wQ hw;apply sQ hi;kernel_rfl
theorem nr_it:evP (run fnsP (n+48)) nrC (forI (sAt dNR 0)) ⟨nrV pvs kp E w a b c,h⟩=some (.lst kp,⟨nrV pvs kp E w a b c,h⟩):=by kernel_rfl
theorem nr_bind{d:PV}:bindT nrC.names (forT (sAt dNR 0)) d ⟨nrV pvs kp E w a b c,h⟩=some ⟨nrV pvs kp E w (some (.pv d)) b c,h⟩:=by kernel_rfl
theorem mat_len{k:Kd}{r c:Nat}{its:List PV}{b1 b2:Bool}(h:(Prt.mat k r c its b1 b2).okG):its.length≤9:=by
 obtain ⟨h1,h2,h3,_⟩:=h
 rcases h1 with rfl | rfl | rfl | rfl<;>rcases h2 with rfl | rfl | rfl | rfl<;>omega
inductive nrI(Ps:List Prt)(Q:List (Nat × Prt))(E:Nat)(w:Str)(j:Nat)(st:St):Prop
 |mk (a b c:Option AV):(∀x∈Q.take j,unevB E x.2=false)→st=⟨nrV (Ps.map Prt.pv) (Q.map fun x=>natV x.1) E w a b c,[.lst []]⟩→nrI Ps Q E w j st
theorem nr_ok{Ps:List Prt}{Q:List (Nat × Prt)}(more:List MO)(hlen:Ps.length≤4)(hQl:Q.length≤4)(hQ:∀x∈Q,Ps[x.1]? = some x.2)(hn:∀x∈Q,x.2≠.nul)(ho:∀P∈Ps,Prt.okG P)(hE:small3 E)(hw:w="rows"∨w="columns") :
  ∃ds:List PV,(ds=[] ↔ (Q.any fun x=>unevB E x.2)=false)∧(∀d∈ds,∃i,i < 4∧d=.str (noteOf w i))∧ds.length≤1 ∧
   (run fnsP (n+50)).call "note_recycling" [.pv (.lst (Ps.map Prt.pv)),.pv (.lst (Q.map fun x=>natV x.1)),.pv (natV E),.pv (.str w),.cell 0] (.lst []::more)=some (.ok (.pv .none),.lst ds::more):=by
 have hX:X (run fnsP (n+49)) nrC dNR.body ⟨nrV (Ps.map Prt.pv) (Q.map fun x=>natV x.1) E w none none none,[.lst []]⟩ (fun f st=>∃ds:List PV,(ds=[] ↔ (Q.any fun x=>unevB E x.2)=false)∧(∀d∈ds,∃i,i < 4∧d=.str (noteOf w i))∧ds.length≤1∧flOut (some (f,st))=some (.ok (.pv .none),[.lst ds])):=by
  refine rwE nr_bd ?_
  refine forN (n:=n+48) (nrI Ps Q E w) nr_for (by kernel_rfl) nr_it (ds:=Q.map fun x=>natV x.1) (items_lst (by rw [List.length_map];omega)) ⟨none,none,none,by simp,rfl⟩ ?_ ?_
  ·intro j d st hd ⟨a,b,c,hall,hst⟩
   refine Bc.rwE hst ?_
   rw [List.getElem?_map] at hd
   refine Bc.optE (Q[j]?) (fun hq=>?_) fun x hq=>?_
   ·rw [hq] at hd;cases hd
   ·
    rw [hq] at hd;cases hd
    have hj:j < Q.length:=(List.getElem?_eq_some_iff.mp hq).1
    have hmem:x∈Q:=List.mem_of_getElem? hq
    have hx:=hQ x hmem
    have hi:x.1 < Ps.length:=(List.getElem?_eq_some_iff.mp hx).1
    have hoi:=ho _ (List.mem_of_getElem? hx)
    have htake:Q.take (j+1)=Q.take j++[x]:=by refine rwE List.take_succ (rwE hq ?_);rfl
    refine ⟨_,nr_bind,?_⟩
    refine rwE nr_bb ?_
    have hget:(Ps.map Prt.pv)[x.1]? = some (x.2.pv):=by refine rwE (List.getElem?_map) (rwE hx ?_);rfl
    refine X.step (nr_0 hget (by exact Nat.lt_of_lt_of_le hi hlen)) ?_
    have key:unevB E x.2=false→∀y∈Q.take (j+1),unevB E y.2=false:=fun hu y hy=>by
     rw [htake] at hy
     rcases List.mem_append.mp hy with hy | hy
     ·exact hall y hy
     ·refine rwE (List.mem_singleton.mp hy) ?_;exact hu
    rcases okG_pv (P:=x.2) with hP | ⟨k,m,its,q,hP⟩ | ⟨k,rr,cc,its,b1,b2,hP⟩
    ·exact absurd hP (hn x hmem)
    ·rw [hP] at hoi ⊢
     have hl:its.length≤3:=small3_len hoi.1 hoi.2.1
     refine X.step (nr_1 (k:=k) (its:=its) (at_:=atV m q) (by omega)) ?_
     refine rwE nr_i ?_
     refine X.iff' (n:=n+47) (nr_tv hl hE) ?_
     cases hu:unevB E (.vec k m its q) with
     |true =>
      rw [cond_true]
      refine ⟨_,_,nr_add (by exact Nat.lt_of_lt_of_le hi hlen) hw,?_⟩
      refine ⟨[.str (noteOf w x.1)],⟨fun z=>(by cases z),fun z=>?_⟩,fun d hd=>⟨x.1,by exact Nat.lt_of_lt_of_le hi hlen,List.mem_singleton.mp hd⟩,Nat.le_refl _,rfl⟩
      rw [List.any_eq_false] at z
      have:=z x hmem
      rw [hP,hu] at this
      exact absurd rfl this
     |false =>
      rw [cond_false,nr_ie]
      exact X.nilT (X.nil ⟨natV x.1 |> fun d=>some (.pv d),_,_,key (by refine rwE hP ?_;exact hu),rfl⟩)
    ·rw [hP] at hoi ⊢
     have hpv:(Prt.mat k rr cc its b1 b2).pv=vecPV k.s its (atO rr cc (dnO rr cc b1 b2)):=mt_O
     refine rwE hpv ?_
     have hl:its.length≤9:=mat_len hoi
     refine X.step (nr_1 (k:=k) (its:=its) (by omega)) ?_
     refine rwE nr_i ?_
     refine X.iff' (n:=n+47) nr_tm ?_
     rw [cond_false,nr_ie]
     exact X.nilT (X.nil ⟨natV x.1 |> fun d=>some (.pv d),_,_,key (by refine rwE hP ?_;rfl),rfl⟩)
  ·intro st ⟨a,b,c,hall,hst⟩
   refine Bc.rwE hst ?_
   rw [List.length_map,List.take_length] at hall
   refine X.nil ⟨[],⟨fun _=>?_,fun _=>rfl⟩,by simp,by simp,rfl⟩
   rw [List.any_eq_false]
   intro x hx z
   rw [hall x hx] at z;cases z
 obtain ⟨f,st,e,ds,h1,h2,h3,h4⟩:=hX
 exact ⟨ds,h1,h2,h3,call_X (vars0:=nrV (Ps.map Prt.pv) (Q.map fun x=>natV x.1) E w none none none) (outs:=[.lst ds]) (ins:=[.lst []]) find_note_recycling plain_note_recycling rfl rfl rfl (by kernel_rfl) (by kernel_rfl) rfl ⟨f,st,e,h4⟩⟩
end Bc
namespace Bc
noncomputable def Prt.kd:Prt→Kd
 | .nul=>.lg
 | .vec k ..=>k
 | .mat k ..=>k
noncomputable def kindF:PV→PV
 | .inst _ (e::_)=>e.2
 |d=>d
theorem pv_vec{P:Prt}(h:P≠.nul):∃its at_,P.pv=vecPV P.kd.s its at_:=by
 cases P
 ·exact absurd rfl h
 ·exact ⟨_,_,rfl⟩
 ·exact ⟨_,_,rfl⟩
noncomputable def isMax(L:List Kd)(K:Kd):Prop:=K∈L∧∀k∈L,k.i≤K.i
theorem kd_inj{a b:Kd}(h:a.i=b.i):a=b:=by cases a<;>cases b<;>first | rfl | (exfalso;revert h;decide)
theorem isMax_unique{L:List Kd}{a b:Kd}(h:isMax L a)(g:isMax L b):a=b:=kd_inj (Nat.le_antisymm (g.2 a h.1) (h.2 b g.1))
noncomputable abbrev ckC:Cx:=⟨dCK.scope.names,true⟩
noncomputable def kNames:PV:=.tup [.str "NULL",.str "logical",.str "integer",.str "double",.str "character",.str "list",.str "expression"]
noncomputable def ckV(ks:List PV)(m:Int)(c:Option AV):Vars:=[("kinds",some (.pv (.lst ks))),("names",some (.pv kNames)),("most",iA m),("kind",c)]
theorem ck_bd:dCK.body=[sAt dCK 0,sAt dCK 1,sAt dCK 2,sAt dCK 3]:=by kernel_rfl
theorem ck_for:sAt dCK 2=.For (forT (sAt dCK 2)) (forI (sAt dCK 2)) (forBody (sAt dCK 2)) [] (forPos (sAt dCK 2)):=by kernel_rfl
variable{n:Nat}{ks:List PV}{m:Int}{c:Option AV}{h:List MO}
theorem ck_init:exs (run fnsP (n+49)) ckC [sAt dCK 0,sAt dCK 1] ⟨[("kinds",some (.pv (.lst ks))),("names",none),("most",none),("kind",none)],[]⟩=some (.next,⟨ckV ks 0 none,[]⟩):=by kernel_rfl
theorem ck_body{k:Kd}:exs (run fnsP (n+48)) ckC (forBody (sAt dCK 2)) ⟨ckV ks m (some (.pv (.str k.s))),[]⟩=some (.next,⟨ckV ks (maxI m [(k.i:Int)+1]) (some (.pv (.str k.s))),[]⟩):=by apply kQ k;kernel_rfl
theorem ck_it:evP (run fnsP (n+48)) ckC (forI (sAt dCK 2)) ⟨ckV ks m c,[]⟩=some (.lst ks,⟨ckV ks m c,[]⟩):=by kernel_rfl
theorem ck_bind{d:PV}:bindT ckC.names (forT (sAt dCK 2)) d ⟨ckV ks m c,[]⟩=some ⟨ckV ks m (some (.pv d)),[]⟩:=by kernel_rfl
theorem ck_ret{K:Kd}:(run fnsP (n+49)).ex ckC (sAt dCK 3) ⟨ckV ks ((K.i:Int)+1) c,[]⟩=some (.ret (.str K.s),⟨ckV ks ((K.i:Int)+1) c,[]⟩):=by apply kQ K;kernel_rfl
inductive ckI(L:List Kd)(j:Nat)(st:St):Prop
 |mk (m:Int) (c:Option AV):((j=0∧m=0)∨∃K:Kd,m=(K.i:Int)+1∧isMax (L.take j) K)→st=⟨ckV (L.map fun k=>.str k.s) m c,[]⟩→ckI L j st
theorem ck_ok{L:List Kd}{cells:List MO}(hL:L≠[])(hl:L.length≤1000):∃K,isMax L K∧(run fnsP (n+50)).call "common_kind" [.pv (.lst (L.map fun k=>.str k.s))] cells=some (.ok (.pv (.str K.s)),cells):=by
 have hX:X (run fnsP (n+49)) ckC dCK.body ⟨[("kinds",some (.pv (.lst (L.map fun k=>.str k.s)))),("names",none),("most",none),("kind",none)],[]⟩ (fun f z_=>∃K,isMax L K∧f=.ret (.str K.s)):=by
  refine rwE ck_bd ?_
  refine X.seg (st1:=⟨ckV (L.map fun k=>.str k.s) 0 none,[]⟩) 2 ck_init ?_
  show X _ _ [sAt dCK 2,sAt dCK 3] _ _
  refine forN (n:=n+48) (ckI L) ck_for (by kernel_rfl) ck_it (ds:=L.map fun k=>.str k.s) (items_lst (by rw [List.length_map];exact String.Pos.Raw.mk_le_mk.mp hl)) ⟨0,none,.inl ⟨rfl,rfl⟩,rfl⟩ ?_ ?_
  ·intro j d st hd ⟨m,c,hm,hst⟩
   subst hst
   rw [List.getElem?_map] at hd
   refine Bc.optE (L[j]?) (fun hq=>?_) fun k hq=>?_
   ·rw [hq] at hd;cases hd
   ·
    rw [hq] at hd;cases hd
    have htake:L.take (j+1)=L.take j++[k]:=by refine rwE List.take_succ (rwE hq ?_);rfl
    refine ⟨_,ck_bind,_,_,ck_body,maxI m [(k.i:Int)+1],_,.inr ?_,rfl⟩
    rcases hm with ⟨rfl,rfl⟩ | ⟨K,rfl,hK⟩
    ·refine ⟨k,?_,?_⟩
     ·show (if (0:Int) < (k.i:Int)+1 then (k.i:Int)+1 else 0)=_
      refine rwE (if_pos (by exact Int.succ_ofNat_pos k.i)) rfl
     ·refine rwE htake ?_;exact ⟨by simp,by simp⟩
    ·by_cases hlt:K.i < k.i
     ·refine ⟨k,?_,?_⟩
      ·show (if (K.i:Int)+1 < (k.i:Int)+1 then (k.i:Int)+1 else (K.i:Int)+1)=_
       refine rwE (if_pos (by omega)) rfl
      ·refine rwE htake ?_
       refine ⟨by simp,fun x hx=>?_⟩
       rcases List.mem_append.mp hx with hx | hx
       ·have:=hK.2 x hx;omega
       ·refine rwE (List.mem_singleton.mp hx) ?_;exact Nat.le_refl _
     ·refine ⟨K,?_,?_⟩
      ·show (if (K.i:Int)+1 < (k.i:Int)+1 then (k.i:Int)+1 else (K.i:Int)+1)=_
       refine rwE (if_neg (by omega)) rfl
      ·refine rwE htake ?_
       refine ⟨List.mem_append_left _ hK.1,fun x hx=>?_⟩
       rcases List.mem_append.mp hx with hx | hx
       ·exact hK.2 x hx
       ·refine rwE (List.mem_singleton.mp hx) ?_;exact Nat.le_of_not_lt hlt
  ·intro st ⟨m,c,hm,hst⟩
   subst hst
   rw [List.length_map,List.take_length] at hm
   rcases hm with ⟨h0,_⟩ | ⟨K,rfl,hK⟩
   ·exact absurd (List.length_eq_zero_iff.mp h0) hL
   ·exact X.ret ck_ret ⟨K,hK,rfl⟩
 obtain ⟨f,st,e,K,hK,rfl⟩:=hX
 exact ⟨K,hK,call_pure find_common_kind plain_common_kind rfl rfl (by kernel_rfl) (by kernel_rfl) ⟨_,_,e,rfl⟩⟩
noncomputable abbrev jkC:Cx:=⟨d_joined_kind.scope.names,true⟩
noncomputable def jkV(ps:List PV):Vars:=[("parts",some (.pv (.lst ps)))]
theorem jk_stmt{V:Vars}{L:List Prt}{q1 q2 q3 q4 p3:Pos}{i:Expr}{sc:Scope}{elt:Expr}(hL:L≠[])(hl:L.length≤1000)(hn:∀P∈L,P≠.nul)(hown:oNm sc=([".0","part"]:List Str))
  (c1:(!(jkC.lp&&scO jkC.names sc&&compOk sc (V)))=false) (c2:(isSetE i||!ownT sc (.Name "part" p3))=false)
  (hi:evP (run fnsP (n+57)) jkC i ⟨V,[]⟩=some (.lst (L.map Prt.pv),⟨V,[]⟩))
  (hb:∀d a,bindT (rlN jkC.names sc.names) (.Name "part" p3) d ⟨(".0",none)::("part",a)::V,[]⟩=some ⟨(".0",none)::("part",some (.pv d))::V,[]⟩)
  (he:∀(k:Kd) its at_,evP (run fnsP (n+57)) ⟨rlN jkC.names sc.names,true⟩ elt ⟨(".0",none)::("part",some (.pv (vecPV k.s its at_)))::V,[]⟩=some (.str k.s,⟨(".0",none)::("part",some (.pv (vecPV k.s its at_)))::V,[]⟩))
  (h1:evName fnsP jkC "common_kind" ⟨V,[]⟩=some (.pv (.glb "common_kind"),⟨V,[]⟩)) :
  ∃K,isMax (L.map Prt.kd) K∧(run fnsP (n+59)).ex jkC (.Return (some (.Call (.Name "common_kind" q1) [.ListComp elt [⟨.Name "part" p3,i,[],0⟩] sc q2] [] q3)) q4) ⟨V,[]⟩=some (.ret (.str K.s),⟨V,[]⟩):=by
 obtain ⟨K,hK,hc⟩:=ck_ok (n:=n+8) (L:=L.map Prt.kd) (cells:=[]) (by simpa using hL) (by rw [List.length_map];exact String.Pos.Raw.mk_le_mk.mp hl)
 refine ⟨K,hK,?_⟩
 have e1:(("common_kind" : Str)==("_law_named" : Str))=false:=by kernel_rfl
 have t1:evComp (run fnsP (n+57)) jkC elt [⟨.Name "part" p3,i,[],0⟩] sc ⟨V,[]⟩=some (.pv (.lst ((L.map Prt.pv).map kindF)),⟨V,[]⟩) :=
  comp_one hown c1 c2 hi (items_lst (by rw [List.length_map];exact String.Pos.Raw.mk_le_mk.mp hl)) (by rw [List.length_map];exact String.Pos.Raw.mk_le_mk.mp hl) hb fun d hd=>by
   refine xE12 (List.mem_map.mp hd) fun P hP e_2=>?_;refine Bc.rwB e_2 ?_
   refine xE21 (pv_vec (hn P hP)) fun its at_ e=>?_
   refine rwE e ?_;exact he _ _ _
 have t2:(L.map Prt.pv).map kindF=(L.map Prt.kd).map fun k=>.str k.s:=by
  refine rwE List.map_map (rwE List.map_map ?_)
  refine List.map_congr_left fun P hP=>?_
  refine xE21 (pv_vec (hn P hP)) fun its at_ e=>?_
  show kindF P.pv=_
  refine rwE e ?_;rfl
 rw [t2] at t1
 exact ex_ret (n:=n+58) (c:=.pv (.str K.s)) (st1:=⟨V,[]⟩) (evR_call (fun z_ z_ z_ z=>nomatch z) (evCall_fn (n:=n+57) (st1:=⟨V,[]⟩) rfl h1 rfl (by kernel_rfl) (by refine rwE e1 ?_;exact eAc (evArg_P rfl (evP_of rfl (ev_lc t1))) rfl) hc)) rfl rfl
theorem jk_bd:d_joined_kind.body=[sAt d_joined_kind 0]:=by kernel_rfl
theorem jk_0{L:List Prt}(hL:L≠[])(hl:L.length≤1000)(hn:∀P∈L,P≠.nul):∃K,isMax (L.map Prt.kd) K∧(run fnsP (n+59)).ex jkC (sAt d_joined_kind 0) ⟨jkV (L.map Prt.pv),[]⟩=some (.ret (.str K.s),⟨jkV (L.map Prt.pv),[]⟩):=by
 conv=>rhs;intro K;rhs;lhs;arg 3;whnf
 refine jk_stmt hL hl hn ?_ ?_ ?_ ?_ ?_ ?_ ?_
 all_goals (intros;kernel_rfl)
theorem jk_ok{L:List Prt}{cells:List MO}(hL:L≠[])(hl:L.length≤1000)(hn:∀P∈L,P≠.nul) :
  ∃K,isMax (L.map Prt.kd) K∧(run fnsP (n+60)).call "joined_kind" [.pv (.lst (L.map Prt.pv))] cells=some (.ok (.pv (.str K.s)),cells):=by
 refine xE12 (jk_0 (n:=n) hL hl hn) fun K hK e=>?_
 refine ⟨K,hK,call_pure (vars0:=jkV (L.map Prt.pv)) find_joined_kind plain_joined_kind rfl rfl (by kernel_rfl) (by kernel_rfl) ?_⟩
 refine rwE jk_bd ?_
 exact X.ret e rfl
end Bc
set_option tactic.hygienic true
namespace Bc
noncomputable def tab(m:Nat)(g:Nat→PV):List PV:=(List.range m).map g
theorem tab_of(l:List PV):l=tab l.length (fun i=>l.getD i .none):=by
 refine List.ext_getElem (by simp [tab]) fun i h1 h2=>?_
 simp [tab,h1]
noncomputable def colsM(r c:Nat)(g:Nat→PV):List PV:=(List.range c).map fun j=>.lst ((List.range r).map fun i=>g (i+j * r))
noncomputable def rowsM(r c:Nat)(g:Nat→PV):List PV:=(List.range r).map fun i=>.lst ((List.range c).map fun j=>g (i+j * r))
noncomputable def colsV(m E:Nat)(g:Nat→PV):List PV:=[.lst ((List.range E).map fun i=>g (i % m))]
variable{n:Nat}{cells:List MO}
theorem colsM_ok{k:Kd}{r c E:Nat}{g:Nat→PV}{D:Option PV}(hr:small3 r)(hc:small3 c):(run fnsP (n+40)).call "part_columns" [.pv (vecPV k.s (tab (r * c) g) (atO r c D)),.pv (natV E)] cells=some (.ok (.pv (.lst (colsM r c g))),cells):=by
 apply oQ D;apply sQ hc;apply sQ hr;kernel_rfl
theorem colsV_ok{k:Kd}{m E:Nat}{g:Nat→PV}{q:Bool}(hm:small3 m)(hE:small3 E)(hz:0 < m∨E=0):(run fnsP (n+40)).call "part_columns" [.pv (vecPV k.s (tab m g) (atV m q)),.pv (natV E)] cells=some (.ok (.pv (.lst (colsV m E g))),cells):=by
 refine gQ (decide_eq_true hz) ?_;apply sQ hm;apply sQ hE;apply bQ q;kernel_rfl
theorem linesM_ok{k:Kd}{r c E:Nat}{g:Nat→PV}{at_:PV}{across:Bool}(hr:small3 r)(hc:small3 c):(run fnsP (n+40)).call "_law_lines" [.pv (vecPV k.s (tab (r * c) g) at_),.pv (.lst [.int r,.int c]),.pv (natV E),.pv (.bool across)] cells=some (.ok (.pv (.lst (bif across then rowsM r c g else colsM r c g))),cells):=by
 apply bQ across;apply sQ hc;apply sQ hr;kernel_rfl
theorem linesV_ok{k:Kd}{m E:Nat}{g:Nat→PV}{at_:PV}{across:Bool}(hm:small3 m)(hE:small3 E)(hz:0 < m∨E=0):(run fnsP (n+40)).call "_law_lines" [.pv (vecPV k.s (tab m g) at_),.pv .none,.pv (natV E),.pv (.bool across)] cells=some (.ok (.pv (.lst (colsV m E g))),cells):=by
 refine gQ (decide_eq_true hz) ?_;apply sQ hm;apply sQ hE;apply bQ across;kernel_rfl
end Bc
set_option tactic.hygienic false
namespace Bc
variable{n:Nat}{cells:List MO}
noncomputable def nameV:Option Str→PV
 |none=>.none
 |some s=>.str s
noncomputable def headV:Option Str→PV
 |none=>.str ""
 |some s=>.str s
noncomputable def headsP:Prt→Option Str→List PV
 | .mat _ _ c _ _ b2,_=>if b2 then pqrN c else (List.range c).map fun _=>.str ""
 |_,nm=>[headV nm]
theorem heads_m{k:Kd}{r c:Nat}{its:List PV}{b1 b2:Bool}{nm:PV}(hc:small3 c)(h2:b2=true→0 < c):(run fnsP (n+40)).call "part_heads" [.pv (mtPV k its r c b1 b2),.pv nm] cells=some (.ok (.pv (.lst (if b2 then pqrN c else (List.range c).map fun _=>.str ""))),cells):=by
 refine gQ (impB h2) ?_;apply sQ hc;apply bQ b1;apply bQ b2;kernel_rfl
theorem heads_v{k:Kd}{m:Nat}{its:List PV}{q:Bool}{nm:Option Str}:(run fnsP (n+40)).call "part_heads" [.pv (vecPV k.s its (atV m q)),.pv (nameV nm)] cells=some (.ok (.pv (.lst [headV nm])),cells):=by
 apply oQ nm;apply bQ q;kernel_rfl
theorem heads_ok{P:Prt}{nm:Option Str}(hP:P.okG)(hn:P≠.nul):(run fnsP (n+40)).call "part_heads" [.pv P.pv,.pv (nameV nm)] cells=some (.ok (.pv (.lst (headsP P nm))),cells):=by
 rcases okG_pv (P:=P) with rfl | ⟨k,m,its,q,rfl⟩ | ⟨k,rr,cc,its,b1,b2,rfl⟩
 ·exact absurd rfl hn
 ·exact heads_v
 ·exact heads_m hP.2.1 hP.2.2.2.2.2
noncomputable def turnG(r c:Nat)(g:Nat→PV):Nat→PV:=fun i=>g (i % c * r+i / c)
noncomputable def turn:Prt→Prt
 | .mat k r c its b1 b2=>.mat k c r (tab (c * r) (turnG r c fun i=>its.getD i .none)) b2 b1
 |P=>P
theorem trans_m{k:Kd}{r c:Nat}{g:Nat→PV}{b1 b2:Bool}(hr:small3 r)(hc:c=0∨c=1∨c=2)(h1:b1=true→0 < r)(h2:b2=true→0 < c) :
  (run fnsP (n+60)).call "transpose" [.pv (mtPV k (tab (r * c) g) r c b1 b2)] cells=some (.ok (.pv (mtPV k (tab (c * r) (turnG r c g)) c r b2 b1)),cells):=by
 refine gQ (andB (impB h1) (impB h2)) ?_;apply sQ hr;apply s2Q hc;apply bQ b1;apply bQ b2;kernel_rfl
end Bc
namespace Bc
noncomputable def sideP:Prt→Option (List PV)
 | .nul=>none
 | .vec _ m _ q=>if q then some (abcN m) else none
 | .mat _ r _ _ b1 _=>if b1 then some (pqrN r) else none
noncomputable def optV:Option (List PV)→PV
 |none=>.none
 |some l=>.lst l
noncomputable def fitsP(E:Nat)(P:Prt):Bool:=match sideP P with
 |none=>false
 |some l=>decide (l.length=E)
noncomputable abbrev brC:Cx:=⟨dBN.scope.names,true⟩
noncomputable def brV(pvs kp:List PV)(E:Nat)(a b c:Option AV):Vars:=[("parts",some (.pv (.lst pvs))),("kept",some (.pv (.lst kp))),("extent",iA E),("place",a),("part",b),("names",c)]
noncomputable def brB(i:Nat):Stmt:=(forBody (sAt dBN 0)).getD i default
theorem br_bd:dBN.body=[sAt dBN 0,sAt dBN 1]:=by kernel_rfl
theorem br_for:sAt dBN 0=.For (forT (sAt dBN 0)) (forI (sAt dBN 0)) (forBody (sAt dBN 0)) [] (forPos (sAt dBN 0)):=by kernel_rfl
theorem br_bb:forBody (sAt dBN 0)=[brB 0,brB 1,brB 2]:=by kernel_rfl
variable{n i E:Nat}{pvs kp:List PV}{a b c:Option AV}{h:List MO}
theorem br_0{d:PV}(hd:pvs[i]? = some d)(hi:i < 4):(run fnsP (n+48)).ex brC (brB 0) ⟨brV pvs kp E (iA i) b c,h⟩=some (.next,⟨brV pvs kp E (iA i) (some (.pv d)) c,h⟩):=by
 conv=>lhs;arg 3;whnf
 refine ex_asg (rs:=.pv d) (st1:=⟨brV pvs kp E (iA i) b c,h⟩) ?_ ?_ (evR_of ?_ (ev_sub' (a:=.lst pvs) (b:=.int i) (st1:=⟨brV pvs kp E (iA i) b c,h⟩) ?_ ?_ ?_ (nth_pv hd (by omega)))) ?_
 all_goals kernel_rfl
theorem br_1{P:Prt}(hn:P≠.nul):(run fnsP (n+48)).ex brC (brB 1) ⟨brV pvs kp E a (some (.pv P.pv)) c,h⟩=some (.next,⟨brV pvs kp E a (some (.pv P.pv)) (some (.pv (optV (sideP P)))),h⟩):=by
 rcases okG_pv (P:=P) with rfl | ⟨k,m,its,q,rfl⟩ | ⟨k,rr,cc,its,b1,b2,rfl⟩
 ·exact absurd rfl hn
 ·apply bQ q;kernel_rfl
 ·apply bQ b1;apply bQ b2;kernel_rfl
theorem side_len{P:Prt}(hP:P.okG){l:List PV}(h:sideP P=some l):l.length≤3:=by
 rcases okG_pv (P:=P) with rfl | ⟨k,m,its,q,rfl⟩ | ⟨k,rr,cc,its,b1,b2,rfl⟩
 ·cases h
 ·have h:(if q=true then some (abcN m) else none)=some l:=h
  split at h
  ·cases h;simp [abcN];exact Nat.min_le_right m 3
  ·cases h
 ·have h:(if b1=true then some (pqrN rr) else none)=some l:=h
  split at h
  ·cases h;simp [pqrN];exact Nat.min_le_right rr 3
  ·cases h
theorem br_2{P:Prt}(hP:P.okG)(hE:small3 E):(run fnsP (n+48)).ex brC (brB 2) ⟨brV pvs kp E a b (some (.pv (optV (sideP P)))),h⟩=some (match fitsP E P with | true=>.ret (optV (sideP P)) | false=>.next,⟨brV pvs kp E a b (some (.pv (optV (sideP P)))),h⟩):=by
 unfold fitsP
 cases hs:sideP P with
 |none=>kernel_rfl
 |some l =>
  apply sQ hE;apply lQ (side_len hP hs);kernel_rfl
theorem br_it:evP (run fnsP (n+48)) brC (forI (sAt dBN 0)) ⟨brV pvs kp E a b c,h⟩=some (.lst kp,⟨brV pvs kp E a b c,h⟩):=by kernel_rfl
theorem br_bind{d:PV}:bindT brC.names (forT (sAt dBN 0)) d ⟨brV pvs kp E a b c,h⟩=some ⟨brV pvs kp E (some (.pv d)) b c,h⟩:=by kernel_rfl
theorem br_none:(run fnsP (n+49)).ex brC (sAt dBN 1) ⟨brV pvs kp E a b c,h⟩=some (.ret .none,⟨brV pvs kp E a b c,h⟩):=by kernel_rfl
noncomputable def rowsQ(E:Nat)(Q:List Prt):Option (List PV):=match Q.find? (fitsP E) with
 |none=>none
 |some P=>sideP P
inductive brI(Ps:List Prt)(Q:List (Nat × Prt))(E:Nat)(j:Nat)(st:St):Prop
 |mk (a b c:Option AV):(∀x∈Q.take j,fitsP E x.2=false)→st=⟨brV (Ps.map Prt.pv) (Q.map fun x=>natV x.1) E a b c,[]⟩→brI Ps Q E j st
theorem br_ok{Ps:List Prt}{Q:List (Nat × Prt)}{cells:List MO}(hlen:Ps.length≤4)(hQl:Q.length≤4)(hQ:∀x∈Q,Ps[x.1]? = some x.2)(hn:∀x∈Q,x.2≠.nul)(ho:∀P∈Ps,Prt.okG P)(hE:small3 E) :
  (run fnsP (n+50)).call "bound_row_names" [.pv (.lst (Ps.map Prt.pv)),.pv (.lst (Q.map fun x=>natV x.1)),.pv (natV E)] cells=some (.ok (.pv (optV (rowsQ E (Q.map (·.2))))),cells):=by
 refine call_pure (vars0:=brV (Ps.map Prt.pv) (Q.map fun x=>natV x.1) E none none none) find_bound_row_names plain_bound_row_names rfl rfl (by kernel_rfl) (by kernel_rfl) ?_
 refine rwE br_bd ?_
 refine forN (n:=n+48) (brI Ps Q E) br_for (by kernel_rfl) br_it (ds:=Q.map fun x=>natV x.1) (items_lst (by rw [List.length_map];omega)) ⟨none,none,none,by simp,rfl⟩ ?_ ?_
 ·intro j d st hd ⟨a,b,c,hall,hst⟩
  refine Bc.rwE hst ?_
  rw [List.getElem?_map] at hd
  refine Bc.optE (Q[j]?) (fun hq=>?_) fun x hq=>?_
  ·rw [hq] at hd;cases hd
  ·
   rw [hq] at hd;cases hd
   have hj:j < Q.length:=(List.getElem?_eq_some_iff.mp hq).1
   have hmem:x∈Q:=List.mem_of_getElem? hq
   have hx:=hQ x hmem
   have hi:x.1 < Ps.length:=(List.getElem?_eq_some_iff.mp hx).1
   have hoi:=ho _ (List.mem_of_getElem? hx)
   have htake:Q.take (j+1)=Q.take j++[x]:=by refine rwE List.take_succ (rwE hq ?_);rfl
   refine ⟨_,br_bind,?_⟩
   refine rwE br_bb ?_
   have hget:(Ps.map Prt.pv)[x.1]? = some (x.2.pv):=by rw [List.getElem?_map,hx];rfl
   refine X.step (br_0 hget (by exact Nat.lt_of_lt_of_le hi hlen)) (X.step (br_1 (hn x hmem)) ?_)
   have h2:=br_2 (n:=n) (E:=E) (pvs:=Ps.map Prt.pv) (kp:=Q.map fun x=>natV x.1) (a:=some (.pv (natV x.1))) (b:=some (.pv x.2.pv)) (h:=[]) hoi hE
   cases hf:fitsP E x.2 with
   |true =>
    rw [hf] at h2
    refine X.ret h2 ?_
    have hQe:Q=Q.take j++x::Q.drop (j+1):=by
     have hx':Q[j]=x:=(List.getElem?_eq_some_iff.mp hq).2
     have hdrop:Q.drop j=x::Q.drop (j+1):=by refine rwE (List.drop_eq_getElem_cons hj) (rwE hx' rfl)
     rw [← hdrop,List.take_append_drop]
    have:rowsQ E (Q.map (·.2))=sideP x.2:=by
     unfold rowsQ
     refine rwE hQe (rwE List.map_append (rwE (List.find?_append) (rwE List.map_cons (rwE (List.find?_cons_of_pos hf) ?_))))
     have hnone:(List.map (·.2) (Q.take j)).find? (fitsP E)=none:=by
      rw [List.find?_eq_none]
      intro y hy
      refine xE12 (List.mem_map.mp hy) fun z hz e_2=>?_;refine Bc.rwB e_2 ?_
      refine rwE (hall z hz) ?_;simp
     refine rwE hnone ?_;rfl
    refine rwE this rfl
   |false =>
    rw [hf] at h2
    refine X.step h2 (X.nil ⟨_,_,_,fun y hy=>?_,rfl⟩)
    rw [htake] at hy
    rcases List.mem_append.mp hy with hy | hy
    ·exact hall y hy
    ·refine rwE (List.mem_singleton.mp hy) ?_;exact hf
 ·intro st ⟨a,b,c,hall,hst⟩
  refine Bc.rwE hst ?_
  rw [List.length_map,List.take_length] at hall
  refine X.ret br_none ?_
  have:rowsQ E (Q.map (·.2))=none:=by
   unfold rowsQ
   have hnone:(List.map (·.2) Q).find? (fitsP E)=none:=by
    rw [List.find?_eq_none]
    intro y hy
    refine xE12 (List.mem_map.mp hy) fun z hz e_2=>?_;refine Bc.rwB e_2 ?_
    refine rwE (hall z hz) ?_;simp
   refine rwE hnone rfl
  refine rwE this ?_;rfl
end Bc
namespace Bc
noncomputable abbrev bbC:Cx:=⟨d_bind_by.scope.names,true⟩
noncomputable def bbV(ps ns:List PV)(w:Str)(E:Nat)(kp:List PV)(K:Kd)(cnt:Int)(pl pa co:Option AV):Vars:=[("parts",some (.pv (.lst ps))),("names",some (.pv (.lst ns))),("word",some (.pv (.str w))),("notes",some (.cell 0)),("extent",iA E),("kept",some (.pv (.lst kp))),("place",pl),("kind",sA K),("items",some (.cell 1)),("heads",some (.cell 2)),("count",iA cnt),("part",pa),("column",co),("named",none),("row_names",none)]
noncomputable def bbS(i:Nat):Stmt:=sAt d_bind_by i
noncomputable def bbB(i:Nat):Stmt:=(forBody (bbS 8)).getD i default
noncomputable def bbI(i:Nat):Stmt:=(forBody (bbB 1)).getD i default
theorem bb_bd:d_bind_by.body=[bbS 0,bbS 1,bbS 2,bbS 3,bbS 4,bbS 5,bbS 6,bbS 7,bbS 8,bbS 9,bbS 10,bbS 11]:=by kernel_rfl
theorem bb_for:bbS 8=.For (forT (bbS 8)) (forI (bbS 8)) (forBody (bbS 8)) [] (forPos (bbS 8)):=by kernel_rfl
theorem bb_bb:forBody (bbS 8)=[bbB 0,bbB 1,bbB 2]:=by kernel_rfl
theorem bb_ifor:bbB 1=.For (forT (bbB 1)) (forI (bbB 1)) (forBody (bbB 1)) [] (forPos (bbB 1)):=by kernel_rfl
theorem bb_ib:forBody (bbB 1)=[bbI 0,bbI 1]:=by kernel_rfl
variable{n i E:Nat}{ps ns kp:List PV}{w:Str}{K k:Kd}{cnt:Int}{pl pa co:Option AV}{h:List MO}{no:MO}
theorem bb_0{d:PV}(hd:ps[i]? = some d)(hi:i < 4):(run fnsP (n+184)).ex bbC (bbB 0) ⟨bbV ps ns w E kp K cnt (iA i) pa co,h⟩=some (.next,⟨bbV ps ns w E kp K cnt (iA i) (some (.pv d)) co,h⟩):=by
 conv=>lhs;arg 3;whnf
 refine ex_asg (rs:=.pv d) (st1:=⟨bbV ps ns w E kp K cnt (iA i) pa co,h⟩) ?_ ?_ (evR_of ?_ (ev_sub' (a:=.lst ps) (b:=.int i) (st1:=⟨bbV ps ns w E kp K cnt (iA i) pa co,h⟩) ?_ ?_ ?_ (nth_pv hd (by omega)))) ?_
 all_goals kernel_rfl
theorem bb_i0{its:List PV}{at_:PV}{l acc:List PV}{hd:MO}(hk:k.i≤K.i)(hl:l.length≤3)(ho:∀x∈l,OkIt k x)(ha:acc.length≤1000) :
  (run fnsP (n+183)).ex bbC (bbI 0) ⟨bbV ps ns w E kp K cnt pl (some (.pv (vecPV k.s its at_))) (some (.pv (.lst l))),[no,.lst acc,hd]⟩=some (.next,⟨bbV ps ns w E kp K cnt pl (some (.pv (vecPV k.s its at_))) (some (.pv (.lst l))),[no,.lst (acc++l.map (cv k K)),hd]⟩):=by
 have e1:(("column_as" : Str)==("_law_named" : Str))=false:=by kernel_rfl
 conv=>lhs;arg 3;whnf
 refine ex_meth (k:=1) (ds:=[.lst (l.map (cv k K))]) (ob:=.lst acc) (ob':=.lst (acc++l.map (cv k K))) (st1:=⟨bbV ps ns w E kp K cnt pl (some (.pv (vecPV k.s its at_))) (some (.pv (.lst l))),[no,.lst acc,hd]⟩) (st2:=⟨bbV ps ns w E kp K cnt pl (some (.pv (vecPV k.s its at_))) (some (.pv (.lst l))),[no,.lst acc,hd]⟩) ?_ ?_ ?_ ?_ ?_
  (evPs_cons (evP_of ?_ (ev_fn (c:=.pv (.lst (l.map (cv k K)))) (as:=[.pv (.lst l),.pv (.str k.s),.pv (.str K.s)]) (st1:=⟨bbV ps ns w E kp K cnt pl (some (.pv (vecPV k.s its at_))) (some (.pv (.lst l))),[no,.lst acc,hd]⟩) ?_ ?_ ?_ ?_ ?_ (column_as_ok (n:=n) hk hl ho))) rfl) ?_ ?_ ?_
 case refine_13 =>
  exact ext_lst ha (by rw [List.length_map];omega)
 all_goals kernel_rfl
theorem bb_i1:(run fnsP (n+183)).ex bbC (bbI 1) ⟨bbV ps ns w E kp K cnt pl pa co,h⟩=some (.next,⟨bbV ps ns w E kp K (cnt+1) pl pa co,h⟩):=by kernel_rfl
theorem bb_ibind{d:PV}:bindT bbC.names (forT (bbB 1)) d ⟨bbV ps ns w E kp K cnt pl pa co,h⟩=some ⟨bbV ps ns w E kp K cnt pl pa (some (.pv d)),h⟩:=by kernel_rfl
theorem bb_bind{d:PV}:bindT bbC.names (forT (bbS 8)) d ⟨bbV ps ns w E kp K cnt pl pa co,h⟩=some ⟨bbV ps ns w E kp K cnt (some (.pv d)) pa co,h⟩:=by kernel_rfl
theorem bb_it:evP (run fnsP (n+184)) bbC (forI (bbS 8)) ⟨bbV ps ns w E kp K cnt pl pa co,h⟩=some (.lst kp,⟨bbV ps ns w E kp K cnt pl pa co,h⟩):=by kernel_rfl
theorem bb_iit{P:PV}{cols:List PV}(hc:∀m,(run fnsP (m+40)).call "part_columns" [.pv P,.pv (natV E)] h=some (.ok (.pv (.lst cols)),h)):evP (run fnsP (n+183)) bbC (forI (bbB 1)) ⟨bbV ps ns w E kp K cnt pl (some (.pv P)) co,h⟩=some (.lst cols,⟨bbV ps ns w E kp K cnt pl (some (.pv P)) co,h⟩):=by
 have e1:(("part_columns" : Str)==("_law_named" : Str))=false:=by kernel_rfl
 conv=>lhs;arg 3;whnf
 refine evP_of ?_ (ev_fn (c:=.pv (.lst cols)) (as:=[.pv P,.pv (natV E)]) (st1:=⟨bbV ps ns w E kp K cnt pl (some (.pv P)) co,h⟩) ?_ ?_ ?_ ?_ ?_ (hc (n+142)))
 all_goals kernel_rfl
theorem bb_2{P:Prt}{nm:Option Str}{acc:List PV}{it:MO}(hP:P.okG)(hn:P≠.nul)(hi:i < 4)(hg:ns[i]? = some (nameV nm))(ha:acc.length≤1000)(hh:(headsP P nm).length≤1000) :
  (run fnsP (n+184)).ex bbC (bbB 2) ⟨bbV ps ns w E kp K cnt (iA i) (some (.pv P.pv)) co,[no,it,.lst acc]⟩=some (.next,⟨bbV ps ns w E kp K cnt (iA i) (some (.pv P.pv)) co,[no,it,.lst (acc++headsP P nm)]⟩):=by
 have e1:(("part_heads" : Str)==("_law_named" : Str))=false:=by kernel_rfl
 conv=>lhs;arg 3;whnf
 refine ex_meth (k:=2) (ds:=[.lst (headsP P nm)]) (ob:=.lst acc) (ob':=.lst (acc++headsP P nm)) (st1:=⟨bbV ps ns w E kp K cnt (iA i) (some (.pv P.pv)) co,[no,it,.lst acc]⟩) (st2:=⟨bbV ps ns w E kp K cnt (iA i) (some (.pv P.pv)) co,[no,it,.lst acc]⟩) ?_ ?_ ?_ ?_ ?_
  (evPs_cons (evP_of ?_ (ev_fn (c:=.pv (.lst (headsP P nm))) (as:=[.pv P.pv,.pv (nameV nm)]) (st1:=⟨bbV ps ns w E kp K cnt (iA i) (some (.pv P.pv)) co,[no,it,.lst acc]⟩) ?_ ?_ ?_ ?_ (by refine rwE e1 ?_;exact eAc (st1:=⟨bbV ps ns w E kp K cnt (iA i) (some (.pv P.pv)) co,[no,it,.lst acc]⟩) (by kernel_rfl) (eAc (evArg_P (by kernel_rfl) (evP_of (by kernel_rfl) (ev_sub' (a:=.lst ns) (b:=.int i) (st1:=⟨bbV ps ns w E kp K cnt (iA i) (some (.pv P.pv)) co,[no,it,.lst acc]⟩) (by kernel_rfl) (by kernel_rfl) (by kernel_rfl) (nth_pv hg (by omega))))) rfl)) (heads_ok (n:=n+141) hP hn))) rfl) ?_ ?_ ?_
 case refine_12 =>
  exact ext_lst ha (hh)
 all_goals kernel_rfl
end Bc
namespace Bc
noncomputable def colsL(E:Nat):Prt→List (List PV)
 | .nul=>[]
 | .vec _ _ its _=>[(List.range E).map fun i=>its.getD (i % its.length) .none]
 | .mat _ r c its _ _=>(List.range c).map fun j=>(List.range r).map fun i=>its.getD (i+j * r) .none
noncomputable def inP(E:Nat):Prt→Prop
 | .nul=>False
 | .vec _ _ its _=>0 < its.length∨E=0
 | .mat _ r _ _ _ _=>r=E
theorem cols_ok{E:Nat}{P:Prt}(hP:P.okG)(hi:inP E P)(hE:small3 E)(m:Nat)(h:List MO):(run fnsP (m+40)).call "part_columns" [.pv P.pv,.pv (natV E)] h=some (.ok (.pv (.lst ((colsL E P).map PV.lst))),h):=by
 rcases okG_pv (P:=P) with rfl | ⟨k,q,its,b,rfl⟩ | ⟨k,r,c,its,b1,b2,rfl⟩
 ·cases hi
 ·have hm:small3 its.length:=by refine rwE hP.2.1 ?_;exact hP.1
  have e:=colsV_ok (n:=m) (cells:=h) (k:=k) (m:=its.length) (E:=E) (g:=fun i=>its.getD i .none) (q:=b) hm hE hi
  rw [← tab_of,hP.2.1] at e
  refine rwE (show (Prt.vec k q its b).pv=vecPV k.s its (atV q b) from rfl) (rwE e ?_)
  show _=some (Rs.ok (.pv (.lst ([(List.range E).map fun i=>its.getD (i % its.length) .none].map PV.lst))),h)
  rw [hP.2.1];rfl
 ·have e:=colsM_ok (n:=m) (cells:=h) (k:=k) (r:=r) (c:=c) (E:=E) (g:=fun i=>its.getD i .none) (D:=dnO r c b1 b2) hP.1 hP.2.1
  have ht:tab (r * c) (fun i=>its.getD i .none)=its:=by rw [← hP.2.2.1,← tab_of]
  rw [ht] at e
  refine rwE (show (Prt.mat k r c its b1 b2).pv=vecPV k.s its (atO r c (dnO r c b1 b2)) from mt_O) (rwE e ?_)
  unfold colsM colsL
  refine rwE List.map_map ?_;rfl
theorem getD_ok{k:Kd}{its:List PV}(h:∀x∈its,OkIt k x)(i:Nat):OkIt k (its.getD i .none):=by
 refine rwE (List.getD_eq_getElem?_getD) ?_
 cases e:its[i]? with
 |none=>exact .inl rfl
 |some x=>exact h x (List.mem_of_getElem? e)
theorem cols_len{E:Nat}{P:Prt}(hi:inP E P)(hE:small3 E):∀l∈colsL E P,l.length=E:=by
 rcases okG_pv (P:=P) with rfl | ⟨k,q,its,b,rfl⟩ | ⟨k,r,c,its,b1,b2,rfl⟩
 ·cases hi
 ·intro l hl;refine rwE (List.mem_singleton.mp hl) ?_;simp
 ·intro l hl
  refine xE12 (List.mem_map.mp hl) fun j z_ e_2=>?_;refine Bc.rwB e_2 ?_
  have:r=E:=hi
  simp [this]
theorem cols_it{E:Nat}{P:Prt}(hP:P.okG):∀l∈colsL E P,∀x∈l,OkIt P.kd x:=by
 rcases okG_pv (P:=P) with rfl | ⟨k,q,its,b,rfl⟩ | ⟨k,r,c,its,b1,b2,rfl⟩
 ·intro l hl;cases hl
 ·intro l hl x hx
  rw [List.mem_singleton.mp hl] at hx
  refine xE12 (List.mem_map.mp hx) fun i z_ e_2=>?_;refine Bc.rwB e_2 ?_
  exact getD_ok hP.2.2 _
 ·intro l hl x hx
  refine xE12 (List.mem_map.mp hl) fun j z_ e_2=>?_;subst e_2
  refine xE12 (List.mem_map.mp hx) fun i z_ e_2=>?_;refine Bc.rwB e_2 ?_
  exact getD_ok hP.2.2.2.1 _
theorem cols_cnt{E:Nat}{P:Prt}(hP:P.okG):(colsL E P).length≤3:=by
 rcases okG_pv (P:=P) with rfl | ⟨k,q,its,b,rfl⟩ | ⟨k,r,c,its,b1,b2,rfl⟩
 ·simp [colsL]
 ·simp [colsL]
 ·have:=hP.2.1
  simp only [colsL,List.length_map,List.length_range]
  unfold small3 at this;exact small3_le this
theorem heads_len{E:Nat}{P:Prt}{nm:Option Str}(hP:P.okG)(hn:P≠.nul):(headsP P nm).length=(colsL E P).length:=by
 rcases okG_pv (P:=P) with rfl | ⟨k,q,its,b,rfl⟩ | ⟨k,r,c,its,b1,b2,rfl⟩
 ·exact absurd rfl hn
 ·rfl
 ·have:=hP.2.1
  unfold small3 at this
  cases b2
  ·simp [headsP,colsL]
  ·simp [headsP,colsL,pqrN];omega
noncomputable def itsP(E:Nat)(K:Kd)(P:Prt):List PV:=(colsL E P).flatMap fun l=>l.map (cv P.kd K)
variable{n i E:Nat}{ps ns kp:List PV}{w:Str}{K k:Kd}{cnt:Int}{pl pa co:Option AV}{h:List MO}{no:MO}
theorem flat_len{f:PV→PV}:∀{L:List (List PV)},(∀l∈L,l.length=E)→(L.flatMap fun l=>l.map f).length=L.length * E
 |[],_=>by simp
 |l::L,h=>by
  rw [List.flatMap_cons,List.length_append,List.length_map,h l List.mem_cons_self,flat_len (fun l hl=>h l (List.mem_cons_of_mem _ hl)),List.length_cons,Nat.add_mul,Nat.one_mul,Nat.add_comm]
inductive bbiI(ps ns:List PV)(w:Str)(E:Nat)(kp:List PV)(K:Kd)(cnt:Int)(i:Nat)(P:Prt)(no:MO)(acc hs:List PV)(j:Nat)(st:St):Prop
 |mk (co:Option AV):st=⟨bbV ps ns w E kp K (cnt+(j:Int)) (iA i) (some (.pv P.pv)) co,[no,.lst (acc++((colsL E P).take j).flatMap fun l=>l.map (cv P.kd K)),.lst hs]⟩→bbiI ps ns w E kp K cnt i P no acc hs j st
theorem bb_part{P:Prt}{nm:Option Str}{acc hs:List PV}{φ:Fl→St→Prop}(hP:P.okG)(hin:inP E P)(hn:P≠.nul)(hE:small3 E)(hK:P.kd.i≤K.i)(hi:i < 4)(hp:ps[i]? = some P.pv)(hg:ns[i]? = some (nameV nm))(ha:acc.length≤900)(hh:hs.length≤900)
  (kk:∀co',φ .next ⟨bbV ps ns w E kp K (cnt+((colsL E P).length:Int)) (iA i) (some (.pv P.pv)) co',[no,.lst (acc++itsP E K P),.lst (hs++headsP P nm)]⟩) :
  X (run fnsP (n+184)) bbC [bbB 0,bbB 1,bbB 2] ⟨bbV ps ns w E kp K cnt (iA i) pa co,[no,.lst acc,.lst hs]⟩ φ:=by
 refine xE21 (pv_vec hn) fun its at_ hpv=>?_
 refine X.step (bb_0 hp hi) ?_
 refine forN (n:=n+183) (bbiI ps ns w E kp K cnt i P no acc hs) bb_ifor (by kernel_rfl) (bb_iit (fun m=>cols_ok hP hin hE m _)) (ds:=(colsL E P).map PV.lst) (items_lst (by rw [List.length_map];have:=cols_cnt (E:=E) hP;omega)) ⟨co,by simp⟩ ?_ ?_
 ·intro j d st hd ⟨co,hst⟩
  refine Bc.rwE hst ?_
  rw [List.getElem?_map] at hd
  refine Bc.optE ((colsL E P)[j]?) (fun hq=>?_) fun l hq=>?_
  ·rw [hq] at hd;cases hd
  ·
   rw [hq] at hd;cases hd
   have hmem:l∈colsL E P:=List.mem_of_getElem? hq
   have htake:(colsL E P).take (j+1)=(colsL E P).take j++[l]:=by rw [List.take_succ,hq];rfl
   have hl:=cols_len hin hE l hmem
   have hlen:(((colsL E P).take j).flatMap fun l=>l.map (cv P.kd K)).length≤9:=by
    rw [flat_len (E:=E) (fun l hl=>cols_len hin hE l (List.mem_of_mem_take hl))]
    have h1:((colsL E P).take j).length≤3:=by rw [List.length_take];have:=cols_cnt (E:=E) hP;omega
    have h2:E≤3:=small3_le hE
    exact Nat.mul_le_mul h1 h2
   refine ⟨_,bb_ibind,?_⟩
   rw [bb_ib,hpv]
   refine X.step (bb_i0 hK (by rw [hl];exact small3_le hE) (cols_it hP l hmem) (by rw [List.length_append];omega)) (X.step bb_i1 (X.nil ⟨some (.pv (.lst l)),?_⟩))
   rw [hpv,htake,List.flatMap_append,List.flatMap_singleton,List.append_assoc,Int.add_assoc]
   rfl
 ·intro st ⟨co,hst⟩
  refine Bc.rwE hst ?_
  rw [List.length_map,List.take_length]
  exact X.step (bb_2 hP hn hi hg (by omega) (by rw [heads_len (E:=E) hP hn];have:=cols_cnt (E:=E) hP;omega)) (X.nil (kk _))
end Bc
namespace Bc
theorem flat_le{α β:Type}{f:α→List β}{c:Nat}:∀{l:List α},(∀x∈l,(f x).length≤c)→(l.flatMap f).length≤c * l.length
 |[],_=>by simp
 |x::l,h=>by
  rw [List.flatMap_cons,List.length_append,List.length_cons,Nat.mul_add,Nat.mul_one,Nat.add_comm]
  exact Nat.add_le_add (flat_le fun y hy=>h y (List.mem_cons_of_mem _ hy)) (h x List.mem_cons_self)
theorem itsP_len{E:Nat}{K:Kd}{P:Prt}(hP:P.okG)(hi:inP E P)(hE:small3 E):(itsP E K P).length≤9:=by
 unfold itsP
 rw [flat_len (E:=E) (cols_len hi hE)]
 have h2:E≤3:=small3_le hE
 exact Nat.mul_le_mul (cols_cnt hP) h2
variable{n E:Nat}{w:Str}{K:Kd}{no:MO}
noncomputable def itsQ(E:Nat)(K:Kd)(Q:List (Nat × Prt)):List PV:=Q.flatMap fun x=>itsP E K x.2
noncomputable def headsQ(nms:List (Option Str))(Q:List (Nat × Prt)):List PV:=Q.flatMap fun x=>headsP x.2 (nms.getD x.1 none)
noncomputable def colsQ(E:Nat)(Q:List (Nat × Prt)):List (List PV):=Q.flatMap fun x=>colsL E x.2
structure QOk(E:Nat)(Ps:List Prt)(Q:List (Nat × Prt)):Prop where
 at_:∀x∈Q,Ps[x.1]? = some x.2
 n:∀x∈Q,x.2≠.nul
 fit:∀x∈Q,inP E x.2
 len:Q.length≤4
inductive bblI(Ps:List Prt)(nms:List (Option Str))(w:Str)(E:Nat)(Q:List (Nat × Prt))(K:Kd)(no:MO)(j:Nat)(st:St):Prop
 |mk (pl pa co:Option AV):st=⟨bbV (Ps.map Prt.pv) (nms.map nameV) w E (Q.map fun x=>natV x.1) K ((colsQ E (Q.take j)).length:Int) pl pa co,[no,.lst (itsQ E K (Q.take j)),.lst (headsQ nms (Q.take j))]⟩→bblI Ps nms w E Q K no j st
theorem bb_loop{Ps:List Prt}{Q:List (Nat × Prt)}{nms:List (Option Str)}{rest:List Stmt}{φ:Fl→St→Prop}(hlen:Ps.length≤4)(ho:∀P∈Ps,Prt.okG P)(hQ:QOk E Ps Q)(hE:small3 E)(hnm:nms.length=Ps.length)(hK:∀x∈Q,x.2.kd.i≤K.i)
  (kk:∀pl pa co,X (run fnsP (n+186)) bbC rest ⟨bbV (Ps.map Prt.pv) (nms.map nameV) w E (Q.map fun x=>natV x.1) K ((colsQ E Q).length:Int) pl pa co,[no,.lst (itsQ E K Q),.lst (headsQ nms Q)]⟩ φ) :
  X (run fnsP (n+186)) bbC (bbS 8::rest) ⟨bbV (Ps.map Prt.pv) (nms.map nameV) w E (Q.map fun x=>natV x.1) K 0 none none none,[no,.lst [],.lst []]⟩ φ:=by
 refine forN (n:=n+185) (bblI Ps nms w E Q K no) bb_for (by kernel_rfl) (bb_it (n:=n+1)) (ds:=Q.map fun x=>natV x.1) (items_lst (by rw [List.length_map];have:=hQ.len;omega)) ⟨none,none,none,rfl⟩ ?_ ?_
 ·intro j d st hd ⟨pl,pa,co,hst⟩
  refine Bc.rwE hst ?_
  rw [List.getElem?_map] at hd
  refine Bc.optE (Q[j]?) (fun hq=>?_) fun x hq=>?_
  ·rw [hq] at hd;cases hd
  ·
   rw [hq] at hd;cases hd
   have hmem:x∈Q:=List.mem_of_getElem? hq
   have hx:=hQ.at_ x hmem
   have hi:x.1 < Ps.length:=(List.getElem?_eq_some_iff.mp hx).1
   have hoi:=ho _ (List.mem_of_getElem? hx)
   have htake:Q.take (j+1)=Q.take j++[x]:=by rw [List.take_succ,hq];rfl
   have hget:(Ps.map Prt.pv)[x.1]? = some (x.2.pv):=by rw [List.getElem?_map,hx];rfl
   have hnme:(nms.map nameV)[x.1]? = some (nameV (nms.getD x.1 none)):=by
    rw [List.getElem?_map,List.getD_eq_getElem?_getD,List.getElem?_eq_getElem (by exact Nat.lt_of_lt_of_eq hi (Eq.symm hnm))];rfl
   have okq:∀y∈Q.take j,y∈Q:=fun y hy=>List.mem_of_mem_take hy
   have l1:(itsQ E K (Q.take j)).length≤9 * (Q.take j).length:=flat_le fun y hy=>itsP_len (ho _ (List.mem_of_getElem? (hQ.at_ y (okq y hy)))) (hQ.fit y (okq y hy)) hE
   have l2:(headsQ nms (Q.take j)).length≤3 * (Q.take j).length:=flat_le fun y hy=>by
    have hy':=ho _ (List.mem_of_getElem? (hQ.at_ y (okq y hy)))
    refine rwE (heads_len (E:=E) hy' (hQ.n y (okq y hy))) ?_;exact cols_cnt hy'
   have l3:(Q.take j).length≤4:=by refine rwE List.length_take ?_;have:=hQ.len;omega
   refine ⟨_,bb_bind,?_⟩
   rw [bb_bb]
   refine bb_part (n:=n+1) hoi (hQ.fit x hmem) (hQ.n x hmem) hE (hK x hmem) (by exact Nat.lt_of_lt_of_le hi hlen) hget hnme (by omega) (by omega) fun co'=>⟨iA x.1,some (.pv x.2.pv),co',?_⟩
   rw [htake]
   unfold itsQ headsQ colsQ
   rw [List.flatMap_append,List.flatMap_append,List.flatMap_append,List.flatMap_singleton,List.flatMap_singleton,List.flatMap_singleton,List.length_append]
   rw [show ((((Q.take j).flatMap fun x=>colsL E x.2).length+(colsL E x.2).length:Nat):Int)=(((Q.take j).flatMap fun x=>colsL E x.2).length:Int)+((colsL E x.2).length:Int) from by exact Int.natCast_add (List.flatMap (fun x=>colsL E x.snd) (List.take j Q)).length (colsL E x.snd).length]
 ·intro st ⟨pl,pa,co,hst⟩
  refine Bc.rwE hst ?_
  rw [List.length_map,List.take_length]
  exact kk _ _ _
end Bc
namespace Bc
theorem ex_asgX{n:Nat}{cx:Cx}{x:Str}{v:Expr}{p p2:Pos}{st st1:St}{d:PV}(hs:sOk cx.names x st.vars=true)(hc:isCompE v=false)(h:evR (run fnsP n) cx v st=some (.exc d,st1)):(run fnsP (n+1)).ex cx (.Assign [.Name x p2] v p) st=some (.exc d,st1):=by
 exact asgN_eq hs hc (ob_eq h)
theorem ex_expr{n:Nat}{cx:Cx}{f:Expr}{args:List Expr}{p p2:Pos}{st st1:St}(h:evR (run fnsP n) cx (.Call f args [] p2) st=some (.ok (.pv .none),st1)):(run fnsP (n+1)).ex cx (.Expr (.Call f args [] p2) p) st=some (.next,st1):=by
 show ob (evR (run fnsP n) cx (.Call f args [] p2) st) _=_
 exact ob_eq h
noncomputable def byV(ps ns:List PV)(w:Str)(ex ke pl ki it he co pa cl na rn:Option AV):Vars:=[("parts",some (.pv (.lst ps))),("names",some (.pv (.lst ns))),("word",some (.pv (.str w))),("notes",some (.cell 0)),("extent",ex),("kept",ke),("place",pl),("kind",ki),("items",it),("heads",he),("count",co),("part",pa),("column",cl),("named",na),("row_names",rn)]
noncomputable def by0(ps ns:List PV)(w:Str):Vars:=byV ps ns w none none none none none none none none none none none
noncomputable def by1(ps ns:List PV)(w:Str)(E:Nat):Vars:=byV ps ns w (iA E) none none none none none none none none none none
noncomputable def by2(ps ns:List PV)(w:Str)(E:Nat)(kp:List PV):Vars:=byV ps ns w (iA E) (some (.pv (.lst kp))) none none none none none none none none none
variable{n E:Nat}{ps ns kp:List PV}{w:Str}{h:List MO}
theorem by_S0x{msg:Str}(hc:(run fnsP (n+185)).call "bound_extent" [.pv (.lst ps),.pv (.str w)] h=some (.exc (.str msg),h)):(run fnsP (n+186)).ex bbC (bbS 0) ⟨by0 ps ns w,h⟩=some (.exc (.str msg),⟨by0 ps ns w,h⟩):=by
 conv=>lhs;arg 3;whnf
 refine ex_asgX ?_ ?_ (evR_call ?_ (evCall_fn (as:=[.pv (.lst ps),.pv (.str w)]) (st1:=⟨by0 ps ns w,h⟩) ?_ ?_ ?_ ?_ ?_ hc))
 case refine_3=>intro _ _ _ z;cases z
 all_goals kernel_rfl
theorem by_S0(hc:(run fnsP (n+185)).call "bound_extent" [.pv (.lst ps),.pv (.str w)] h=some (.ok (.pv (natV E)),h)):(run fnsP (n+186)).ex bbC (bbS 0) ⟨by0 ps ns w,h⟩=some (.next,⟨by1 ps ns w E,h⟩):=by
 conv=>lhs;arg 3;whnf
 refine ex_asg (rs:=.pv (natV E)) (st1:=⟨by0 ps ns w,h⟩) ?_ ?_ (evR_call ?_ (evCall_fn (as:=[.pv (.lst ps),.pv (.str w)]) (st1:=⟨by0 ps ns w,h⟩) ?_ ?_ ?_ ?_ ?_ hc)) ?_
 case refine_3=>intro _ _ _ z;cases z
 all_goals kernel_rfl
theorem by_S1(hc:(run fnsP (n+185)).call "kept_places" [.pv (.lst ps),.pv (natV E)] h=some (.ok (.pv (.lst kp)),h)):(run fnsP (n+186)).ex bbC (bbS 1) ⟨by1 ps ns w E,h⟩=some (.next,⟨by2 ps ns w E kp,h⟩):=by
 conv=>lhs;arg 3;whnf
 refine ex_asg (rs:=.pv (.lst kp)) (st1:=⟨by1 ps ns w E,h⟩) ?_ ?_ (evR_call ?_ (evCall_fn (as:=[.pv (.lst ps),.pv (natV E)]) (st1:=⟨by1 ps ns w E,h⟩) ?_ ?_ ?_ ?_ ?_ hc)) ?_
 case refine_3=>intro _ _ _ z;cases z
 all_goals kernel_rfl
theorem by_S2n(hk:kp≠[])(hl:kp.length≤4):(run fnsP (n+186)).ex bbC (bbS 2) ⟨by2 ps ns w E kp,h⟩=some (.next,⟨by2 ps ns w E kp,h⟩):=by
 rcases le4 hl with rfl | ⟨_,rfl⟩ | ⟨_,_,rfl⟩ | ⟨_,_,_,rfl⟩ | ⟨_,_,_,_,rfl⟩
 ·exact absurd rfl hk
 all_goals kernel_rfl
theorem by_S2r{o:MO}:(run fnsP (n+186)).ex bbC (bbS 2) ⟨by2 ps ns w E [],[o]⟩=some (.ret nulPV,⟨by2 ps ns w E [],[o,.dead]⟩):=by kernel_rfl
theorem by_S3{ds:List PV}(hc:(run fnsP (n+185)).call "note_recycling" [.pv (.lst ps),.pv (.lst kp),.pv (natV E),.pv (.str w),.cell 0] [.lst []]=some (.ok (.pv .none),[.lst ds])):(run fnsP (n+186)).ex bbC (bbS 3) ⟨by2 ps ns w E kp,[.lst []]⟩=some (.next,⟨by2 ps ns w E kp,[.lst ds]⟩):=by
 conv=>lhs;arg 3;whnf
 refine ex_expr (evR_call ?_ (evCall_fn (as:=[.pv (.lst ps),.pv (.lst kp),.pv (natV E),.pv (.str w),.cell 0]) (st1:=⟨by2 ps ns w E kp,[.lst []]⟩) ?_ ?_ ?_ ?_ ?_ hc))
 case refine_1=>intro _ _ _ z;cases z
 all_goals kernel_rfl
end Bc
namespace Bc
noncomputable def by4(ps ns:List PV)(w:Str)(E:Nat)(kp:List PV)(K:Kd):Vars:=byV ps ns w (iA E) (some (.pv (.lst kp))) none (sA K) none none none none none none none
variable{n E:Nat}{ps ns kp:List PV}{w:Str}{h:List MO}{K:Kd}
theorem S4_stmt{V:Vars}{is:List Nat}{ds:List PV}{q1 q2 q3 q4 q5 p3:Pos}{elt i:Expr}{sc:Scope}(hd:ds=is.map fun j=>ps.getD j .none)(hi4:∀j∈is,j < 4∧∃d,ps[j]? = some d)(hil:is.length≤4)
  (hc:(run fnsP (n+185)).call "joined_kind" [.pv (.lst ds)] h=some (.ok (.pv (.str K.s)),h)) (hown:oNm sc=([".0","place"]:List Str))
  (c1:(!(bbC.lp&&scO bbC.names sc&&compOk sc (V)))=false) (c2:(isSetE i||!ownT sc (.Name "place" p3))=false)
  (hi:evP (run fnsP (n+184)) bbC i ⟨V,h⟩=some (.lst (is.map natV),⟨V,h⟩))
  (hb:∀d a,bindT (rlN bbC.names sc.names) (.Name "place" p3) d ⟨(".0",none)::("place",a)::V,h⟩=some ⟨(".0",none)::("place",some (.pv d))::V,h⟩)
  (he:∀(j:Nat) d,ps[j]? = some d→j < 4→evP (run fnsP (n+184)) ⟨rlN bbC.names sc.names,bbC.lp⟩ elt ⟨(".0",none)::("place",iA j)::V,h⟩=some (d,⟨(".0",none)::("place",iA j)::V,h⟩))
  (g1:sOk bbC.names "kind" (V)=true) (g2:evName fnsP bbC "joined_kind" ⟨V,h⟩=some (.pv (.glb "joined_kind"),⟨V,h⟩)) (g3:setV "kind" (.pv (.str K.s)) (V)=by4 ps ns w E (is.map natV) K) :
  (run fnsP (n+186)).ex bbC (.Assign [.Name "kind" q1] (.Call (.Name "joined_kind" q2) [.ListComp elt [⟨.Name "place" p3,i,[],0⟩] sc q3] [] q4) q5) ⟨V,h⟩=some (.next,⟨by4 ps ns w E (is.map natV) K,h⟩):=by
 have e1:(("joined_kind" : Str)==("_law_named" : Str))=false:=by kernel_rfl
 have t1:evComp (run fnsP (n+184)) bbC elt [⟨.Name "place" p3,i,[],0⟩] sc ⟨V,h⟩=some (.pv (.lst ((is.map natV).map fun d=>match d with | .int j=>ps.getD j.toNat .none | d=>d)),⟨V,h⟩) :=
  comp_one hown c1 c2 hi (items_lst (by rw [List.length_map];omega)) (by rw [List.length_map];omega) hb fun d hd=>by
   refine xE12 (List.mem_map.mp hd) fun j hj e_2=>?_;refine Bc.rwB e_2 ?_
   obtain ⟨hj4,d,hd'⟩:=hi4 j hj
   have:=he j d hd' hj4
   refine this.trans ?_
   show some (d,_)=some (ps.getD ((j:Int)).toNat .none,_)
   rw [Int.toNat_natCast,List.getD_eq_getElem?_getD,hd'];rfl
 have t2:((is.map natV).map fun d=>match d with | .int j=>ps.getD j.toNat .none | d=>d)=ds:=by
  refine rwE hd (rwE List.map_map ?_)
  refine List.map_congr_left fun j z_=>?_
  show ps.getD ((j:Int)).toNat .none=_
  rw [Int.toNat_natCast]
 rw [t2] at t1
 refine ex_asg (n:=n+185) (rs:=.pv (.str K.s)) (st1:=⟨V,h⟩) g1 rfl (evR_call (fun z_ z_ z_ z=>nomatch z) (evCall_fn (n:=n+184) (st1:=⟨V,h⟩) rfl g2 rfl (by kernel_rfl) (by refine rwE e1 ?_;exact eAc (evArg_P rfl (evP_of rfl (ev_lc t1))) rfl) hc)) ?_
 refine rwB g3 rfl
theorem by_S4{is:List Nat}{ds:List PV}(hd:ds=is.map fun j=>ps.getD j .none)(hi4:∀j∈is,j < 4∧∃d,ps[j]? = some d)(hil:is.length≤4)
  (hc:(run fnsP (n+185)).call "joined_kind" [.pv (.lst ds)] h=some (.ok (.pv (.str K.s)),h)):(run fnsP (n+186)).ex bbC (bbS 4) ⟨by2 ps ns w E (is.map natV),h⟩=some (.next,⟨by4 ps ns w E (is.map natV) K,h⟩):=by
 conv=>lhs;arg 3;whnf
 refine S4_stmt hd hi4 hil hc ?_ ?_ ?_ ?_ ?_ ?_ ?_ ?_ ?_
 case refine_6 =>
  intro j d hj hj4
  refine evP_of ?_ (ev_sub' (a:=.lst ps) (b:=.int j) (st1:=⟨(".0",none)::("place",iA j)::by2 ps ns w E (is.map natV),h⟩) ?_ ?_ ?_ (nth_pv hj (by omega)))
  all_goals kernel_rfl
 all_goals (intros;kernel_rfl)
theorem by_S567{no:MO}:exs (run fnsP (n+186)) bbC [bbS 5,bbS 6,bbS 7] ⟨by4 ps ns w E kp K,[no]⟩=some (.next,⟨bbV ps ns w E kp K 0 none none none,[no,.lst [],.lst []]⟩):=by kernel_rfl
end Bc
namespace Bc
noncomputable def nmO:Option (List PV)→PV
 |none=>nulPV
 |some l=>vecPV "character" l .none
noncomputable def atG(r c:Nat):Option (List PV)→Option (List PV)→PV
 |none,none=>dimA r c
 |rn,cn=>.dct [("dim",vecPV "integer" [.int r,.int c] .none),("dimnames",vecPV "list" [nmO rn,nmO cn] .none)]
noncomputable def gmPV(k:Str)(its:List PV)(r c:Nat)(rn cn:Option (List PV)):PV:=vecPV k its (atG r c rn cn)
noncomputable def le12(c:Nat):Prop:=c=0∨c=1∨c=2∨c=3∨c=4∨c=5∨c=6∨c=7∨c=8∨c=9∨c=10∨c=11∨c=12
theorem le12_all:∀c,c < 13→le12 c:=by unfold le12;decide
theorem le12_of{c:Nat}(h:c≤12):le12 c:=le12_all c (Nat.lt_succ_of_le h)
variable{n:Nat}{cells:List MO}
theorem new_n{k:Str}{its:List PV}{r c:Nat}{rn:Option (List PV)}(hr:∀l,rn=some l→l.length≤3):(run fnsP (n+60)).call "new_matrix" [.pv (.str k),.pv (.lst its),.pv (.lst [.int r,.int c]),.pv (optV rn),.pv .none] cells=some (.ok (.pv (gmPV k its r c rn none)),cells):=by
 cases rn with
 |none=>kernel_rfl
 |some l=>apply lQ (hr l rfl);kernel_rfl
theorem new_s{k:Str}{its:List PV}{r c:Nat}{rn:Option (List PV)}{g:Nat→PV}(hr:∀l,rn=some l→l.length≤3)(hc:le12 c):(run fnsP (n+60)).call "new_matrix" [.pv (.str k),.pv (.lst its),.pv (.lst [.int r,.int c]),.pv (optV rn),.pv (.lst (tab c g))] cells=some (.ok (.pv (gmPV k its r c rn (some (tab c g)))),cells):=by
 cases rn with
 |none=>apply tQ hc;kernel_rfl
 |some l=>apply tQ hc;apply lQ (hr l rfl);kernel_rfl
theorem new_ok{k:Str}{its:List PV}{r c:Nat}{rn cn:Option (List PV)}(hr:∀l,rn=some l→l.length≤3)(hc:c≤12)(hcn:∀l,cn=some l→l.length=c):(run fnsP (n+60)).call "new_matrix" [.pv (.str k),.pv (.lst its),.pv (.lst [.int r,.int c]),.pv (optV rn),.pv (optV cn)] cells=some (.ok (.pv (gmPV k its r c rn cn)),cells):=by
 cases cn with
 |none=>exact new_n hr
 |some l =>
  have hl:=hcn l rfl
  have ht:tab c (fun i=>l.getD i .none)=l:=by rw [← hl,← tab_of]
  have e:=new_s (n:=n) (cells:=cells) (k:=k) (its:=its) (r:=r) (c:=c) (rn:=rn) (g:=fun i=>l.getD i .none) hr (le12_of hc)
  rw [ht] at e
  exact e
theorem by_S10{E:Nat}{ps ns kp:List PV}{w:Str}{K:Kd}{cnt:Int}{pl pa co it he na:Option AV}{h:List MO}{d:PV}(hc:(run fnsP (n+185)).call "bound_row_names" [.pv (.lst ps),.pv (.lst kp),.pv (natV E)] h=some (.ok (.pv d),h)) :
  (run fnsP (n+186)).ex bbC (bbS 10) ⟨byV ps ns w (iA E) (some (.pv (.lst kp))) pl (sA K) it he (iA cnt) pa co na none,h⟩=some (.next,⟨byV ps ns w (iA E) (some (.pv (.lst kp))) pl (sA K) it he (iA cnt) pa co na (some (.pv d)),h⟩):=by
 conv=>lhs;arg 3;whnf
 refine ex_asg (rs:=.pv d) (st1:=⟨byV ps ns w (iA E) (some (.pv (.lst kp))) pl (sA K) it he (iA cnt) pa co na none,h⟩) ?_ ?_ (evR_call ?_ (evCall_fn (as:=[.pv (.lst ps),.pv (.lst kp),.pv (natV E)]) (st1:=⟨byV ps ns w (iA E) (some (.pv (.lst kp))) pl (sA K) it he (iA cnt) pa co na none,h⟩) ?_ ?_ ?_ ?_ ?_ hc)) ?_
 case refine_3=>intro _ _ _ z;cases z
 all_goals kernel_rfl
end Bc
namespace Bc
noncomputable def hdOk(d:PV):Prop:=d=.str ""∨d=.str "h"∨d=.str "i"∨d=.str "j"∨d=.str "k"∨d=.str "p"∨d=.str "q"∨d=.str "r"
noncomputable def headNE:PV→Bool
 | .str s=>!(s==Str.ofString "")
 |_=>true
theorem evAnd1{R:Rc}{cx:Cx}{e:Expr}{st st1:St}{q:Bool}(h:evT R cx e st=some (q,st1)):evAnd R cx [e] st=some (q,st1):=by
 refine (ob_eq h).trans ?_
 cases q<;>rfl
noncomputable def namedB(hs:List PV):Bool:=decide ((0:Int) < ((hs.filter headNE).length:Nat))
variable{n E:Nat}{ps ns kp:List PV}{w:Str}{K:Kd}{cnt:Int}{pl pa co:Option AV}{no it:MO}
noncomputable def b9(ps ns:List PV)(w:Str)(E:Nat)(kp:List PV)(K:Kd)(cnt:Int)(pl pa co:Option AV)(he:AV)(na rn:Option AV):Vars:=byV ps ns w (iA E) (some (.pv (.lst kp))) pl (sA K) (some (.cell 1)) (some he) (iA cnt) pa co na rn
theorem S9_stmt{V1 V0:Vars}{hs:List PV}{q1 q2 q3 q4 q5 q6 q7 p3:Pos}{i cnd c0:Expr}{sc:Scope}(ho:∀d∈hs,hdOk d)(hl:hs.length≤1000)(hown:oNm sc=([".0","head"]:List Str))
  (c1:(!(bbC.lp&&scO bbC.names sc&&compOk sc (V0)))=false) (c2:(isSetE i||!ownT sc (.Name "head" p3))=false)
  (hi:evP (run fnsP (n+182)) bbC i ⟨V0,[no,it,.lst hs]⟩=some (.lst hs,⟨V1,[no,it,.dead]⟩))
  (hb:∀d a,bindT (rlN bbC.names sc.names) (.Name "head" p3) d ⟨(".0",none)::("head",a)::V1,[no,it,.dead]⟩=some ⟨(".0",none)::("head",some (.pv d))::V1,[no,it,.dead]⟩)
  (hf:∀d,hdOk d→evT (run fnsP (n+182)) ⟨rlN bbC.names sc.names,bbC.lp⟩ cnd ⟨(".0",none)::("head",some (.pv d))::V1,[no,it,.dead]⟩=some (headNE d,⟨(".0",none)::("head",some (.pv d))::V1,[no,it,.dead]⟩))
  (he:∀d,evP (run fnsP (n+182)) ⟨rlN bbC.names sc.names,bbC.lp⟩ (.Name "head" q1) ⟨(".0",none)::("head",some (.pv d))::V1,[no,it,.dead]⟩=some (d,⟨(".0",none)::("head",some (.pv d))::V1,[no,it,.dead]⟩))
  (g1:sOk bbC.names "named" (V0)=true) (g2:evName fnsP bbC "len" ⟨V0,[no,it,.lst hs]⟩=some (.pv (.glb "len"),⟨V0,[no,it,.lst hs]⟩))
  (g4:behindInMarks .Gt c0=false) (g5:∀h,evP (run fnsP (n+184)) bbC c0 ⟨V1,h⟩=some (.int 0,⟨V1,h⟩)) (g6:∀d,setV "named" d (V1)=b9 ps ns w E kp K cnt pl pa co (.pv (.lst hs)) (some d) none) :
  (run fnsP (n+186)).ex bbC (.Assign [.Name "named" q2] (.Compare (.Call (.Name "len" q3) [.ListComp (.Name "head" q1) [⟨.Name "head" p3,i,[cnd],0⟩] sc q4] [] q5) [.Gt] [c0] q6) q7) ⟨V0,[no,it,.lst hs]⟩
   = some (.next,⟨b9 ps ns w E kp K cnt pl pa co (.pv (.lst hs)) (some (.pv (.bool (namedB hs)))) none,[no,it,.dead]⟩):=by
 have t1:=comp_map (R:=run fnsP (n+182)) (cx:=bbC) (pre:=fun a=>[(".0",none),("head",a.map AV.pv)]) (f:=id) (g:=headNE) (elt:=.Name "head" q1) (t:=.Name "head" p3) (ifs:=[cnd]) (scope:=sc) (st:=⟨V0,[no,it,.lst hs]⟩) c1 c2 hi (items_lst hl) hl (by refine rwE hown ?_;rfl) (fun a=>by refine rwE hown ?_;rfl)
  (fun d z_ a=>hb d _) (fun d hd=>evAnd1 (hf d (ho d hd))) (fun d z_ z_=>he d)
 rw [List.map_id] at t1
 have hfl:(hs.filter headNE).length≤100000:=Nat.le_trans (List.length_filter_le ..) (by omega)
 have t2:=ev_bi (n:=n+182) (p:=q5) (p2:=q3) (x:="len") (cx:=bbC) (ds:=[.lst (hs.filter headNE)]) (d:=.int ((hs.filter headNE).length:Nat)) (args:=[.ListComp (.Name "head" q1) [⟨.Name "head" p3,i,[cnd],0⟩] sc q4]) (st1:=⟨V1,[no,it,.dead]⟩) rfl g2 (by kernel_rfl) rfl (by kernel_rfl) (eAc (evArg_P rfl (evP_of rfl (ev_lc (n:=n+182) (p:=q4) t1))) rfl) (by
   exact bi_len hfl)
 refine ex_asg (n:=n+185) (rs:=.pv (.bool (namedB hs))) (st1:=⟨V1,[no,it,.dead]⟩) g1 rfl (evR_of rfl (ev_cmp' (n:=n+184) g4 (evP_of rfl t2) (g5 _) (cmp_gt _ _))) ?_
 rw [← g6]
theorem by_S9{hs:List PV}(ho:∀d∈hs,hdOk d)(hl:hs.length≤1000):(run fnsP (n+186)).ex bbC (bbS 9) ⟨b9 ps ns w E kp K cnt pl pa co (.cell 2) none none,[no,it,.lst hs]⟩
   = some (.next,⟨b9 ps ns w E kp K cnt pl pa co (.pv (.lst hs)) (some (.pv (.bool (namedB hs)))) none,[no,it,.dead]⟩):=by
 conv=>lhs;arg 3;whnf
 refine S9_stmt (V1:=b9 ps ns w E kp K cnt pl pa co (.pv (.lst hs)) none none) ho hl ?_ ?_ ?_ ?_ ?_ ?_ ?_ ?_ ?_ ?_ ?_ ?_
 case refine_6 =>
  intro d hd
  rcases hd with rfl | rfl | rfl | rfl | rfl | rfl | rfl | rfl<;>kernel_rfl
 all_goals (intros;kernel_rfl)
end Bc
namespace Bc
variable{n E:Nat}{ps ns kp:List PV}{w:Str}{K:Kd}{pl pa co:Option AV}{no:MO}
noncomputable def headO(nb:Bool)(hs:List PV):Option (List PV):=if nb then some hs else none
noncomputable def b11(ps ns:List PV)(w:Str)(E:Nat)(kp:List PV)(K:Kd)(cnt:Int)(pl pa co:Option AV)(it:AV)(hs:List PV)(nb:Bool)(rn:PV):Vars:=byV ps ns w (iA E) (some (.pv (.lst kp))) pl (sA K) (some it) (some (.pv (.lst hs))) (iA cnt) pa co (some (.pv (.bool nb))) (some (.pv rn))
theorem by_S11{its hs:List PV}{nb:Bool}{rn:PV}{c:Nat}{v:PV}(hc:(run fnsP (n+185)).call "new_matrix" [.pv (.str K.s),.pv (.lst its),.pv (.lst [.int E,.int c]),.pv rn,.pv (optV (headO nb hs))] [no,.dead,.dead]=some (.ok (.pv v),[no,.dead,.dead])) :
  (run fnsP (n+186)).ex bbC (bbS 11) ⟨b11 ps ns w E kp K c pl pa co (.cell 1) hs nb rn,[no,.lst its,.dead]⟩=some (.ret v,⟨b11 ps ns w E kp K c pl pa co (.pv (.lst its)) hs nb rn,[no,.dead,.dead]⟩):=by
 conv=>lhs;arg 3;whnf
 refine ex_ret (c:=.pv v) (cs:=[no,.dead,.dead]) (st1:=⟨b11 ps ns w E kp K c pl pa co (.pv (.lst its)) hs nb rn,[no,.dead,.dead]⟩) (evR_call ?_ (evCall_fn (as:=[.pv (.str K.s),.pv (.lst its),.pv (.lst [.int E,.int c]),.pv rn,.pv (optV (headO nb hs))]) (st1:=⟨b11 ps ns w E kp K c pl pa co (.pv (.lst its)) hs nb rn,[no,.dead,.dead]⟩) ?_ ?_ ?_ ?_ ?_ hc)) ?_ ?_
 case refine_1=>intro _ _ _ z;cases z
 case refine_6=>apply bQ nb;kernel_rfl
 all_goals kernel_rfl
theorem bb_b9{ps ns:List PV}{w:Str}{E:Nat}{kp:List PV}{K:Kd}{cnt:Int}{pl pa co:Option AV}:bbV ps ns w E kp K cnt pl pa co=b9 ps ns w E kp K cnt pl pa co (.cell 2) none none:=rfl
theorem b9_by{ps ns:List PV}{w:Str}{E:Nat}{kp:List PV}{K:Kd}{cnt:Int}{pl pa co:Option AV}{he:AV}{na rn:Option AV}:b9 ps ns w E kp K cnt pl pa co he na rn=byV ps ns w (iA E) (some (.pv (.lst kp))) pl (sA K) (some (.cell 1)) (some he) (iA cnt) pa co na rn:=rfl
theorem by_b11{ps ns:List PV}{w:Str}{E:Nat}{kp:List PV}{K:Kd}{cnt:Int}{pl pa co:Option AV}{it:AV}{hs:List PV}{nb:Bool}{rn:PV}:byV ps ns w (iA E) (some (.pv (.lst kp))) pl (sA K) (some it) (some (.pv (.lst hs))) (iA cnt) pa co (some (.pv (.bool nb))) (some (.pv rn))=b11 ps ns w E kp K cnt pl pa co it hs nb rn:=rfl
theorem heads_ok'{P:Prt}{nm:Option Str}(hnm:nm=none∨nm=some "h"∨nm=some "i"∨nm=some "j"∨nm=some "k")(hP:P.okG):∀d∈headsP P nm,hdOk d:=by
 have hv:∀d∈[headV nm],hdOk d:=by
  intro d hd
  refine rwE (List.mem_singleton.mp hd) ?_
  rcases hnm with rfl | rfl | rfl | rfl | rfl<;>simp [hdOk,headV]
 rcases okG_pv (P:=P) with rfl | ⟨k,q,its,b,rfl⟩ | ⟨k,r,c,its,b1,b2,rfl⟩
 ·exact hv
 ·exact hv
 ·intro d hd
  cases b2 with
  |false =>
   refine xE12 (List.mem_map.mp (show d∈(List.range c).map (fun z_=>PV.str (Str.ofString "")) from hd)) fun z_ z_ e_2=>?_;refine Bc.rwB e_2 ?_
   exact .inl rfl
  |true =>
   refine xE12 (List.mem_map.mp (show d∈((["p","q","r"]:List Str).take c).map PV.str from hd)) fun s hs e_2=>?_;refine Bc.rwB e_2 ?_
   have:=List.mem_of_mem_take hs
   simp only [List.mem_cons,List.not_mem_nil,or_false] at this
   rcases this with rfl | rfl | rfl<;>simp [hdOk]
noncomputable def madeQ(E:Nat)(K:Kd)(nms:List (Option Str))(Q:List (Nat × Prt)):PV:=gmPV K.s (itsQ E K Q) E (colsQ E Q).length (rowsQ E (Q.map (·.2))) (headO (namedB (headsQ nms Q)) (headsQ nms Q))
noncomputable def nmOk(nm:Option Str):Prop:=nm=none∨nm=some "h"∨nm=some "i"∨nm=some "j"∨nm=some "k"
theorem headsQ_len{Ps:List Prt}{Q:List (Nat × Prt)}{nms:List (Option Str)}(ho:∀P∈Ps,Prt.okG P)(hQ:QOk E Ps Q):(headsQ nms Q).length=(colsQ E Q).length:=by
 have h:∀L:List (Nat × Prt),(∀x∈L,x∈Q)→(L.flatMap fun x=>headsP x.2 (nms.getD x.1 none)).length=(L.flatMap fun x=>colsL E x.2).length:=by
  intro L
  induction L with
  |nil=>intro _;rfl
  |cons x L ih =>
   intro hL
   have hx:=hL x List.mem_cons_self
   refine rwE List.flatMap_cons (rwE List.flatMap_cons (rwE List.length_append (rwE List.length_append (rwE (ih fun y hy=>hL y (List.mem_cons_of_mem _ hy)) (rwE (heads_len (E:=E) (ho _ (List.mem_of_getElem? (hQ.at_ x hx))) (hQ.n x hx)) rfl)))))
 exact h Q fun z_ h=>h
theorem by_run{Ps:List Prt}{Q:List (Nat × Prt)}{nms:List (Option Str)}{more:List MO}(hlen:Ps.length≤4)(ho:∀P∈Ps,Prt.okG P)(hQ:QOk E Ps Q)(hQ0:Q≠[])(hE:small3 E)(hnm:nms.length=Ps.length)(hno:∀x∈nms,nmOk x)(hw:w="rows"∨w="columns")
  (hb:∀m h,(run fnsP (m+50)).call "bound_extent" [.pv (.lst (Ps.map Prt.pv)),.pv (.str w)] h=some (.ok (.pv (natV E)),h))
  (hk:∀m h,(run fnsP (m+50)).call "kept_places" [.pv (.lst (Ps.map Prt.pv)),.pv (natV E)] h=some (.ok (.pv (.lst ((Q.map (·.1)).map natV))),h)) :
  ∃K ds,isMax (Q.map fun x=>x.2.kd) K∧(ds=[] ↔ (Q.any fun x=>unevB E x.2)=false)∧(∀d∈ds,∃i,i < 4∧d=.str (noteOf w i))∧ds.length≤1 ∧
   (run fnsP (n+187)).call "bind_by" [.pv (.lst (Ps.map Prt.pv)),.pv (.lst (nms.map nameV)),.pv (.str w),.cell 0] (.lst []::more)=some (.ok (.pv (madeQ E K nms Q)),.lst ds::more):=by
 have hQl:(Q.map (·.1)).length≤4:=by rw [List.length_map];exact hQ.len
 refine xE14 (nr_ok (n:=n+135) (E:=E) (w:=w) [] hlen hQ.len hQ.at_ hQ.n ho hE hw) fun ds d1 d2 d3 d4=>?_
 obtain ⟨K,hK,hj⟩:=jk_ok (n:=n+125) (L:=Q.map (·.2)) (cells:=[.lst ds]) (by simpa using hQ0) (by rw [List.length_map];have:=hQ.len;omega) (by
  intro P hP;obtain ⟨x,hx,rfl⟩:=List.mem_map.mp hP;exact hQ.n x hx)
 rw [List.map_map] at hK
 refine ⟨K,ds,hK,d1,d2,d3,?_⟩
 have hfst:(Q.map (·.1)).map natV=Q.map fun x=>natV x.1:=by refine rwE List.map_map ?_;rfl
 have hX:X (run fnsP (n+186)) bbC d_bind_by.body ⟨by0 (Ps.map Prt.pv) (nms.map nameV) w,[.lst []]⟩ (fun f st=>∃junk,flOut (some (f,st))=some (.ok (.pv (madeQ E K nms Q)),.lst ds::junk)):=by
  refine rwE bb_bd ?_
  refine X.step (st1:=⟨by1 (Ps.map Prt.pv) (nms.map nameV) w E,[.lst []]⟩) ?_ ?_
  ·exact by_S0 (n:=n) (hb (n+135) _)
  have hk1:=hk (n+135) [.lst []]
  rw [hfst] at hk1
  refine X.step (st1:=⟨by2 (Ps.map Prt.pv) (nms.map nameV) w E (Q.map fun x=>natV x.1),[.lst []]⟩) ?_ ?_
  ·exact by_S1 (n:=n) hk1
  have hkp0:(Q.map fun x=>natV x.1)≠[]:=fun z=>hQ0 (by simpa using z)
  have hkp4:(Q.map fun x=>natV x.1).length≤4:=by rw [List.length_map];exact hQ.len
  refine X.step (st1:=⟨by2 (Ps.map Prt.pv) (nms.map nameV) w E (Q.map fun x=>natV x.1),[.lst []]⟩) ?_ ?_
  ·exact by_S2n (n:=n) hkp0 hkp4
  refine X.step (st1:=⟨by2 (Ps.map Prt.pv) (nms.map nameV) w E (Q.map fun x=>natV x.1),[.lst ds]⟩) ?_ ?_
  ·exact by_S3 (n:=n) d4
  refine rwB hfst ?_
  refine X.step (st1:=⟨by4 (Ps.map Prt.pv) (nms.map nameV) w E ((Q.map (·.1)).map natV) K,[.lst ds]⟩) ?_ ?_
  ·refine by_S4 (n:=n) (is:=Q.map (fun x:Nat × Prt=>x.1)) (ds:=(Q.map (fun x:Nat × Prt=>x.2)).map Prt.pv) (K:=K) ?_ ?_ hQl ?_
   ·refine rwE List.map_map (rwE List.map_map ?_)
    refine List.map_congr_left fun x hx=>?_
    show x.2.pv=(Ps.map Prt.pv).getD x.1 .none
    refine rwE (List.getD_eq_getElem?_getD) (rwE (List.getElem?_map) (rwE (hQ.at_ x hx) ?_));rfl
   ·intro j hj
    refine xE12 (List.mem_map.mp hj) fun x hx e_2=>?_;refine Bc.rwB e_2 ?_
    have h1:=hQ.at_ x hx
    have h2:x.1 < Ps.length:=(List.getElem?_eq_some_iff.mp h1).1
    exact ⟨by exact Nat.lt_of_lt_of_le h2 hlen,_,by refine rwE (List.getElem?_map) (rwE h1 ?_);rfl⟩
   ·exact hj
  refine X.seg (st1:=⟨bbV (Ps.map Prt.pv) (nms.map nameV) w E ((Q.map (·.1)).map natV) K 0 none none none,[.lst ds,.lst [],.lst []]⟩) 3 ?_ ?_
  ·exact by_S567 (n:=n)
  refine rwE hfst ?_
  show X _ _ (bbS 8::[bbS 9,bbS 10,bbS 11]) _ _
  refine bb_loop hlen ho hQ hE hnm (fun x hx=>hK.2 _ (List.mem_map.mpr ⟨x,hx,rfl⟩)) fun pl pa co=>?_
  have hho:∀d∈headsQ nms Q,hdOk d:=by
   intro d hd
   refine xE12 (List.mem_flatMap.mp hd) fun x hx hd=>?_
   refine heads_ok' ?_ (ho _ (List.mem_of_getElem? (hQ.at_ x hx))) d hd
   refine rwE (List.getD_eq_getElem?_getD) ?_
   cases e:nms[x.1]? with
   |none=>exact .inl rfl
   |some z=>exact hno z (List.mem_of_getElem? e)
  have hcl:(colsQ E Q).length≤12:=by
   have:(colsQ E Q).length≤3 * Q.length:=flat_le fun x hx=>cols_cnt (ho _ (List.mem_of_getElem? (hQ.at_ x hx)))
   have:=hQ.len;omega
  have hhl:=headsQ_len (nms:=nms) ho hQ
  refine rwE bb_b9 ?_
  refine X.step (by_S9 (n:=n) (hs:=headsQ nms Q) hho (by omega)) ?_
  refine rwE b9_by ?_
  refine X.step (by_S10 (n:=n) (br_ok (n:=n+135) hlen hQ.len hQ.at_ hQ.n ho hE)) ?_
  refine rwE by_b11 ?_
  refine X.ret (by_S11 (n:=n) (c:=(colsQ E Q).length) (nb:=namedB (headsQ nms Q)) (new_ok (n:=n+125) ?_ hcl ?_)) ⟨[.dead,.dead],rfl⟩
  ·intro l hl
   unfold rowsQ at hl
   refine Bc.optE ((Q.map (·.2)).find? (fitsP E)) (fun e=>?_) fun P e=>?_
   ·rw [e] at hl;cases hl
   ·
    rw [e] at hl
    refine xE12 (List.mem_map.mp (List.mem_of_find?_eq_some e)) fun x hx e_2=>?_;subst e_2
    exact side_len (ho _ (List.mem_of_getElem? (hQ.at_ x hx))) hl
  ·intro l hl
   unfold headO at hl
   split at hl
   ·cases hl;exact hhl
   ·cases hl
 obtain ⟨f,st,e,junk,q⟩:=hX
 exact call_X (vars0:=by0 (Ps.map Prt.pv) (nms.map nameV) w) (outs:=.lst ds::junk) (ins:=[.lst []]) find_bind_by plain_bind_by rfl rfl rfl (by kernel_rfl) (by kernel_rfl) rfl ⟨f,st,e,q⟩
end Bc
namespace Bc
theorem ext_all{Ps:List Prt}{i:Nat}{e l e' l':Int}(ho:∀P∈Ps,Prt.okG P)(hl:0≤l∧l≤3)(h:extGo Ps i e l=.inr (e',l')) :
  (0≤e→e'=e)∧(0≤l'∧l'≤3)∧∀P∈Ps,∀k r c its b1 b2,P=.mat k r c its b1 b2→(r:Int)=e':=by
 induction Ps generalizing i e l with
 |nil=>exact ⟨fun _=>((Prod.mk.inj (Sum.inr.inj h)).1).symm,(Prod.mk.inj (Sum.inr.inj h)).2▸hl,fun _ hP=>nomatch hP⟩
 |cons P r ih =>
  have hr:∀P∈r,Prt.okG P:=fun P hP=>ho P (List.mem_cons_of_mem _ hP)
  cases P with
  |nul=>exact xE03 (ih hr hl h) fun h1 h2 h3=>⟨h1,h2,fun P hP k rr c its b1 b2 hh=>(List.mem_cons.mp hP).elim (fun z=>nomatch z.symm.trans hh) fun hP=>h3 P hP _ _ _ _ _ _ hh⟩
  |vec k m its b =>
   have hv:=ho _ List.mem_cons_self
   have hl2:0≤maxI l [(its.length:Int)]∧maxI l [(its.length:Int)]≤3:=by
    show 0≤(if l < (its.length:Int) then (its.length:Int) else l)∧(if l < (its.length:Int) then (its.length:Int) else l)≤3
    by_cases c:l < (its.length:Int)
    ·rw [if_pos c];exact ⟨Int.natCast_nonneg _,Int.ofNat_le.mpr (small3_len hv.1 hv.2.1)⟩
    ·rw [if_neg c];exact hl
   exact xE03 (ih hr hl2 h) fun h1 h2 h3=>⟨h1,h2,fun P hP k rr c its b1 b2 hh=>(List.mem_cons.mp hP).elim (fun z=>nomatch z.symm.trans hh) fun hP=>h3 P hP _ _ _ _ _ _ hh⟩
  |mat k rr c its b1 b2 =>
   exact iteE h (fun _ h=>nomatch h) fun hne h=>xE03 (ih hr hl h) fun h1 h2 h3 =>
    ⟨fun h0=>(h1 (Int.natCast_nonneg _)).trans (Decidable.not_not.mp fun z=>hne ⟨h0,z⟩),h2,fun P hP k rr c its b1 b2 hh=>(List.mem_cons.mp hP).elim (fun z=>(Prt.mat.inj (hh.symm.trans z)).2.1▸(h1 (Int.natCast_nonneg _)).symm) fun hP=>h3 P hP _ _ _ _ _ _ hh⟩
theorem kpGo_mem{E:Nat}{L:List Prt}{i j:Nat}(h:j∈kpGo E L i):i≤j∧∃P,L[j - i]? = some P∧keepB E P=true:=by
 induction L generalizing i with
 |nil=>exact nomatch h
 |cons P r ih =>
  have rest:j∈kpGo E r (i+1)→i≤j∧∃Q,(P::r)[j - i]? = some Q∧keepB E Q=true:=fun h=>by
   have h1:=ih h
   refine ⟨Nat.le_of_succ_le h1.1,xE12 h1.2 fun Q h2 h3=>⟨Q,?_,h3⟩⟩
   rw [← Nat.sub_add_cancel (Nat.sub_pos_of_lt h1.1),← Nat.sub_add_eq,List.getElem?_cons_succ]
   exact h2
  by_cases hk:keepB E P=true
  ·have h:j∈i::kpGo E r (i+1):=Eq.mp (congrArg (j∈·) (if_pos hk)) h
   exact (List.mem_cons.mp h).elim (fun z=>⟨Nat.le_of_eq z.symm,P,by rw [z,Nat.sub_self];rfl,hk⟩) rest
  ·exact rest (Eq.mp (congrArg (j∈·) (if_neg hk)) h)
theorem kpGo_len{E:Nat}{L:List Prt}{i:Nat}:(kpGo E L i).length≤L.length:=by
 induction L generalizing i with
 |nil=>exact Nat.le_refl _
 |cons P r ih =>
  by_cases hk:keepB E P=true
  ·exact rwE (kpGo_cons.trans (if_pos hk)) (Nat.succ_le_succ ih)
  ·exact rwE (kpGo_cons.trans (if_neg hk)) (Nat.le_succ_of_le ih)
end Bc
namespace Bc
noncomputable def extN(e l:Int):Nat:=(if e < 0 then l else e).toNat
noncomputable def keptQ(E:Nat)(Ps:List Prt):List (Nat × Prt):=(kpGo E Ps 0).map fun i=>(i,Ps.getD i .nul)
variable{n:Nat}{Ps:List Prt}{e l:Int}
theorem le3_small:∀{m:Nat},m≤3→small3 m
 |0,_=>.inl rfl
 |1,_=>.inr (.inl rfl)
 |2,_=>.inr (.inr (.inl rfl))
 |3,_=>.inr (.inr (.inr rfl))
 |n+4,h=>absurd h (Nat.not_le_of_gt (Nat.le_add_left 4 n))
theorem ext_nat(h1:okE e)(h2:0≤l∧l≤3):∃k:Nat,k≤3∧(if e < 0 then l else e)=(k:Int):=by
 refine xE11 (Int.eq_ofNat_of_zero_le h2.1) fun a ha=>?_
 rcases h1 with rfl | rfl | rfl | rfl | rfl
 ·exact ⟨a,Int.ofNat_le.mp (ha▸h2.2),(if_pos (by decide)).trans ha⟩
 ·exact ⟨0,by decide,rfl⟩
 ·exact ⟨1,by decide,rfl⟩
 ·exact ⟨2,by decide,rfl⟩
 ·exact ⟨3,by decide,rfl⟩
theorem ext_small(ho:∀P∈Ps,Prt.okG P)(h:extGo Ps 0 (-1) 0=.inr (e,l)) :
  small3 (extN e l)∧(if e < 0 then l else e)=((extN e l:Nat):Int)∧∀P∈Ps,∀k r c its b1 b2,P=.mat k r c its b1 b2→r=extN e l:=by
 refine xE03 (ext_all ho ⟨Int.le_refl 0,by decide⟩ h) fun z_ h2 h3=>?_
 refine xE12 (ext_nat (extE ho (.inl rfl) h) h2) fun k hk he=>?_
 have hx:extN e l=k:=congrArg Int.toNat he
 refine ⟨hx▸le3_small hk,hx▸he,fun P hP k r c its b1 b2 hh=>?_⟩
 have:=h3 P hP _ _ _ _ _ _ hh
 refine Bc.rwB this ?_
 exact (congrArg Int.toNat (if_neg (c:=(r:Int) < 0) (t:=l) (e:=(r:Int)) (Int.not_lt.mpr (Int.natCast_nonneg r)))).symm
theorem keptQ_ok(hlen:Ps.length≤4)(ho:∀P∈Ps,Prt.okG P)(h:extGo Ps 0 (-1) 0=.inr (e,l)):QOk (extN e l) Ps (keptQ (extN e l) Ps):=by
 refine xE03 (ext_small ho h) fun z_ z_ h3=>?_
 have key:∀x∈keptQ (extN e l) Ps,Ps[x.1]? = some x.2∧keepB (extN e l) x.2=true:=by
  intro x hx
  refine xE12 (List.mem_map.mp hx) fun j hj e_2=>?_;refine Bc.rwB e_2 ?_
  obtain ⟨_,P,hP,hk⟩:=kpGo_mem hj
  rw [Nat.sub_zero] at hP
  have:Ps.getD j .nul=P:=by refine rwE (List.getD_eq_getElem?_getD) (rwE hP ?_);rfl
  show Ps[j]? = some (Ps.getD j .nul)∧keepB _ (Ps.getD j .nul)=true
  refine rwE this ?_
  exact ⟨hP,hk⟩
 refine ⟨fun x hx=>(key x hx).1,fun x hx z=>?_,fun x hx=>?_,?_⟩
 ·have:=(key x hx).2
  rw [z] at this;cases this
 ·obtain ⟨k1,k2⟩:=key x hx
  rcases okG_pv (P:=x.2) with hP | ⟨k,m,its,q,hP⟩ | ⟨k,rr,cc,its,b1,b2,hP⟩
  ·rw [hP] at k2;cases k2
  ·rw [hP] at k2 ⊢
   have k2:(decide (0 < its.length)||decide (extN e l=0))=true:=k2
   rw [Bool.or_eq_true,decide_eq_true_eq,decide_eq_true_eq] at k2
   exact k2
  ·have:=h3 _ (List.mem_of_getElem? k1) _ _ _ _ _ _ hP
   refine rwE hP ?_;exact this
 ·unfold keptQ
  rw [List.length_map]
  exact Nat.le_trans kpGo_len hlen
theorem keptQ_fst{E:Nat}:(keptQ E Ps).map (·.1)=kpGo E Ps 0:=by
 unfold keptQ
 refine rwE List.map_map ?_
 exact List.map_id _
noncomputable def Bound(Ps:List Prt)(nms:List (Option Str))(w:Str)(mk:Nat→Kd→List (Option Str)→List (Nat × Prt)→PV)(more:List MO)(out:Option (Rs × List MO)):Prop :=
 (∃i,extGo Ps 0 (-1) 0=.inl i∧out=some (.exc (.str (msgOf w i)),.lst []::more)) ∨
 ∃e l,extGo Ps 0 (-1) 0=.inr (e,l) ∧
  ((keptQ (extN e l) Ps=[]∧out=some (.ok (.pv nulPV),.lst []::more)) ∨
   ∃K ds,keptQ (extN e l) Ps≠[]∧isMax ((keptQ (extN e l) Ps).map fun x=>x.2.kd) K∧(ds=[] ↔ ((keptQ (extN e l) Ps).any fun x=>unevB (extN e l) x.2)=false)∧(∀d∈ds,∃i,i < 4∧d=.str (noteOf w i))∧ds.length≤1 ∧
    out=some (.ok (.pv (mk (extN e l) K nms (keptQ (extN e l) Ps))),.lst ds::more))
theorem by_ok{nms:List (Option Str)}{w:Str}{more:List MO}(hlen:Ps.length≤4)(ho:∀P∈Ps,Prt.okG P)(hnm:nms.length=Ps.length)(hno:∀x∈nms,nmOk x)(hw:w="rows"∨w="columns") :
  Bound Ps nms w madeQ more ((run fnsP (n+187)).call "bind_by" [.pv (.lst (Ps.map Prt.pv)),.pv (.lst (nms.map nameV)),.pv (.str w),.cell 0] (.lst []::more)):=by
 unfold Bound
 cases hx:extGo Ps 0 (-1) 0 with
 |inl i =>
  refine .inl ⟨i,rfl,?_⟩
  refine call_X (vars0:=by0 (Ps.map Prt.pv) (nms.map nameV) w) (outs:=[.lst []]) (ins:=[.lst []]) find_bind_by plain_bind_by rfl rfl rfl (by kernel_rfl) (by kernel_rfl) rfl ?_
  refine rwE bb_bd ?_
  refine X.last (f:=.exc (.str (msgOf w i))) (st1:=⟨by0 (Ps.map Prt.pv) (nms.map nameV) w,[.lst []]⟩) (by_S0x (n:=n) ?_) ?_ rfl
  ·have:=be_ok (n:=n+135) (cells:=[.lst []]) hlen ho hw
   rw [hx] at this
   exact this
  ·intro z;cases z
 |inr q =>
  obtain ⟨e,l⟩:=q
  refine xE03 (ext_small ho hx) fun s1 s2 s3=>?_
  have hb:∀m h,(run fnsP (m+50)).call "bound_extent" [.pv (.lst (Ps.map Prt.pv)),.pv (.str w)] h=some (.ok (.pv (natV (extN e l))),h):=by
   intro m h
   have:=be_ok (n:=m) (cells:=h) hlen ho hw
   rw [hx] at this
   refine rwE this ?_
   show some (Rs.ok (.pv (.int (if e < 0 then l else e))),h)=_
   refine rwE s2 ?_;rfl
  have hk:∀m h,(run fnsP (m+50)).call "kept_places" [.pv (.lst (Ps.map Prt.pv)),.pv (natV (extN e l))] h=some (.ok (.pv (.lst (((keptQ (extN e l) Ps).map (·.1)).map natV))),h):=by
   intro m h
   refine rwE keptQ_fst ?_
   exact kp_ok hlen ho s1
  refine .inr ⟨e,l,rfl,?_⟩
  by_cases hQ:keptQ (extN e l) Ps=[]
  ·refine .inl ⟨hQ,?_⟩
   refine call_X (vars0:=by0 (Ps.map Prt.pv) (nms.map nameV) w) (outs:=[.lst [],.dead]) (ins:=[.lst []]) find_bind_by plain_bind_by rfl rfl rfl (by kernel_rfl) (by kernel_rfl) rfl ?_
   refine rwE bb_bd ?_
   refine X.step (by_S0 (n:=n) (E:=extN e l) ?_) ?_
   ·exact hb (n+135) _
   refine X.step (by_S1 (n:=n) (E:=extN e l) (kp:=[]) ?_) ?_
   ·have:=hk (n+135) [.lst []]
    rw [hQ] at this
    exact this
   exact X.ret (by_S2r (n:=n)) rfl
  ·refine xE25 (by_run (n:=n) (more:=more) (nms:=nms) hlen ho (keptQ_ok hlen ho hx) hQ s1 hnm hno hw hb hk) fun K ds h1 h2 h3 h4 h5=>?_
   exact .inr ⟨K,ds,hQ,h1,h2,h3,h4,h5⟩
end Bc
namespace Bc
variable{n:Nat}{cells:List MO}
theorem newt_n{k:Str}{its:List PV}{r c:Nat}{cn:Option (List PV)}(hc:∀l,cn=some l→l.length≤3):(run fnsP (n+60)).call "new_matrix" [.pv (.str k),.pv (.lst its),.pv (.lst [.int r,.int c]),.pv .none,.pv (optV cn)] cells=some (.ok (.pv (gmPV k its r c none cn)),cells):=by
 cases cn with
 |none=>kernel_rfl
 |some l=>apply lQ (hc l rfl);kernel_rfl
theorem newt_s{k:Str}{its:List PV}{r c:Nat}{cn:Option (List PV)}{g:Nat→PV}(hc:∀l,cn=some l→l.length≤3)(hr:le12 r):(run fnsP (n+60)).call "new_matrix" [.pv (.str k),.pv (.lst its),.pv (.lst [.int r,.int c]),.pv (.lst (tab r g)),.pv (optV cn)] cells=some (.ok (.pv (gmPV k its r c (some (tab r g)) cn)),cells):=by
 cases cn with
 |none=>apply tQ hr;kernel_rfl
 |some l=>apply tQ hr;apply lQ (hc l rfl);kernel_rfl
theorem newt_ok{k:Str}{its:List PV}{r c:Nat}{rn cn:Option (List PV)}(hc:∀l,cn=some l→l.length≤3)(hr:r≤12)(hrn:∀l,rn=some l→l.length=r):(run fnsP (n+60)).call "new_matrix" [.pv (.str k),.pv (.lst its),.pv (.lst [.int r,.int c]),.pv (optV rn),.pv (optV cn)] cells=some (.ok (.pv (gmPV k its r c rn cn)),cells):=by
 cases rn with
 |none=>exact newt_n hc
 |some l =>
  have ht:tab r (fun i=>l.getD i .none)=l:=by rw [← (hrn l rfl),← tab_of]
  have e:=newt_s (n:=n) (cells:=cells) (k:=k) (its:=its) (r:=r) (c:=c) (cn:=cn) (g:=fun i=>l.getD i .none) hc (le12_of hr)
  rw [ht] at e
  exact e
end Bc
namespace Bc
variable{n:Nat}{cells:List MO}
noncomputable abbrev trC:Cx:=⟨dTR.scope.names,true⟩
noncomputable def trV(v:PV)(ex ro co it pl cl:Option AV):Vars:=[("v",some (.pv v)),("extents",ex),("rows",ro),("columns",co),("items",it),("place",pl),("column",cl)]
theorem tr_bd:dTR.body=[sAt dTR 0,sAt dTR 1,sAt dTR 2,sAt dTR 3,sAt dTR 4,sAt dTR 5,sAt dTR 6,sAt dTR 7]:=by kernel_rfl
noncomputable def trE(r c:Nat):Option AV:=some (.pv (.lst [.int r,.int c]))
noncomputable def lastA(r:Nat):Option AV:=match r with
 |0=>none
 |r+1=>iA r
noncomputable def lastB(r c:Nat):Option AV:=match r with
 |0=>none
 |_=>lastA c
theorem tr_init{k:Str}{its:List PV}{r c:Nat}{D:Option PV} :
  exs (run fnsP (n+59)) trC [sAt dTR 0,sAt dTR 1,sAt dTR 2,sAt dTR 3,sAt dTR 4,sAt dTR 5] ⟨trV (vecPV k its (atO r c D)) none none none none none none,[]⟩
   = some (.next,⟨trV (vecPV k its (atO r c D)) (trE r c) (iA r) (iA c) (some (.cell 0)) none none,[.lst []]⟩):=by apply oQ D;kernel_rfl
theorem tr_loop{k:Str}{r c:Nat}{g:Nat→PV}{at_:PV}{ex:Option AV}(hr:small3 r)(hc:le12 c) :
  (run fnsP (n+59)).ex trC (sAt dTR 6) ⟨trV (vecPV k (tab (r * c) g) at_) ex (iA r) (iA c) (some (.cell 0)) none none,[.lst []]⟩
   = some (.next,⟨trV (vecPV k (tab (r * c) g) at_) ex (iA r) (iA c) (some (.cell 0)) (lastA r) (lastB r c),[.lst (tab (c * r) (turnG r c g))]⟩):=by
 apply tQ hc;apply sQ hr;kernel_rfl
theorem tr_7{k:Str}{its l:List PV}{r c:Nat}{rn cn:Option (List PV)}{ex pl cl:Option AV}{v:PV}(hc:(run fnsP (n+58)).call "new_matrix" [.pv (.str k),.pv (.lst l),.pv (.lst [.int c,.int r]),.pv (optV cn),.pv (optV rn)] [.dead]=some (.ok (.pv v),[.dead])) :
  (run fnsP (n+59)).ex trC (sAt dTR 7) ⟨trV (vecPV k its (atG r c rn cn)) ex (iA r) (iA c) (some (.cell 0)) pl cl,[.lst l]⟩=some (.ret v,⟨trV (vecPV k its (atG r c rn cn)) ex (iA r) (iA c) (some (.pv (.lst l))) pl cl,[.dead]⟩):=by
 conv=>lhs;arg 3;whnf
 refine ex_ret (c:=.pv v) (cs:=[.dead]) (st1:=⟨trV (vecPV k its (atG r c rn cn)) ex (iA r) (iA c) (some (.pv (.lst l))) pl cl,[.dead]⟩) (evR_call ?_ (evCall_fn (as:=[.pv (.str k),.pv (.lst l),.pv (.lst [.int c,.int r]),.pv (optV cn),.pv (optV rn)]) (st1:=⟨trV (vecPV k its (atG r c rn cn)) ex (iA r) (iA c) (some (.pv (.lst l))) pl cl,[.dead]⟩) ?_ ?_ ?_ ?_ ?_ hc)) ?_ ?_
 case refine_1=>intro _ _ _ z;cases z
 case refine_6=>apply oQ cn;apply oQ rn;kernel_rfl
 all_goals kernel_rfl
end Bc
namespace Bc
variable{n:Nat}{cells:List MO}
theorem gm_O{k:Str}{its:List PV}{r c:Nat}{rn cn:Option (List PV)}:∃D,atG r c rn cn=atO r c D:=by
 cases rn<;>cases cn
 ·exact ⟨none,rfl⟩
 all_goals exact ⟨some _,rfl⟩
theorem trans_g{k:Str}{r c:Nat}{g:Nat→PV}{rn cn:Option (List PV)}(hr:small3 r)(hc:c≤12)(hrn:∀l,rn=some l→l.length=r)(hcn:∀l,cn=some l→l.length=c) :
  (run fnsP (n+62)).call "transpose" [.pv (gmPV k (tab (r * c) g) r c rn cn)] cells=some (.ok (.pv (gmPV k (tab (c * r) (turnG r c g)) c r cn rn)),cells):=by
 refine call_pure (vars0:=trV (gmPV k (tab (r * c) g) r c rn cn) none none none none none none) find_transpose plain_transpose rfl rfl (by kernel_rfl) (by kernel_rfl) ?_
 refine rwE tr_bd ?_
 refine X.seg (st1:=⟨trV (gmPV k (tab (r * c) g) r c rn cn) (trE r c) (iA r) (iA c) (some (.cell 0)) none none,[.lst []]⟩) 6 ?_ ?_
 ·refine xE11 (gm_O (k:=k) (its:=[]) (r:=r) (c:=c) (rn:=rn) (cn:=cn)) fun D hD=>?_
  unfold gmPV
  refine rwE hD ?_
  exact tr_init (n:=n+2)
 show X _ _ [sAt dTR 6,sAt dTR 7] _ _
 refine X.step (tr_loop (n:=n+2) hr (le12_of hc)) ?_
 exact X.ret (tr_7 (n:=n+2) (newt_ok (n:=n+0) (cells:=[.dead]) (k:=k) (its:=tab (c * r) (turnG r c g)) (r:=c) (c:=r) (rn:=cn) (cn:=rn) (fun l h=>by refine rwE (hrn l h) ?_;unfold small3 at hr;exact small3_le hr) hc hcn)) rfl
end Bc
namespace Bc
variable{n:Nat}{more:List MO}
theorem ex_retX{cx:Cx}{e:Expr}{p:Pos}{st st1:St}{d:PV}(h:evR (run fnsP n) cx e st=some (.exc d,st1)):(run fnsP (n+1)).ex cx (.Return (some e) p) st=some (.exc d,st1):=by
 show ob (evR (run fnsP n) cx e st) _=_
 refine rwE (ob_eq h) rfl
noncomputable def bcV(ps ns:List PV):Vars:=[("parts",some (.pv (.lst ps))),("names",some (.pv (.lst ns))),("notes",some (.cell 0))]
theorem bc_bd:d_bind_cols.body=[sAt d_bind_cols 0]:=by kernel_rfl
theorem bc_ok{ps ns ds:List PV}{v:PV}(h:(run fnsP (n+187)).call "bind_by" [.pv (.lst ps),.pv (.lst ns),.pv (.str "rows"),.cell 0] [.lst []]=some (.ok (.pv v),[.lst ds])) :
  (run fnsP (n+189)).call "bind_cols" [.pv (.lst ps),.pv (.lst ns),.cell 0] (.lst []::more)=some (.ok (.pv v),.lst ds::more):=by
 refine call_X (vars0:=bcV ps ns) (outs:=[.lst ds]) (ins:=[.lst []]) find_bind_cols plain_bind_cols rfl rfl rfl (by kernel_rfl) (by kernel_rfl) rfl ?_
 refine rwE bc_bd ?_
 refine X.ret (d:=v) (st1:=⟨bcV ps ns,[.lst ds]⟩) ?_ rfl
 conv=>lhs;arg 3;whnf
 refine ex_ret (c:=.pv v) (cs:=[.lst ds]) (st1:=⟨bcV ps ns,[.lst ds]⟩) (evR_call ?_ (evCall_fn (as:=[.pv (.lst ps),.pv (.lst ns),.pv (.str "rows"),.cell 0]) (st1:=⟨bcV ps ns,[.lst []]⟩) ?_ ?_ ?_ ?_ ?_ h)) ?_ ?_
 case refine_1=>intro _ _ _ z;cases z
 all_goals kernel_rfl
theorem bc_exc{ps ns ds:List PV}{v:PV}(h:(run fnsP (n+187)).call "bind_by" [.pv (.lst ps),.pv (.lst ns),.pv (.str "rows"),.cell 0] [.lst []]=some (.exc v,[.lst ds])) :
  (run fnsP (n+189)).call "bind_cols" [.pv (.lst ps),.pv (.lst ns),.cell 0] (.lst []::more)=some (.exc v,.lst ds::more):=by
 refine call_X (vars0:=bcV ps ns) (outs:=[.lst ds]) (ins:=[.lst []]) find_bind_cols plain_bind_cols rfl rfl rfl (by kernel_rfl) (by kernel_rfl) rfl ?_
 refine rwE bc_bd ?_
 refine X.last (f:=.exc v) (st1:=⟨bcV ps ns,[.lst ds]⟩) ?_ (by intro z;cases z) rfl
 conv=>lhs;arg 3;whnf
 refine ex_retX (evR_call ?_ (evCall_fn (as:=[.pv (.lst ps),.pv (.lst ns),.pv (.str "rows"),.cell 0]) (st1:=⟨bcV ps ns,[.lst []]⟩) ?_ ?_ ?_ ?_ ?_ h))
 case refine_1=>intro _ _ _ z;cases z
 all_goals kernel_rfl
theorem cols_fn{Ps:List Prt}{nms:List (Option Str)}(hlen:Ps.length≤4)(ho:∀P∈Ps,Prt.okG P)(hnm:nms.length=Ps.length)(hno:∀x∈nms,nmOk x) :
  Bound Ps nms "rows" madeQ more ((run fnsP (n+189)).call "bind_cols" [.pv (.lst (Ps.map Prt.pv)),.pv (.lst (nms.map nameV)),.cell 0] (.lst []::more)):=by
 rcases by_ok (n:=n) (more:=[]) hlen ho hnm hno (.inl rfl) with ⟨i,h1,h2⟩ | ⟨e,l,h1,⟨h2,h3⟩ | ⟨K,ds,h2,h3,h4,h5,h6,h7⟩⟩
 ·exact .inl ⟨i,h1,bc_exc h2⟩
 ·exact .inr ⟨e,l,h1,.inl ⟨h2,bc_ok h3⟩⟩
 ·exact .inr ⟨e,l,h1,.inr ⟨K,ds,h2,h3,h4,h5,h6,bc_ok h7⟩⟩
noncomputable abbrev bwC:Cx:=⟨dBR.scope.names,true⟩
noncomputable def bwV(ps ns:List PV)(tu pa ma:Option AV):Vars:=[("parts",some (.pv (.lst ps))),("names",some (.pv (.lst ns))),("notes",some (.cell 0)),("turned",tu),("part",pa),("made",ma)]
noncomputable def bwB:Stmt:=(forBody (sAt dBR 1)).getD 0 default
theorem bw_bd:dBR.body=[sAt dBR 0,sAt dBR 1,sAt dBR 2,sAt dBR 3]:=by kernel_rfl
theorem bw_for:sAt dBR 1=.For (forT (sAt dBR 1)) (forI (sAt dBR 1)) (forBody (sAt dBR 1)) [] (forPos (sAt dBR 1)):=by kernel_rfl
theorem bw_bb:forBody (sAt dBR 1)=[bwB]:=by kernel_rfl
variable{ps ns:List PV}{tu pa ma:Option AV}{h:List MO}{no:MO}
theorem bw_0:(run fnsP (n+188)).ex bwC (sAt dBR 0) ⟨bwV ps ns none none none,[no]⟩=some (.next,⟨bwV ps ns (some (.cell 1)) none none,[no,.lst []]⟩):=by kernel_rfl
theorem bw_it:evP (run fnsP (n+187)) bwC (forI (sAt dBR 1)) ⟨bwV ps ns tu pa ma,h⟩=some (.lst ps,⟨bwV ps ns tu pa ma,h⟩):=by kernel_rfl
theorem bw_bind{d:PV}:bindT bwC.names (forT (sAt dBR 1)) d ⟨bwV ps ns tu pa ma,h⟩=some ⟨bwV ps ns tu (some (.pv d)) ma,h⟩:=by kernel_rfl
theorem turn_pv{k:Kd}{r c:Nat}{its:List PV}{b1 b2:Bool}:(turn (.mat k r c its b1 b2)).pv=mtPV k (tab (c * r) (turnG r c fun i=>its.getD i .none)) c r b2 b1:=rfl
theorem bw_app{P:Prt}{acc:List PV}(hP:P.ok)(ha:acc.length≤1000) :
  (run fnsP (n+187)).ex bwC bwB ⟨bwV ps ns (some (.cell 1)) (some (.pv P.pv)) none,[no,.lst acc]⟩=some (.next,⟨bwV ps ns (some (.cell 1)) (some (.pv P.pv)) none,[no,.lst (acc++[(turn P).pv])]⟩):=by
 have e1:(("transpose" : Str)==("_law_named" : Str))=false:=by kernel_rfl
 conv=>lhs;arg 3;whnf
 refine ex_meth (k:=1) (ds:=[(turn P).pv]) (ob:=.lst acc) (ob':=.lst (acc++[(turn P).pv])) (st1:=⟨bwV ps ns (some (.cell 1)) (some (.pv P.pv)) none,[no,.lst acc]⟩) (st2:=⟨bwV ps ns (some (.cell 1)) (some (.pv P.pv)) none,[no,.lst acc]⟩) ?_ ?_ ?_ ?_ ?_ ?_ ?_ ?_ ?_
 case refine_8 =>
  exact app_lst ha
 case refine_6 =>
  rcases okG_pv (P:=P) with rfl | ⟨k,m,its,q,rfl⟩ | ⟨k,rr,cc,its,b1,b2,rfl⟩
  ·kernel_rfl
  ·apply bQ q;apply kQ k;kernel_rfl
  ·refine xE06 hP fun h1 h2 h3 z_ h5 h6=>?_
   have ht:tab (rr * cc) (fun i=>its.getD i .none)=its:=by rw [← h3,← tab_of]
   have hc:=trans_m (n:=n+123) (cells:=[no,.lst acc]) (k:=k) (r:=rr) (c:=cc) (g:=fun i=>its.getD i .none) h1 h2 h5 h6
   rw [ht] at hc
   have hpv:(Prt.mat k rr cc its b1 b2).pv=mtPV k its rr cc b1 b2:=rfl
   rw [turn_pv,hpv]
   generalize tab (cc * rr) (turnG rr cc fun i=>its.getD i .none)=its' at hc ⊢
   refine evPs_cons (st1:=⟨bwV ps ns (some (.cell 1)) (some (.pv (mtPV k its rr cc b1 b2))) none,[no,.lst acc]⟩) (evP_of ?_ (ev_ife (q:=true) (st1:=⟨bwV ps ns (some (.cell 1)) (some (.pv (mtPV k its rr cc b1 b2))) none,[no,.lst acc]⟩) ?_ (ev_fn (c:=.pv (mtPV k its' cc rr b2 b1)) (as:=[.pv (mtPV k its rr cc b1 b2)]) (st1:=⟨bwV ps ns (some (.cell 1)) (some (.pv (mtPV k its rr cc b1 b2))) none,[no,.lst acc]⟩) ?_ ?_ ?_ ?_ ?_ hc))) ?_
   case refine_2=>apply kQ k;apply bQ b2;apply bQ b1;kernel_rfl
   all_goals kernel_rfl
 all_goals kernel_rfl
end Bc
namespace Bc
variable{n:Nat}{more:List MO}{ps ns tl:List PV}{pa:Option AV}{h:List MO}{no:MO}
theorem bw_2{v:PV}{ds:List PV}(hc:(run fnsP (n+187)).call "bind_by" [.pv (.lst tl),.pv (.lst ns),.pv (.str "columns"),.cell 0] [.lst [],.dead]=some (.ok (.pv v),[.lst ds,.dead])) :
  (run fnsP (n+188)).ex bwC (sAt dBR 2) ⟨bwV ps ns (some (.cell 1)) pa none,[.lst [],.lst tl]⟩=some (.next,⟨bwV ps ns (some (.pv (.lst tl))) pa (some (.pv v)),[.lst ds,.dead]⟩):=by
 conv=>lhs;arg 3;whnf
 refine ex_asg (rs:=.pv v) (st1:=⟨bwV ps ns (some (.pv (.lst tl))) pa none,[.lst ds,.dead]⟩) ?_ ?_ (evR_call ?_ (evCall_fn (as:=[.pv (.lst tl),.pv (.lst ns),.pv (.str "columns"),.cell 0]) (st1:=⟨bwV ps ns (some (.pv (.lst tl))) pa none,[.lst [],.dead]⟩) ?_ ?_ ?_ ?_ ?_ hc)) ?_
 case refine_3=>intro _ _ _ z;cases z
 all_goals kernel_rfl
theorem bw_2x{v:PV}{ds:List PV}(hc:(run fnsP (n+187)).call "bind_by" [.pv (.lst tl),.pv (.lst ns),.pv (.str "columns"),.cell 0] [.lst [],.dead]=some (.exc v,[.lst ds,.dead])) :
  (run fnsP (n+188)).ex bwC (sAt dBR 2) ⟨bwV ps ns (some (.cell 1)) pa none,[.lst [],.lst tl]⟩=some (.exc v,⟨bwV ps ns (some (.pv (.lst tl))) pa none,[.lst ds,.dead]⟩):=by
 conv=>lhs;arg 3;whnf
 refine ex_asgX ?_ ?_ (evR_call ?_ (evCall_fn (as:=[.pv (.lst tl),.pv (.lst ns),.pv (.str "columns"),.cell 0]) (st1:=⟨bwV ps ns (some (.pv (.lst tl))) pa none,[.lst [],.dead]⟩) ?_ ?_ ?_ ?_ ?_ hc))
 case refine_3=>intro _ _ _ z;cases z
 all_goals kernel_rfl
theorem bw_3n:(run fnsP (n+188)).ex bwC (sAt dBR 3) ⟨bwV ps ns (some (.pv (.lst tl))) pa (some (.pv nulPV)),h⟩=some (.ret nulPV,⟨bwV ps ns (some (.pv (.lst tl))) pa (some (.pv nulPV)),h⟩):=by kernel_rfl
theorem bw_3{K:Kd}{its:List PV}{r c:Nat}{rn cn:Option (List PV)}{v:PV}(hc:(run fnsP (n+185)).call "transpose" [.pv (gmPV K.s its r c rn cn)] h=some (.ok (.pv v),h)) :
  (run fnsP (n+188)).ex bwC (sAt dBR 3) ⟨bwV ps ns (some (.pv (.lst tl))) pa (some (.pv (gmPV K.s its r c rn cn))),h⟩=some (.ret v,⟨bwV ps ns (some (.pv (.lst tl))) pa (some (.pv (gmPV K.s its r c rn cn))),h⟩):=by
 have e1:(("transpose" : Str)==("_law_named" : Str))=false:=by kernel_rfl
 conv=>lhs;arg 3;whnf
 refine ex_ret (c:=.pv v) (cs:=h) (st1:=⟨bwV ps ns (some (.pv (.lst tl))) pa (some (.pv (gmPV K.s its r c rn cn))),h⟩) (evR_of ?_ (ev_ife (q:=false) (st1:=⟨bwV ps ns (some (.pv (.lst tl))) pa (some (.pv (gmPV K.s its r c rn cn))),h⟩) ?_ (ev_fn (c:=.pv v) (as:=[.pv (gmPV K.s its r c rn cn)]) (st1:=⟨bwV ps ns (some (.pv (.lst tl))) pa (some (.pv (gmPV K.s its r c rn cn))),h⟩) ?_ ?_ ?_ ?_ ?_ hc))) ?_ ?_
 case refine_2=>apply kQ K;kernel_rfl
 all_goals kernel_rfl
theorem rowsQ_len{E:Nat}{Q:List Prt}{l:List PV}(h:rowsQ E Q=some l):l.length=E:=by
 unfold rowsQ at h
 refine Bc.optE (Q.find? (fitsP E)) (fun e=>?_) fun P e=>?_
 ·rw [e] at h;cases h
 ·
  rw [e] at h
  have h1:=List.find?_some e
  unfold fitsP at h1
  have h:sideP P=some l:=h
  rw [h] at h1
  exact of_decide_eq_true h1
theorem turn_okB{P:Prt}(h:P.ok):(turn P).okG:=by
 rcases okG_pv (P:=P) with rfl | ⟨k,m,its,q,rfl⟩ | ⟨k,rr,cc,its,b1,b2,rfl⟩
 ·trivial
 ·exact h
 ·refine xE06 h fun h1 h2 h3 h4 h5 h6=>?_
  refine ⟨small3_c h2,h1,by simp [tab],fun x hx=>?_,h6,h5⟩
  refine xE12 (List.mem_map.mp (show x∈(List.range (cc * rr)).map _ from hx)) fun i z_ e_2=>?_;refine Bc.rwB e_2 ?_
  exact getD_ok h4 _
noncomputable def madeT(E:Nat)(K:Kd)(nms:List (Option Str))(Q:List (Nat × Prt)):PV:=gmPV K.s (tab ((colsQ E Q).length * E) (turnG E (colsQ E Q).length fun i=>(itsQ E K Q).getD i .none)) (colsQ E Q).length E (headO (namedB (headsQ nms Q)) (headsQ nms Q)) (rowsQ E (Q.map (·.2)))
theorem itsQ_len{E:Nat}{K:Kd}{Q:List (Nat × Prt)}(hi:∀x∈Q,inP E x.2)(hE:small3 E):(itsQ E K Q).length=E * (colsQ E Q).length:=by
 induction Q with
 |nil=>simp [itsQ,colsQ]
 |cons x Q ih =>
  have e1:itsQ E K (x::Q)=itsP E K x.2++itsQ E K Q:=rfl
  have e2:colsQ E (x::Q)=colsL E x.2++colsQ E Q:=rfl
  rw [e1,e2,List.length_append,List.length_append,ih fun y hy=>hi y (List.mem_cons_of_mem _ hy)]
  unfold itsP
  rw [flat_len (E:=E) (cols_len (hi x List.mem_cons_self) hE),Nat.mul_add,Nat.mul_comm (colsL E x.2).length]
inductive bwI(Ps:List Prt)(ns:List PV)(no:MO)(j:Nat)(st:St):Prop
 |mk (pa:Option AV):st=⟨bwV (Ps.map Prt.pv) ns (some (.cell 1)) pa none,[no,.lst (((Ps.take j).map turn).map Prt.pv)]⟩→bwI Ps ns no j st
theorem bw_go{Ps:List Prt}{φ:Fl→St→Prop}{rest:List Stmt}(hlen:Ps.length≤4)(ho:∀P∈Ps,Prt.ok P)
  (kk:∀pa,X (run fnsP (n+188)) bwC rest ⟨bwV (Ps.map Prt.pv) ns (some (.cell 1)) pa none,[no,.lst ((Ps.map turn).map Prt.pv)]⟩ φ) :
  X (run fnsP (n+188)) bwC (sAt dBR 1::rest) ⟨bwV (Ps.map Prt.pv) ns (some (.cell 1)) none none,[no,.lst []]⟩ φ:=by
 refine forN (n:=n+187) (bwI Ps ns no) bw_for (by kernel_rfl) (bw_it (n:=n)) (ds:=Ps.map Prt.pv) (items_lst (by rw [List.length_map];omega)) ⟨none,rfl⟩ ?_ ?_
 ·intro j d st hd ⟨pa,hst⟩
  refine Bc.rwE hst ?_
  rw [List.getElem?_map] at hd
  refine Bc.optE (Ps[j]?) (fun hq=>?_) fun P hq=>?_
  ·rw [hq] at hd;cases hd
  ·
   rw [hq] at hd;cases hd
   have htake:Ps.take (j+1)=Ps.take j++[P]:=by rw [List.take_succ,hq];rfl
   refine ⟨_,bw_bind,?_⟩
   refine rwE bw_bb ?_
   refine X.step (bw_app (ho P (List.mem_of_getElem? hq)) ?_) (X.nil ⟨some (.pv P.pv),?_⟩)
   ·rw [List.length_map,List.length_map,List.length_take];omega
   ·refine rwE htake (rwE List.map_append (rwE List.map_append ?_));rfl
 ·intro st ⟨pa,hst⟩
  refine Bc.rwE hst ?_
  rw [List.length_map,List.take_length]
  exact kk pa
theorem rows_fn{Ps:List Prt}{nms:List (Option Str)}(hlen:Ps.length≤4)(ho:∀P∈Ps,Prt.ok P)(hnm:nms.length=Ps.length)(hno:∀x∈nms,nmOk x) :
  Bound (Ps.map turn) nms "columns" madeT more ((run fnsP (n+189)).call "bind_rows" [.pv (.lst (Ps.map Prt.pv)),.pv (.lst (nms.map nameV)),.cell 0] (.lst []::more)):=by
 have hog:∀P∈Ps.map turn,Prt.okG P:=fun P hP=>by
  refine xE12 (List.mem_map.mp hP) fun P' h' e_2=>?_;refine Bc.rwB e_2 ?_
  exact turn_okB (ho P' h')
 have hl4:(Ps.map turn).length≤4:=by rw [List.length_map];exact hlen
 have key:∀(rs:Rs) (ds:List PV),(∀pa,X (run fnsP (n+188)) bwC [sAt dBR 2,sAt dBR 3] ⟨bwV (Ps.map Prt.pv) (nms.map nameV) (some (.cell 1)) pa none,[.lst [],.lst ((Ps.map turn).map Prt.pv)]⟩ (fun f st=>flOut (some (f,st))=some (rs,[.lst ds,.dead]))) →
   (run fnsP (n+189)).call "bind_rows" [.pv (.lst (Ps.map Prt.pv)),.pv (.lst (nms.map nameV)),.cell 0] (.lst []::more)=some (rs,.lst ds::more):=by
  intro rs ds hk
  refine call_X (vars0:=bwV (Ps.map Prt.pv) (nms.map nameV) none none none) (outs:=[.lst ds,.dead]) (ins:=[.lst []]) find_bind_rows plain_bind_rows rfl rfl rfl (by kernel_rfl) (by kernel_rfl) rfl ?_
  refine rwE bw_bd ?_
  refine X.step (bw_0 (n:=n)) ?_
  exact bw_go (n:=n) hlen ho hk
 rcases by_ok (n:=n) (more:=[.dead]) (w:="columns") hl4 hog (by rw [List.length_map];exact hnm) hno (.inr rfl) with ⟨i,h1,h2⟩ | ⟨e,l,h1,⟨h2,h3⟩ | ⟨K,ds,h2,h3,h4,h5,h6,h7⟩⟩
 ·exact .inl ⟨i,h1,key _ _ fun pa=>X.last (f:=.exc (.str (msgOf "columns" i))) (bw_2x (n:=n) h2) (by intro z;cases z) rfl⟩
 ·exact .inr ⟨e,l,h1,.inl ⟨h2,key _ _ fun pa=>X.step (bw_2 (n:=n) h3) (X.ret (bw_3n (n:=n)) rfl)⟩⟩
 ·refine .inr ⟨e,l,h1,.inr ⟨K,ds,h2,h3,h4,h5,h6,key _ _ fun pa=>X.step (bw_2 (n:=n) h7) ?_⟩⟩
  refine xE03 (ext_small hog h1) fun s1 z_ z_=>?_
  have hQ:=keptQ_ok hl4 hog h1
  generalize extN e l=E at *
  generalize keptQ E (Ps.map turn)=Q at *
  have hcl:(colsQ E Q).length≤12:=by
   have:(colsQ E Q).length≤3 * Q.length:=flat_le fun x hx=>cols_cnt (hog _ (List.mem_of_getElem? (hQ.at_ x hx)))
   have:=hQ.len;omega
  have hT:=trans_g (n:=n+123) (cells:=[.lst ds,.dead]) (k:=K.s) (r:=E) (c:=(colsQ E Q).length) (g:=fun i=>(itsQ E K Q).getD i .none) (rn:=rowsQ E (Q.map (·.2))) (cn:=headO (namedB (headsQ nms Q)) (headsQ nms Q)) s1 hcl (fun l hl=>rowsQ_len hl) (fun l hl=>by
   unfold headO at hl
   split at hl
   ·cases hl;exact headsQ_len hog hQ
   ·cases hl)
  rw [← (itsQ_len (K:=K) hQ.fit s1),← tab_of] at hT
  exact X.ret (bw_3 (n:=n) hT) rfl
end Bc
namespace Bc
theorem toPyL_ok:∀{l:List PV} {dd:Nat},(∀d∈l,∃p,toPy d=some p∧p.canLay0=true∧p.depth≤dd∧PyData.eqv p p=true)→∃q,toPyL l=some q∧PyData.canLayAll0 q=true∧PyData.depthAll q≤dd∧PyData.eqvAll q q=true
 |[],dd,_=>⟨[],rfl,by simp [PyData.canLayAll0],by simp [PyData.depthAll],by simp [PyData.eqvAll]⟩
 |d::l,dd,h=>by
  refine xE14 (h d List.mem_cons_self) fun p h1 h2 h3 h4=>?_
  refine xE14 (toPyL_ok (l:=l) (dd:=dd) fun x hx=>h x (List.mem_cons_of_mem _ hx)) fun q g1 g2 g3 g4=>?_
  refine ⟨p::q,?_,?_,?_,?_⟩
  ·exact (ob_eq h1).trans (ob_eq g1)
  ·simp [PyData.canLayAll0,h2,g2]
  ·simp only [PyData.depthAll];exact Nat.max_le_of_le_of_le h3 g3
  ·simp [PyData.eqvAll,h4,g4]
noncomputable def sfOk(dd:Nat)(d:PV):Prop:=∃p,toPy d=some p∧p.canLay0=true∧p.depth≤dd∧PyData.eqv p p=true
theorem sf_mono{a b:Nat}{d:PV}(h:sfOk a d)(hab:a≤b):sfOk b d:=by
 refine xE14 h fun p h1 h2 h3 h4=>?_
 exact ⟨p,h1,h2,by exact Nat.le_trans h3 hab,h4⟩
theorem sf_lst{dd:Nat}{l:List PV}(h:∀d∈l,sfOk dd d):sfOk (dd+1) (.lst l):=by
 refine xE14 (toPyL_ok h) fun q g1 g2 g3 g4=>?_
 refine ⟨.list q,?_,?_,?_,?_⟩
 ·exact ob_eq g1
 ·simp [PyData.canLay0,g2]
 ·simp only [PyData.depth];exact Nat.add_le_add_right g3 1
 ·simp [PyData.eqv,g4]
theorem sf_eq{dd:Nat}{d:PV}(h:sfOk dd d)(hd:dd≤64):eqPV d d=some true:=by
 refine xE14 h fun p h1 h2 h3 h4=>?_
 have:SeqAt.shaped p=true:=by unfold SeqAt.shaped;refine rwE h2 (rwE (decide_eq_true (by exact Nat.le_trans h3 hd)) ?_);rfl
 refine (ob_eq h1).trans ((ob_eq h1).trans ?_)
 refine rwE h4 ?_
 exact gd_of (by refine rwE this ?_;rfl)
noncomputable def sfB(dd:Nat)(d:PV):Bool:=match toPy d with
 |some p=>p.canLay0&&(decide (p.depth≤dd)&&PyData.eqv p p)
 |none=>false
theorem sf_of{dd:Nat}{d:PV}(h:sfB dd d=true):sfOk dd d:=by
 unfold sfB at h
 refine Bc.optE (toPy d) (fun e=>?_) fun p e=>?_
 ·rw [e] at h;cases h
 ·
  rw [e] at h
  have h:(p.canLay0&&(decide (p.depth≤dd)&&PyData.eqv p p))=true:=h
  rw [Bool.and_eq_true,Bool.and_eq_true,decide_eq_true_eq] at h
  exact ⟨p,e,h.1,h.2.1,h.2.2⟩
theorem sf_none:sfOk 0 .none:=sf_of (by kernel_rfl)
theorem sf_int{i:Int}:sfOk 0 (.int i):=⟨.int i,rfl,by kernel_rfl,Nat.zero_le _,by simp [PyData.eqv]⟩
theorem sf_cv{k k':Kd}{x:PV}(h:OkIt k x):sfOk 2 (cv k k' x):=by
 exact sf_of (by apply okQ h;apply kQ k;apply kQ k';kernel_rfl)
theorem eq_nil{l:List PV}(h:l≠[]){dd:Nat}(hs:∀d∈l,sfOk dd d)(hd:dd < 64):eqPV (.lst l) (.lst [])=some false:=by
 refine xE14 (toPyL_ok hs) fun q g1 g2 g3 g4=>?_
 refine xE14 (sf_lst hs) fun p h1 h2 h3 h4=>?_
 have:q≠[]:=by
  intro z;subst z
  cases l with
  |nil=>exact h rfl
  |cons a r =>
   exact obE g1 fun z_ z_ g1=>obE g1 fun z_ z_ g1=>nomatch g1
 have e1:toPy (.lst [])=some (.list []):=by kernel_rfl
 have e2:toPy (.lst l)=some (.list q):=ob_eq g1
 have e3:SeqAt.shaped p=true:=by unfold SeqAt.shaped;refine rwE h2 (rwE (decide_eq_true (by exact Nat.le_trans h3 hd)) ?_);rfl
 have e4:SeqAt.shaped (.list [])=true:=by kernel_rfl
 have h1:=Option.some.inj (e2.symm.trans h1)
 subst h1
 refine (ob_eq e2).trans ((ob_eq e1).trans ((gd_of (by refine rwE e3 (rwE e4 ?_);rfl)).trans (congrArg some ?_)))
 cases q with
 |nil=>exact absurd rfl this
 |cons a r=>simp [PyData.eqv,PyData.eqvAll]
end Bc
namespace Bc
noncomputable def dv(ac:Bool)(P:Prt):Prt:=bif ac then turn P else P
noncomputable def tp(P:Prt):PV:=.tup [P.pv,P.sh]
noncomputable abbrev bdC:Cx:=⟨d_law_bound.scope.names,true⟩
noncomputable def bdV(ps hs:List PV)(ac:Bool)(al ex ea sh pi ke ki kd li to si un fo ma mn:Option AV):Vars:=[("parts",some (.pv (.lst ps))),("heads",some (.pv (.lst hs))),("across",some (.pv (.bool ac))),("along",al),("extent",ex),("each",ea),("shape",sh),("piece",pi),("kept",ke),("kinds",ki),("kind",kd),("lines",li),("tops",to),("sides",si),("uneven",un),("found",fo),("marks",ma),("many",mn)]
noncomputable def alI(ac:Bool):Int:=bif ac then 1 else 0
noncomputable def bd1(ps hs:List PV)(ac:Bool)(ex ea sh:Option AV):Vars:=bdV ps hs ac (iA (alI ac)) ex ea sh none none none none none none none none none none none
noncomputable def bdS(i:Nat):Stmt:=sAt d_law_bound i
noncomputable def bdB(i:Nat):Stmt:=(forBody (bdS 2)).getD i default
theorem bd_bd:d_law_bound.body=[bdS 0,bdS 1,bdS 2,bdS 3,bdS 4,bdS 5,bdS 6,bdS 7,bdS 8,bdS 9,bdS 10,bdS 11,bdS 12,bdS 13]:=by kernel_rfl
theorem bd_for:bdS 2=.For (forT (bdS 2)) (forI (bdS 2)) (forBody (bdS 2)) [] (forPos (bdS 2)):=by kernel_rfl
theorem bd_bb:forBody (bdS 2)=[bdB 0,bdB 1]:=by kernel_rfl
variable{n i:Nat}{ps hs:List PV}{ac:Bool}{ex ea sh:Option AV}{h:List MO}
theorem bd_01:exs (run fnsP (n+69)) bdC [bdS 0,bdS 1] ⟨bdV ps hs ac none none none none none none none none none none none none none none none,h⟩=some (.next,⟨bd1 ps hs ac (iA (-1)) none none,h⟩):=by apply bQ ac;kernel_rfl
theorem bd_bind{d:PV}:bindT bdC.names (forT (bdS 2)) d ⟨bd1 ps hs ac ex ea sh,h⟩=some ⟨bd1 ps hs ac ex (some (.pv d)) sh,h⟩:=by kernel_rfl
theorem bd_rng(hl:ps.length≤4):evP (run fnsP (n+68)) bdC (forI (bdS 2)) ⟨bd1 ps hs ac ex ea sh,h⟩=some (.rng ps.length,⟨bd1 ps hs ac ex ea sh,h⟩):=by
 apply mQ hl;kernel_rfl
theorem bd_B0{a b:PV}(hg:ps[i]? = some (.tup [a,b]))(hi:i < 4):(run fnsP (n+68)).ex bdC (bdB 0) ⟨bd1 ps hs ac ex (iA i) sh,h⟩=some (.next,⟨bd1 ps hs ac ex (iA i) (some (.pv b)),h⟩):=by
 conv=>lhs;arg 3;whnf
 refine ex_asg (rs:=.pv b) (st1:=⟨bd1 ps hs ac ex (iA i) sh,h⟩) ?_ ?_ (evR_of ?_ (ev_sub' (a:=.tup [a,b]) (b:=.int 1) (st1:=⟨bd1 ps hs ac ex (iA i) sh,h⟩) ?_ (evBase_P ?_ (evP_of ?_ (ev_sub' (a:=.lst ps) (b:=.int i) (st1:=⟨bd1 ps hs ac ex (iA i) sh,h⟩) ?_ ?_ ?_ (nth_pv hg (by omega))))) ?_ ?_)) ?_
 all_goals kernel_rfl
theorem bd_B1n:(run fnsP (n+68)).ex bdC (bdB 1) ⟨bd1 ps hs ac ex ea (some (.pv .none)),h⟩=some (.next,⟨bd1 ps hs ac ex ea (some (.pv .none)),h⟩):=by kernel_rfl
noncomputable def shD(r c:Nat):Option AV:=some (.pv (.lst [.int r,.int c]))
noncomputable def alN(ac:Bool)(r c:Nat):Nat:=bif ac then c else r
theorem bd_B1{r c:Nat}{e:Int}(hs3:small3 (alN ac r c))(he:okE e)(hne:¬ (0≤e∧((alN ac r c:Nat):Int)≠e)):(run fnsP (n+68)).ex bdC (bdB 1) ⟨bd1 ps hs ac (iA e) ea (shD r c),h⟩=some (.next,⟨bd1 ps hs ac (iA (alN ac r c:Nat)) ea (shD r c),h⟩):=by
 have:e=-1∨e=((alN ac r c:Nat):Int):=okE_m1 he hne
 cases ac
 ·have hs3:small3 r:=hs3
  have this:e=-1∨e=(r:Int):=this
  rcases this with rfl | rfl
  ·kernel_rfl
  ·apply sQ hs3;kernel_rfl
 ·have hs3:small3 c:=hs3
  have this:e=-1∨e=(c:Int):=this
  rcases this with rfl | rfl
  ·kernel_rfl
  ·apply sQ hs3;kernel_rfl
noncomputable def refV(i:Nat):PV:=.tup [.str "refused",.int ((i:Int)+1)]
theorem bd_B1x{r c:Nat}{e:Int}(hs3:small3 (alN ac r c))(he:okE e)(hne:0≤e∧((alN ac r c:Nat):Int)≠e):(run fnsP (n+68)).ex bdC (bdB 1) ⟨bd1 ps hs ac (iA e) (iA i) (shD r c),h⟩=some (.ret (refV i),⟨bd1 ps hs ac (iA e) (iA i) (shD r c),h⟩):=by
 cases ac
 ·have hs3:small3 r:=hs3
  have hne:0≤e∧(r:Int)≠e:=hne
  refine gQ (decide_eq_true hne) ?_;apply iQ he;apply sQ hs3;kernel_rfl
 ·have hs3:small3 c:=hs3
  have hne:0≤e∧(c:Int)≠e:=hne
  refine gQ (decide_eq_true hne) ?_;apply iQ he;apply sQ hs3;kernel_rfl
theorem dv_mat{k:Kd}{r c:Nat}{its:List PV}{b1 b2:Bool}:∃its' c' x y,dv ac (.mat k r c its b1 b2)=.mat k (alN ac r c) c' its' x y:=by
 cases ac
 ·exact ⟨_,_,_,_,rfl⟩
 ·exact ⟨_,_,_,_,rfl⟩
inductive bdI(Ps:List Prt)(hs:List PV)(ac:Bool)(j:Nat)(st:St):Prop
 |mk (e l:Int) (ea sh:Option AV):okE e→extGo ((Ps.drop j).map (dv ac)) j e l=extGo (Ps.map (dv ac)) 0 (-1) 0→st=⟨bd1 (Ps.map tp) hs ac (iA e) ea sh,[]⟩→bdI Ps hs ac j st
theorem bd_go{Ps:List Prt}{φ:Fl→St→Prop}{rest:List Stmt}(hlen:Ps.length≤4)(ho:∀P∈Ps,Prt.ok P)
  (kx:∀i st,extGo (Ps.map (dv ac)) 0 (-1) 0=.inl i→φ (.ret (refV i)) st)
  (kk:∀e l ea sh,okE e→extGo (Ps.map (dv ac)) 0 (-1) 0=.inr (e,l)→X (run fnsP (n+69)) bdC rest ⟨bd1 (Ps.map tp) hs ac (iA e) ea sh,[]⟩ φ) :
  X (run fnsP (n+69)) bdC (bdS 2::rest) ⟨bd1 (Ps.map tp) hs ac (iA (-1)) none none,[]⟩ φ:=by
 refine forN (n:=n+68) (bdI Ps hs ac) bd_for (by kernel_rfl) (bd_rng (by simpa using hlen)) rfl ⟨-1,0,none,none,.inl rfl,rfl,rfl⟩ ?_ ?_
 ·intro j d st hd ⟨e,l,ea,sh,he,ht,hst⟩
  subst hst
  obtain ⟨rfl,hj'⟩:=rng_get hd
  rw [List.length_map] at hj'
  refine ⟨_,bd_bind,?_⟩
  refine rwE bd_bb ?_
  have hget:(Ps.map tp)[j]? = some (.tup [Ps[j].pv,Ps[j].sh]):=by refine rwE (List.getElem?_map) (rwE (List.getElem?_eq_getElem hj') ?_);rfl
  refine X.step (bd_B0 hget (by exact Nat.lt_of_lt_of_le hj' hlen)) ?_
  rw [List.drop_eq_getElem_cons hj',List.map_cons] at ht
  have hoi:=ho _ (List.getElem_mem hj')
  rcases okG_pv (P:=Ps[j]) with hP | ⟨k,m,its,q,hP⟩ | ⟨k,rr,cc,its,b1,b2,hP⟩
  ·rw [hP] at ht ⊢
   refine X.step bd_B1n (X.nil ⟨e,l,_,_,he,?_,rfl⟩)
   refine rwB ht ?_;cases ac<;>rfl
  ·rw [hP] at ht ⊢
   refine X.step bd_B1n (X.nil ⟨e,maxI l [(its.length:Int)],_,_,he,?_,rfl⟩)
   refine rwB ht ?_;cases ac<;>rfl
  ·rw [hP] at ht hoi ⊢
   refine xE41 (dv_mat (ac:=ac) (k:=k) (r:=rr) (c:=cc) (its:=its) (b1:=b1) (b2:=b2)) fun its' c' x y hdv=>?_
   rw [hdv,extGo_mat] at ht
   have hs3:small3 (alN ac rr cc):=by
    cases ac
    ·exact hoi.1
    ·exact small3_c hoi.2.1
   by_cases hx:0≤e∧((alN ac rr cc:Nat):Int)≠e
   ·rw [if_pos hx] at ht
    exact X.ret (bd_B1x hs3 he hx) (kx j _ ht.symm)
   ·rw [if_neg hx] at ht
    exact X.step (bd_B1 hs3 he hx) (X.nil ⟨_,l,_,_,okE_small hs3,ht,rfl⟩)
 ·intro st ⟨e,l,ea,sh,he,ht,hst⟩
  refine Bc.rwE hst ?_
  rw [List.length_map,List.length_range,List.length_map,List.drop_length] at ht
  exact kk e l ea sh he ht.symm
end Bc
namespace Bc
noncomputable def Prt.its:Prt→List PV
 | .nul=>[]
 | .vec _ _ its _=>its
 | .mat _ _ _ its _ _=>its
noncomputable def notNul:Prt→Bool
 | .nul=>false
 |_=>true
theorem its_pv{P:Prt}(h:P≠.nul):∃at_,P.pv=vecPV P.kd.s P.its at_:=by
 cases P
 ·exact absurd rfl h
 ·exact ⟨_,rfl⟩
 ·exact ⟨_,rfl⟩
theorem its_len{P:Prt}(h:P.ok):P.its.length≤9:=by
 rcases okG_pv (P:=P) with rfl | ⟨k,m,its,q,rfl⟩ | ⟨k,rr,cc,its,b1,b2,rfl⟩
 ·exact Nat.zero_le _
 ·exact Nat.le_trans (small3_len h.1 h.2.1) (by decide)
 ·refine xE04 h fun h1 h2 h3 z_=>?_
  show its.length≤9
  rcases h1 with rfl | rfl | rfl | rfl<;>rcases h2 with rfl | rfl | rfl<;>omega
noncomputable def lensP(Ps:List Prt):List Int:=(Ps.filter notNul).map fun P=>(P.its.length:Int)
theorem dv_lens{ac:Bool}{Ps:List Prt}{i:Nat}{e l e' l':Int}(ho:∀P∈Ps,Prt.ok P)(hl:0≤l∧l≤3)(h:extGo (Ps.map (dv ac)) i e l=.inr (e',l'))(h0:e' < 0):l'=maxI l (lensP Ps):=by
 induction Ps generalizing i e l with
 |nil=>cases h;rfl
 |cons P r ih =>
  have ho':∀P∈r,Prt.ok P:=fun P hP=>ho P (List.mem_cons_of_mem _ hP)
  rw [List.map_cons] at h
  have hoi:=ho _ List.mem_cons_self
  rcases okG_pv (P:=P) with rfl | ⟨k,m,its,q,rfl⟩ | ⟨k,rr,cc,its,b1,b2,rfl⟩
  ·have h:extGo (r.map (dv ac)) (i+1) e l=.inr (e',l'):=by cases ac<;>exact h
   exact ih ho' hl h
  ·have h:extGo (r.map (dv ac)) (i+1) e (maxI l [(its.length:Int)])=.inr (e',l'):=by cases ac<;>exact h
   have hm:its.length≤3:=small3_len hoi.1 hoi.2.1
   refine ih ho' ?_ h
   show 0≤(if l < (its.length:Int) then (its.length:Int) else l)∧(if l < (its.length:Int) then (its.length:Int) else l)≤3
   split<;>omega
  ·refine xE41 (dv_mat (ac:=ac) (k:=k) (r:=rr) (c:=cc) (its:=its) (b1:=b1) (b2:=b2)) fun its' c' x y hdv=>?_
   rw [hdv,extGo_mat] at h
   split at h
   ·cases h
   ·have hog:∀P∈r.map (dv ac),Prt.okG P:=fun P hP=>by
     refine xE12 (List.mem_map.mp hP) fun P' h' e_2=>?_;subst e_2
     cases ac
     ·have:=ho' P' h'
      rcases okG_pv (P:=P') with rfl | ⟨k,m,its,q,rfl⟩ | ⟨k,rr,cc,its,b1,b2,rfl⟩
      ·trivial
      ·exact this
      ·exact ⟨this.1,small3_c this.2.1,this.2.2⟩
     ·exact turn_okB (ho' P' h')
    have:=(ext_all hog hl h).1 (by exact Int.natCast_nonneg (alN ac rr cc))
    omega
variable{n:Nat}{hs:List PV}{ac:Bool}{ea sh:Option AV}{Ps:List Prt}
noncomputable def preL(a:Option Prt):Vars:=[(".0",none),("piece",a.map fun P=>AV.pv P.pv),("shape",a.map fun P=>AV.pv P.sh)]
theorem bd3_stmt{V:Vars}{q1 q2 q3 q4 q5 q6:Pos}{tt i lz cnd elt:Expr}{sc:Scope}(hlen:Ps.length≤4)(ho:∀P∈Ps,Prt.ok P)(hown:oNm sc=([".0","piece","shape"]:List Str))
  (c1:(!(bdC.lp&&scO bdC.names sc&&compOk sc (V)))=false) (c2:(isSetE i||!ownT sc tt)=false)
  (hi:evP (run fnsP (n+65)) bdC i ⟨V,[]⟩=some (.lst (Ps.map tp),⟨V,[]⟩))
  (hb:∀P a b,bindT (rlN bdC.names sc.names) tt (tp P) ⟨(".0",none)::("piece",a)::("shape",b)::V,[]⟩=some ⟨(".0",none)::("piece",some (.pv P.pv))::("shape",some (.pv P.sh))::V,[]⟩)
  (hf0:∀s,evT (run fnsP (n+65)) ⟨rlN bdC.names sc.names,bdC.lp⟩ cnd ⟨(".0",none)::("piece",some (.pv nulPV))::("shape",s)::V,[]⟩=some (false,⟨(".0",none)::("piece",some (.pv nulPV))::("shape",s)::V,[]⟩))
  (hf1:∀(k:Kd) its at_ s,evT (run fnsP (n+65)) ⟨rlN bdC.names sc.names,bdC.lp⟩ cnd ⟨(".0",none)::("piece",some (.pv (vecPV k.s its at_)))::("shape",s)::V,[]⟩=some (true,⟨(".0",none)::("piece",some (.pv (vecPV k.s its at_)))::("shape",s)::V,[]⟩))
  (he:∀(k:Kd) its at_ s,its.length≤9→evP (run fnsP (n+65)) ⟨rlN bdC.names sc.names,bdC.lp⟩ elt ⟨(".0",none)::("piece",some (.pv (vecPV k.s its at_)))::("shape",s)::V,[]⟩=some (.int its.length,⟨(".0",none)::("piece",some (.pv (vecPV k.s its at_)))::("shape",s)::V,[]⟩))
  (hz:evP (run fnsP (n+66)) bdC lz ⟨V,[]⟩=some (.lst [.int 0],⟨V,[]⟩))
  (g1:sOk bdC.names "extent" (V)=true) (g2:evName fnsP bdC "max" ⟨V,[]⟩=some (.pv (.glb "max"),⟨V,[]⟩)) (g3:∀d,setV "extent" d (V)=bd1 (Ps.map tp) hs ac (some d) ea sh) :
  (run fnsP (n+68)).ex bdC (.Assign [.Name "extent" q1] (.Call (.Name "max" q2) [.BinOp lz .Add (.ListComp elt [⟨tt,i,[cnd],0⟩] sc q3) q4] [] q5) q6) ⟨V,[]⟩=some (.next,⟨bd1 (Ps.map tp) hs ac (iA (maxI 0 (lensP Ps))) ea sh,[]⟩):=by
 have t1:=comp_mapT (R:=run fnsP (n+65)) (cx:=bdC) (enc:=tp) (as:=Ps) (pre:=preL) (f:=fun P=>.int (P.its.length:Int)) (g:=notNul) (elt:=elt) (t:=tt) (ifs:=[cnd]) (scope:=sc) (st:=⟨V,[]⟩) c1 c2 hi (items_lst (by rw [List.length_map];omega)) (by omega) (by refine rwE hown ?_;rfl) (fun a=>by refine rwE hown ?_;rfl)
  (fun P z_ a=>hb P _ _) (fun P hP=>by
   refine evAnd1 ?_
   by_cases hn:P=.nul
   ·refine Bc.rwE hn ?_;exact hf0 _
   ·refine xE11 (its_pv hn) fun at_ hpv=>?_
    have hg:notNul P=true:=by cases P<;>first | rfl | exact absurd rfl hn
    unfold preL
    simp only [Option.map_some,hpv,hg]
    exact hf1 _ _ _ _) (fun P hP hg=>by
   have hn:P≠.nul:=by intro z;subst z;cases hg
   refine xE11 (its_pv hn) fun at_ hpv=>?_
   unfold preL
   simp only [Option.map_some,hpv]
   exact he _ _ _ _ (its_len (ho P hP)))
 have t2:=ev_bin (n:=n+66) (p:=q4) (op:=.Add) (d:=.lst ([.int 0]++(Ps.filter notNul).map fun P=>.int (P.its.length:Int))) hz (evP_of rfl (ev_lc (n:=n+65) (p:=q3) t1)) (by
  exact add_lst (by decide) (by rw [List.length_map];have:=List.length_filter_le notNul Ps;omega))
 have hints:∀L:List Prt,intsOf (L.map fun P=>PV.int (P.its.length:Int))=some (L.map fun P=>(P.its.length:Int)):=by
  intro L
  induction L with
  |nil=>rfl
  |cons P L ih=>exact ints_cons ih
 have t3:=evCall_bi (n:=n+66) (p2:=q2) (x:="max") (cx:=bdC) (ds:=[.lst ([.int 0]++(Ps.filter notNul).map fun P=>.int (P.its.length:Int))]) (d:=.int (maxI 0 (lensP Ps))) (args:=[.BinOp lz .Add (.ListComp elt [⟨tt,i,[cnd],0⟩] sc q3) q4]) (st1:=⟨V,[]⟩) rfl g2 (by kernel_rfl) rfl (by kernel_rfl) (eAc (evArg_P rfl (evP_of rfl t2)) rfl) (by
  exact bi_max (ints_cons (hints _)) (by unfold lensP;rw [List.length_map];have:=List.length_filter_le notNul Ps;omega))
 exact ex_asg (n:=n+67) (rs:=.pv (.int (maxI 0 (lensP Ps)))) (st1:=⟨V,[]⟩) g1 rfl (evR_call (fun z_ z_ z_ z=>nomatch z) t3) (by rw [g3];rfl)
theorem bd3_i:bdS 3=.If (ifT (bdS 3)) (ifBody (bdS 3)) (ifElse (bdS 3)) (ifPos (bdS 3)):=by kernel_rfl
theorem bd3_b:ifBody (bdS 3)=[(ifBody (bdS 3)).getD 0 default]:=by kernel_rfl
theorem bd3_t:evT (run fnsP (n+68)) bdC (ifT (bdS 3)) ⟨bd1 (Ps.map tp) hs ac (iA (-1)) ea sh,[]⟩=some (true,⟨bd1 (Ps.map tp) hs ac (iA (-1)) ea sh,[]⟩):=by kernel_rfl
theorem bd3_x{e:Option AV}(hlen:Ps.length≤4)(ho:∀P∈Ps,Prt.ok P):(run fnsP (n+68)).ex bdC ((ifBody (bdS 3)).getD 0 default) ⟨bd1 (Ps.map tp) hs ac e ea sh,[]⟩=some (.next,⟨bd1 (Ps.map tp) hs ac (iA (maxI 0 (lensP Ps))) ea sh,[]⟩):=by
 conv=>lhs;arg 3;whnf
 refine bd3_stmt hlen ho ?_ ?_ ?_ ?_ ?_ ?_ ?_ ?_ ?_ ?_ ?_ ?_
 case refine_7=>intro k its at_ s;cases k<;>kernel_rfl
 case refine_8 =>
  intro k its at_ s hl
  refine evP_of ?_ (ev_bi (ds:=[.lst its]) ?_ ?_ ?_ ?_ ?_ ?_ ?_)
  case refine_8 =>
   exact bi_len (by omega)
  all_goals kernel_rfl
 all_goals (intros;kernel_rfl)
theorem bd_3{e l:Int}(hlen:Ps.length≤4)(ho:∀P∈Ps,Prt.ok P)(he:okE e)(h:extGo (Ps.map (dv ac)) 0 (-1) 0=.inr (e,l)):(run fnsP (n+69)).ex bdC (bdS 3) ⟨bd1 (Ps.map tp) hs ac (iA e) ea sh,[]⟩=some (.next,⟨bd1 (Ps.map tp) hs ac (iA (if e < 0 then l else e)) ea sh,[]⟩):=by
 rcases he with rfl | rfl | rfl | rfl | rfl
 ·have:=dv_lens ho ⟨Int.le_refl 0,by exact Int.zero_le_ofNat 3⟩ h (by exact Int.sign_eq_neg_one_iff_neg.mp rfl)
  refine rwE (if_pos (by exact Int.sign_eq_neg_one_iff_neg.mp rfl)) (rwE this ?_)
  refine ex_if bd3_i bd3_t ?_
  refine rwE bd3_b ?_
  exact ob_eq (bd3_x hlen ho)
 all_goals kernel_rfl
end Bc
namespace Bc
theorem kpGo_eq{E:Nat}{L:List Prt}{i:Nat}:kpGo E L i=(List.range' i L.length).filter fun j=>keepB E (L.getD (j - i) .nul):=by
 induction L generalizing i with
 |nil=>rfl
 |cons P r ih =>
  rw [kpGo_cons,List.length_cons,List.range'_succ,List.filter_cons,Nat.sub_self,ih]
  refine rwE (List.filter_congr fun j hj=>?_:(List.range' (i+1) r.length).filter (fun j=>keepB E ((P::r).getD (j - i) .nul))=(List.range' (i+1) r.length).filter (fun j=>keepB E (r.getD (j - (i+1)) .nul))) rfl
  rw [← Nat.sub_add_cancel (Nat.sub_pos_of_lt (List.mem_range'_1.mp hj).1),← Nat.sub_add_eq,List.getD_cons_succ]
theorem kpGo_dv{E:Nat}{ac:Bool}{L:List Prt}{i:Nat}:kpGo E (L.map (dv ac)) i=kpGo E L i:=by
 induction L generalizing i with
 |nil=>rfl
 |cons P r ih =>
  have e:keepB E (dv ac P)=keepB E P:=by cases ac<;>cases P<;>rfl
  refine rwE List.map_cons (rwE kpGo_cons (rwE kpGo_cons (rwE ih ?_)))
  exact rwE e rfl
theorem ev_andF{n:Nat}{cx:Cx}{st st1:St}{e1:Expr}{es:List Expr}{p:Pos}(h1:evT (run fnsP n) cx e1 st=some (false,st1)):(run fnsP (n+1)).ev cx (.BoolOp .And (e1::es) p) st=some (.pv (.bool false),st1):=by
 show ob (evAnd (run fnsP n) cx (e1::es) st) _=_
 have h3:evAnd (run fnsP n) cx (e1::es) st=some (false,st1):=ob_eq h1
 exact ob_eq h3
theorem ev_orB{n:Nat}{cx:Cx}{st st1:St}{e1:Expr}{es:List Expr}{p:Pos}{q:Bool}(h1:evOr (run fnsP n) cx (e1::es) st=some (q,st1)):(run fnsP (n+1)).ev cx (.BoolOp .Or (e1::es) p) st=some (.pv (.bool q),st1):=by
 show ob (evOr (run fnsP n) cx (e1::es) st) _=_
 exact ob_eq h1
theorem evOr_t{R:Rc}{cx:Cx}{st st1:St}{e1:Expr}{es:List Expr}(h1:evT R cx e1 st=some (true,st1)):evOr R cx (e1::es) st=some (true,st1):=by
 exact ob_eq h1
theorem evOr_f{R:Rc}{cx:Cx}{st st1 st2:St}{e1:Expr}{es:List Expr}{q:Bool}(h1:evT R cx e1 st=some (false,st1))(h2:evOr R cx es st1=some (q,st2)):evOr R cx (e1::es) st=some (q,st2):=by
 exact (ob_eq h1).trans h2
theorem ev_pe{m j q:Nat}{cx:Cx}{st:St}{o r z:Expr}{p p2:Pos}{ps:List PV}{a b d:PV}(hget:ps[j]? = some (.tup [a,b]))(hj:j < 4)(hs:isSliceE r=false)(hsz:isSliceE z=false)(ho:evBase (run fnsP m) cx o st=some (.pv (.lst ps),st))(hr:evP (run fnsP m) cx r st=some (.int j,st))(hz:evP (run fnsP (m+1)) cx z st=some (.int q,st))(hq:subPV (.tup [a,b]) (.int q)=some d) :
  (run fnsP (m+2)).ev cx (.Subscript (.Subscript o r p) z p2) st=some (.pv d,st) :=
 ev_sub' hsz (evBase_P rfl (evP_of rfl (ev_sub' hs ho hr (nth_pv hget (by omega))))) hz hq
theorem ev_pa{m j q:Nat}{cx:Cx}{st:St}{o r z:Expr}{p p2 p3:Pos}{x:Str}{ps:List PV}{a b d c:PV}(hget:ps[j]? = some (.tup [a,b]))(hj:j < 4)(hs:isSliceE r=false)(hsz:isSliceE z=false)(ho:evBase (run fnsP m) cx o st=some (.pv (.lst ps),st))(hr:evP (run fnsP m) cx r st=some (.int j,st))(hz:evP (run fnsP (m+1)) cx z st=some (.int q,st))(hq:subPV (.tup [a,b]) (.int q)=some d)(hc:attrOf (.pv d) x=some (.pv c)) :
  evP (run fnsP (m+3)) cx (.Attribute (.Subscript (.Subscript o r p) z p2) x p3) st=some (c,st) :=
 evP_of rfl (ev_attr' rfl (evBase_P rfl (evP_of rfl (ev_pe hget hj hs hsz ho hr hz hq))) hc)
variable{n E i:Nat}{ps hs:List PV}{ac:Bool}{ea sh:Option AV}{Ps:List Prt}{h:List MO}
noncomputable abbrev kcV(ps hs:List PV)(ac:Bool)(E:Nat)(ea sh:Option AV)(j:Nat):Vars:=(".0",none)::("each",iA j)::bd1 ps hs ac (iA E) ea sh
theorem neq_null(k:Kd):cmpPV .NotEq (.str k.s) (.str "NULL")=some true:=by apply kQ k;kernel_rfl
theorem neq_nil{k:Kd}{its:List PV}(ho:∀x∈its,OkIt k x):cmpPV .NotEq (.lst its) (.lst [])=some (decide (0 < its.length)):=by
 cases its with
 |nil=>kernel_rfl
 |cons a r =>
  have:eqPV (.lst (a::r)) (.lst [])=some false:=eq_nil (dd:=2) (List.cons_ne_nil a r) (fun d hd=>by refine rwB (cv_self k d) ?_;exact sf_cv (ho d hd)) (by exact Nat.lt_of_sub_eq_succ rfl)
  exact ne_of_eq this
theorem bd4_stmt{V:Vars}{q1 q2 q3 q4 p3:Pos}{i cnd:Expr}{sc:Scope}(hlen:Ps.length≤4)(hown:oNm sc=([".0","each"]:List Str))
  (c1:(!(bdC.lp&&scO bdC.names sc&&compOk sc (V)))=false) (c2:(isSetE i||!ownT sc (.Name "each" p3))=false)
  (hi:evP (run fnsP (n+68)) bdC i ⟨V,h⟩=some (.rng Ps.length,⟨V,h⟩))
  (hb:∀d a,bindT (rlN bdC.names sc.names) (.Name "each" p3) d ⟨(".0",none)::("each",a)::V,h⟩=some ⟨(".0",none)::("each",some (.pv d))::V,h⟩)
  (hf:∀(j:Nat) P,Ps[j]? = some P→j < 4→evT (run fnsP (n+68)) ⟨rlN bdC.names sc.names,bdC.lp⟩ cnd ⟨(".0",none)::("each",iA j)::V,h⟩=some (keepB E P,⟨(".0",none)::("each",iA j)::V,h⟩))
  (he:∀d,evP (run fnsP (n+68)) ⟨rlN bdC.names sc.names,bdC.lp⟩ (.Name "each" q1) ⟨(".0",none)::("each",some (.pv d))::V,h⟩=some (d,⟨(".0",none)::("each",some (.pv d))::V,h⟩))
  (g1:sOk bdC.names "kept" (V)=true) :
  (run fnsP (n+69)).ex bdC (.Assign [.Name "kept" q2] (.ListComp (.Name "each" q1) [⟨.Name "each" p3,i,[cnd],0⟩] sc q3) q4) ⟨V,h⟩=some (.next,⟨setV "kept" (.pv (.lst ((kpGo E Ps 0).map natV))) (V),h⟩):=by
 have t1:=comp_mapT (R:=run fnsP (n+68)) (cx:=bdC) (enc:=natV) (as:=List.range Ps.length) (pre:=fun a=>[(".0",none),("each",a.map fun j=>AV.pv (natV j))]) (f:=natV) (g:=fun j=>keepB E (Ps.getD j .nul)) (elt:=.Name "each" q1) (t:=.Name "each" p3) (ifs:=[cnd]) (scope:=sc) (st:=⟨V,h⟩) c1 c2 hi rfl (by refine rwE List.length_range ?_;omega) (by refine rwE hown ?_;rfl) (fun a=>by refine rwE hown ?_;rfl)
  (fun P z_ a=>hb _ _) (fun j hj=>by
   have hj:=List.mem_range.mp hj
   have hg:Ps.getD j .nul=Ps[j]:=by refine rwE (List.getD_eq_getElem?_getD) (rwE (List.getElem?_eq_getElem hj) ?_);rfl
   refine evAnd1 ?_
   have:=hf j Ps[j] (List.getElem?_eq_getElem hj) (by exact Nat.lt_of_lt_of_le hj hlen)
   refine rwE hg ?_
   exact this) (fun j z_ z_=>he _)
 have:(List.range Ps.length).filter (fun j=>keepB E (Ps.getD j .nul))=kpGo E Ps 0:=by
  refine rwE kpGo_eq (rwE List.range_eq_range' ?_)
  rfl
 rw [this] at t1
 exact ex_comp (n:=n+68) g1 t1 rfl
theorem bd_4(hlen:Ps.length≤4)(ho:∀P∈Ps,Prt.ok P)(hE:small3 E):(run fnsP (n+69)).ex bdC (bdS 4) ⟨bd1 (Ps.map tp) hs ac (iA E) ea sh,h⟩=some (.next,⟨setV "kept" (.pv (.lst ((kpGo E Ps 0).map natV))) (bd1 (Ps.map tp) hs ac (iA E) ea sh),h⟩):=by
 conv=>lhs;arg 3;whnf
 refine bd4_stmt hlen ?_ ?_ ?_ ?_ ?_ ?_ ?_ ?_
 case refine_6 =>
  intro j P hP hj
  have hget:(Ps.map tp)[j]? = some (tp P):=by refine rwE (List.getElem?_map) (rwE hP ?_);rfl
  rcases okG_pv (P:=P) with rfl | ⟨k,m,its,q,rfl⟩ | ⟨k,rr,cc,its,b1,b2,rfl⟩
  ·refine evT_of (ev_andF (evT_cmp (a:=.str "NULL") (b:=.str "NULL") (st1:=⟨kcV (Ps.map tp) hs ac E ea sh j,h⟩) (st2:=⟨kcV (Ps.map tp) hs ac E ea sh j,h⟩) ?_ (ev_pa (q:=0) (d:=nulPV) hget hj ?_ ?_ ?_ ?_ ?_ ?_ ?_) ?_ ?_))
   all_goals kernel_rfl
  ·have hoV:∀x∈its,OkIt k x:=(ho _ (List.mem_of_getElem? hP)).2.2
   refine evT_of (ev_and2 (q1:=true) (q2:=decide (0 < its.length)||decide (E=0)) (st1:=⟨kcV (Ps.map tp) hs ac E ea sh j,h⟩) (evT_cmp (a:=.str k.s) (b:=.str "NULL") (st1:=⟨kcV (Ps.map tp) hs ac E ea sh j,h⟩) (st2:=⟨kcV (Ps.map tp) hs ac E ea sh j,h⟩) ?_ (ev_pa (q:=0) (d:=vecPV k.s its (atV m q)) hget hj ?_ ?_ ?_ ?_ ?_ ?_ ?_) ?_ (neq_null k))
    (evT_of (ev_orB (evOr_f (st1:=⟨kcV (Ps.map tp) hs ac E ea sh j,h⟩) (evT_cmp (a:=.none) (b:=.none) (st1:=⟨kcV (Ps.map tp) hs ac E ea sh j,h⟩) (st2:=⟨kcV (Ps.map tp) hs ac E ea sh j,h⟩) ?_ (evP_of ?_ (ev_pe (q:=1) hget hj ?_ ?_ ?_ ?_ ?_ ?_)) ?_ ?_) (by
     by_cases hp:0 < its.length
     ·refine rwE (show (decide (0 < its.length)||decide (E=0))=true from by rw [decide_eq_true hp];rfl) ?_
      refine evOr_t (evT_cmp (a:=.lst its) (b:=.lst []) (st1:=⟨kcV (Ps.map tp) hs ac E ea sh j,h⟩) (st2:=⟨kcV (Ps.map tp) hs ac E ea sh j,h⟩) ?_ (ev_pa (q:=0) (d:=vecPV k.s its (atV m q)) hget hj ?_ ?_ ?_ ?_ ?_ ?_ ?_) ?_ ((neq_nil hoV).trans (by refine rwE (decide_eq_true hp) rfl)))
      all_goals kernel_rfl
     ·have hz:its=[]:=List.length_eq_zero_iff.mp (by exact Nat.eq_zero_of_not_pos hp)
      refine rwE (show (decide (0 < its.length)||decide (E=0))=decide (E=0) from by rw [decide_eq_false hp];rfl) ?_
      refine evOr_f (st1:=⟨kcV (Ps.map tp) hs ac E ea sh j,h⟩) (evT_cmp (a:=.lst its) (b:=.lst []) (st1:=⟨kcV (Ps.map tp) hs ac E ea sh j,h⟩) (st2:=⟨kcV (Ps.map tp) hs ac E ea sh j,h⟩) ?_ (ev_pa (q:=0) (d:=vecPV k.s its (atV m q)) hget hj ?_ ?_ ?_ ?_ ?_ ?_ ?_) ?_ ((neq_nil hoV).trans (by refine rwE (decide_eq_false hp) rfl))) ?_
      case refine_10=>apply sQ hE;kernel_rfl
      all_goals kernel_rfl)))))
   all_goals kernel_rfl
  ·refine evT_of (ev_and2 (q1:=true) (q2:=true) (st1:=⟨kcV (Ps.map tp) hs ac E ea sh j,h⟩) (evT_cmp (a:=.str k.s) (b:=.str "NULL") (st1:=⟨kcV (Ps.map tp) hs ac E ea sh j,h⟩) (st2:=⟨kcV (Ps.map tp) hs ac E ea sh j,h⟩) ?_ (ev_pa (q:=0) (d:=mtPV k its rr cc b1 b2) hget hj ?_ ?_ ?_ ?_ ?_ ?_ ?_) ?_ (neq_null k))
    (evT_of (ev_orB (evOr_t (evT_cmp (a:=.lst [.int rr,.int cc]) (b:=.none) (st1:=⟨kcV (Ps.map tp) hs ac E ea sh j,h⟩) (st2:=⟨kcV (Ps.map tp) hs ac E ea sh j,h⟩) ?_ (evP_of ?_ (ev_pe (q:=1) hget hj ?_ ?_ ?_ ?_ ?_ ?_)) ?_ ?_)))))
   all_goals kernel_rfl
 case refine_4=>exact (bd_rng (by rw [List.length_map];exact hlen)).trans (by rw [List.length_map])
 all_goals (intros;kernel_rfl)
end Bc
namespace Bc
theorem le4g{α:Type}{l:List α}(hl:l.length≤4):l=[]∨(∃a,l=[a])∨(∃a b,l=[a,b])∨(∃a b c,l=[a,b,c])∨∃a b c d,l=[a,b,c,d]:=by
 match l,hl with
 |[],_=>exact .inl rfl
 |[a],_=>exact .inr (.inl ⟨a,rfl⟩)
 |[a,b],_=>exact .inr (.inr (.inl ⟨a,b,rfl⟩))
 |[a,b,c],_=>exact .inr (.inr (.inr (.inl ⟨a,b,c,rfl⟩)))
 |[a,b,c,d],_=>exact .inr (.inr (.inr (.inr ⟨a,b,c,d,rfl⟩)))
 |_::_::_::_::_::_,h=>simp at h
theorem ev_methPV{n:Nat}{cx:Cx}{o:Expr}{m:Str}{args:List Expr}{ap p:Pos}{st st1 st2:St}{d r:PV}{ds:List PV}(hl:(ap.endLine==p.line)=true)(h0:(args.any isS||decide (20 < args.length)||!nSC o)=false)(ht:turner m=false)(h1:evP (run fnsP n) cx o st=some (d,st1))(h2:evPs (run fnsP n) cx args st1=some (ds,st2))(h3:methPV d m ds=some r) :
  (run fnsP (n+1)).ev cx (.Call (.Attribute o m ap) args [] p) st=some (.pv r,st2):=by
 show (bif ap.endLine==p.line then evMeth (run fnsP n) cx o m args st else none)=_
 refine rwE hl ?_
 show evMeth (run fnsP n) cx o m args st=_
 unfold evMeth
 refine rwE h0 (rwE ht ?_)
 exact (ob_eq h1).trans ((ob_eq h2).trans (ob_eq h3))
theorem maxI_kd:∀(k:Kd) (L:List Kd),∃K,isMax (k::L) K∧maxI (k.i:Int) (L.map fun k=>(k.i:Int))=K.i
 |k,[]=>⟨k,⟨List.mem_cons_self,fun x hx=>by refine rwE (List.mem_singleton.mp hx) ?_;exact Nat.le_refl _⟩,rfl⟩
 |k,b::r=>by
  by_cases hlt:k.i < b.i
  ·refine xE12 (maxI_kd b r) fun K h1 h2=>?_
   refine ⟨K,⟨List.mem_cons_of_mem _ h1.1,fun x hx=>?_⟩,?_⟩
   ·rcases List.mem_cons.mp hx with rfl | hx
    ·have:=h1.2 b List.mem_cons_self;omega
    ·exact h1.2 x hx
   ·show maxI (if (k.i:Int) < (b.i:Int) then (b.i:Int) else k.i) (r.map fun k=>(k.i:Int))=_
    refine rwE (if_pos (by exact Int.ofNat_lt.mpr hlt)) ?_;exact h2
  ·refine xE12 (maxI_kd k r) fun K h1 h2=>?_
   refine ⟨K,⟨?_,fun x hx=>?_⟩,?_⟩
   ·rcases List.mem_cons.mp h1.1 with h | h
    ·refine rwE h ?_;exact List.mem_cons_self
    ·exact List.mem_cons_of_mem _ (List.mem_cons_of_mem _ h)
   ·rcases List.mem_cons.mp hx with rfl | hx
    ·exact h1.2 x List.mem_cons_self
    ·rcases List.mem_cons.mp hx with rfl | hx
     ·have:=h1.2 k List.mem_cons_self;omega
     ·exact h1.2 x (List.mem_cons_of_mem _ hx)
   ·show maxI (if (k.i:Int) < (b.i:Int) then (b.i:Int) else k.i) (r.map fun k=>(k.i:Int))=_
    refine rwE (if_neg (by omega)) ?_;exact h2
variable{n E:Nat}{hs:List PV}{ac:Bool}{ea sh:Option AV}{Ps:List Prt}
noncomputable def bd2(ps hs:List PV)(ac:Bool)(E:Nat)(ea sh:Option AV)(is:List Nat)(ki kd li to si un:Option AV):Vars:=bdV ps hs ac (iA (alI ac)) (iA E) ea sh none (some (.pv (.lst (is.map natV)))) ki kd li to si un none none none
variable{ps:List PV}{h:List MO}{is:List Nat}
theorem bd_5n(hk:is≠[])(hl:is.length≤4):(run fnsP (n+69)).ex bdC (bdS 5) ⟨bd2 ps hs ac E ea sh is none none none none none none,h⟩=some (.next,⟨bd2 ps hs ac E ea sh is none none none none none none,h⟩):=by
 rcases le4g hl with rfl | ⟨_,rfl⟩ | ⟨_,_,rfl⟩ | ⟨_,_,_,rfl⟩ | ⟨_,_,_,_,rfl⟩
 ·exact absurd rfl hk
 all_goals kernel_rfl
theorem bd_5r:(run fnsP (n+69)).ex bdC (bdS 5) ⟨bd2 ps hs ac E ea sh [] none none none none none none,h⟩=some (.ret .none,⟨bd2 ps hs ac E ea sh [] none none none none none none,h⟩):=by kernel_rfl
noncomputable def kdL:List PV:=[.str "logical",.str "integer",.str "double",.str "character"]
theorem bd_6:(run fnsP (n+69)).ex bdC (bdS 6) ⟨bd2 ps hs ac E ea sh is none none none none none none,[]⟩=some (.next,⟨bd2 ps hs ac E ea sh is (some (.cell 0)) none none none none none,[.lst kdL]⟩):=by kernel_rfl
theorem bd7_stmt{V V0:Vars}{q1 q2 q3 q4 q5 q6 q7 p3:Pos}{i elt:Expr}{sc:Scope}(h0:is≠[])(hlen:is.length≤4)(hown:oNm sc=([".0","each"]:List Str))(hin:∀j∈is,∃P,Ps[j]? = some P∧P≠.nul∧j < 4)
  (c1:(!(bdC.lp&&scO bdC.names sc&&compOk sc (V)))=false) (c2:(isSetE i||!ownT sc (.Name "each" p3))=false)
  (hi:evP (run fnsP (n+65)) bdC i ⟨V,[.dead]⟩=some (.lst (is.map natV),⟨V,[.dead]⟩))
  (hb:∀d a,bindT (rlN bdC.names sc.names) (.Name "each" p3) d ⟨(".0",none)::("each",a)::V,[.dead]⟩=some ⟨(".0",none)::("each",some (.pv d))::V,[.dead]⟩)
  (he:∀(j:Nat) P,Ps[j]? = some P→P≠.nul→j < 4→evP (run fnsP (n+65)) ⟨rlN bdC.names sc.names,bdC.lp⟩ elt ⟨(".0",none)::("each",iA j)::V,[.dead]⟩=some (.int P.kd.i,⟨(".0",none)::("each",iA j)::V,[.dead]⟩))
  (hbase:evBase (run fnsP (n+67)) bdC (.Name "kinds" q2) ⟨V0,[.lst kdL]⟩=some (.pv (.lst kdL),⟨V,[.dead]⟩))
  (g1:sOk bdC.names "kind" (V0)=true) (g2:evName fnsP bdC "max" ⟨V,[.dead]⟩=some (.pv (.glb "max"),⟨V,[.dead]⟩))
  (g3:∀d,setV "kind" d (V)=bd2 (Ps.map tp) hs ac E ea sh is (some (.pv (.lst kdL))) (some d) none none none none) :
  ∃K,isMax (is.map fun j=>(Ps.getD j .nul).kd) K∧(run fnsP (n+69)).ex bdC (.Assign [.Name "kind" q1] (.Subscript (.Name "kinds" q2) (.Call (.Name "max" q3) [.ListComp elt [⟨.Name "each" p3,i,[],0⟩] sc q4] [] q5) q6) q7) ⟨V0,[.lst kdL]⟩
   = some (.next,⟨bd2 (Ps.map tp) hs ac E ea sh is (some (.pv (.lst kdL))) (sA K) none none none none,[.dead]⟩):=by
 obtain ⟨K,hK,hmx⟩:∃K,isMax (is.map fun j=>(Ps.getD j .nul).kd) K∧(match is.map (fun j=>((Ps.getD j .nul).kd.i:Int)) with | a::r=>maxI a r | []=>0)=(K.i:Int):=by
  cases is with
  |nil=>exact absurd rfl h0
  |cons a r =>
   refine xE12 (maxI_kd (Ps.getD a .nul).kd (r.map fun j=>(Ps.getD j .nul).kd)) fun K h1 h2=>?_
   refine ⟨K,h1,?_⟩
   rw [List.map_map] at h2
   exact h2
 refine ⟨K,hK,?_⟩
 have t1:=comp_mapT (R:=run fnsP (n+65)) (cx:=bdC) (enc:=natV) (as:=is) (pre:=fun a=>[(".0",none),("each",a.map fun j=>AV.pv (natV j))]) (f:=fun j=>.int ((Ps.getD j .nul).kd.i:Int)) (g:=fun z_=>true) (elt:=elt) (t:=.Name "each" p3) (ifs:=[]) (scope:=sc) (st:=⟨V,[.dead]⟩) c1 c2 hi (items_lst (by rw [List.length_map];omega)) (by omega) (by refine rwE hown ?_;rfl) (fun a=>by refine rwE hown ?_;rfl)
  (fun P z_ a=>hb _ _) (fun j hj=>rfl) (fun j hj z_=>by
   refine xE13 (hin j hj) fun P h1 h2 h3=>?_
   have hg:Ps.getD j .nul=P:=by refine rwE (List.getD_eq_getElem?_getD) (rwE h1 ?_);rfl
   have:=he j P h1 h2 h3
   refine rwE hg ?_
   exact this)
 rw [List.filter_eq_self.mpr (fun z_ z_=>rfl)] at t1
 have hints:∀L:List Nat,intsOf (L.map fun j=>PV.int ((Ps.getD j .nul).kd.i:Int))=some (L.map fun j=>((Ps.getD j .nul).kd.i:Int)):=by
  intro L
  induction L with
  |nil=>rfl
  |cons P L ih=>exact ints_cons ih
 have t3:=ev_bi (n:=n+65) (p:=q5) (p2:=q3) (x:="max") (cx:=bdC) (ds:=[.lst (is.map fun j=>.int ((Ps.getD j .nul).kd.i:Int))]) (d:=.int (K.i:Int)) (args:=[.ListComp elt [⟨.Name "each" p3,i,[],0⟩] sc q4]) (st1:=⟨V,[.dead]⟩) rfl g2 (by kernel_rfl) rfl (by kernel_rfl) (eAc (evArg_P rfl (evP_of rfl (ev_lc (n:=n+65) (p:=q4) t1))) rfl) (by
  cases is with
  |nil=>exact absurd rfl h0
  |cons a r =>
   have hl:(r.map fun j=>((Ps.getD j .nul).kd.i:Int)).length≤1000:=by rw [List.length_map];simp at hlen;omega
   exact (bi_max (hints (a::r)) hl).trans (congrArg (fun z=>some (PV.int z)) hmx))
 exact ex_asg (n:=n+68) (rs:=.pv (.str K.s)) (st1:=⟨V,[.dead]⟩) g1 rfl (evR_of rfl (ev_sub' (n:=n+67) (a:=.lst kdL) (b:=.int K.i) rfl hbase (evP_of rfl t3) (by cases K<;>kernel_rfl))) (by rw [g3];rfl)
theorem index_kd(k:Kd):methPV (.lst kdL) "index" [.str k.s]=some (.int (k.i:Int)):=by apply kQ k;kernel_rfl
theorem bd_7(h0:is≠[])(hlen:is.length≤4)(hin:∀j∈is,∃P,Ps[j]? = some P∧P≠.nul∧j < 4) :
  ∃K,isMax (is.map fun j=>(Ps.getD j .nul).kd) K∧(run fnsP (n+69)).ex bdC (bdS 7) ⟨bd2 (Ps.map tp) hs ac E ea sh is (some (.cell 0)) none none none none none,[.lst kdL]⟩
   = some (.next,⟨bd2 (Ps.map tp) hs ac E ea sh is (some (.pv (.lst kdL))) (sA K) none none none none,[.dead]⟩):=by
 conv=>rhs;intro K;rhs;lhs;arg 3;whnf
 refine bd7_stmt (V:=bd2 (Ps.map tp) hs ac E ea sh is (some (.pv (.lst kdL))) none none none none none) h0 hlen ?_ hin ?_ ?_ ?_ ?_ ?_ ?_ ?_ ?_ ?_
 case refine_6 =>
  intro j P hP hn hj
  have hget:(Ps.map tp)[j]? = some (tp P):=by refine rwE (List.getElem?_map) (rwE hP ?_);rfl
  refine xE11 (its_pv hn) fun at_ hpv=>?_
  have hget:(Ps.map tp)[j]? = some (.tup [vecPV P.kd.s P.its at_,P.sh]):=by refine rwE hget (rwB hpv ?_);rfl
  refine evP_of ?_ (ev_methPV (d:=.lst kdL) (ds:=[.str P.kd.s]) (st1:=⟨(".0",none)::("each",iA j)::bd2 (Ps.map tp) hs ac E ea sh is (some (.pv (.lst kdL))) none none none none none,[.dead]⟩) ?_ ?_ ?_ ?_ (evPs_cons (ev_pa (q:=0) (d:=vecPV P.kd.s P.its at_) hget hj ?_ ?_ ?_ ?_ ?_ ?_ ?_) rfl) (index_kd _))
  all_goals kernel_rfl
 all_goals (intros;kernel_rfl)
noncomputable def bd3V(ps hs:List PV)(ac:Bool)(E:Nat)(is:List Nat)(K:Kd)(ea sh pi si un fo ma mn:Option AV):Vars:=bdV ps hs ac (iA (alI ac)) (iA E) ea sh pi (some (.pv (.lst (is.map natV)))) (some (.pv (.lst kdL))) (sA K) (some (.cell 1)) (some (.cell 2)) si un fo ma mn
noncomputable def bA(b:Bool):Option AV:=some (.pv (.bool b))
theorem bd_8{K:Kd}:exs (run fnsP (n+69)) bdC [bdS 8,bdS 9,bdS 10,bdS 11] ⟨bd2 ps hs ac E ea sh is (some (.pv (.lst kdL))) (sA K) none none none none,[.dead]⟩=some (.next,⟨bd3V ps hs ac E is K ea sh none (some (.pv .none)) (bA false) none none none,[.dead,.lst [],.lst []]⟩):=by kernel_rfl
end Bc
namespace Bc
theorem ex_aug{n:Nat}{cx:Cx}{x:Str}{v:Expr}{p p2:Pos}{st st2 st4:St}{k:Nat}{l r:List PV}(hs:sOk cx.names x st.vars=true)(hn:evName fnsP cx x st=some (.cell k,st))(hv:evP (run fnsP n) cx v st=some (.lst r,st2))(hc:st2.cells[k]? = some (.lst l))(hl:l.length≤1000∧r.length≤1000)(h4:st4=⟨setV x (.cell k) st2.vars,st2.cells.set k (.lst (l++r))⟩) :
  (run fnsP (n+1)).ex cx (.AugAssign (.Name x p2) .Add v p) st=some (.next,st4):=by
 refine Bc.rwE h4 ?_
 show (bif !sOk cx.names x st.vars then none else ob (evName fnsP cx x st) _)=_
 refine rwE hs ?_
 refine (ob_eq hn).trans ((ob_eq hv).trans ((ob_eq rfl).trans ((ob_eq (lstAt_of hc)).trans ?_)))
 show (bif true&&decide (l.length≤1000∧r.length≤1000) then _ else none)=_
 refine rwE (decide_eq_true hl) ?_;rfl
noncomputable def isTupE(e:Expr):Bool:=isTupV (vkOf e)
theorem ex_tupA{n:Nat}{cx:Cx}{ts:List Expr}{k:Nat}{v:Expr}{p p2:Pos}{st st1 st2:St}{d:PV}(hlp:cx.lp=true)(h0:isTupE v=false)(h1:evP (run fnsP n) cx v st=some (d,st1))(h2:bindT cx.names (.Tuple ts k p2) d st1=some st2) :
  (run fnsP (n+1)).ex cx (.Assign [.Tuple ts k p2] v p) st=some (.next,st2):=by
 show (bif !cx.lp||isTupV (vkOf v) then none else ob (evP (run fnsP n) cx v st) _)=_
 refine rwE hlp (rwE (show isTupV (vkOf v)=false from h0) ?_)
 exact (ob_eq h1).trans (ob_eq h2)
noncomputable def bdL(i:Nat):Stmt:=(forBody (bdS 12)).getD i default
theorem bdL_for:bdS 12=.For (forT (bdS 12)) (forI (bdS 12)) (forBody (bdS 12)) [] (forPos (bdS 12)):=by kernel_rfl
theorem bdL_bb:forBody (bdS 12)=[bdL 0,bdL 1,bdL 2,bdL 3,bdL 4]:=by kernel_rfl
variable{n E i:Nat}{ps hs:List PV}{ac:Bool}{is:List Nat}{K k:Kd}{ea sh pi si un fo ma mn:Option AV}{h:List MO}{Ps:List Prt}
theorem bdL_bind{d:PV}:bindT bdC.names (forT (bdS 12)) d ⟨bd3V ps hs ac E is K ea sh pi si un fo ma mn,h⟩=some ⟨bd3V ps hs ac E is K (some (.pv d)) sh pi si un fo ma mn,h⟩:=by kernel_rfl
theorem bdL_it:evP (run fnsP (n+68)) bdC (forI (bdS 12)) ⟨bd3V ps hs ac E is K ea sh pi si un fo ma mn,h⟩=some (.lst (is.map natV),⟨bd3V ps hs ac E is K ea sh pi si un fo ma mn,h⟩):=by kernel_rfl
theorem bdL_0{a b:PV}(hget:ps[i]? = some (.tup [a,b]))(hi:i < 4):(run fnsP (n+68)).ex bdC (bdL 0) ⟨bd3V ps hs ac E is K (iA i) sh pi si un fo ma mn,h⟩=some (.next,⟨bd3V ps hs ac E is K (iA i) (some (.pv b)) (some (.pv a)) si un fo ma mn,h⟩):=by
 conv=>lhs;arg 3;whnf
 refine ex_tupA (d:=.tup [a,b]) (st1:=⟨bd3V ps hs ac E is K (iA i) sh pi si un fo ma mn,h⟩) ?_ ?_ (evP_of ?_ (ev_sub' (a:=.lst ps) (b:=.int i) (st1:=⟨bd3V ps hs ac E is K (iA i) sh pi si un fo ma mn,h⟩) ?_ ?_ ?_ (nth_pv hget (by omega)))) ?_
 all_goals kernel_rfl
theorem bdL_1{a b:PV}{fs:List PV}(hc:(run fnsP (n+67)).call "_law_lines" [.pv a,.pv b,.pv (natV E),.pv (.bool ac)] h=some (.ok (.pv (.lst fs)),h)) :
  (run fnsP (n+68)).ex bdC (bdL 1) ⟨bd3V ps hs ac E is K ea (some (.pv b)) (some (.pv a)) si un fo ma mn,h⟩=some (.next,⟨bd3V ps hs ac E is K ea (some (.pv b)) (some (.pv a)) si un (some (.pv (.lst fs))) ma mn,h⟩):=by
 conv=>lhs;arg 3;whnf
 refine ex_asg (rs:=.pv (.lst fs)) (st1:=⟨bd3V ps hs ac E is K ea (some (.pv b)) (some (.pv a)) si un fo ma mn,h⟩) ?_ ?_ (evR_call ?_ (evCall_fn (as:=[.pv a,.pv b,.pv (natV E),.pv (.bool ac)]) (st1:=⟨bd3V ps hs ac E is K ea (some (.pv b)) (some (.pv a)) si un fo ma mn,h⟩) ?_ ?_ ?_ ?_ ?_ hc)) ?_
 case refine_3=>intro _ _ _ z;cases z
 all_goals kernel_rfl
theorem bdL2_stmt{V:Vars}{cols:List (List PV)}{acc:List PV}{tops:MO}{q1 q2 q3 q4 p3 p4 pc1 pc2:Pos}{i i2:Expr}{args:List Expr}{sc sc2:Scope}(hk:k.i≤K.i)(hcl:cols.length≤3)(hlen:∀l∈cols,l.length≤3)(hok:∀l∈cols,∀x∈l,OkIt k x)(ha:acc.length≤900)
  (hown:oNm sc=([".0","line"]:List Str)) (hown2:oNm sc2=([".0","item"]:List Str))
  (c1:(!(bdC.lp&&scO bdC.names sc&&compOk sc (V)))=false) (c2:(isSetE i||!ownT sc (.Name "line" p3))=false)
  (hi:evP (run fnsP (n+66)) bdC i ⟨V,[.dead,.lst acc,tops]⟩=some (.lst (cols.map PV.lst),⟨V,[.dead,.lst acc,tops]⟩))
  (hb:∀d a,bindT (rlN bdC.names sc.names) (.Name "line" p3) d ⟨(".0",none)::("line",a)::V,[.dead,.lst acc,tops]⟩=some ⟨(".0",none)::("line",some (.pv d))::V,[.dead,.lst acc,tops]⟩)
  (c3:∀l,(!((⟨rlN bdC.names sc.names,bdC.lp⟩:Cx).lp&&scO (⟨rlN bdC.names sc.names,bdC.lp⟩:Cx).names sc2&&compOk sc2 ((".0",none)::("line",l)::V)))=false) (c4:(isSetE i2||!ownT sc2 (.Name "item" p4))=false)
  (hi2:∀l,evP (run fnsP (n+65)) ⟨rlN bdC.names sc.names,bdC.lp⟩ i2 ⟨(".0",none)::("line",some (.pv (.lst l)))::V,[.dead,.lst acc,tops]⟩=some (.lst l,⟨(".0",none)::("line",some (.pv (.lst l)))::V,[.dead,.lst acc,tops]⟩))
  (hb2:∀d a l,bindT (rlN (rlN bdC.names sc.names) sc2.names) (.Name "item" p4) d ⟨(".0",none)::("item",a)::(".0",none)::("line",l)::V,[.dead,.lst acc,tops]⟩=some ⟨(".0",none)::("item",some (.pv d))::(".0",none)::("line",l)::V,[.dead,.lst acc,tops]⟩)
  (hka:(args.any isS||decide (30 < args.length))=false)
  (hf:∀l a,evName fnsP ⟨rlN (rlN bdC.names sc.names) sc2.names,bdC.lp⟩ "_law_as" ⟨(".0",none)::("item",a)::(".0",none)::("line",l)::V,[.dead,.lst acc,tops]⟩=some (.pv (.glb "_law_as"),⟨(".0",none)::("item",a)::(".0",none)::("line",l)::V,[.dead,.lst acc,tops]⟩))
  (hag:∀l d,evArgs (run fnsP (n+64)) false ⟨rlN (rlN bdC.names sc.names) sc2.names,bdC.lp⟩ args ⟨(".0",none)::("item",some (.pv d))::(".0",none)::("line",l)::V,[.dead,.lst acc,tops]⟩=some ([.pv d,.pv (.str k.s),.pv (.str K.s)],⟨(".0",none)::("item",some (.pv d))::(".0",none)::("line",l)::V,[.dead,.lst acc,tops]⟩))
  (g1:sOk bdC.names "lines" (V)=true)
  (g2:evName fnsP bdC "lines" ⟨V,[.dead,.lst acc,tops]⟩=some (.cell 1,⟨V,[.dead,.lst acc,tops]⟩))
  (g3:setV "lines" (.cell 1) (V)=V) :
  (run fnsP (n+68)).ex bdC (.AugAssign (.Name "lines" q1) .Add (.ListComp (.ListComp (.Call (.Name "_law_as" pc1) args [] pc2) [⟨.Name "item" p4,i2,[],0⟩] sc2 q2) [⟨.Name "line" p3,i,[],0⟩] sc q3) q4) ⟨V,[.dead,.lst acc,tops]⟩
   = some (.next,⟨V,[.dead,.lst (acc++cols.map fun l=>.lst (l.map (cv k K))),tops]⟩):=by
 have e1:(("_law_as" : Str)==("_law_named" : Str))=false:=by kernel_rfl
 have t1:=comp_mapT (R:=run fnsP (n+66)) (cx:=bdC) (enc:=PV.lst) (as:=cols) (pre:=fun a=>[(".0",none),("line",a.map fun j=>AV.pv (.lst j))]) (f:=fun l=>.lst (l.map (cv k K))) (g:=fun z_=>true) (elt:=.ListComp (.Call (.Name "_law_as" pc1) args [] pc2) [⟨.Name "item" p4,i2,[],0⟩] sc2 q2) (t:=.Name "line" p3) (ifs:=[]) (scope:=sc) (st:=⟨V,[.dead,.lst acc,tops]⟩) c1 c2 hi (items_lst (by rw [List.length_map];omega)) (by omega) (by refine rwE hown ?_;rfl) (fun a=>by refine rwE hown ?_;rfl)
  (fun P z_ a=>hb _ _) (fun j hj=>rfl) (fun l hl z_=>by
   have hll:=hlen l hl
   refine evP_of rfl (ev_lc (n:=n+65) (p:=q2) ?_)
   refine comp_one (cx:=⟨rlN bdC.names sc.names,bdC.lp⟩) (V:=(".0",none)::("line",some (.pv (.lst l)))::V) (cells:=[.dead,.lst acc,tops]) (f:=cv k K) hown2 (c3 _) c4 (hi2 l) (items_lst (by omega)) (by omega) (fun d a=>hb2 d a _) fun d hd=>?_
   exact evP_of rfl (ev_fn (n:=n+63) (c:=.pv (cv k K d)) (st1:=⟨(".0",none)::("item",some (.pv d))::(".0",none)::("line",some (.pv (.lst l)))::V,[.dead,.lst acc,tops]⟩) hka (hf _ _) rfl (by kernel_rfl) (by refine rwE e1 ?_;exact hag _ d) (law_as_ok (n:=n+44) hk (hok l hl d hd))))
 rw [List.filter_eq_self.mpr (fun z_ z_=>rfl)] at t1
 refine ex_aug (n:=n+67) (k:=1) (l:=acc) (r:=cols.map fun l=>.lst (l.map (cv k K))) (st2:=⟨V,[.dead,.lst acc,tops]⟩) g1 g2 (evP_of rfl (ev_lc (n:=n+66) (p:=q3) t1)) rfl ⟨by omega,by rw [List.length_map];omega⟩ ?_
 refine rwE g3 ?_;rfl
theorem bdL_2{its:List PV}{at_:PV}{cols:List (List PV)}{acc:List PV}{tops:MO}(hk:k.i≤K.i)(hcl:cols.length≤3)(hlen:∀l∈cols,l.length≤3)(hok:∀l∈cols,∀x∈l,OkIt k x)(ha:acc.length≤900) :
  (run fnsP (n+68)).ex bdC (bdL 2) ⟨bd3V ps hs ac E is K ea sh (some (.pv (vecPV k.s its at_))) si un (some (.pv (.lst (cols.map PV.lst)))) ma mn,[.dead,.lst acc,tops]⟩
   = some (.next,⟨bd3V ps hs ac E is K ea sh (some (.pv (vecPV k.s its at_))) si un (some (.pv (.lst (cols.map PV.lst)))) ma mn,[.dead,.lst (acc++cols.map fun l=>.lst (l.map (cv k K))),tops]⟩):=by
 conv=>lhs;arg 3;whnf
 refine bdL2_stmt hk hcl hlen hok ha ?_ ?_ ?_ ?_ ?_ ?_ ?_ ?_ ?_ ?_ ?_ ?_ ?_ ?_ ?_ ?_
 all_goals (intros;kernel_rfl)
end Bc
namespace Bc
variable{n E i:Nat}{ps hs:List PV}{ac:Bool}{is:List Nat}{K k:Kd}{ea sh pi si un fo ma mn:Option AV}{h:List MO}{Ps:List Prt}
theorem dv_kd{P:Prt}:(dv ac P).kd=P.kd:=by cases ac<;>cases P<;>rfl
theorem rows_turn{r c:Nat}{g:Nat→PV}(hr:small3 r)(hc:c=0∨c=1∨c=2):rowsM r c g=((List.range r).map fun j=>(List.range c).map fun i=>(tab (c * r) (turnG r c g)).getD (i+j * c) .none).map PV.lst:=by
 apply s2Q hc;apply sQ hr;kernel_rfl
theorem lines_ok{P:Prt}{m:Nat}{h:List MO}(hP:P.ok)(hn:P≠.nul)(hi:inP E (dv ac P))(hE:small3 E) :
  (run fnsP (m+40)).call "_law_lines" [.pv P.pv,.pv P.sh,.pv (natV E),.pv (.bool ac)] h=some (.ok (.pv (.lst ((colsL E (dv ac P)).map PV.lst))),h):=by
 rcases okG_pv (P:=P) with rfl | ⟨k,q,its,b,rfl⟩ | ⟨k,r,c,its,b1,b2,rfl⟩
 ·exact absurd rfl hn
 ·have hm:small3 its.length:=by refine rwE hP.2.1 ?_;exact hP.1
  have hi:0 < its.length∨E=0:=by cases ac<;>exact hi
  have e:=linesV_ok (n:=m) (cells:=h) (k:=k) (m:=its.length) (E:=E) (g:=fun i=>its.getD i .none) (at_:=atV q b) (across:=ac) hm hE hi
  rw [← tab_of] at e
  rw [show (Prt.vec k q its b).pv=vecPV k.s its (atV q b) from rfl,show (Prt.vec k q its b).sh=.none from rfl,e]
  cases ac<;>rfl
 ·have hc3:small3 c:=small3_c hP.2.1
  have e:=linesM_ok (n:=m) (cells:=h) (k:=k) (r:=r) (c:=c) (E:=E) (g:=fun i=>its.getD i .none) (at_:=atM r c b1 b2) (across:=ac) hP.1 hc3
  have ht:tab (r * c) (fun i=>its.getD i .none)=its:=by rw [← hP.2.2.1,← tab_of]
  rw [ht] at e
  refine rwE (show (Prt.mat k r c its b1 b2).pv=vecPV k.s its (atM r c b1 b2) from rfl) (rwE (show (Prt.mat k r c its b1 b2).sh=.lst [.int r,.int c] from rfl) (rwE e ?_))
  have e2:(bif ac then rowsM r c (fun i=>its.getD i .none) else colsM r c (fun i=>its.getD i .none))=(colsL E (dv ac (.mat k r c its b1 b2))).map PV.lst:=by
   cases ac
   ·rw [cond_false]
    unfold colsM dv colsL
    rw [cond_false,List.map_map];rfl
   ·rw [cond_true,rows_turn hP.1 hP.2.1];rfl
  refine rwE e2 rfl
noncomputable def bdT(i:Nat):Stmt:=(ifBody (bdL 3)).getD i default
noncomputable def bdU(i:Nat):Stmt:=(ifElse (bdL 3)).getD i default
theorem bdL3_i:bdL 3=.If (ifT (bdL 3)) (ifBody (bdL 3)) (ifElse (bdL 3)) (ifPos (bdL 3)):=by kernel_rfl
theorem bdL3_b:ifBody (bdL 3)=[bdT 0,bdT 1,bdT 2,bdT 3,bdT 4]:=by kernel_rfl
theorem bdL3_e:ifElse (bdL 3)=[bdU 0,bdU 1,bdU 2]:=by kernel_rfl
theorem bdL3_t:evT (run fnsP (n+67)) bdC (ifT (bdL 3)) ⟨bd3V ps hs ac E is K ea (some (.pv .none)) pi si un fo ma mn,h⟩=some (true,⟨bd3V ps hs ac E is K ea (some (.pv .none)) pi si un fo ma mn,h⟩):=by kernel_rfl
theorem bdL3_f{l:List PV}:evT (run fnsP (n+67)) bdC (ifT (bdL 3)) ⟨bd3V ps hs ac E is K ea (some (.pv (.lst l))) pi si un fo ma mn,h⟩=some (false,⟨bd3V ps hs ac E is K ea (some (.pv (.lst l))) pi si un fo ma mn,h⟩):=by kernel_rfl
theorem bdT_0{nm:Option Str}{acc:List PV}{li:MO}(hg:hs[i]? = some (nameV nm))(hi:i < 4)(ha:acc.length≤1000) :
  (run fnsP (n+67)).ex bdC (bdT 0) ⟨bd3V ps hs ac E is K (iA i) sh pi si un fo ma mn,[.dead,li,.lst acc]⟩=some (.next,⟨bd3V ps hs ac E is K (iA i) sh pi si un fo ma mn,[.dead,li,.lst (acc++[headV nm])]⟩):=by
 conv=>lhs;arg 3;whnf
 refine ex_meth (k:=2) (ds:=[headV nm]) (ob:=.lst acc) (ob':=.lst (acc++[headV nm])) (st1:=⟨bd3V ps hs ac E is K (iA i) sh pi si un fo ma mn,[.dead,li,.lst acc]⟩) (st2:=⟨bd3V ps hs ac E is K (iA i) sh pi si un fo ma mn,[.dead,li,.lst acc]⟩) ?_ ?_ ?_ ?_ ?_ ?_ ?_ ?_ ?_
 case refine_8 =>
  exact app_lst ha
 case refine_6 =>
  cases nm with
  |none =>
   refine evPs_cons (st1:=⟨bd3V ps hs ac E is K (iA i) sh pi si un fo ma mn,[.dead,li,.lst acc]⟩) (evP_of ?_ (ev_ife (q:=true) (st1:=⟨bd3V ps hs ac E is K (iA i) sh pi si un fo ma mn,[.dead,li,.lst acc]⟩) (evT_cmp (a:=.none) (b:=.none) (st1:=⟨bd3V ps hs ac E is K (iA i) sh pi si un fo ma mn,[.dead,li,.lst acc]⟩) ?_ (evP_of ?_ (ev_sub' (a:=.lst hs) (b:=.int i) (st1:=⟨bd3V ps hs ac E is K (iA i) sh pi si un fo ma mn,[.dead,li,.lst acc]⟩) ?_ ?_ ?_ (nth_pv hg (by omega)))) ?_ ?_) ?_)) ?_
   all_goals kernel_rfl
  |some s =>
   refine evPs_cons (st1:=⟨bd3V ps hs ac E is K (iA i) sh pi si un fo ma mn,[.dead,li,.lst acc]⟩) (evP_of ?_ (ev_ife (q:=false) (st1:=⟨bd3V ps hs ac E is K (iA i) sh pi si un fo ma mn,[.dead,li,.lst acc]⟩) (evT_cmp (a:=.str s) (b:=.none) (st1:=⟨bd3V ps hs ac E is K (iA i) sh pi si un fo ma mn,[.dead,li,.lst acc]⟩) ?_ (evP_of ?_ (ev_sub' (a:=.lst hs) (b:=.int i) (st1:=⟨bd3V ps hs ac E is K (iA i) sh pi si un fo ma mn,[.dead,li,.lst acc]⟩) ?_ ?_ ?_ (nth_pv hg (by omega)))) ?_ ?_) (ev_sub' (a:=.lst hs) (b:=.int i) (st1:=⟨bd3V ps hs ac E is K (iA i) sh pi si un fo ma mn,[.dead,li,.lst acc]⟩) ?_ ?_ ?_ (nth_pv hg (by omega))))) ?_
   all_goals kernel_rfl
 all_goals kernel_rfl
theorem bdT_12{its:List PV}{m:Nat}{q:Bool}:exs (run fnsP (n+67)) bdC [bdT 1,bdT 2] ⟨bd3V ps hs ac E is K ea sh (some (.pv (vecPV k.s its (atV m q)))) si un fo ma mn,h⟩=some (.next,⟨bd3V ps hs ac E is K ea sh (some (.pv (vecPV k.s its (atV m q)))) si un fo (some (.pv (optV (sideP (.vec k m its q))))) mn,h⟩):=by
 apply bQ q;kernel_rfl
theorem bdT_34{its:List PV}{at_:PV}{u:Bool}{m:Nat}{q:Bool}(hl:its.length≤3)(hE:small3 E):exs (run fnsP (n+67)) bdC [bdT 3,bdT 4] ⟨bd3V ps hs ac E is K ea sh (some (.pv (vecPV k.s its at_))) si (bA u) fo ma mn,h⟩=some (.next,⟨bd3V ps hs ac E is K ea sh (some (.pv (vecPV k.s its at_))) si (bA (u||unevB E (.vec k m its q))) fo ma (iA its.length),h⟩):=by
 apply bQ u;apply sQ hE;apply lQ hl;kernel_rfl
end Bc
namespace Bc
variable{n E i:Nat}{ps hs:List PV}{ac:Bool}{is:List Nat}{K k:Kd}{ea sh pi si un fo ma mn:Option AV}{h:List MO}{Ps:List Prt}
noncomputable def topO(ac:Bool)(r c:Nat)(b1 b2:Bool):Option (List PV):=bif ac then (if b1 then some (pqrN r) else none) else (if b2 then some (pqrN c) else none)
noncomputable def sideO(ac:Bool)(r c:Nat)(b1 b2:Bool):Option (List PV):=bif ac then (if b2 then some (pqrN c) else none) else (if b1 then some (pqrN r) else none)
theorem bdU_0{its:List PV}{r c:Nat}{b1 b2:Bool}:(run fnsP (n+67)).ex bdC (bdU 0) ⟨bd3V ps hs ac E is K ea sh (some (.pv (mtPV k its r c b1 b2))) si un fo ma mn,h⟩=some (.next,⟨bd3V ps hs ac E is K ea sh (some (.pv (mtPV k its r c b1 b2))) si un fo (some (.pv (optV (topO ac r c b1 b2)))) mn,h⟩):=by
 apply bQ b2;apply bQ b1;apply bQ ac;kernel_rfl
theorem bdU_2{its:List PV}{r c:Nat}{b1 b2:Bool}:(run fnsP (n+67)).ex bdC (bdU 2) ⟨bd3V ps hs ac E is K ea sh (some (.pv (mtPV k its r c b1 b2))) si un fo ma mn,h⟩=some (.next,⟨bd3V ps hs ac E is K ea sh (some (.pv (mtPV k its r c b1 b2))) si un fo (some (.pv (optV (sideO ac r c b1 b2)))) mn,h⟩):=by
 apply bQ b2;apply bQ b1;apply bQ ac;kernel_rfl
noncomputable def emptyN(c:Nat):List PV:=(List.range c).map fun _=>PV.str ""
theorem bdU_1s{l acc:List PV}{li:MO}(ha:acc.length≤900)(hl:l.length≤100) :
  (run fnsP (n+67)).ex bdC (bdU 1) ⟨bd3V ps hs ac E is K ea sh pi si un fo (some (.pv (.lst l))) mn,[.dead,li,.lst acc]⟩=some (.next,⟨bd3V ps hs ac E is K ea sh pi si un fo (some (.pv (.lst l))) mn,[.dead,li,.lst (acc++l)]⟩):=by
 conv=>lhs;arg 3;whnf
 refine ex_aug (k:=2) (l:=acc) (r:=l) (st2:=⟨bd3V ps hs ac E is K ea sh pi si un fo (some (.pv (.lst l))) mn,[.dead,li,.lst acc]⟩) ?_ ?_ ?_ ?_ ⟨by omega,by omega⟩ ?_
 all_goals kernel_rfl
theorem bdU_1n{acc fs:List PV}{li:MO}(ha:acc.length≤900)(hl:fs.length≤3) :
  (run fnsP (n+67)).ex bdC (bdU 1) ⟨bd3V ps hs ac E is K ea sh pi si un (some (.pv (.lst fs))) (some (.pv .none)) mn,[.dead,li,.lst acc]⟩=some (.next,⟨bd3V ps hs ac E is K ea sh pi si un (some (.pv (.lst fs))) (some (.pv .none)) mn,[.dead,li,.lst (acc++emptyN fs.length)]⟩):=by
 conv=>lhs;arg 3;whnf
 refine ex_aug (k:=2) (l:=acc) (r:=emptyN fs.length) (st2:=⟨bd3V ps hs ac E is K ea sh pi si un (some (.pv (.lst fs))) (some (.pv .none)) mn,[.dead,li,.lst acc]⟩) ?_ ?_ ?_ ?_ ⟨by omega,by simp [emptyN];omega⟩ ?_
 case refine_3=>apply lQ hl;kernel_rfl
 all_goals kernel_rfl
noncomputable def sideStep(E:Nat)(si m:Option (List PV)):Option (List PV):=match si with
 |some l=>some l
 |none=>(match m with
  |none=>none
  |some l=>if l.length=E then some l else none)
theorem bdL_4{m:Option (List PV)}{s:Option (List PV)}(hm:∀l,m=some l→l.length≤3)(hE:small3 E):(run fnsP (n+68)).ex bdC (bdL 4) ⟨bd3V ps hs ac E is K ea sh pi (some (.pv (optV s))) un fo (some (.pv (optV m))) mn,h⟩=some (.next,⟨bd3V ps hs ac E is K ea sh pi (some (.pv (optV (sideStep E s m)))) un fo (some (.pv (optV m))) mn,h⟩):=by
 cases s with
 |some l=>kernel_rfl
 |none =>
  cases m with
  |none=>kernel_rfl
  |some l=>apply sQ hE;apply lQ (hm l rfl);kernel_rfl
theorem rowsQ_snoc{L:List Prt}{P:Prt}:rowsQ E (L++[P])=sideStep E (rowsQ E L) (sideP P):=by
 have hf:∀Q:Prt,fitsP E Q=true→∃l,sideP Q=some l∧l.length=E:=fun Q hQ=>by
  unfold fitsP at hQ
  cases e:sideP Q with
  |none=>rw [e] at hQ;cases hQ
  |some l=>rw [e] at hQ;exact ⟨l,rfl,of_decide_eq_true hQ⟩
 unfold rowsQ
 refine rwE (List.find?_append) ?_
 cases e:L.find? (fitsP E) with
 |some Q =>
  refine xE12 (hf Q (List.find?_some e)) fun l h1 _=>?_
  show sideP Q=sideStep E (sideP Q) _
  refine rwE h1 ?_;rfl
 |none =>
  show (match (List.find? (fitsP E) [P]) with | none=>none | some P=>sideP P)=sideStep E none (sideP P)
  cases hp:fitsP E P with
  |true =>
   refine xE12 (hf P hp) fun l h1 h2=>?_
   refine rwE (List.find?_cons_of_pos hp) ?_
   show sideP P=_
   refine rwE h1 ?_
   show some l=if l.length=E then some l else none
   refine rwE (if_pos h2) rfl
  |false =>
   refine rwE (List.find?_cons_of_neg (by rw [hp];decide)) ?_
   show none=_
   unfold fitsP at hp
   cases hs:sideP P with
   |none=>rfl
   |some l =>
    rw [hs] at hp
    show none=if l.length=E then some l else none
    refine rwE (if_neg (of_decide_eq_false hp)) rfl
end Bc
namespace Bc
variable{n E i:Nat}{ps hs:List PV}{ac:Bool}{is:List Nat}{K k:Kd}{ea sh pi si un fo ma mn:Option AV}{h:List MO}{Ps:List Prt}
theorem top_heads{r c:Nat}{its:List PV}{b1 b2:Bool}{nm:Option Str}(hR:(dv ac (.mat k r c its b1 b2)).okG):(match topO ac r c b1 b2 with | some l=>l | none=>emptyN (colsL E (dv ac (.mat k r c its b1 b2))).length)=headsP (dv ac (.mat k r c its b1 b2)) nm:=by
 cases ac<;>cases b1<;>cases b2<;>first | rfl | (simp only [topO,cond_true,cond_false,if_true,if_false,dv,turn,colsL,headsP,emptyN,List.length_map,List.length_range];rfl)
theorem side_sides{r c:Nat}{its:List PV}{b1 b2:Bool}:sideO ac r c b1 b2=sideP (dv ac (.mat k r c its b1 b2)):=by
 cases ac<;>rfl
theorem dv_ok{P:Prt}(h:P.ok):(dv ac P).okG:=by
 cases ac
 ·rcases okG_pv (P:=P) with rfl | ⟨k,m,its,q,rfl⟩ | ⟨k,rr,cc,its,b1,b2,rfl⟩
  ·trivial
  ·exact h
  ·exact ⟨h.1,small3_c h.2.1,h.2.2⟩
 ·exact turn_okB h
theorem bd_part{P:Prt}{nm:Option Str}{s:Option (List PV)}{u:Bool}{lacc tacc:List PV}{φ:Fl→St→Prop}(hP:P.ok)(hn:P≠.nul)(hin:inP E (dv ac P))(hE:small3 E)(hK:P.kd.i≤K.i)(hi:i < 4)(hp:(Ps.map tp)[i]? = some (tp P))(hg:hs[i]? = some (nameV nm))(hl:lacc.length≤900)(ht:tacc.length≤900)
  (kk:∀sh' pi' fo' ma' mn',φ .next ⟨bd3V (Ps.map tp) hs ac E is K (iA i) sh' pi' (some (.pv (optV (sideStep E s (sideP (dv ac P)))))) (bA (u||unevB E (dv ac P))) fo' ma' mn',[.dead,.lst (lacc++(colsL E (dv ac P)).map fun l=>.lst (l.map (cv (dv ac P).kd K))),.lst (tacc++headsP (dv ac P) nm)]⟩) :
  X (run fnsP (n+68)) bdC [bdL 0,bdL 1,bdL 2,bdL 3,bdL 4] ⟨bd3V (Ps.map tp) hs ac E is K (iA i) sh pi (some (.pv (optV s))) (bA u) fo ma mn,[.dead,.lst lacc,.lst tacc]⟩ φ:=by
 have hR:=dv_ok (ac:=ac) hP
 refine xE11 (its_pv hn) fun at_ hpv=>?_
 refine X.step (bdL_0 hp hi) (X.step (bdL_1 (n:=n) (lines_ok (m:=n+27) hP hn hin hE)) ?_)
 have h2:(run fnsP (n+68)).ex bdC (bdL 2) ⟨bd3V (Ps.map tp) hs ac E is K (iA i) (some (.pv P.sh)) (some (.pv P.pv)) (some (.pv (optV s))) (bA u) (some (.pv (.lst ((colsL E (dv ac P)).map PV.lst)))) ma mn,[.dead,.lst lacc,.lst tacc]⟩
   = some (.next,⟨bd3V (Ps.map tp) hs ac E is K (iA i) (some (.pv P.sh)) (some (.pv P.pv)) (some (.pv (optV s))) (bA u) (some (.pv (.lst ((colsL E (dv ac P)).map PV.lst)))) ma mn,[.dead,.lst (lacc++(colsL E (dv ac P)).map fun l=>.lst (l.map (cv P.kd K))),.lst tacc]⟩):=by
  refine rwE hpv ?_
  refine bdL_2 hK (cols_cnt hR) (fun l hl=>?_) (fun l hl x hx=>?_) hl
  ·refine rwE (cols_len hin hE l hl) ?_;exact small3_le hE
  ·have:=cols_it (E:=E) hR l hl x hx
   rw [dv_kd] at this
   exact this
 refine X.step h2 ?_
 rw [dv_kd] at kk
 rcases okG_pv (P:=P) with rfl | ⟨k,m,its,q,rfl⟩ | ⟨k,r,c,its,b1,b2,rfl⟩
 ·exact absurd rfl hn
 ·have hd:dv ac (.vec k m its q)=.vec k m its q:=by cases ac<;>rfl
  rw [hd] at kk hR hin ⊢
  have hlen:its.length≤3:=small3_len hR.1 hR.2.1
  refine rwE bdL3_i ?_
  refine X.iff' (n:=n+67) bdL3_t ?_
  rw [cond_true,bdL3_b]
  refine X.step (bdT_0 hg hi (by omega)) ?_
  refine X.seg (st1:=⟨bd3V (Ps.map tp) hs ac E is K (iA i) (some (.pv .none)) (some (.pv (vecPV k.s its (atV m q)))) (some (.pv (optV s))) (bA u) (some (.pv (.lst ((colsL E (.vec k m its q)).map PV.lst)))) (some (.pv (optV (sideP (.vec k m its q))))) mn,[.dead,.lst (lacc++(colsL E (.vec k m its q)).map fun l=>.lst (l.map (cv k K))),.lst (tacc++[headV nm])]⟩) 2 bdT_12 ?_
  refine X.seg (st1:=⟨bd3V (Ps.map tp) hs ac E is K (iA i) (some (.pv .none)) (some (.pv (vecPV k.s its (atV m q)))) (some (.pv (optV s))) (bA (u||unevB E (.vec k m its q))) (some (.pv (.lst ((colsL E (.vec k m its q)).map PV.lst)))) (some (.pv (optV (sideP (.vec k m its q))))) (iA its.length),[.dead,.lst (lacc++(colsL E (.vec k m its q)).map fun l=>.lst (l.map (cv k K))),.lst (tacc++[headV nm])]⟩) 2 (bdT_34 hlen hE) ?_
  exact X.nilT (X.step (bdL_4 (fun l hl=>side_len hR hl) hE) (X.nil (kk _ _ _ _ _)))
 ·refine rwE bdL3_i ?_
  refine X.iff' (n:=n+67) bdL3_f ?_
  rw [cond_false,bdL3_e]
  refine X.step bdU_0 ?_
  rw [← (top_heads (E:=E) (nm:=nm) hR)] at kk
  have hu:unevB E (dv ac (.mat k r c its b1 b2))=false:=by cases ac<;>rfl
  rw [hu,Bool.or_false] at kk
  have hsd:∀l,sideO ac r c b1 b2=some l→l.length≤3:=fun l hl=>side_len hR (by refine rwB side_sides ?_;exact hl)
  rw [← side_sides] at kk
  cases htp:topO ac r c b1 b2 with
  |some l =>
   rw [htp] at kk
   have hll:l.length≤100:=by
    revert htp
    cases ac<;>cases b1<;>cases b2<;>intro htp<;>first | (cases htp;done) | (cases htp;simp [pqrN];omega)
   refine X.step (bdU_1s ht hll) (X.step bdU_2 (X.nilT (X.step (bdL_4 hsd hE) (X.nil (kk _ _ _ _ _)))))
  |none =>
   rw [htp] at kk
   have e:=bdU_1n (n:=n) (E:=E) (ps:=Ps.map tp) (hs:=hs) (ac:=ac) (is:=is) (K:=K) (ea:=iA i) (sh:=some (.pv (Prt.mat k r c its b1 b2).sh)) (pi:=some (.pv (Prt.mat k r c its b1 b2).pv)) (si:=some (.pv (optV s))) (un:=bA u) (mn:=mn) (acc:=tacc) (fs:=(colsL E (dv ac (.mat k r c its b1 b2))).map PV.lst) (li:=.lst (lacc++(colsL E (dv ac (.mat k r c its b1 b2))).map fun l=>.lst (l.map (cv k K)))) ht (by rw [List.length_map];exact cols_cnt hR)
   rw [List.length_map] at e
   exact X.step e (X.step bdU_2 (X.nilT (X.step (bdL_4 hsd hE) (X.nil (kk _ _ _ _ _)))))
end Bc
namespace Bc
variable{n E i:Nat}{ps hs:List PV}{ac:Bool}{is:List Nat}{K k:Kd}{ea sh pi si un fo ma mn:Option AV}{h:List MO}{Ps:List Prt}
noncomputable def linesQ(E:Nat)(K:Kd)(Q:List (Nat × Prt)):List (List PV):=Q.flatMap fun x=>(colsL E x.2).map fun l=>l.map (cv x.2.kd K)
inductive bdlI(Ps:List Prt)(nms:List (Option Str))(ac:Bool)(E:Nat)(K:Kd)(Q:List (Nat × Prt))(j:Nat)(st:St):Prop
 |mk (ea sh pi fo ma mn:Option AV):st=⟨bd3V (Ps.map tp) (nms.map nameV) ac E (Q.map (·.1)) K ea sh pi (some (.pv (optV (rowsQ E ((Q.take j).map (·.2)))))) (bA ((Q.take j).any fun x=>unevB E x.2)) fo ma mn,[.dead,.lst ((linesQ E K (Q.take j)).map PV.lst),.lst (headsQ nms (Q.take j))]⟩→bdlI Ps nms ac E K Q j st
theorem bd_loop{Q:List (Nat × Prt)}{nms:List (Option Str)}{rest:List Stmt}{φ:Fl→St→Prop}(hlen:Ps.length≤4)(ho:∀P∈Ps,Prt.ok P)(hQ:QOk E (Ps.map (dv ac)) Q)(hE:small3 E)(hnm:nms.length=Ps.length)(hK:∀x∈Q,x.2.kd.i≤K.i)
  (kk:∀ea sh pi fo ma mn,X (run fnsP (n+69)) bdC rest ⟨bd3V (Ps.map tp) (nms.map nameV) ac E (Q.map (·.1)) K ea sh pi (some (.pv (optV (rowsQ E (Q.map (·.2)))))) (bA (Q.any fun x=>unevB E x.2)) fo ma mn,[.dead,.lst ((linesQ E K Q).map PV.lst),.lst (headsQ nms Q)]⟩ φ) :
  X (run fnsP (n+69)) bdC (bdS 12::rest) ⟨bd3V (Ps.map tp) (nms.map nameV) ac E (Q.map (·.1)) K ea sh none (some (.pv .none)) (bA false) none none none,[.dead,.lst [],.lst []]⟩ φ:=by
 refine forN (n:=n+68) (bdlI Ps nms ac E K Q) bdL_for (by kernel_rfl) (bdL_it (n:=n)) (ds:=(Q.map (·.1)).map natV) (items_lst (by rw [List.length_map,List.length_map];have:=hQ.len;omega)) ⟨ea,sh,none,none,none,none,rfl⟩ ?_ ?_
 ·intro j d st hd ⟨ea,sh,pi,fo,ma,mn,hst⟩
  subst hst
  rw [List.map_map,List.getElem?_map] at hd
  refine Bc.optE (Q[j]?) (fun hq=>?_) fun x hq=>?_
  ·rw [hq] at hd;cases hd
  ·
   rw [hq] at hd;cases hd
   have hmem:x∈Q:=List.mem_of_getElem? hq
   have hx:=hQ.at_ x hmem
   rw [List.getElem?_map] at hx
   refine Bc.optE (Ps[x.1]?) (fun hP=>?_) fun P hP=>?_
   ·rw [hP] at hx;cases hx
   ·
    rw [hP] at hx
    have hx:dv ac P=x.2:=Option.some.inj hx
    have hi:x.1 < Ps.length:=(List.getElem?_eq_some_iff.mp hP).1
    have htake:Q.take (j+1)=Q.take j++[x]:=by rw [List.take_succ,hq];rfl
    have hget:(Ps.map tp)[x.1]? = some (tp P):=by refine rwE (List.getElem?_map) (rwE hP ?_);rfl
    have hnme:(nms.map nameV)[x.1]? = some (nameV (nms.getD x.1 none)):=by
     refine rwE (List.getElem?_map) (rwE (List.getD_eq_getElem?_getD) (rwE (List.getElem?_eq_getElem (by exact Nat.lt_of_lt_of_eq hi (Eq.symm hnm))) ?_));rfl
    have okq:∀y∈Q.take j,y∈Q:=fun y hy=>List.mem_of_mem_take hy
    have okG:∀y∈Q,Prt.okG y.2:=fun y hy=>by
     have:=List.mem_of_getElem? (hQ.at_ y hy)
     refine xE12 (List.mem_map.mp this) fun P' h' he=>?_
     refine rwB he ?_;exact dv_ok (ho P' h')
    have l1:(linesQ E K (Q.take j)).length≤3 * (Q.take j).length:=flat_le fun y hy=>by rw [List.length_map];exact cols_cnt (okG y (okq y hy))
    have l2:(headsQ nms (Q.take j)).length≤3 * (Q.take j).length:=flat_le fun y hy=>by
     refine rwE (heads_len (E:=E) (okG y (okq y hy)) (hQ.n y (okq y hy))) ?_;exact cols_cnt (okG y (okq y hy))
    have l3:(Q.take j).length≤4:=by refine rwE List.length_take ?_;have:=hQ.len;omega
    have hn:P≠.nul:=by
     intro z;subst z
     refine hQ.n x hmem ?_
     refine rwB hx ?_;cases ac<;>rfl
    refine ⟨_,bdL_bind,?_⟩
    refine rwE bdL_bb ?_
    refine bd_part (n:=n) (i:=x.1) (nm:=nms.getD x.1 none) (ho _ (List.mem_of_getElem? hP)) hn (by refine rwE hx ?_;exact hQ.fit x hmem) hE (by have:=hK x hmem;rw [← hx,dv_kd] at this;exact this) (show x.1 < 4 by exact Nat.lt_of_lt_of_le hi hlen) hget hnme (by rw [List.length_map];omega) (by omega) fun sh' pi' fo' ma' mn'=>⟨iA x.1,sh',pi',fo',ma',mn',?_⟩
    refine rwE hx (rwE htake (rwE List.map_append (rwE List.any_append ?_)))
    have e1:rowsQ E ((Q.take j).map (·.2)++[x].map (·.2))=sideStep E (rowsQ E ((Q.take j).map (·.2))) (sideP x.2):=rowsQ_snoc
    have e2:[x].any (fun x=>unevB E x.2)=unevB E x.2:=by simp
    rw [e1,e2]
    unfold linesQ headsQ
    rw [List.flatMap_append,List.flatMap_append,List.flatMap_singleton,List.flatMap_singleton,List.map_append]
    have e3:((colsL E x.2).map fun l=>l.map (cv x.2.kd K)).map PV.lst=(colsL E x.2).map fun l=>.lst (l.map (cv x.2.kd K)):=by refine rwE List.map_map ?_;rfl
    rw [e3]
 ·intro st ⟨ea,sh,pi,fo,ma,mn,hst⟩
  refine Bc.rwE hst ?_
  rw [List.length_map,List.length_map,List.take_length]
  exact kk _ _ _ _ _ _
noncomputable def bdW(ps hs:List PV)(ac:Bool)(E:Nat)(is:List Nat)(K:Kd)(ea sh pi si un fo ma mn li to:Option AV):Vars:=bdV ps hs ac (iA (alI ac)) (iA E) ea sh pi (some (.pv (.lst (is.map natV)))) (some (.pv (.lst kdL))) (sA K) li to si un fo ma mn
theorem head_sf{d:PV}(h:hdOk d):sfOk 0 d:=by
 rcases h with rfl | rfl | rfl | rfl | rfl | rfl | rfl | rfl<;>exact sf_of (by kernel_rfl)
theorem bd13_stmt{V2 V1 V0:Vars}{s:Option (List PV)}{u:Bool}{ls ts:List PV}{q1 q2 q3 q4 q5 q6 p3:Pos}{e1 e2 e3 e5 e6 i cnd em tn nn:Expr}{kz:Nat}{sc:Scope}(ho:∀d∈ts,hdOk d)(hl:ts.length≤100)(hown:oNm sc=([".0","top"]:List Str))
  (c1:(!(bdC.lp&&scO bdC.names sc&&compOk sc (V1)))=false) (c2:(isSetE i||!ownT sc (.Name "top" p3))=false)
  (hi:evP (run fnsP (n+64)) bdC i ⟨V1,[.dead,.dead,.lst ts]⟩=some (.lst ts,⟨V2,[.dead,.dead,.dead]⟩))
  (hb:∀d a,bindT (rlN bdC.names sc.names) (.Name "top" p3) d ⟨(".0",none)::("top",a)::V2,[.dead,.dead,.dead]⟩=some ⟨(".0",none)::("top",some (.pv d))::V2,[.dead,.dead,.dead]⟩)
  (hf:∀d,hdOk d→evT (run fnsP (n+64)) ⟨rlN bdC.names sc.names,bdC.lp⟩ cnd ⟨(".0",none)::("top",some (.pv d))::V2,[.dead,.dead,.dead]⟩=some (headNE d,⟨(".0",none)::("top",some (.pv d))::V2,[.dead,.dead,.dead]⟩))
  (he:∀d,evP (run fnsP (n+64)) ⟨rlN bdC.names sc.names,bdC.lp⟩ (.Name "top" q1) ⟨(".0",none)::("top",some (.pv d))::V2,[.dead,.dead,.dead]⟩=some (d,⟨(".0",none)::("top",some (.pv d))::V2,[.dead,.dead,.dead]⟩))
  (h1:evP (run fnsP (n+67)) bdC e1 ⟨V0,[.dead,.lst ls,.lst ts]⟩=some (.str K.s,⟨V0,[.dead,.lst ls,.lst ts]⟩))
  (h2:evP (run fnsP (n+67)) bdC e2 ⟨V0,[.dead,.lst ls,.lst ts]⟩=some (.lst ls,⟨V1,[.dead,.dead,.lst ts]⟩))
  (h3:evP (run fnsP (n+67)) bdC e3 ⟨V1,[.dead,.dead,.lst ts]⟩=some (optV s,⟨V1,[.dead,.dead,.lst ts]⟩))
  (g4:behindInMarks .NotEq em=false) (hem:∀h,evP (run fnsP (n+65)) bdC em ⟨V2,h⟩=some (.lst [],⟨V2,h⟩))
  (htn:(run fnsP (n+66)).ev bdC tn ⟨V2,[.dead,.dead,.dead]⟩=some (.pv (.lst ts),⟨V2,[.dead,.dead,.dead]⟩))
  (hnn:(run fnsP (n+66)).ev bdC nn ⟨V2,[.dead,.dead,.dead]⟩=some (.pv .none,⟨V2,[.dead,.dead,.dead]⟩))
  (h5:evP (run fnsP (n+67)) bdC e5 ⟨V2,[.dead,.dead,.dead]⟩=some (natV E,⟨V2,[.dead,.dead,.dead]⟩))
  (h6:evP (run fnsP (n+67)) bdC e6 ⟨V2,[.dead,.dead,.dead]⟩=some (.bool u,⟨V2,[.dead,.dead,.dead]⟩))
  (hstar:(isS e1||(isS e2||(isS e3||(false||(isS e5||(isS e6||false))))))=false) :
  (run fnsP (n+69)).ex bdC (.Return (some (.Tuple [e1,e2,e3,.IfExp (.Compare (.ListComp (.Name "top" q1) [⟨.Name "top" p3,i,[cnd],0⟩] sc q2) [.NotEq] [em] q3) tn nn q4,e5,e6] kz q5)) q6) ⟨V0,[.dead,.lst ls,.lst ts]⟩
   = some (.ret (.tup [.str K.s,.lst ls,optV s,optV (headO (namedB ts) ts),natV E,.bool u]),⟨V2,[.dead,.dead,.dead]⟩):=by
 have t1:=comp_map (R:=run fnsP (n+64)) (cx:=bdC) (pre:=fun a=>[(".0",none),("top",a.map AV.pv)]) (f:=id) (g:=headNE) (elt:=.Name "top" q1) (t:=.Name "top" p3) (ifs:=[cnd]) (scope:=sc) (st:=⟨V1,[.dead,.dead,.lst ts]⟩) c1 c2 hi (items_lst (by omega)) (by omega) (by refine rwE hown ?_;rfl) (fun a=>by refine rwE hown ?_;rfl)
  (fun d z_ a=>hb d _) (fun d hd=>evAnd1 (hf d (ho d hd))) (fun d z_ z_=>he d)
 rw [List.map_id] at t1
 have hc:cmpPV .NotEq (.lst (ts.filter headNE)) (.lst [])=some (namedB ts):=by
  unfold namedB
  have hall:∀d∈ts.filter headNE,sfOk 0 d:=fun d hd=>head_sf (ho d (List.mem_filter.mp hd).1)
  generalize ts.filter headNE=L at hall ⊢
  cases L with
  |nil=>kernel_rfl
  |cons a r =>
   have:eqPV (.lst (a::r)) (.lst [])=some false:=eq_nil (dd:=0) (List.cons_ne_nil a r) hall (by exact Nat.zero_lt_succ 63)
   refine rwE (ne_of_eq this) (rwE (decide_eq_true (by rw [List.length_cons];exact Int.ofNat_succ_pos r.length)) ?_);rfl
 have t3:(run fnsP (n+67)).ev bdC (.IfExp (.Compare (.ListComp (.Name "top" q1) [⟨.Name "top" p3,i,[cnd],0⟩] sc q2) [.NotEq] [em] q3) tn nn q4) ⟨V1,[.dead,.dead,.lst ts]⟩
   = some (.pv (optV (headO (namedB ts) ts)),⟨V2,[.dead,.dead,.dead]⟩):=by
  refine ev_ife (n:=n+66) (evT_cmp (n:=n+65) (p:=q3) (op:=.NotEq) g4 (evP_of rfl (ev_lc (n:=n+64) (p:=q2) t1)) (hem _) hc) ?_
  cases namedB ts
  ·exact hnn
  ·exact htn
 refine ex_ret (n:=n+68) (c:=.pv (.tup [.str K.s,.lst ls,optV s,optV (headO (namedB ts) ts),natV E,.bool u])) (st1:=⟨V2,[.dead,.dead,.dead]⟩) (evR_of rfl (ev_tup (n:=n+67) ?_ (evPs_cons h1 (evPs_cons h2 (evPs_cons h3 (evPs_cons (evP_of rfl t3) (evPs_cons h5 (evPs_cons h6 rfl)))))))) rfl rfl
 show ((isS e1||(isS e2||(isS e3||(false||(isS e5||(isS e6||false))))))||decide (1000 < 6))=false
 refine rwE hstar ?_;rfl
theorem bd_13{s:Option (List PV)}{u:Bool}{ls ts:List PV}(ho:∀d∈ts,hdOk d)(hl:ts.length≤100) :
  (run fnsP (n+69)).ex bdC (bdS 13) ⟨bd3V ps hs ac E is K ea sh pi (some (.pv (optV s))) (bA u) fo ma mn,[.dead,.lst ls,.lst ts]⟩
   = some (.ret (.tup [.str K.s,.lst ls,optV s,optV (headO (namedB ts) ts),natV E,.bool u]),⟨bdW ps hs ac E is K ea sh pi (some (.pv (optV s))) (bA u) fo ma mn (some (.pv (.lst ls))) (some (.pv (.lst ts))),[.dead,.dead,.dead]⟩):=by
 conv=>lhs;arg 3;whnf
 refine bd13_stmt (V1:=bdW ps hs ac E is K ea sh pi (some (.pv (optV s))) (bA u) fo ma mn (some (.pv (.lst ls))) (some (.cell 2))) ho hl ?_ ?_ ?_ ?_ ?_ ?_ ?_ ?_ ?_ ?_ ?_ ?_ ?_ ?_ ?_ ?_ ?_
 case refine_6 =>
  intro d hd
  rcases hd with rfl | rfl | rfl | rfl | rfl | rfl | rfl | rfl<;>kernel_rfl
 all_goals (intros;kernel_rfl)
end Bc
namespace Bc
variable{n:Nat}{ac:Bool}{Ps:List Prt}{cells:List MO}
noncomputable def dueV(E:Nat)(K:Kd)(nms:List (Option Str))(Q:List (Nat × Prt)):PV:=.tup [.str K.s,.lst ((linesQ E K Q).map PV.lst),optV (rowsQ E (Q.map (·.2))),optV (headO (namedB (headsQ nms Q)) (headsQ nms Q)),natV E,.bool (Q.any fun x=>unevB E x.2)]
noncomputable def Due(Ps:List Prt)(nms:List (Option Str))(D:PV):Prop :=
 (∃i,extGo Ps 0 (-1) 0=.inl i∧D=refV i) ∨
 ∃e l,extGo Ps 0 (-1) 0=.inr (e,l) ∧
  ((keptQ (extN e l) Ps=[]∧D=.none) ∨
   ∃K,keptQ (extN e l) Ps≠[]∧isMax ((keptQ (extN e l) Ps).map fun x=>x.2.kd) K∧D=dueV (extN e l) K nms (keptQ (extN e l) Ps))
theorem bd_kept{ps hs:List PV}{E:Nat}{ea sh:Option AV}{is:List Nat}:setV "kept" (.pv (.lst (is.map natV))) (bd1 ps hs ac (iA E) ea sh)=bd2 ps hs ac E ea sh is none none none none none none:=by kernel_rfl
theorem due_X{nms:List (Option Str)}(hlen:Ps.length≤4)(ho:∀P∈Ps,Prt.ok P)(hnm:nms.length=Ps.length)(hno:∀x∈nms,nmOk x) :
  X (run fnsP (n+69)) bdC d_law_bound.body ⟨bdV (Ps.map tp) (nms.map nameV) ac none none none none none none none none none none none none none none none,[]⟩ (fun f _=>∃D,Due (Ps.map (dv ac)) nms D∧f=.ret D):=by
 refine rwE bd_bd ?_
 refine X.seg (st1:=⟨bd1 (Ps.map tp) (nms.map nameV) ac (iA (-1)) none none,[]⟩) 2 (bd_01 (n:=n)) ?_
 show X _ _ (bdS 2::[bdS 3,bdS 4,bdS 5,bdS 6,bdS 7,bdS 8,bdS 9,bdS 10,bdS 11,bdS 12,bdS 13]) _ _
 refine bd_go (n:=n) hlen ho (fun i st hx=>⟨refV i,.inl ⟨i,hx,rfl⟩,rfl⟩) fun e l ea sh he hx=>?_
 have hog:∀P∈Ps.map (dv ac),Prt.okG P:=fun P hP=>by
  refine xE12 (List.mem_map.mp hP) fun P' h' e_2=>?_;refine Bc.rwB e_2 ?_
  exact dv_ok (ho P' h')
 have hl4:(Ps.map (dv ac)).length≤4:=by rw [List.length_map];exact hlen
 refine xE03 (ext_small hog hx) fun s1 s2 _=>?_
 have hQ:=keptQ_ok hl4 hog hx
 have hfst:(keptQ (extN e l) (Ps.map (dv ac))).map (·.1)=kpGo (extN e l) Ps 0:=by refine rwE keptQ_fst (rwE kpGo_dv rfl)
 have h3:=bd_3 (n:=n) (hs:=nms.map nameV) (ea:=ea) (sh:=sh) hlen ho he hx
 rw [s2] at h3
 refine X.step h3 ?_
 have hdue:∀D,((keptQ (extN e l) (Ps.map (dv ac))=[]∧D=.none)∨∃K,keptQ (extN e l) (Ps.map (dv ac))≠[]∧isMax ((keptQ (extN e l) (Ps.map (dv ac))).map fun x=>x.2.kd) K∧D=dueV (extN e l) K nms (keptQ (extN e l) (Ps.map (dv ac))))→Due (Ps.map (dv ac)) nms D:=fun D h=>.inr ⟨e,l,hx,h⟩
 generalize extN e l=E at *
 generalize keptQ E (Ps.map (dv ac))=Q at *
 refine X.step (st1:=⟨bd2 (Ps.map tp) (nms.map nameV) ac E ea sh (Q.map (·.1)) none none none none none none,[]⟩) ?_ ?_
 ·refine rwE hfst (rwB bd_kept ?_)
  exact bd_4 (n:=n) hlen ho s1
 have hil:(Q.map (·.1)).length≤4:=by rw [List.length_map];exact hQ.len
 by_cases hQ0:Q=[]
 ·subst hQ0
  exact X.ret (bd_5r (n:=n)) ⟨.none,hdue _ (.inl ⟨rfl,rfl⟩),rfl⟩
 have his:Q.map (·.1)≠[]:=by simpa using hQ0
 refine X.step (st1:=⟨bd2 (Ps.map tp) (nms.map nameV) ac E ea sh (Q.map (·.1)) none none none none none none,[]⟩) ?_ ?_
 ·exact bd_5n (n:=n) his hil
 refine X.step (st1:=⟨bd2 (Ps.map tp) (nms.map nameV) ac E ea sh (Q.map (·.1)) (some (.cell 0)) none none none none none,[.lst kdL]⟩) ?_ ?_
 ·exact bd_6 (n:=n)
 have hfx:∀x∈Q,∃P,Ps[x.1]? = some P∧dv ac P=x.2∧P≠.nul∧x.1 < 4:=fun x hmem=>by
  have hx:=hQ.at_ x hmem
  rw [List.getElem?_map] at hx
  cases hP:Ps[x.1]? with
  |none=>rw [hP] at hx;cases hx
  |some P =>
   rw [hP] at hx
   have hx:dv ac P=x.2:=Option.some.inj hx
   refine ⟨P,rfl,hx,?_,?_⟩
   ·intro z;subst z
    refine hQ.n x hmem ?_
    refine rwB hx ?_;cases ac<;>rfl
   ·have:=(List.getElem?_eq_some_iff.mp hP).1
    exact Nat.lt_of_lt_of_le this hlen
 obtain ⟨K,hK,h7⟩:=bd_7 (n:=n) (E:=E) (hs:=nms.map nameV) (ac:=ac) (ea:=ea) (sh:=sh) (Ps:=Ps) his hil (fun j hj=>by
  refine xE12 (List.mem_map.mp hj) fun x hx e_2=>?_;refine Bc.rwB e_2 ?_
  refine xE14 (hfx x hx) fun P h1 _ h2 h3=>?_
  exact ⟨P,h1,h2,h3⟩)
 have hKe:(Q.map (·.1)).map (fun j=>(Ps.getD j .nul).kd)=Q.map fun x=>x.2.kd:=by
  refine rwE List.map_map ?_
  refine List.map_congr_left fun x hx=>?_
  refine xE14 (hfx x hx) fun P h1 h2 _ _=>?_
  show (Ps.getD x.1 .nul).kd=x.2.kd
  refine rwE (List.getD_eq_getElem?_getD) (rwE h1 (rwB h2 (rwE dv_kd ?_)));rfl
 rw [hKe] at hK
 refine X.step h7 ?_
 refine X.seg (st1:=⟨bd3V (Ps.map tp) (nms.map nameV) ac E (Q.map (·.1)) K ea sh none (some (.pv .none)) (bA false) none none none,[.dead,.lst [],.lst []]⟩) 4 ?_ ?_
 ·exact bd_8 (n:=n)
 show X _ _ (bdS 12::[bdS 13]) _ _
 refine bd_loop (n:=n) hlen ho hQ s1 hnm (fun x hx=>hK.2 _ (List.mem_map.mpr ⟨x,hx,rfl⟩)) fun ea sh pi fo ma mn=>?_
 have hho:∀d∈headsQ nms Q,hdOk d:=by
  intro d hd
  refine xE12 (List.mem_flatMap.mp hd) fun x hx hd=>?_
  refine heads_ok' ?_ (hog _ (List.mem_of_getElem? (hQ.at_ x hx))) d hd
  refine rwE (List.getD_eq_getElem?_getD) ?_
  cases e:nms[x.1]? with
  |none=>exact .inl rfl
  |some z=>exact hno z (List.mem_of_getElem? e)
 have hhl:=headsQ_len (nms:=nms) hog hQ
 have hcl:(colsQ E Q).length≤12:=by
  have:(colsQ E Q).length≤3 * Q.length:=flat_le fun x hx=>cols_cnt (hog _ (List.mem_of_getElem? (hQ.at_ x hx)))
  have:=hQ.len;omega
 exact X.ret (bd_13 (n:=n) hho (by omega)) ⟨dueV E K nms Q,hdue _ (.inr ⟨K,hQ0,hK,rfl⟩),rfl⟩
theorem due_ok{nms:List (Option Str)}(hlen:Ps.length≤4)(ho:∀P∈Ps,Prt.ok P)(hnm:nms.length=Ps.length)(hno:∀x∈nms,nmOk x) :
  ∃D,Due (Ps.map (dv ac)) nms D∧(run fnsP (n+70)).call "_law_bound" [.pv (.lst (Ps.map tp)),.pv (.lst (nms.map nameV)),.pv (.bool ac)] cells=some (.ok (.pv D),cells):=by
 obtain ⟨f,st,e,D,hD,rfl⟩:=due_X (n:=n) (ac:=ac) hlen ho hnm hno
 exact ⟨D,hD,call_pure (vars0:=bdV (Ps.map tp) (nms.map nameV) ac none none none none none none none none none none none none none none none) find_law_bound plain_law_bound rfl rfl (by kernel_rfl) (by kernel_rfl) ⟨_,_,e,rfl⟩⟩
end Bc
namespace Bc
variable{n r c:Nat}{its:List PV}{rn cn:Option (List PV)}{K:Kd}{h:List MO}
noncomputable abbrev iaC:Cx:=⟨dLA.scope.names,true⟩
noncomputable def iaV(K:Kd)(its:List PV)(r c:Nat)(rn cn:Option (List PV))(d:Option AV):Vars:=[("v",some (.pv (gmPV K.s its r c rn cn))),("kind",some (.pv (.str K.s))),("items",some (.pv (.lst its))),("spans",some (.pv (.lst [.int r,.int c]))),("marks",some (.pv (.lst [optV rn,optV cn]))),("dim",d)]
theorem ia_bd:dLA.body=[sAt dLA 0,sAt dLA 1,sAt dLA 2]:=by kernel_rfl
noncomputable def dimV(r c:Nat):Option AV:=some (.pv (vecPV "integer" [.int r,.int c] .none))
theorem ia_0:(run fnsP (n+49)).ex iaC (sAt dLA 0) ⟨iaV K its r c rn cn none,[]⟩=some (.next,⟨iaV K its r c rn cn (dimV r c),[]⟩):=by
 apply oQ cn;apply oQ rn;kernel_rfl
theorem ia_1i:sAt dLA 1=.If (ifT (sAt dLA 1)) (ifBody (sAt dLA 1)) (ifElse (sAt dLA 1)) (ifPos (sAt dLA 1)):=by kernel_rfl
theorem ia_1e:ifElse (sAt dLA 1)=[]:=by kernel_rfl
theorem cmp_ne_self{d:PV}{dd:Nat}(h:sfOk dd d)(hd:dd≤64):cmpPV .NotEq d d=some false:=by
 exact ne_of_eq (sf_eq h hd)
theorem ia_1t(hi:∀x∈its,sfOk 2 x):evT (run fnsP (n+48)) iaC (ifT (sAt dLA 1)) ⟨iaV K its r c rn cn (dimV r c),[]⟩=some (false,⟨iaV K its r c rn cn (dimV r c),[]⟩):=by
 conv=>lhs;arg 3;whnf
 refine evT_of (ev_orB (evOr_f (st1:=⟨iaV K its r c rn cn (dimV r c),[]⟩) (evT_cmp (a:=.str K.s) (b:=.str K.s) (st1:=⟨iaV K its r c rn cn (dimV r c),[]⟩) (st2:=⟨iaV K its r c rn cn (dimV r c),[]⟩) ?_ ?_ ?_ ?_)
  (evOr_f (st1:=⟨iaV K its r c rn cn (dimV r c),[]⟩) (evT_cmp (a:=.lst its) (b:=.lst its) (st1:=⟨iaV K its r c rn cn (dimV r c),[]⟩) (st2:=⟨iaV K its r c rn cn (dimV r c),[]⟩) ?_ ?_ ?_ (cmp_ne_self (sf_lst hi) (by exact Nat.le_of_ble_eq_true rfl)))
  (evOr_f (st1:=⟨iaV K its r c rn cn (dimV r c),[]⟩) ?_
  (evOr_f (st1:=⟨iaV K its r c rn cn (dimV r c),[]⟩) (evT_cmp (a:=.lst [.int r,.int c]) (b:=.lst [.int r,.int c]) (st1:=⟨iaV K its r c rn cn (dimV r c),[]⟩) (st2:=⟨iaV K its r c rn cn (dimV r c),[]⟩) ?_ ?_ ?_ (cmp_ne_self (sf_lst (dd:=0) ?_) (by exact Nat.le_of_ble_eq_true rfl))) rfl)))))
 case refine_12 =>
  intro d hd
  rcases List.mem_cons.mp hd with rfl | hd
  ·exact sf_int
  ·refine rwE (List.mem_singleton.mp hd) ?_;exact sf_int
 case refine_4=>apply kQ K;kernel_rfl
 all_goals kernel_rfl
theorem ia_2(hrn:∀l,rn=some l→∀x∈l,sfOk 0 x)(hcn:∀l,cn=some l→∀x∈l,sfOk 0 x):(run fnsP (n+49)).ex iaC (sAt dLA 2) ⟨iaV K its r c rn cn (dimV r c),[]⟩=some (.ret (.bool true),⟨iaV K its r c rn cn (dimV r c),[]⟩):=by
 conv=>lhs;arg 3;whnf
 have ho:∀o:Option (List PV),(∀l,o=some l→∀x∈l,sfOk 0 x)→sfOk 1 (optV o):=fun o h=>by
  cases o with
  |none=>exact sf_mono sf_none (by exact Nat.zero_le 1)
  |some l=>exact sf_lst (h l rfl)
 refine ex_ret (c:=.pv (.bool true)) (cs:=[]) (st1:=⟨iaV K its r c rn cn (dimV r c),[]⟩) (evR_of ?_ (ev_cmp' (a:=.lst [optV rn,optV cn]) (b:=.lst [optV rn,optV cn]) (st1:=⟨iaV K its r c rn cn (dimV r c),[]⟩) ?_ ?_ ?_ (sf_eq (dd:=2) (sf_lst ?_) (by exact Nat.le_of_ble_eq_true rfl)))) ?_ ?_
 case refine_3=>apply oQ cn;apply oQ rn;kernel_rfl
 case refine_5 =>
  intro d hd
  rcases List.mem_cons.mp hd with rfl | hd
  ·exact ho _ hrn
  ·refine rwE (List.mem_singleton.mp hd) ?_;exact ho _ hcn
 all_goals kernel_rfl
theorem isA_ok{cells:List MO}(hi:∀x∈its,sfOk 2 x)(hrn:∀l,rn=some l→∀x∈l,sfOk 0 x)(hcn:∀l,cn=some l→∀x∈l,sfOk 0 x) :
  (run fnsP (n+50)).call "_law_is_array" [.pv (gmPV K.s its r c rn cn),.pv (.str K.s),.pv (.lst its),.pv (.lst [.int r,.int c]),.pv (.lst [optV rn,optV cn])] cells=some (.ok (.pv (.bool true)),cells):=by
 refine call_pure (vars0:=iaV K its r c rn cn none) find_law_is_array plain_law_is_array rfl rfl (by kernel_rfl) (by kernel_rfl) ?_
 refine rwE ia_bd ?_
 refine X.step ia_0 ?_
 refine rwE ia_1i ?_
 refine X.iff' (n:=n+48) (ia_1t hi) ?_
 rw [cond_false,ia_1e]
 exact X.nilT (X.ret (ia_2 hrn hcn) rfl)
end Bc
namespace Bc
theorem callFn_shift{R:Rc}{params:List Arg}{body:List Stmt}{names:List (Str × NameKind)}{k:Nat}{a b:PV}{cs:List MO}{o o':MO}{r:Rs}(h:callFn R params body names [.pv a,.pv b,.cell 0] [o]=some (r,[o']))(hk:cs[k]? = some o):callFn R params body names [.pv a,.pv b,.cell k] cs=some (r,cs.set k o'):=by
 have hn:callFn R params body names [.pv a,.pv b,.cell 0] [o]=ob (takeMO [o] [0]) fun ins=>ob (runFn R params body names [.pv a,.pv b,.cell 0] ins) fun q=>ob (putMO [0] q.2 [o]) fun cs'=>some (q.1,cs'):=rfl
 rw [hn] at h
 have hg:callFn R params body names [.pv a,.pv b,.cell k] cs=ob (takeMO cs [k]) fun ins=>ob (runFn R params body names [.pv a,.pv b,.cell 0] ins) fun q=>ob (putMO [k] q.2 cs) fun cs'=>some (q.1,cs'):=rfl
 refine rwE hg ?_
 refine obE h fun ins hi h1=>obE2 h1 fun r' outs hr h2=>obE h2 fun cs' hp h3=>?_
 refine obE hi fun o1 ho hi1=>bifT hi1 fun hfo hi2=>?_
 have ho:=Option.some.inj ho
 have hi3:=Option.some.inj hi2
 subst ho hi3
 refine obE hp fun q hq hp1=>bifT hp1 fun hfd hp2=>?_
 have hp3:[q.1]=cs':=Option.some.inj hp2
 have h4:=Option.some.inj h3
 have e1:r'=r:=congrArg Prod.fst h4
 have e2:cs'=[o']:=congrArg Prod.snd h4
 have e3:q.1=o':=(List.cons.inj (hp3.trans e2)).1
 refine rwE (ob_eq (show takeMO cs [k]=some [o] from (ob_eq hk).trans (by rw [hfo];rfl))) (rwE (ob_eq hr) (rwE (ob_eq (show putMO [k] outs cs=some (cs.set k o') from (ob_eq hq).trans (by rw [hfd,e3];rfl))) (rwE e1 rfl)))
theorem call_shift{n k:Nat}{x:Str}{a b:PV}{cs:List MO}{o o':MO}{r:Rs}(h:(run fnsP (n+1)).call x [.pv a,.pv b,.cell 0] [o]=some (r,[o']))(hk:cs[k]? = some o):(run fnsP (n+1)).call x [.pv a,.pv b,.cell k] cs=some (r,cs.set k o'):=by
 have e:∀as cs,(run fnsP (n+1)).call x as cs=ob (fnsP.find? (fun d=>d.name==x)) fun d=>bif plF d then callFn (run fnsP n) d.params.args d.body d.scope.names as cs else none:=fun z_ z_=>rfl
 rw [e] at h ⊢
 exact obE h fun d hd h=>bifT h fun hp h=>(ob_eq hd).trans (by refine rwE hp ?_;exact callFn_shift h hk)
theorem evCall_fnE{n:Nat}{cx:Cx}{f:Expr}{x:Str}{st st1:St}{args:List Expr}{as:List AV}{rs:Rs}{cs:List MO}(hk:(args.any isS||decide (30 < args.length))=false)(hf:(run fnsP (n+1)).ev cx f st=some (.pv (.glb x),st))(hl:cx.lp=true)(hb:(biNames.contains x||x==("Vector" : Str)||x==("Null" : Str))=false)
  (ha:evArgs (run fnsP (n+1)) (x==("_law_named" : Str)) cx args st=some (as,st1)) (hc:(run fnsP (n+1)).call x as st1.cells=some (rs,cs)):evCall (run fnsP (n+1)) cx f args st=some (rs,⟨st1.vars,cs⟩):=by
 simp only [Bool.or_eq_false_iff] at hb
 unfold evCall
 refine rwE hk ?_
 refine (ob_eq hf).trans ((ob_eq rfl).trans ((ob_eq rfl).trans ((ob_eq ha).trans (ob_eq (?_:callG _ _ _ _ _=some (rs,cs))))))
 unfold callG
 refine rwE hb.1.1 (rwE hl (rwE hb.1.2 (rwE hb.2 ?_)))
 exact hc
theorem ex_tryN{m:Nat}{cx:Cx}{st st1:St}{body hb:List Stmt}{b0:Stmt}{t x:Str}{p1 p2 p3:Pos}(hc:(!(cx.lp&&t==("Refusal" : Str)&&cx.names.lookup t==some .globalImplicit&&cx.names.lookup x==some .local&&hasV x st.vars))=false)(h:exs (run fnsP m) cx body st=some (.next,st1)) :
  (run fnsP (m+1)).ex cx (.Try body [.ExceptHandler (some (.Name t p1)) (some x) (b0::hb) p2] [] [] p3) st=some (.next,st1):=by
 show (bif !(cx.lp&&t==("Refusal" : Str)&&cx.names.lookup t==some .globalImplicit&&cx.names.lookup x==some .local&&hasV x st.vars) then none else ob (exs (run fnsP m) cx body st) _)=_
 refine rwE hc ?_
 exact ob_eq h
theorem ex_tryX{m:Nat}{cx:Cx}{st st1 st2 st4:St}{body hb:List Stmt}{b0:Stmt}{t x:Str}{d:PV}{p1 p2 p3:Pos}(hc:(!(cx.lp&&t==("Refusal" : Str)&&cx.names.lookup t==some .globalImplicit&&cx.names.lookup x==some .local&&hasV x st.vars))=false)(h:exs (run fnsP m) cx body st=some (.exc d,st1))
  (h2:exs (run fnsP m) ⟨cx.names,false⟩ (b0::hb) ⟨setV x (.exn d) st1.vars,st1.cells⟩=some (.cont,st2)) (h4:st4=⟨unsetV x st2.vars,st2.cells⟩) :
  (run fnsP (m+1)).ex cx (.Try body [.ExceptHandler (some (.Name t p1)) (some x) (b0::hb) p2] [] [] p3) st=some (.cont,st4):=by
 refine Bc.rwE h4 ?_
 show (bif !(cx.lp&&t==("Refusal" : Str)&&cx.names.lookup t==some .globalImplicit&&cx.names.lookup x==some .local&&hasV x st.vars) then none else ob (exs (run fnsP m) cx body st) _)=_
 refine rwE hc ?_
 exact (ob_eq h).trans (ob_eq h2)
theorem comp1_run{R:Rc}{cx:Cx}{β:Type}{enc:β→PV}{pre:Option β→Vars}{f:β→PV}{elt t:Expr}{V:Vars}{cells:List MO}
  (hb:∀d a,bindT cx.names t (enc d) ⟨pre a++V,cells⟩=some ⟨pre (some d)++V,cells⟩)
  :
  ∀(bs:List β) (acc:List PV) (b0:Option β),(∀d∈bs,evP R cx elt ⟨pre (some d)++V,cells⟩=some (f d,⟨pre (some d)++V,cells⟩))→acc.length+bs.length≤1000→∃b',comp1 R cx elt t [] (bs.map enc) acc ⟨pre b0++V,cells⟩=some (acc++bs.map f,⟨pre b'++V,cells⟩):=fun bs acc b0 he hl=>by
 have h:=comp1_map (R:=R) (cx:=cx) (ifs:=[]) (g:=fun _=>true) (as:=bs) (fun d _ a=>hb d a) (fun _ _=>rfl) (fun d hd _=>he d hd) (acc:=acc) (a0:=b0) hl
 rwa [List.filter_eq_self.mpr fun _ _=>rfl] at h
theorem comp2_run{R:Rc}{cx:Cx}{α β:Type}{enc:α→PV}{enc2:β→PV}{pre:Option α→Option β→Vars}{bs:α→List β}{x2:α→PV}{f:α→β→PV}{elt t1 t2 i2:Expr}{V:Vars}{cells:List MO}
  (hb:∀d a b,bindT cx.names t1 (enc d) ⟨pre a b++V,cells⟩=some ⟨pre (some d) b++V,cells⟩)
  (hi2:∀d b,evP R cx i2 ⟨pre (some d) b++V,cells⟩=some (x2 d,⟨pre (some d) b++V,cells⟩)) (hx2:∀d,(bs d).length≤1000→items (x2 d)=some ((bs d).map enc2))
  (hb2:∀a d b,bindT cx.names t2 (enc2 d) ⟨pre (some a) b++V,cells⟩=some ⟨pre (some a) (some d)++V,cells⟩)
  :
  ∀(as:List α) (acc:List PV) (a0:Option α) (b0:Option β),(∀a∈as,∀d∈bs a,evP R cx elt ⟨pre (some a) (some d)++V,cells⟩=some (f a d,⟨pre (some a) (some d)++V,cells⟩))→acc.length+(as.flatMap bs).length≤1000→∃a' b',comp2 R cx elt t1 t2 i2 (as.map enc) acc ⟨pre a0 b0++V,cells⟩=some (acc++as.flatMap fun a=>(bs a).map (f a),⟨pre a' b'++V,cells⟩):=by
 intro as
 induction as with
 |nil=>exact fun acc a0 b0 _ _=>⟨a0,b0,congrArg (fun l=>some (l,St.mk (pre a0 b0++V) cells)) (List.append_nil acc).symm⟩
 |cons a r ih =>
  intro acc a0 b0 he hl
  rw [List.flatMap_cons,List.length_append] at hl
  obtain ⟨b1,h1⟩:=comp1_run (R:=R) (cx:=cx) (pre:=pre (some a)) (enc:=enc2) (f:=f a) (elt:=elt) (t:=t2) (V:=V) (cells:=cells) (fun d b=>hb2 a d b) (bs a) acc b0 (he a List.mem_cons_self) (by omega)
  obtain ⟨a',b',ih⟩:=ih (acc++(bs a).map (f a)) (some a) b1 (fun a' ha'=>he a' (List.mem_cons_of_mem _ ha')) (by rw [List.length_append,List.length_map];omega)
  refine ⟨a',b',(ob_eq (hb _ _ _)).trans ((ob_eq (hi2 _ _)).trans ((ob_eq (hx2 a (by omega))).trans ((ob_eq h1).trans (ih.trans ?_))))⟩
  rw [List.flatMap_cons,List.append_assoc]
theorem comp2_map{R:Rc}{cx:Cx}{st st1:St}{α β:Type}{enc:α→PV}{enc2:β→PV}{as:List α}{pre:Option α→Option β→Vars}{bs:α→List β}{x2:α→PV}{f:α→β→PV}{elt t i t2 i2:Expr}{scope:Scope}{x:PV}(c1:(!(cx.lp&&scO cx.names scope&&compOk scope st.vars))=false)(c2:(isSetE i||isSetE i2||!ownT scope t||!ownT scope t2)=false)
  (hi:evP R cx i st=some (x,st1)) (hx:items x=some (as.map enc)) (hl:(as.flatMap bs).length≤1000) (h0:(oNm scope).map (fun n=>(n,Option.none))=pre none none) (hk:∀a b,(pre a b).length=(oNm scope).length)
  (hb:∀d a b,bindT (rlN cx.names scope.names) t (enc d) ⟨pre a b++st1.vars,st1.cells⟩=some ⟨pre (some d) b++st1.vars,st1.cells⟩)
  (hi2:∀d b,evP R ⟨rlN cx.names scope.names,cx.lp⟩ i2 ⟨pre (some d) b++st1.vars,st1.cells⟩=some (x2 d,⟨pre (some d) b++st1.vars,st1.cells⟩)) (hx2:∀d,(bs d).length≤1000→items (x2 d)=some ((bs d).map enc2))
  (hb2:∀a d b,bindT (rlN cx.names scope.names) t2 (enc2 d) ⟨pre (some a) b++st1.vars,st1.cells⟩=some ⟨pre (some a) (some d)++st1.vars,st1.cells⟩)
  (he:∀a∈as,∀d∈bs a,evP R ⟨rlN cx.names scope.names,cx.lp⟩ elt ⟨pre (some a) (some d)++st1.vars,st1.cells⟩=some (f a d,⟨pre (some a) (some d)++st1.vars,st1.cells⟩)) :
  evComp R cx elt [⟨t,i,[],0⟩,⟨t2,i2,[],0⟩] scope st=some (.pv (.lst (as.flatMap fun a=>(bs a).map (f a))),st1):=by
 obtain ⟨a',b',h⟩:=comp2_run (R:=R) (cx:=⟨rlN cx.names scope.names,cx.lp⟩) (V:=st1.vars) (cells:=st1.cells) hb hi2 hx2 hb2 as [] none none he (by rw [List.length_nil];omega)
 unfold evComp
 rw [c1]
 show (bif isSetE i||isSetE i2||!ownT scope t||!ownT scope t2 then none else _)=_
 rw [c2]
 refine (ob_eq hi).trans ((ob_eq hx).trans ?_)
 show ob (comp2 _ _ _ _ _ _ _ _ ⟨_++_,_⟩) _=_
 rw [h0,ob_eq h,List.nil_append]
 show some (AV.pv _,St.mk ((pre a' b'++st1.vars).drop (oNm scope).length) _)=_
 rw [← hk a' b',List.drop_left]
end Bc
namespace Bc
theorem ev_sliceB{n:Nat}{cx:Cx}{o:Expr}{lo hi:Option Expr}{p p2:Pos}{st st1 st2 st3:St}{d r:PV}{l h:Option Int}(h1:evBase (run fnsP n) cx o st=some (.pv d,st1))(h2:boundOf (run fnsP n) cx lo st1=some (l,st2))(h3:boundOf (run fnsP n) cx hi st2=some (h,st3))(h4:slicePV d l h=some r) :
  (run fnsP (n+1)).ev cx (.Subscript o (.Slice lo hi none p2) p) st=some (.pv r,st3):=by
 show ob (evBase (run fnsP n) cx o st) _=_
 exact (ob_eq h1).trans ((ob_eq rfl).trans ((ob_eq h2).trans ((ob_eq h3).trans (ob_eq h4))))
theorem ev_listB{n:Nat}{cx:Cx}{es:List Expr}{p:Pos}{st st1:St}{ds:List PV}(h0:(es.any isS||decide (1000 < es.length))=false)(h:evPs (run fnsP n) cx es st=some (ds,st1)):(run fnsP (n+1)).ev cx (.List es p) st=some (.cell st1.cells.length,⟨st1.vars,st1.cells++[.lst ds]⟩):=by
 show (bif es.any isS||decide (1000 < es.length) then none else ob (evPs (run fnsP n) cx es st) _)=_
 refine rwE h0 ?_
 exact ob_eq h
noncomputable abbrev lwC:Cx:=⟨d_law.scope.names,true⟩
noncomputable def lwV(sc ce ha pa he ac no du to er wo ki li si tp ex un it:Option AV):Vars:=[("script",sc),("cells",ce),("hand",ha),("parts",pa),("heads",he),("across",ac),("notes",no),("due",du),("told",to),("error",er),("word",wo),("kind",ki),("lines",li),("sides",si),("tops",tp),("extent",ex),("uneven",un),("items",it)]
noncomputable def lw0(sc ce ha pa he:Option AV):Vars:=lwV sc ce ha pa he none none none none none none none none none none none none none
noncomputable def lwS(i:Nat):Stmt:=sAt d_law i
theorem lw_bd:d_law.body=[lwS 0,lwS 1,lwS 2,lwS 3,lwS 4,lwS 5]:=by kernel_rfl
variable{n:Nat}{ns:List Int}
noncomputable def nsA(ns:List Int):Option AV:=some (.pv (.lst (ns.map .int)))
theorem lw_0(hl:ns.length≤63):(run fnsP (n+199)).ex lwC (lwS 0) ⟨lw0 (nsA ns) none none none none,[]⟩=some (.next,⟨lw0 (nsA ns) (nsA ns) none none none,[]⟩):=by
 conv=>lhs;arg 3;whnf
 refine ex_asg (rs:=.pv (.lst (ns.map .int))) (st1:=⟨lw0 (nsA ns) none none none none,[]⟩) ?_ ?_ (evR_of ?_ (ev_sliceB (d:=.lst (ns.map .int)) (l:=none) (h:=some 63) (st1:=⟨lw0 (nsA ns) none none none none,[]⟩) (st2:=⟨lw0 (nsA ns) none none none none,[]⟩) ?_ ?_ ?_ ?_)) ?_
 case refine_7 =>
  show oo (gd (slOk (ns.map PV.int).length none (some 63)) (PV.lst (sliceL (ns.map PV.int) 0 63))) _=_
  refine rwE (gd_of (show slOk (ns.map PV.int).length none (some 63)=true from decide_eq_true ⟨by rw [List.length_map];omega,by decide,by decide,by decide,by decide⟩)) ?_
  unfold sliceL
  refine rwE (List.take_of_length_le (by rw [List.length_map];exact String.Pos.Raw.mk_le_mk.mp hl)) (rwE List.drop_zero ?_)
  rfl
 all_goals kernel_rfl
theorem ints_of:∀ns:List Int,intsOf (ns.map PV.int)=some ns
 |[]=>rfl
 |_::r=>ints_cons (ints_of r)
noncomputable def seedOf(ns:List Int):Int:=Int.fmod (sumI ns) 100003 * 7
theorem seed_ok(hl:ns.length≤63):HV ns 0 0 (seedOf ns):=by
 have h1:=Int.fmod_nonneg_of_pos (sumI ns) (show (0:Int) < 100003 by decide)
 have h2:=Int.fmod_lt_of_pos (sumI ns) (show (0:Int) < 100003 by decide)
 exact ⟨hl,by exact Int.zero_le_ofNat 0,by exact Int.natCast_nonneg ns.length,by exact Int.zero_le_ofNat 0,by unfold seedOf;omega⟩
theorem lw_1(hl:ns.length≤63):(run fnsP (n+199)).ex lwC (lwS 1) ⟨lw0 (nsA ns) (nsA ns) none none none,[]⟩=some (.next,⟨lw0 (nsA ns) (nsA ns) (some (.cell 0)) none none,[.lst (hnd ns 0 0 (seedOf ns))]⟩):=by
 have h1:=Int.fmod_nonneg_of_pos (sumI ns) (show (0:Int) < 100003 by decide)
 have h2:=Int.fmod_lt_of_pos (sumI ns) (show (0:Int) < 100003 by decide)
 have m1:binPV .Mult (.int (Int.fmod (sumI ns) 100003)) (.int 7)=some (.int (seedOf ns)):=mul_small (by refine rwE (show smallI (Int.fmod (sumI ns) 100003)=true from decide_eq_true (by omega)) ?_;rfl)
 conv=>lhs;arg 3;whnf
 refine ex_asg (rs:=.cell 0) (st1:=⟨lw0 (nsA ns) (nsA ns) none none none,[.lst (hnd ns 0 0 (seedOf ns))]⟩) ?_ ?_ (evR_of ?_ (ev_listB (ds:=hnd ns 0 0 (seedOf ns)) (st1:=⟨lw0 (nsA ns) (nsA ns) none none none,[]⟩) ?_ (evPs_cons (st1:=⟨lw0 (nsA ns) (nsA ns) none none none,[]⟩) ?_ (evPs_cons (st1:=⟨lw0 (nsA ns) (nsA ns) none none none,[]⟩) ?_ (evPs_cons (st1:=⟨lw0 (nsA ns) (nsA ns) none none none,[]⟩) ?_ (evPs_cons (st1:=⟨lw0 (nsA ns) (nsA ns) none none none,[]⟩) (evP_of ?_ (ev_bin (a:=.int (Int.fmod (sumI ns) 100003)) (b:=.int 7) (st1:=⟨lw0 (nsA ns) (nsA ns) none none none,[]⟩) (evP_of ?_ (ev_bin (a:=.int (sumI ns)) (b:=.int 100003) (st1:=⟨lw0 (nsA ns) (nsA ns) none none none,[]⟩) (evP_of ?_ (ev_bi (ds:=[.lst (ns.map .int)]) ?_ ?_ ?_ ?_ ?_ ?_ ?_)) ?_ ?_)) ?_ m1)) rfl)))))) ?_
 case refine_17 =>
  exact bi_sum (ints_of ns) (by omega)
 all_goals kernel_rfl
end Bc
namespace Bc
variable{n:Nat}{ns:List Int}
theorem lw2_stmt{V:Vars}{pos rest seed:Int}{q1 q2 q3 q4 q5 q6 q7 q8 q9 q10 p3:Pos}{c1e:Expr}{args args2:List Expr}{sc:Scope}(H:HV ns pos rest seed)(hown:oNm sc=([".0","_"]:List Str))
  (c1:∀h,(!(lwC.lp&&scO lwC.names sc&&compOk sc (St.vars ⟨V,h⟩)))=false) (c2:(!ownT sc (.Name "_" p3))=false)
  (h1:∀h,evP (run fnsP (n+196)) lwC c1e ⟨V,h⟩=some (.int 1,⟨V,h⟩))
  (hk2:(args2.any isS||decide (30 < args2.length))=false) (hf2:∀h,evName fnsP lwC "_law_pick" ⟨V,h⟩=some (.pv (.glb "_law_pick"),⟨V,h⟩))
  (ha2:∀h,evArgs (run fnsP (n+195)) false lwC args2 ⟨V,h⟩=some ([.cell 0,.pv (.int 4)],⟨V,h⟩))
  (hfr:∀h,evName fnsP lwC "range" ⟨V,h⟩=some (.pv (.glb "range"),⟨V,h⟩))
  (hb:∀d a h,bindT (rlN lwC.names sc.names) (.Name "_" p3) d ⟨(".0",none)::("_",a)::V,h⟩=some ⟨(".0",none)::("_",some (.pv d))::V,h⟩)
  (hk:(args.any isS||decide (30 < args.length))=false) (hf:∀a h,evName fnsP ⟨rlN lwC.names sc.names,lwC.lp⟩ "_law_part" ⟨(".0",none)::("_",a)::V,h⟩=some (.pv (.glb "_law_part"),⟨(".0",none)::("_",a)::V,h⟩))
  (ha:∀a h,evArgs (run fnsP (n+197)) false ⟨rlN lwC.names sc.names,lwC.lp⟩ args ⟨(".0",none)::("_",a)::V,h⟩=some ([.cell 0],⟨(".0",none)::("_",a)::V,h⟩))
  (g1:sOk lwC.names "parts" (V)=true) (g5:∀d,setV "parts" d (V)=lw0 (nsA ns) (nsA ns) (some (.cell 0)) (some d) none) :
  ∃(Ps:List Prt) (pos' rest' seed':Int),Ps.length≤4∧1≤Ps.length∧(∀P∈Ps,Prt.ok P)∧HV ns pos' rest' seed' ∧
   (run fnsP (n+199)).ex lwC (.Assign [.Name "parts" q1] (.ListComp (.Call (.Name "_law_part" q2) args [] q3) [⟨.Name "_" p3,.Call (.Name "range" q4) [.BinOp c1e .Add (.Call (.Name "_law_pick" q5) args2 [] q6) q7] [] q8,[],0⟩] sc q9) q10) ⟨V,[.lst (hnd ns pos rest seed)]⟩
    = some (.next,⟨lw0 (nsA ns) (nsA ns) (some (.cell 0)) (some (.pv (.lst (Ps.map tp)))) none,[.lst (hnd ns pos' rest' seed')]⟩):=by
 refine xE44 (pick_ok (lim:=4) (n+175) [] (.inr (.inl rfl)) H) fun v pos1 rest1 seed1 v0 v1 H1 hp=>?_
 have e1:(("_law_part" : Str)==("_law_named" : Str))=false:=by kernel_rfl
 have hi:evP (run fnsP (n+198)) lwC (.Call (.Name "range" q4) [.BinOp c1e .Add (.Call (.Name "_law_pick" q5) args2 [] q6) q7] [] q8) ⟨V,[.lst (hnd ns pos rest seed)]⟩=some (.rng (1+v).toNat,⟨V,[.lst (hnd ns pos1 rest1 seed1)]⟩) :=
  evP_of rfl (ev_bi (n:=n+196) (ds:=[.int (1+v)]) rfl (hfr _) (by kernel_rfl) rfl (by kernel_rfl) (eAc (evArg_P rfl (evP_of rfl (ev_bin (n:=n+196) (a:=.int 1) (b:=.int v) (d:=.int (1+v)) (h1 _) (evP_of rfl (ev_pick (n:=n+174) (more:=[]) (p:=q6) (p2:=q5) hp hk2 (hf2 _) rfl (ha2 _))) rfl))) rfl) (by
   exact bi_range (by omega) (by omega)))
 obtain ⟨Ps,pos',rest',seed',hn,hok,H',e⟩:=comp_draw (R:=run fnsP (n+198)) (cx:=lwC) (V:=V) (st:=⟨V,[.lst (hnd ns pos rest seed)]⟩) (enc:=tp) (ok:=Prt.ok) (cs:=ns) (more:=[]) (pre:=fun a=>[(".0",none),("_",a.map AV.pv)]) (elt:=.Call (.Name "_law_part" q2) args [] q3) (t:=.Name "_" p3) (ds:=(List.range (1+v).toNat).map fun (i:Nat)=>PV.int (i:Int))
  (c1 [.lst (hnd ns pos rest seed)]) (by show (false||!ownT sc (.Name "_" p3))=false;refine rwE c2 ?_;rfl) hi rfl (by rw [List.length_map,List.length_range];omega) H1 (by refine rwE hown ?_;rfl) (fun a=>by refine rwE hown ?_;rfl) (fun d a h=>hb d _ h) fun d _ pos rest seed H=>xE43 (part_ok (n+147) [] H) fun P pos2 rest2 seed2 hP H2 hc=>⟨P,pos2,rest2,seed2,hP,H2,
   evP_of rfl (ev_fn (n:=n+196) (c:=.pv (tp P)) (st1:=⟨(".0",none)::("_",some (.pv d))::V,[.lst (hnd ns pos rest seed)]⟩) hk (hf _ _) rfl (by kernel_rfl) (by refine rwE e1 ?_;exact ha _ _) hc)⟩
 rw [List.length_map,List.length_range] at hn
 refine ⟨Ps,pos',rest',seed',by omega,by omega,hok,H',ex_comp (n:=n+198) g1 e ?_⟩
 show _=St.mk (setV "parts" _ (V)) _
 rw [g5]
theorem lw_2{pos rest seed:Int}(H:HV ns pos rest seed):∃(Ps:List Prt) (pos' rest' seed':Int),Ps.length≤4∧1≤Ps.length∧(∀P∈Ps,Prt.ok P)∧HV ns pos' rest' seed' ∧
   (run fnsP (n+199)).ex lwC (lwS 2) ⟨lw0 (nsA ns) (nsA ns) (some (.cell 0)) none none,[.lst (hnd ns pos rest seed)]⟩=some (.next,⟨lw0 (nsA ns) (nsA ns) (some (.cell 0)) (some (.pv (.lst (Ps.map tp)))) none,[.lst (hnd ns pos' rest' seed')]⟩):=by
 conv=>rhs;intro Ps;rhs;intro pos';rhs;intro rest';rhs;intro seed';rhs;rhs;rhs;rhs;lhs;arg 3;whnf
 refine lw2_stmt H ?_ ?_ ?_ ?_ ?_ ?_ ?_ ?_ ?_ ?_ ?_ ?_ ?_ ?_
 all_goals (intros;kernel_rfl)
end Bc
namespace Bc
variable{n:Nat}{ns:List Int}
theorem lw3_stmt{V:Vars}{ps:List PV}{pos rest seed:Int}{q1 q2 q3 p1 p2 p4 p3 pz:Pos}{c1e ce ne i:Expr}{args:List Expr}{sc:Scope}(H:HV ns pos rest seed)(hl:ps.length≤4)(hown:oNm sc=([".0","each"]:List Str))
  (c1:∀h,(!(lwC.lp&&scO lwC.names sc&&compOk sc (St.vars ⟨V,h⟩)))=false) (c2:(isSetE i||!ownT sc (.Name "each" p3))=false)
  (hi:∀h,evP (run fnsP (n+198)) lwC i ⟨V,h⟩=some (.rng ps.length,⟨V,h⟩))
  (hb:∀d a h,bindT (rlN lwC.names sc.names) (.Name "each" p3) d ⟨(".0",none)::("each",a)::V,h⟩=some ⟨(".0",none)::("each",some (.pv d))::V,h⟩)
  (h0:behindInMarks .Eq c1e=false) (h1:∀a h,evP (run fnsP (n+196)) ⟨rlN lwC.names sc.names,lwC.lp⟩ c1e ⟨(".0",none)::("each",a)::V,h⟩=some (.int 1,⟨(".0",none)::("each",a)::V,h⟩))
  (hk:(args.any isS||decide (30 < args.length))=false) (hf:∀a h,evName fnsP ⟨rlN lwC.names sc.names,lwC.lp⟩ "_law_pick" ⟨(".0",none)::("each",a)::V,h⟩=some (.pv (.glb "_law_pick"),⟨(".0",none)::("each",a)::V,h⟩))
  (ha:∀a h,evArgs (run fnsP (n+195)) false ⟨rlN lwC.names sc.names,lwC.lp⟩ args ⟨(".0",none)::("each",a)::V,h⟩=some ([.cell 0,.pv (.int 3)],⟨(".0",none)::("each",a)::V,h⟩))
  (hc:∀(j:Nat) h,j < 4→∃s:Str,nmOk (some s)∧(run fnsP (n+197)).ev ⟨rlN lwC.names sc.names,lwC.lp⟩ ce ⟨(".0",none)::("each",iA j)::V,h⟩=some (.pv (.str s),⟨(".0",none)::("each",iA j)::V,h⟩))
  (hn:∀a h,(run fnsP (n+197)).ev ⟨rlN lwC.names sc.names,lwC.lp⟩ ne ⟨(".0",none)::("each",a)::V,h⟩=some (.pv .none,⟨(".0",none)::("each",a)::V,h⟩))
  (g1:sOk lwC.names "heads" (V)=true) (g5:∀d,setV "heads" d (V)=lw0 (nsA ns) (nsA ns) (some (.cell 0)) (some (.pv (.lst ps))) (some d)) :
  ∃(nms:List (Option Str)) (pos' rest' seed':Int),nms.length=ps.length∧(∀x∈nms,nmOk x)∧HV ns pos' rest' seed' ∧
   (run fnsP (n+199)).ex lwC (.Assign [.Name "heads" q1] (.ListComp (.IfExp (.Compare (.Call (.Name "_law_pick" p1) args [] p2) [.Eq] [c1e] p4) ce ne pz) [⟨.Name "each" p3,i,[],0⟩] sc q2) q3) ⟨V,[.lst (hnd ns pos rest seed)]⟩
    = some (.next,⟨lw0 (nsA ns) (nsA ns) (some (.cell 0)) (some (.pv (.lst ps))) (some (.pv (.lst (nms.map nameV)))),[.lst (hnd ns pos' rest' seed')]⟩):=by
 obtain ⟨nms,pos',rest',seed',hn',hok,H',e⟩:=comp_draw (R:=run fnsP (n+198)) (cx:=lwC) (V:=V) (st:=⟨V,[.lst (hnd ns pos rest seed)]⟩) (enc:=nameV) (ok:=nmOk) (cs:=ns) (more:=[]) (pre:=fun a=>[(".0",none),("each",a.map AV.pv)]) (elt:=.IfExp (.Compare (.Call (.Name "_law_pick" p1) args [] p2) [.Eq] [c1e] p4) ce ne pz) (t:=.Name "each" p3) (ds:=(List.range ps.length).map fun (i:Nat)=>PV.int (i:Int))
  (c1 [.lst (hnd ns pos rest seed)]) c2 (hi _) rfl (by rw [List.length_map,List.length_range];exact Nat.le_trans hl (by decide)) H (by refine rwE hown ?_;rfl) (fun a=>by refine rwE hown ?_;rfl) (fun d a h=>hb d _ h) fun d hd pos rest seed H=>by
   refine xE12 (List.mem_map.mp hd) fun j hj e_2=>?_;refine Bc.rwB e_2 ?_
   refine xE44 (pick_ok (lim:=3) (n+175) [] (.inl rfl) H) fun v pos2 rest2 seed2 _ _ H2 hp=>?_
   refine xE12 (hc j [.lst (hnd ns pos2 rest2 seed2)] (Nat.lt_of_lt_of_le (List.mem_range.mp hj) hl)) fun s hs hce=>⟨bif decide (v=1) then some s else none,pos2,rest2,seed2,?_,H2,evP_of rfl (ev_ife (n:=n+197) (evT_cmp (n:=n+196) (p:=p4) (op:=.Eq) (q:=decide (v=1)) h0 (evP_of rfl (ev_pick (n:=n+174) (p:=p2) (p2:=p1) hp hk (hf (iA j) _) rfl (ha (iA j) _))) (h1 _ _) (cmp_eq_int _ _)) ?_)⟩
   ·cases decide (v=1)
    ·exact .inl rfl
    ·exact hs
   ·cases decide (v=1)
    ·exact hn _ _
    ·exact hce
 rw [List.length_map,List.length_range] at hn'
 refine ⟨nms,pos',rest',seed',hn',hok,H',ex_comp (n:=n+198) g1 e ?_⟩
 show _=St.mk (setV "heads" _ (V)) _
 rw [g5]
theorem lw_3{ps:List PV}{pos rest seed:Int}(H:HV ns pos rest seed)(hl:ps.length≤4):∃(nms:List (Option Str)) (pos' rest' seed':Int),nms.length=ps.length∧(∀x∈nms,nmOk x)∧HV ns pos' rest' seed' ∧
   (run fnsP (n+199)).ex lwC (lwS 3) ⟨lw0 (nsA ns) (nsA ns) (some (.cell 0)) (some (.pv (.lst ps))) none,[.lst (hnd ns pos rest seed)]⟩
    = some (.next,⟨lw0 (nsA ns) (nsA ns) (some (.cell 0)) (some (.pv (.lst ps))) (some (.pv (.lst (nms.map nameV)))),[.lst (hnd ns pos' rest' seed')]⟩):=by
 conv=>rhs;intro Ps;rhs;intro pos';rhs;intro rest';rhs;intro seed';rhs;rhs;rhs;lhs;arg 3;whnf
 refine lw3_stmt H hl ?_ ?_ ?_ ?_ ?_ ?_ ?_ ?_ ?_ ?_ ?_ ?_ ?_ ?_
 case refine_4=>intro h;rcases le4 hl with rfl | ⟨_,rfl⟩ | ⟨_,_,rfl⟩ | ⟨_,_,_,rfl⟩ | ⟨_,_,_,_,rfl⟩<;>kernel_rfl
 case refine_11 =>
  intro j h hj
  rcases (lt4_all j hj) with rfl | rfl | rfl | rfl
  ·exact ⟨"h",.inr (.inl rfl),by kernel_rfl⟩
  ·exact ⟨"i",.inr (.inr (.inl rfl)),by kernel_rfl⟩
  ·exact ⟨"j",.inr (.inr (.inr (.inl rfl))),by kernel_rfl⟩
  ·exact ⟨"k",.inr (.inr (.inr (.inr rfl))),by kernel_rfl⟩
 all_goals (intros;kernel_rfl)
end Bc
namespace Bc
variable{n:Nat}{ns:List Int}{Ps:List Prt}{nms:List (Option Str)}{ac:Bool}{no du to er wo ki li si tpv ex un it:Option AV}{C C':List MO}
noncomputable def lwT(ns:List Int)(Ps:List Prt)(nms:List (Option Str))(ac no du to er wo ki li si tpv ex un it:Option AV):Vars:=lwV (nsA ns) (nsA ns) (some (.cell 0)) (some (.pv (.lst (Ps.map tp)))) (some (.pv (.lst (nms.map nameV)))) ac no du to er wo ki li si tpv ex un it
noncomputable def lwB(i:Nat):Stmt:=(forBody (lwS 4)).getD i default
theorem lw_for:lwS 4=.For (forT (lwS 4)) (forI (lwS 4)) (forBody (lwS 4)) [] (forPos (lwS 4)):=by kernel_rfl
theorem lw_bb:forBody (lwS 4)=[lwB 0,lwB 1,lwB 2,lwB 3,lwB 4,lwB 5,lwB 6,lwB 7]:=by kernel_rfl
theorem lw_bind{d:PV}{ac:Option AV}:bindT lwC.names (forT (lwS 4)) d ⟨lwT ns Ps nms ac no du to er wo ki li si tpv ex un it,C⟩=some ⟨lwT ns Ps nms (some (.pv d)) no du to er wo ki li si tpv ex un it,C⟩:=by kernel_rfl
theorem lw_it{ac:Option AV}:evP (run fnsP (n+198)) lwC (forI (lwS 4)) ⟨lwT ns Ps nms ac no du to er wo ki li si tpv ex un it,C⟩=some (.lst [.bool false,.bool true],⟨lwT ns Ps nms ac no du to er wo ki li si tpv ex un it,C⟩):=by kernel_rfl
theorem lwB_0:(run fnsP (n+198)).ex lwC (lwB 0) ⟨lwT ns Ps nms (bA ac) no du to er wo ki li si tpv ex un it,C⟩=some (.next,⟨lwT ns Ps nms (bA ac) (some (.cell C.length)) du to er wo ki li si tpv ex un it,C++[.lst []]⟩):=by kernel_rfl
theorem lwB_1{D:PV}(hc:(run fnsP (n+197)).call "_law_bound" [.pv (.lst (Ps.map tp)),.pv (.lst (nms.map nameV)),.pv (.bool ac)] C=some (.ok (.pv D),C)) :
  (run fnsP (n+198)).ex lwC (lwB 1) ⟨lwT ns Ps nms (bA ac) no du to er wo ki li si tpv ex un it,C⟩=some (.next,⟨lwT ns Ps nms (bA ac) no (some (.pv D)) to er wo ki li si tpv ex un it,C⟩):=by
 conv=>lhs;arg 3;whnf
 refine ex_asg (rs:=.pv D) (st1:=⟨lwT ns Ps nms (bA ac) no du to er wo ki li si tpv ex un it,C⟩) ?_ ?_ (evR_call ?_ (evCall_fn (as:=[.pv (.lst (Ps.map tp)),.pv (.lst (nms.map nameV)),.pv (.bool ac)]) (st1:=⟨lwT ns Ps nms (bA ac) no du to er wo ki li si tpv ex un it,C⟩) ?_ ?_ ?_ ?_ ?_ hc)) ?_
 case refine_3=>intro _ _ _ z;cases z
 all_goals kernel_rfl
noncomputable def tryBody(s:Stmt):List Stmt:=(sx s).2.2.1
noncomputable def lwD:Stmt:=(tryBody (lwB 2)).getD 0 default
theorem lwB_tb:tryBody (lwB 2)=[lwD]:=by kernel_rfl
noncomputable def fnOf(ac:Bool):Str:=bif ac then "bind_rows" else "bind_cols"
theorem lw_args{k:Nat}(hl:Ps.length≤4)(hm:nms.length≤4):evArgs (run fnsP (n+196)) false lwC (callArgs (match lwD with | .Assign _ v _=>v | _=>default)) ⟨lwT ns Ps nms (bA ac) (some (.cell k)) du to er wo ki li si tpv ex un it,C⟩=some ([.pv (.lst (Ps.map Prt.pv)),.pv (.lst (nms.map nameV)),.cell k],⟨lwT ns Ps nms (bA ac) (some (.cell k)) du to er wo ki li si tpv ex un it,C⟩):=by
 apply mQ hm;apply mQ hl;kernel_rfl
theorem lw_told{k:Nat}{v:PV}(hl:Ps.length≤4)(hm:nms.length≤4)(hc:(run fnsP (n+196)).call (fnOf ac) [.pv (.lst (Ps.map Prt.pv)),.pv (.lst (nms.map nameV)),.cell k] C=some (.ok (.pv v),C')) :
  (run fnsP (n+197)).ex lwC lwD ⟨lwT ns Ps nms (bA ac) (some (.cell k)) du to er wo ki li si tpv ex un it,C⟩=some (.next,⟨lwT ns Ps nms (bA ac) (some (.cell k)) du (some (.pv v)) er wo ki li si tpv ex un it,C'⟩):=by
 have ha:=lw_args (n:=n) (ns:=ns) (ac:=ac) (du:=du) (to:=to) (er:=er) (wo:=wo) (ki:=ki) (li:=li) (si:=si) (tpv:=tpv) (ex:=ex) (un:=un) (it:=it) (C:=C) (k:=k) hl hm
 have e1:(fnOf ac==("_law_named" : Str))=false:=by apply bQ ac;kernel_rfl
 conv=>lhs;arg 3;whnf
 refine ex_asg (rs:=.pv v) (st1:=⟨lwT ns Ps nms (bA ac) (some (.cell k)) du to er wo ki li si tpv ex un it,C'⟩) ?_ ?_ (evR_call ?_ (evCall_fnE (x:=fnOf ac) (as:=[.pv (.lst (Ps.map Prt.pv)),.pv (.lst (nms.map nameV)),.cell k]) (st1:=⟨lwT ns Ps nms (bA ac) (some (.cell k)) du to er wo ki li si tpv ex un it,C⟩) ?_ ?_ ?_ ?_ ?_ hc)) ?_
 case refine_3=>intro _ _ _ z;cases z
 case refine_5=>apply bQ ac;kernel_rfl
 case refine_7=>apply bQ ac;kernel_rfl
 case refine_8=>refine rwE e1 ?_;refine Eq.trans ?_ ha;kernel_rfl
 all_goals kernel_rfl
theorem lw_toldx{k:Nat}{v:PV}(hl:Ps.length≤4)(hm:nms.length≤4)(hc:(run fnsP (n+196)).call (fnOf ac) [.pv (.lst (Ps.map Prt.pv)),.pv (.lst (nms.map nameV)),.cell k] C=some (.exc v,C')) :
  (run fnsP (n+197)).ex lwC lwD ⟨lwT ns Ps nms (bA ac) (some (.cell k)) du to er wo ki li si tpv ex un it,C⟩=some (.exc v,⟨lwT ns Ps nms (bA ac) (some (.cell k)) du to er wo ki li si tpv ex un it,C'⟩):=by
 have ha:=lw_args (n:=n) (ns:=ns) (ac:=ac) (du:=du) (to:=to) (er:=er) (wo:=wo) (ki:=ki) (li:=li) (si:=si) (tpv:=tpv) (ex:=ex) (un:=un) (it:=it) (C:=C) (k:=k) hl hm
 have e1:(fnOf ac==("_law_named" : Str))=false:=by apply bQ ac;kernel_rfl
 conv=>lhs;arg 3;whnf
 refine ex_asgX ?_ ?_ (evR_call ?_ (evCall_fnE (x:=fnOf ac) (as:=[.pv (.lst (Ps.map Prt.pv)),.pv (.lst (nms.map nameV)),.cell k]) (st1:=⟨lwT ns Ps nms (bA ac) (some (.cell k)) du to er wo ki li si tpv ex un it,C⟩) ?_ ?_ ?_ ?_ ?_ hc))
 case refine_3=>intro _ _ _ z;cases z
 case refine_5=>apply bQ ac;kernel_rfl
 case refine_7=>apply bQ ac;kernel_rfl
 case refine_8=>refine rwE e1 ?_;refine Eq.trans ?_ ha;kernel_rfl
 all_goals kernel_rfl
theorem lwB_2{k:Nat}{v:PV}(hl:Ps.length≤4)(hm:nms.length≤4)(hc:(run fnsP (n+196)).call (fnOf ac) [.pv (.lst (Ps.map Prt.pv)),.pv (.lst (nms.map nameV)),.cell k] C=some (.ok (.pv v),C')) :
  (run fnsP (n+198)).ex lwC (lwB 2) ⟨lwT ns Ps nms (bA ac) (some (.cell k)) du to er wo ki li si tpv ex un it,C⟩=some (.next,⟨lwT ns Ps nms (bA ac) (some (.cell k)) du (some (.pv v)) er wo ki li si tpv ex un it,C'⟩):=by
 have h:=lw_told (n:=n) (ns:=ns) (ac:=ac) (du:=du) (to:=to) (er:=er) (wo:=wo) (ki:=ki) (li:=li) (si:=si) (tpv:=tpv) (ex:=ex) (un:=un) (it:=it) (C:=C) (k:=k) hl hm hc
 have h2:exs (run fnsP (n+197)) lwC (tryBody (lwB 2)) ⟨lwT ns Ps nms (bA ac) (some (.cell k)) du to er wo ki li si tpv ex un it,C⟩=some (.next,⟨lwT ns Ps nms (bA ac) (some (.cell k)) du (some (.pv v)) er wo ki li si tpv ex un it,C'⟩):=by
  refine rwE lwB_tb ?_;exact ob_eq h
 conv=>lhs;arg 3;whnf
 refine ex_tryN ?_ h2
 kernel_rfl
noncomputable def wOf(ac:Bool):Str:=bif ac then "columns" else "rows"
theorem lwB_2x{k i:Nat}(hi:i < 4)(hl:Ps.length≤4)(hm:nms.length≤4)(hc:(run fnsP (n+196)).call (fnOf ac) [.pv (.lst (Ps.map Prt.pv)),.pv (.lst (nms.map nameV)),.cell k] C=some (.exc (.str (msgOf (wOf ac) i)),C')) :
  ∃j2,(run fnsP (n+198)).ex lwC (lwB 2) ⟨lwT ns Ps nms (bA ac) (some (.cell k)) (some (.pv (refV i))) to er wo ki li si tpv ex un it,C⟩=some (.cont,⟨lwT ns Ps nms (bA ac) (some (.cell k)) (some (.pv (refV i))) to none (some (.pv (.str (wOf ac)))) ki li si tpv ex un it,C'++j2⟩):=by
 have h2:exs (run fnsP (n+197)) lwC (tryBody (lwB 2)) ⟨lwT ns Ps nms (bA ac) (some (.cell k)) (some (.pv (refV i))) to er wo ki li si tpv ex un it,C⟩=some (.exc (.str (msgOf (wOf ac) i)),⟨lwT ns Ps nms (bA ac) (some (.cell k)) (some (.pv (refV i))) to er wo ki li si tpv ex un it,C'⟩):=by
  refine rwE lwB_tb ?_;exact ob_eq (lw_toldx (n:=n) (ns:=ns) (ac:=ac) (du:=some (.pv (refV i))) (to:=to) (er:=er) (wo:=wo) (ki:=ki) (li:=li) (si:=si) (tpv:=tpv) (ex:=ex) (un:=un) (it:=it) (C:=C) (k:=k) hl hm hc)
 refine ⟨[],?_⟩
 conv=>lhs;arg 3;whnf
 refine ex_tryX (st1:=⟨lwT ns Ps nms (bA ac) (some (.cell k)) (some (.pv (refV i))) to er wo ki li si tpv ex un it,C'⟩) (st2:=⟨lwT ns Ps nms (bA ac) (some (.cell k)) (some (.pv (refV i))) to (some (.exn (.str (msgOf (wOf ac) i)))) (some (.pv (.str (wOf ac)))) ki li si tpv ex un it,C'⟩) ?_ h2 ?_ ?_
 case refine_2 =>
  apply bQ ac;apply sQ (lt4_all i hi);kernel_rfl
 case refine_3=>rw [List.append_nil];kernel_rfl
 all_goals kernel_rfl
end Bc
namespace Bc
variable{n E:Nat}{K:Kd}{Q:List (Nat × Prt)}{ns:List Int}{Ps:List Prt}{nms:List (Option Str)}{ac:Bool}{no du to er wo ki li si tpv ex un it:Option AV}{C C':List MO}
theorem lwB_3r:(run fnsP (n+198)).ex lwC (lwB 3) ⟨lwT ns Ps nms (bA ac) no (some (.pv .none)) (some (.pv nulPV)) er wo ki li si tpv ex un it,C⟩=some (.cont,⟨lwT ns Ps nms (bA ac) no (some (.pv .none)) (some (.pv nulPV)) er wo ki li si tpv ex un it,C⟩):=by kernel_rfl
theorem lwB_3n:(run fnsP (n+198)).ex lwC (lwB 3) ⟨lwT ns Ps nms (bA ac) no (some (.pv (dueV E K nms Q))) to er wo ki li si tpv ex un it,C⟩=some (.next,⟨lwT ns Ps nms (bA ac) no (some (.pv (dueV E K nms Q))) to er wo ki li si tpv ex un it,C⟩):=by kernel_rfl
theorem lwB_4:(run fnsP (n+198)).ex lwC (lwB 4) ⟨lwT ns Ps nms (bA ac) no (some (.pv (dueV E K nms Q))) to er wo ki li si tpv ex un it,C⟩=some (.next,⟨lwT ns Ps nms (bA ac) no (some (.pv (dueV E K nms Q))) to er wo ki li si tpv ex un it,C⟩):=by apply kQ K;kernel_rfl
noncomputable def lnA(ls:List (List PV)):Option AV:=some (.pv (.lst (ls.map PV.lst)))
noncomputable def oA(o:Option (List PV)):Option AV:=some (.pv (optV o))
theorem lwB_5:(run fnsP (n+198)).ex lwC (lwB 5) ⟨lwT ns Ps nms (bA ac) no (some (.pv (dueV E K nms Q))) to er wo ki li si tpv ex un it,C⟩=some (.next,⟨lwT ns Ps nms (bA ac) no (some (.pv (dueV E K nms Q))) to er wo (sA K) (lnA (linesQ E K Q)) (oA (rowsQ E (Q.map (·.2)))) (oA (headO (namedB (headsQ nms Q)) (headsQ nms Q))) (iA E) (bA (Q.any fun x=>unevB E x.2)) it,C⟩):=by kernel_rfl
theorem ev_notB{n:Nat}{cx:Cx}{x:Expr}{p:Pos}{st st1:St}{b:Bool}(h:evT (run fnsP n) cx x st=some (b,st1)):(run fnsP (n+1)).ev cx (.UnaryOp .Not x p) st=some (.pv (.bool (!b)),st1):=by
 show ob (evT (run fnsP n) cx x st) _=_
 exact ob_eq h
theorem evP_list{R:Rc}{cx:Cx}{es:List Expr}{p:Pos}{st st1:St}{ds:List PV}(h0:(es.any isS||decide (1000 < es.length))=false)(h:evPs0 R cx es st=some (ds,st1)):evP R cx (.List es p) st=some (.lst ds,st1):=by
 show (bif es.any isS||decide (1000 < es.length) then none else ob (evPs0 R cx es st) _)=_
 refine rwE h0 ?_
 exact ob_eq h
theorem evPs0_cons{R:Rc}{cx:Cx}{e:Expr}{es:List Expr}{st st1 st2:St}{d:PV}{ds:List PV}(h:evP0 R cx e st=some (d,st1))(h2:evPs0 R cx es st1=some (ds,st2)):evPs0 R cx (e::es) st=some (d::ds,st2):=by
 exact (ob_eq h).trans (ob_eq h2)
theorem evP0_of{R:Rc}{cx:Cx}{e:Expr}{st st1:St}{d:PV}(h:R.ev cx e st=some (.pv d,st1)):evP0 R cx e st=some (d,st1):=by
 exact ob_eq h
theorem len_lines{m:Nat}{ls:List (List PV)}{q1 q2 q3:Pos}{V:Vars}(hl:ls.length≤100)(hf:evName fnsP lwC "len" ⟨V,C⟩=some (.pv (.glb "len"),⟨V,C⟩))(hn:evP (run fnsP (m+1)) lwC (.Name "lines" q2) ⟨V,C⟩=some (.lst (ls.map PV.lst),⟨V,C⟩))(ha:evArg (run fnsP (m+1)) false lwC (.Name "lines" q2) ⟨V,C⟩=some (.pv (.lst (ls.map PV.lst)),⟨V,C⟩)) :
  evP0 (run fnsP (m+2)) lwC (.Call (.Name "len" q1) [.Name "lines" q2] [] q3) ⟨V,C⟩=some (.int ls.length,⟨V,C⟩) :=
 evP0_of (ev_bi (n:=m) (ds:=[.lst (ls.map PV.lst)]) rfl hf (by kernel_rfl) rfl (by kernel_rfl) (eAc ha rfl) (by
  rw [bi_len (by rw [List.length_map];omega),List.length_map]))
noncomputable def lw6I:Stmt:=(ifElse (lwB 6)).getD 0 default
theorem lw6_i:lwB 6=.If (ifT (lwB 6)) (ifBody (lwB 6)) (ifElse (lwB 6)) (ifPos (lwB 6)):=by kernel_rfl
theorem lw6_e:ifElse (lwB 6)=[lw6I]:=by kernel_rfl
theorem lw6_t:evT (run fnsP (n+197)) lwC (ifT (lwB 6)) ⟨lwT ns Ps nms (bA ac) no du to er wo ki li si tpv ex un it,C⟩=some (ac,⟨lwT ns Ps nms (bA ac) no du to er wo ki li si tpv ex un it,C⟩):=by kernel_rfl
theorem lw6I_i:lw6I=.If (ifT lw6I) (ifBody lw6I) (ifElse lw6I) (ifPos lw6I):=by kernel_rfl
theorem lw6I_e:ifElse lw6I=[]:=by kernel_rfl
theorem lw6c_stmt{V:Vars}{ls:List (List PV)}{s t:Option (List PV)}{v:PV}{q1 q2 q3 q4 q5 q6 q7 q8 q9 qa p3 p4:Pos}{e1 e2 ee es et i i2:Expr}{sc:Scope}(hl:ls.length≤100)(hll:(ls.flatMap id).length≤1000)(hl3:∀l∈ls,l.length≤1000)
  (hc:(run fnsP (n+194)).call "_law_is_array" [.pv v,.pv (.str K.s),.pv (.lst (ls.flatMap id)),.pv (.lst [.int E,.int ls.length]),.pv (.lst [optV s,optV t])] C=some (.ok (.pv (.bool true)),C)) (hown:oNm sc=([".0","line","item"]:List Str))
  (c1:(!(lwC.lp&&scO lwC.names sc&&compOk sc (V)))=false) (c2:(isSetE i||isSetE i2||!ownT sc (.Name "line" p3)||!ownT sc (.Name "item" p4))=false)
  (hi:evP (run fnsP (n+193)) lwC i ⟨V,C⟩=some (.lst (ls.map PV.lst),⟨V,C⟩))
  (hb:∀d a b,bindT (rlN lwC.names sc.names) (.Name "line" p3) d ⟨(".0",none)::("line",a)::("item",b)::V,C⟩=some ⟨(".0",none)::("line",some (.pv d))::("item",b)::V,C⟩)
  (hi2:∀l b,evP (run fnsP (n+193)) ⟨rlN lwC.names sc.names,lwC.lp⟩ i2 ⟨(".0",none)::("line",some (.pv (.lst l)))::("item",b)::V,C⟩=some (.lst l,⟨(".0",none)::("line",some (.pv (.lst l)))::("item",b)::V,C⟩))
  (hb2:∀d a b,bindT (rlN lwC.names sc.names) (.Name "item" p4) d ⟨(".0",none)::("line",a)::("item",b)::V,C⟩=some ⟨(".0",none)::("line",a)::("item",some (.pv d))::V,C⟩)
  (he:∀a d,evP (run fnsP (n+193)) ⟨rlN lwC.names sc.names,lwC.lp⟩ (.Name "item" q1) ⟨(".0",none)::("line",a)::("item",some (.pv d))::V,C⟩=some (d,⟨(".0",none)::("line",a)::("item",some (.pv d))::V,C⟩))
  (g2:evName fnsP lwC "_law_is_array" ⟨V,C⟩=some (.pv (.glb "_law_is_array"),⟨V,C⟩))
  (hstar:(isS e1||(isS e2||(false||(false||(false||false)))))=false) (hstar2:(isS ee||(false||false))=false) (hstar3:(isS es||(isS et||false))=false)
  (h1:evArg (run fnsP (n+194)) false lwC e1 ⟨V,C⟩=some (.pv v,⟨V,C⟩))
  (h2:evArg (run fnsP (n+194)) false lwC e2 ⟨V,C⟩=some (.pv (.str K.s),⟨V,C⟩))
  (h3:evP0 (run fnsP (n+194)) lwC ee ⟨V,C⟩=some (.int E,⟨V,C⟩))
  (h4:evName fnsP lwC "len" ⟨V,C⟩=some (.pv (.glb "len"),⟨V,C⟩))
  (h5:evP (run fnsP (n+193)) lwC (.Name "lines" q2) ⟨V,C⟩=some (.lst (ls.map PV.lst),⟨V,C⟩))
  (h6:evArg (run fnsP (n+193)) false lwC (.Name "lines" q2) ⟨V,C⟩=some (.pv (.lst (ls.map PV.lst)),⟨V,C⟩))
  (h7:evP0 (run fnsP (n+194)) lwC es ⟨V,C⟩=some (optV s,⟨V,C⟩))
  (h8:evP0 (run fnsP (n+194)) lwC et ⟨V,C⟩=some (optV t,⟨V,C⟩)) :
  evT (run fnsP (n+196)) lwC (.UnaryOp .Not (.Call (.Name "_law_is_array" q3) [e1,e2,.ListComp (.Name "item" q1) [⟨.Name "line" p3,i,[],0⟩,⟨.Name "item" p4,i2,[],0⟩] sc q4,.List [ee,.Call (.Name "len" q5) [.Name "lines" q2] [] q6] q7,.List [es,et] q8] [] q9) qa) ⟨V,C⟩
   = some (false,⟨V,C⟩):=by
 have e0:(("_law_is_array" : Str)==("_law_named" : Str))=false:=by kernel_rfl
 have t1:=comp2_map (R:=run fnsP (n+193)) (cx:=lwC) (enc:=PV.lst) (enc2:=id) (as:=ls) (pre:=fun a b=>[(".0",none),("line",a.map fun l=>AV.pv (.lst l)),("item",b.map AV.pv)]) (bs:=id) (x2:=PV.lst) (f:=fun z_ d=>d) (elt:=.Name "item" q1) (t:=.Name "line" p3) (t2:=.Name "item" p4) (i2:=i2) (scope:=sc) (st:=⟨V,C⟩) c1 c2 hi (items_lst (by rw [List.length_map];omega)) hll (by rw [hown];rfl) (fun a b=>by refine rwE hown ?_;rfl)
  (fun d a b=>hb _ _ _) (fun d b=>hi2 d _) (fun d hd=>by rw [List.map_id];exact items_lst hd) (fun a d b=>hb2 _ _ _) (fun a z_ d z_=>he _ _)
 have t2:(ls.flatMap fun a=>(id a).map fun d=>d)=ls.flatMap id:=by
  have:(fun a:List PV=>(id a).map fun d=>d)=id:=by funext a;exact List.map_id' _
  refine rwE this rfl
 rw [t2] at t1
 have t3:=ev_fn (n:=n+193) (p:=q9) (p2:=q3) (cx:=lwC) (x:="_law_is_array") (args:=[e1,e2,.ListComp (.Name "item" q1) [⟨.Name "line" p3,i,[],0⟩,⟨.Name "item" p4,i2,[],0⟩] sc q4,.List [ee,.Call (.Name "len" q5) [.Name "lines" q2] [] q6] q7,.List [es,et] q8]) (c:=.pv (.bool true)) (st1:=⟨V,C⟩) (cs:=C)
  (by show ((isS e1||(isS e2||(false||(false||(false||false)))))||decide (30 < 5))=false;refine rwE hstar ?_;rfl) g2 rfl (by kernel_rfl)
  (by refine rwE e0 ?_;exact eAc h1 (eAc h2 (eAc (evArg_P rfl (evP_of rfl (ev_lc (n:=n+193) (p:=q4) t1))) (eAc (evArg_P rfl (evP_list (by show ((isS ee||(false||false))||decide (1000 < 2))=false;refine rwE hstar2 ?_;rfl) (evPs0_cons h3 (evPs0_cons (len_lines (m:=n+192) hl h4 h5 h6) rfl)))) (eAc (evArg_P rfl (evP_list (by show ((isS es||(isS et||false))||decide (1000 < 2))=false;refine rwE hstar3 ?_;rfl) (evPs0_cons h7 (evPs0_cons h8 rfl)))) rfl))))) hc
 exact evT_of (ev_notB (n:=n+195) (evT_of t3))
end Bc
namespace Bc
variable{n E:Nat}{K:Kd}{Q:List (Nat × Prt)}{ns:List Int}{Ps:List Prt}{nms:List (Option Str)}{ac:Bool}{no du to er wo ki li si tpv ex un it:Option AV}{C C':List MO}
theorem lw6c_t{ls:List (List PV)}{s t:Option (List PV)}{v:PV}(hl:ls.length≤100)(hll:(ls.flatMap id).length≤1000)(hl3:∀l∈ls,l.length≤1000)
  (hc:(run fnsP (n+194)).call "_law_is_array" [.pv v,.pv (.str K.s),.pv (.lst (ls.flatMap id)),.pv (.lst [.int E,.int ls.length]),.pv (.lst [optV s,optV t])] C=some (.ok (.pv (.bool true)),C)) :
  evT (run fnsP (n+196)) lwC (ifT lw6I) ⟨lwT ns Ps nms (bA ac) no du (some (.pv v)) er wo (sA K) (lnA ls) (oA s) (oA t) (iA E) un it,C⟩=some (false,⟨lwT ns Ps nms (bA ac) no du (some (.pv v)) er wo (sA K) (lnA ls) (oA s) (oA t) (iA E) un it,C⟩):=by
 conv=>lhs;arg 3;whnf
 refine lw6c_stmt hl hll hl3 hc ?_ ?_ ?_ ?_ ?_ ?_ ?_ ?_ ?_ ?_ ?_ ?_ ?_ ?_ ?_ ?_ ?_ ?_ ?_ ?_
 all_goals (intros;kernel_rfl)
theorem lwB_6c{ls:List (List PV)}{s t:Option (List PV)}{v:PV}(hl:ls.length≤100)(hll:(ls.flatMap id).length≤1000)(hl3:∀l∈ls,l.length≤1000)
  (hc:(run fnsP (n+194)).call "_law_is_array" [.pv v,.pv (.str K.s),.pv (.lst (ls.flatMap id)),.pv (.lst [.int E,.int ls.length]),.pv (.lst [optV s,optV t])] C=some (.ok (.pv (.bool true)),C)) {rest:List Stmt} {φ:Fl→St→Prop}
  (kk:X (run fnsP (n+198)) lwC rest ⟨lwT ns Ps nms (bA false) no du (some (.pv v)) er wo (sA K) (lnA ls) (oA s) (oA t) (iA E) un it,C⟩ φ) :
  X (run fnsP (n+198)) lwC (lwB 6::rest) ⟨lwT ns Ps nms (bA false) no du (some (.pv v)) er wo (sA K) (lnA ls) (oA s) (oA t) (iA E) un it,C⟩ φ:=by
 refine rwE lw6_i ?_
 refine X.iff' (n:=n+197) lw6_t ?_
 rw [cond_false,lw6_e,lw6I_i]
 refine X.iff' (n:=n+196) (lw6c_t hl hll hl3 hc) ?_
 rw [cond_false,lw6I_e]
 exact X.nilT (X.nilT kk)
noncomputable def lw6J(i:Nat):Stmt:=(ifBody (lwB 6)).getD i default
theorem lw6_b:ifBody (lwB 6)=[lw6J 0,lw6J 1]:=by kernel_rfl
theorem lw6J_i:lw6J 1=.If (ifT (lw6J 1)) (ifBody (lw6J 1)) (ifElse (lw6J 1)) (ifPos (lw6J 1)):=by kernel_rfl
theorem lw6J_e:ifElse (lw6J 1)=[]:=by kernel_rfl
noncomputable def itemsR(E:Nat)(ls:List (List PV)):List PV:=(List.range E).flatMap fun s=>ls.map fun l=>l.getD s .none
theorem lw6r_stmt{V:Vars}{ls:List (List PV)}{q1 q2 q3 p3 p4:Pos}{elt i i2:Expr}{sc:Scope}(hE:small3 E)(hl:ls.length≤100)(hl3:∀l∈ls,l.length=E)(hown:oNm sc=([".0","spot","line"]:List Str))
  (c1:(!(lwC.lp&&scO lwC.names sc&&compOk sc (V)))=false) (c2:(isSetE i||isSetE i2||!ownT sc (.Name "spot" p3)||!ownT sc (.Name "line" p4))=false)
  (hi:evP (run fnsP (n+196)) lwC i ⟨V,C⟩=some (.rng E,⟨V,C⟩))
  (hb:∀d a b,bindT (rlN lwC.names sc.names) (.Name "spot" p3) d ⟨(".0",none)::("spot",a)::("line",b)::V,C⟩=some ⟨(".0",none)::("spot",some (.pv d))::("line",b)::V,C⟩)
  (hi2:∀a b,evP (run fnsP (n+196)) ⟨rlN lwC.names sc.names,lwC.lp⟩ i2 ⟨(".0",none)::("spot",a)::("line",b)::V,C⟩=some (.lst (ls.map PV.lst),⟨(".0",none)::("spot",a)::("line",b)::V,C⟩))
  (hb2:∀d a b,bindT (rlN lwC.names sc.names) (.Name "line" p4) d ⟨(".0",none)::("spot",a)::("line",b)::V,C⟩=some ⟨(".0",none)::("spot",a)::("line",some (.pv d))::V,C⟩)
  (he:∀(j:Nat) l d,j < 4→l[j]? = some d→evP (run fnsP (n+196)) ⟨rlN lwC.names sc.names,lwC.lp⟩ elt ⟨(".0",none)::("spot",iA j)::("line",some (.pv (.lst l)))::V,C⟩=some (d,⟨(".0",none)::("spot",iA j)::("line",some (.pv (.lst l)))::V,C⟩))
  (g1:sOk lwC.names "items" (V)=true) (g5:∀d,setV "items" d (V)=lwT ns Ps nms (bA ac) no du to er wo ki (lnA ls) si tpv (iA E) un (some d)) :
  (run fnsP (n+197)).ex lwC (.Assign [.Name "items" q1] (.ListComp elt [⟨.Name "spot" p3,i,[],0⟩,⟨.Name "line" p4,i2,[],0⟩] sc q2) q3) ⟨V,C⟩
   = some (.next,⟨lwT ns Ps nms (bA ac) no du to er wo ki (lnA ls) si tpv (iA E) un (some (.pv (.lst (itemsR E ls)))),C⟩):=by
 have h3:E≤3:=small3_le hE
 have hfl:((List.range E).flatMap fun z_=>ls).length≤1000:=by
  have:((List.range E).flatMap fun z_=>ls).length≤100 * (List.range E).length:=flat_le fun z_ z_=>hl
  rw [List.length_range] at this
  omega
 have t1:=comp2_map (R:=run fnsP (n+196)) (cx:=lwC) (enc:=natV) (enc2:=PV.lst) (as:=List.range E) (pre:=fun a b=>[(".0",none),("spot",a.map fun j=>AV.pv (natV j)),("line",b.map fun l=>AV.pv (.lst l))]) (bs:=fun z_=>ls) (x2:=fun z_=>.lst (ls.map PV.lst)) (f:=fun s l=>l.getD s .none) (elt:=elt) (t:=.Name "spot" p3) (t2:=.Name "line" p4) (i2:=i2) (scope:=sc) (st:=⟨V,C⟩) c1 c2 hi rfl hfl (by refine rwE hown ?_;rfl) (fun a b=>by refine rwE hown ?_;rfl)
  (fun d a b=>hb _ _ _) (fun d b=>hi2 _ _) (fun d hd=>items_lst (by rw [List.length_map];exact String.Pos.Raw.mk_le_mk.mp hd)) (fun a d b=>hb2 _ _ _) (fun j hj l hl'=>by
   have hj:=List.mem_range.mp hj
   have hget:l[j]? = some (l.getD j .none):=by refine rwE (List.getD_eq_getElem?_getD) (rwE (List.getElem?_eq_getElem (by exact Nat.lt_of_lt_of_eq hj (Eq.symm (hl3 l hl')))) ?_);rfl
   exact he j l _ (by omega) hget)
 refine ex_comp (n:=n+196) g1 t1 ?_
 show _=St.mk (setV "items" _ (V)) _
 rw [g5]
 rfl
theorem lw6J_0{ls:List (List PV)}(hE:small3 E)(hl:ls.length≤100)(hl3:∀l∈ls,l.length=E) :
  (run fnsP (n+197)).ex lwC (lw6J 0) ⟨lwT ns Ps nms (bA ac) no du to er wo ki (lnA ls) si tpv (iA E) un it,C⟩
   = some (.next,⟨lwT ns Ps nms (bA ac) no du to er wo ki (lnA ls) si tpv (iA E) un (some (.pv (.lst (itemsR E ls)))),C⟩):=by
 conv=>lhs;arg 3;whnf
 refine lw6r_stmt hE hl hl3 ?_ ?_ ?_ ?_ ?_ ?_ ?_ ?_ ?_ ?_
 case refine_4=>apply sQ hE;kernel_rfl
 case refine_8 =>
  intro j l d hj hget
  refine evP_of ?_ (ev_sub' (a:=.lst l) (b:=.int j) (st1:=⟨(".0",none)::("spot",iA j)::("line",some (.pv (.lst l)))::lwT ns Ps nms (bA ac) no du to er wo ki (lnA ls) si tpv (iA E) un it,C⟩) ?_ ?_ ?_ (nth_pv hget (by omega)))
  all_goals kernel_rfl
 all_goals (intros;kernel_rfl)
end Bc
namespace Bc
variable{n E:Nat}{K:Kd}{Q:List (Nat × Prt)}{ns:List Int}{Ps:List Prt}{nms:List (Option Str)}{ac:Bool}{no du to er wo ki li si tpv ex un it:Option AV}{C C':List MO}
theorem lw6J_t{ls:List (List PV)}{its:List PV}{s t:Option (List PV)}{v:PV}(hl:ls.length≤100)
  (hc:(run fnsP (n+194)).call "_law_is_array" [.pv v,.pv (.str K.s),.pv (.lst its),.pv (.lst [.int ls.length,.int E]),.pv (.lst [optV t,optV s])] C=some (.ok (.pv (.bool true)),C)) :
  evT (run fnsP (n+196)) lwC (ifT (lw6J 1)) ⟨lwT ns Ps nms (bA ac) no du (some (.pv v)) er wo (sA K) (lnA ls) (oA s) (oA t) (iA E) un (some (.pv (.lst its))),C⟩=some (false,⟨lwT ns Ps nms (bA ac) no du (some (.pv v)) er wo (sA K) (lnA ls) (oA s) (oA t) (iA E) un (some (.pv (.lst its))),C⟩):=by
 have e0:(("_law_is_array" : Str)==("_law_named" : Str))=false:=by kernel_rfl
 conv=>lhs;arg 3;whnf
 refine evT_of (ev_notB (b:=true) (evT_of (ev_fn (c:=.pv (.bool true)) (st1:=⟨lwT ns Ps nms (bA ac) no du (some (.pv v)) er wo (sA K) (lnA ls) (oA s) (oA t) (iA E) un (some (.pv (.lst its))),C⟩) (cs:=C) ?_ ?_ ?_ ?_ (by
  refine rwE e0 ?_
  refine eAc (st1:=⟨lwT ns Ps nms (bA ac) no du (some (.pv v)) er wo (sA K) (lnA ls) (oA s) (oA t) (iA E) un (some (.pv (.lst its))),C⟩) ?_ (eAc (st1:=⟨lwT ns Ps nms (bA ac) no du (some (.pv v)) er wo (sA K) (lnA ls) (oA s) (oA t) (iA E) un (some (.pv (.lst its))),C⟩) ?_ (eAc (st1:=⟨lwT ns Ps nms (bA ac) no du (some (.pv v)) er wo (sA K) (lnA ls) (oA s) (oA t) (iA E) un (some (.pv (.lst its))),C⟩) ?_ (eAc (st1:=⟨lwT ns Ps nms (bA ac) no du (some (.pv v)) er wo (sA K) (lnA ls) (oA s) (oA t) (iA E) un (some (.pv (.lst its))),C⟩) (evArg_P ?_ (evP_list ?_ (evPs0_cons (len_lines hl ?_ ?_ ?_) ?_))) (eAc (st1:=⟨lwT ns Ps nms (bA ac) no du (some (.pv v)) er wo (sA K) (lnA ls) (oA s) (oA t) (iA E) un (some (.pv (.lst its))),C⟩) ?_ rfl))))
  all_goals kernel_rfl) hc)))
 all_goals kernel_rfl
theorem lwB_6r{ls:List (List PV)}{s t:Option (List PV)}{v:PV}(hE:small3 E)(hl:ls.length≤100)(hl3:∀l∈ls,l.length=E)
  (hc:(run fnsP (n+194)).call "_law_is_array" [.pv v,.pv (.str K.s),.pv (.lst (itemsR E ls)),.pv (.lst [.int ls.length,.int E]),.pv (.lst [optV t,optV s])] C=some (.ok (.pv (.bool true)),C)) {rest:List Stmt} {φ:Fl→St→Prop}
  (kk:X (run fnsP (n+198)) lwC rest ⟨lwT ns Ps nms (bA true) no du (some (.pv v)) er wo (sA K) (lnA ls) (oA s) (oA t) (iA E) un (some (.pv (.lst (itemsR E ls)))),C⟩ φ) :
  X (run fnsP (n+198)) lwC (lwB 6::rest) ⟨lwT ns Ps nms (bA true) no du (some (.pv v)) er wo (sA K) (lnA ls) (oA s) (oA t) (iA E) un it,C⟩ φ:=by
 refine rwE lw6_i ?_
 refine X.iff' (n:=n+197) lw6_t ?_
 rw [cond_true,lw6_b]
 refine X.step (lw6J_0 (n:=n) hE hl hl3) ?_
 refine rwE lw6J_i ?_
 refine X.iff' (n:=n+196) (lw6J_t hl hc) ?_
 rw [cond_false,lw6J_e]
 exact X.nilT (X.nilT kk)
theorem note_sf{w:Str}{i:Nat}(hw:w="rows"∨w="columns")(hi:i < 4):sfOk 0 (.str (noteOf w i)):=by
 exact sf_of (by apply sQ (lt4_all i hi);apply wQ hw;kernel_rfl)
theorem lwB7_i:lwB 7=.If (ifT (lwB 7)) (ifBody (lwB 7)) (ifElse (lwB 7)) (ifPos (lwB 7)):=by kernel_rfl
theorem lwB7_e:ifElse (lwB 7)=[]:=by kernel_rfl
theorem lwB7_t{k:Nat}{ds:List PV}{u:Bool}(hk:C[k]? = some (.lst ds))(hd:cmpPV .NotEq (.lst ds) (.lst [])=some u) :
  evT (run fnsP (n+197)) lwC (ifT (lwB 7)) ⟨lwT ns Ps nms (bA ac) (some (.cell k)) du to er wo ki li si tpv ex (bA u) it,C⟩=some (false,⟨lwT ns Ps nms (bA ac) (some (.pv (.lst ds))) du to er wo ki li si tpv ex (bA u) it,C.set k .dead⟩):=by
 have hfz:frz C (.cell k)=some (.lst ds,C.set k .dead):=by
  have hi:instAt C k=none:=ob_eq hk
  show (match instAt C k with | some c=>_ | none=>_)=_
  refine rwE hi ?_
  exact (ob_eq hk).trans (ob_eq rfl)
 have hnm:∀(m:Nat) (p:Pos),evP (run fnsP (m+1)) lwC (.Name "notes" p) ⟨lwT ns Ps nms (bA ac) (some (.cell k)) du to er wo ki li si tpv ex (bA u) it,C⟩=some (.lst ds,⟨lwT ns Ps nms (bA ac) (some (.pv (.lst ds))) du to er wo ki li si tpv ex (bA u) it,C.set k .dead⟩):=by
  intro m p
  have h1:(run fnsP (m+1)).ev lwC (.Name "notes" p) ⟨lwT ns Ps nms (bA ac) (some (.cell k)) du to er wo ki li si tpv ex (bA u) it,C⟩=some (.cell k,⟨lwT ns Ps nms (bA ac) (some (.cell k)) du to er wo ki li si tpv ex (bA u) it,C⟩):=by kernel_rfl
  have h2:setV "notes" (.pv (.lst ds)) (lwT ns Ps nms (bA ac) (some (.cell k)) du to er wo ki li si tpv ex (bA u) it)=lwT ns Ps nms (bA ac) (some (.pv (.lst ds))) du to er wo ki li si tpv ex (bA u) it:=by kernel_rfl
  show evP0 (run fnsP (m+1)) lwC (.Name "notes" p) _=_
  unfold evP0
  refine rwE (ob_eq h1) ?_
  show ob (frz C (.cell k)) _=_
  refine rwE (ob_eq hfz) ?_
  exact congrArg (fun v=>some (PV.lst ds,St.mk v (C.set k .dead))) h2
 conv=>lhs;arg 3;whnf
 refine evT_cmp (a:=.bool u) (b:=.bool u) (st1:=⟨lwT ns Ps nms (bA ac) (some (.pv (.lst ds))) du to er wo ki li si tpv ex (bA u) it,C.set k .dead⟩) ?_ (evP_of ?_ (ev_cmp' (a:=.lst ds) (b:=.lst []) (st1:=⟨lwT ns Ps nms (bA ac) (some (.pv (.lst ds))) du to er wo ki li si tpv ex (bA u) it,C.set k .dead⟩) ?_ (hnm _ _) ?_ hd)) ?_ ?_
 case refine_6=>apply bQ u;kernel_rfl
 all_goals kernel_rfl
end Bc
namespace Bc
variable{E:Nat}{K:Kd}{Q:List (Nat × Prt)}
theorem lines_its:(linesQ E K Q).flatMap id=itsQ E K Q:=by
 unfold linesQ itsQ
 refine rwE List.flatMap_assoc ?_
 have:(fun x:Nat × Prt=>((colsL E x.2).map fun l=>l.map (cv x.2.kd K)).flatMap id)=fun x=>itsP E K x.2:=by
  funext x
  unfold itsP
  rw [List.flatMap_map]
  rfl
 refine rwE this rfl
theorem lines_cols:(linesQ E K Q).length=(colsQ E Q).length:=by
 induction Q with
 |nil=>rfl
 |cons x Q ih =>
  have e1:linesQ E K (x::Q)=(colsL E x.2).map (fun l=>l.map (cv x.2.kd K))++linesQ E K Q:=rfl
  have e2:colsQ E (x::Q)=colsL E x.2++colsQ E Q:=rfl
  rw [e1,e2,List.length_append,List.length_append,List.length_map,ih]
theorem lines_E(hi:∀x∈Q,inP E x.2)(hE:small3 E):∀l∈linesQ E K Q,l.length=E:=by
 intro l hl
 refine xE12 (List.mem_flatMap.mp hl) fun x hx hl=>?_
 refine xE12 (List.mem_map.mp hl) fun c hc e_2=>?_;refine Bc.rwB e_2 ?_
 rw [List.length_map]
 exact cols_len (hi x hx) hE c hc
theorem its_sf(ho:∀x∈Q,Prt.okG x.2):∀d∈itsQ E K Q,sfOk 2 d:=by
 intro d hd
 refine xE12 (List.mem_flatMap.mp hd) fun x hx hd=>?_
 refine xE12 (List.mem_flatMap.mp hd) fun c hc hd=>?_
 refine xE12 (List.mem_map.mp hd) fun y hy e_2=>?_;refine Bc.rwB e_2 ?_
 exact sf_cv (cols_it (ho x hx) c hc y hy)
theorem abc_sf{m:Nat}:∀d∈abcN m,sfOk 0 d:=by
 intro d hd
 refine xE12 (List.mem_map.mp (show d∈((["a","b","c"]:List Str).take m).map PV.str from hd)) fun s hs e_2=>?_;subst e_2
 have:=List.mem_of_mem_take hs
 simp only [List.mem_cons,List.not_mem_nil,or_false] at this
 rcases this with rfl | rfl | rfl<;>exact sf_of (by kernel_rfl)
theorem pqr_sf{m:Nat}:∀d∈pqrN m,sfOk 0 d:=by
 intro d hd
 refine xE12 (List.mem_map.mp (show d∈((["p","q","r"]:List Str).take m).map PV.str from hd)) fun s hs e_2=>?_;subst e_2
 have:=List.mem_of_mem_take hs
 simp only [List.mem_cons,List.not_mem_nil,or_false] at this
 rcases this with rfl | rfl | rfl<;>exact sf_of (by kernel_rfl)
theorem side_sf{P:Prt}{l:List PV}(h:sideP P=some l):∀d∈l,sfOk 0 d:=by
 rcases okG_pv (P:=P) with rfl | ⟨k,m,its,q,rfl⟩ | ⟨k,rr,cc,its,b1,b2,rfl⟩
 ·cases h
 ·have h:(if q=true then some (abcN m) else none)=some l:=h
  split at h
  ·cases h;exact abc_sf
  ·cases h
 ·have h:(if b1=true then some (pqrN rr) else none)=some l:=h
  split at h
  ·cases h;exact pqr_sf
  ·cases h
theorem rows_sf{L:List Prt}{l:List PV}(h:rowsQ E L=some l):∀d∈l,sfOk 0 d:=by
 unfold rowsQ at h
 refine Bc.optE (L.find? (fitsP E)) (fun e=>?_) fun P e=>?_
 ·rw [e] at h;cases h
 ·rw [e] at h;exact side_sf h
theorem flat_range{c:Nat}{F:Nat→List PV}(hF:∀s,(F s).length=c)(E:Nat):(List.range E).flatMap F=(List.range (E * c)).map fun i=>(F (i / c)).getD (i % c) .none:=by
 induction E with
 |zero=>rw [Nat.zero_mul];rfl
 |succ E ih =>
  rw [List.range_succ,List.flatMap_append,ih,List.flatMap_singleton,Nat.add_mul,Nat.one_mul,List.range_add,List.map_append,List.map_map]
  refine congrArg (_++·) ?_
  have h1:F E=tab c (fun i=>(F E).getD i .none):=hF E▸tab_of (F E)
  refine h1.trans (List.map_congr_left fun i hi=>?_)
  have hi:=List.mem_range.mp hi
  have hc:0 < c:=Nat.zero_lt_of_lt hi
  show (F E).getD i .none=(F ((E * c+i) / c)).getD ((E * c+i) % c) .none
  rw [Nat.mul_comm E c,Nat.mul_add_div hc,Nat.div_eq_of_lt hi,Nat.mul_add_mod,Nat.mod_eq_of_lt hi,Nat.add_zero]
theorem flat_getD{s:Nat}(hs:s < E){ls:List (List PV)}{q:Nat}(h:∀l∈ls,l.length=E)(hq:q < ls.length):(ls.flatMap id).getD (q * E+s) .none=(ls.map fun l=>l.getD s .none).getD q .none:=by
 induction ls generalizing q with
 |nil=>exact nomatch hq
 |cons l ls ih =>
  have hl:(id l).length=E:=h l List.mem_cons_self
  rw [List.flatMap_cons,List.map_cons,List.getD_eq_getElem?_getD]
  cases q with
  |zero=>rw [Nat.zero_mul,Nat.zero_add,List.getElem?_append_left (hl▸hs),← List.getD_eq_getElem?_getD];rfl
  |succ q =>
   have e:(q+1) * E+s=E+(q * E+s):=by rw [Nat.add_mul,Nat.one_mul,Nat.add_right_comm,Nat.add_comm]
   rw [e,List.getElem?_append_right (hl▸Nat.le_add_right _ _),hl,Nat.add_sub_cancel_left,← List.getD_eq_getElem?_getD]
   exact ih (fun l hl=>h l (List.mem_cons_of_mem _ hl)) (Nat.lt_of_succ_lt_succ hq)
theorem items_turn{ls:List (List PV)}(h:∀l∈ls,l.length=E):itemsR E ls=tab (ls.length * E) (turnG E ls.length fun i=>(ls.flatMap id).getD i .none):=by
 unfold itemsR
 rw [flat_range (c:=ls.length) (fun s=>List.length_map ..),Nat.mul_comm]
 unfold tab
 refine List.map_congr_left fun i hi=>?_
 have hi:=List.mem_range.mp hi
 have hc:0 < ls.length:=by
  rcases Nat.eq_zero_or_pos ls.length with h | h
  ·rw [h,Nat.zero_mul] at hi;exact absurd hi (Nat.not_lt_zero _)
  ·exact h
 have h1:i / ls.length < E:=Nat.div_lt_of_lt_mul hi
 have h2:i % ls.length < ls.length:=Nat.mod_lt _ hc
 unfold turnG
 exact (flat_getD h1 h h2).symm
theorem lt_slide{i j k:Nat}(h:j < i+1+k):j < i+(k+1):=(Nat.add_right_comm i 1 k▸h:j < i+k+1)
theorem extGo_lt{Ps:List Prt}{i j:Nat}{e l:Int}(h:extGo Ps i e l=.inl j):j < i+Ps.length:=by
 induction Ps generalizing i e l with
 |nil=>exact nomatch h
 |cons P r ih =>
  cases P with
  |nul=>exact lt_slide (ih h)
  |vec=>exact lt_slide (ih h)
  |mat=>exact iteE h (fun _ h=>Sum.inl.inj h▸Nat.lt_add_of_pos_right (Nat.succ_pos _)) fun _ h=>lt_slide (ih h)
end Bc
namespace Bc
variable{n:Nat}{ns:List Int}{Ps:List Prt}{nms:List (Option Str)}{ac:Bool}{no du to er wo ki li si tpv ex un it:Option AV}{C:List MO}
noncomputable def mkOf(ac:Bool):Nat→Kd→List (Option Str)→List (Nat × Prt)→PV:=bif ac then madeT else madeQ
theorem fn_okB(hlen:Ps.length≤4)(ho:∀P∈Ps,Prt.ok P)(hnm:nms.length=Ps.length)(hno:∀x∈nms,nmOk x) :
  Bound (Ps.map (dv ac)) nms (wOf ac) (mkOf ac) [] ((run fnsP (n+189)).call (fnOf ac) [.pv (.lst (Ps.map Prt.pv)),.pv (.lst (nms.map nameV)),.cell 0] [.lst []]):=by
 cases ac
 ·have hd:Ps.map (dv false)=Ps:=by
   have:dv false=id:=rfl
   rw [this,List.map_id]
  rw [hd]
  refine cols_fn (n:=n) hlen (fun P hP=>?_) hnm hno
  have:=dv_ok (ac:=false) (ho P hP)
  exact this
 ·exact rows_fn (n:=n) hlen ho hnm hno
inductive lwI(ns:List Int)(Ps:List Prt)(nms:List (Option Str))(st:St):Prop
 |mk (ac no du to er wo ki li si tpv ex un it:Option AV) (C:List MO):st=⟨lwT ns Ps nms ac no du to er wo ki li si tpv ex un it,C⟩→lwI ns Ps nms st
theorem made_look{E:Nat}{K:Kd}{Q:List (Nat × Prt)}{Rs:List Prt}{h:List MO}(hog:∀P∈Rs,Prt.okG P)(hQ:QOk E Rs Q)(hE:small3 E)(hno:∀x∈nms,nmOk x) :
  (run fnsP (n+50)).call "_law_is_array" [.pv (madeQ E K nms Q),.pv (.str K.s),.pv (.lst ((linesQ E K Q).flatMap id)),.pv (.lst [.int E,.int (linesQ E K Q).length]),.pv (.lst [optV (rowsQ E (Q.map (·.2))),optV (headO (namedB (headsQ nms Q)) (headsQ nms Q))])] h=some (.ok (.pv (.bool true)),h) ∧
  (run fnsP (n+50)).call "_law_is_array" [.pv (madeT E K nms Q),.pv (.str K.s),.pv (.lst (itemsR E (linesQ E K Q))),.pv (.lst [.int (linesQ E K Q).length,.int E]),.pv (.lst [optV (headO (namedB (headsQ nms Q)) (headsQ nms Q)),optV (rowsQ E (Q.map (·.2)))])] h=some (.ok (.pv (.bool true)),h):=by
 have okG:∀y∈Q,Prt.okG y.2:=fun y hy=>hog _ (List.mem_of_getElem? (hQ.at_ y hy))
 have hits:=its_sf (E:=E) (K:=K) okG
 have hho:∀d∈headsQ nms Q,hdOk d:=by
  intro d hd
  refine xE12 (List.mem_flatMap.mp hd) fun x hx hd=>?_
  refine heads_ok' ?_ (okG x hx) d hd
  refine rwE (List.getD_eq_getElem?_getD) ?_
  cases e:nms[x.1]? with
  |none=>exact .inl rfl
  |some z=>exact hno z (List.mem_of_getElem? e)
 have hh:∀l,headO (namedB (headsQ nms Q)) (headsQ nms Q)=some l→∀x∈l,sfOk 0 x:=by
  intro l hl
  unfold headO at hl
  split at hl
  ·cases hl;exact fun x hx=>head_sf (hho x hx)
  ·cases hl
 have hr:∀l,rowsQ E (Q.map (·.2))=some l→∀x∈l,sfOk 0 x:=fun l hl=>rows_sf hl
 constructor
 ·refine rwE lines_its (rwE lines_cols ?_)
  exact isA_ok hits hr hh
 ·refine rwE (items_turn (lines_E (K:=K) hQ.fit hE)) (rwE lines_its (rwE lines_cols ?_))
  refine isA_ok (fun x hx=>?_) hh hr
  refine xE12 (List.mem_map.mp (show x∈(List.range ((colsQ E Q).length * E)).map _ from hx)) fun i hi e_2=>?_;refine Bc.rwB e_2 ?_
  show sfOk 2 ((itsQ E K Q).getD (i % (colsQ E Q).length * E+i / (colsQ E Q).length) .none)
  refine rwE (List.getD_eq_getElem?_getD) ?_
  cases e:(itsQ E K Q)[i % (colsQ E Q).length * E+i / (colsQ E Q).length]? with
  |none=>exact sf_mono sf_none (by exact Nat.zero_le 2)
  |some d=>exact hits d (List.mem_of_getElem? e)
theorem notes_cmp{ds:List PV}{u:Bool}{w:Str}(hw:w="rows"∨w="columns")(h1:ds=[] ↔ u=false)(h2:∀d∈ds,∃i,i < 4∧d=.str (noteOf w i)):cmpPV .NotEq (.lst ds) (.lst [])=some u:=by
 cases ds with
 |nil=>refine rwE (h1.mp rfl) ?_;kernel_rfl
 |cons a r =>
  have:eqPV (.lst (a::r)) (.lst [])=some false:=eq_nil (dd:=0) (List.cons_ne_nil a r) (fun d hd=>by
   refine xE12 (h2 d hd) fun i hi e_2=>?_;refine Bc.rwE e_2 ?_
   exact note_sf hw hi) (by exact Nat.zero_lt_succ 63)
  have hu:u=true:=by
   cases u
   ·exact absurd (h1.mpr rfl) (List.cons_ne_nil a r)
   ·rfl
  refine rwE (ne_of_eq this) (rwE hu ?_);rfl
theorem lw_turn(hlen:Ps.length≤4)(ho:∀P∈Ps,Prt.ok P)(hnm:nms.length=Ps.length)(hno:∀x∈nms,nmOk x) :
  X (run fnsP (n+198)) lwC [lwB 0,lwB 1,lwB 2,lwB 3,lwB 4,lwB 5,lwB 6,lwB 7] ⟨lwT ns Ps nms (bA ac) no du to er wo ki li si tpv ex un it,C⟩ (fun f st=>(f=.next∨f=.cont)∧lwI ns Ps nms st):=by
 have hog:∀P∈Ps.map (dv ac),Prt.okG P:=fun P hP=>by
  refine xE12 (List.mem_map.mp hP) fun P' h' e_2=>?_;refine Bc.rwB e_2 ?_
  exact dv_ok (ho P' h')
 have hl4:(Ps.map (dv ac)).length≤4:=by rw [List.length_map];exact hlen
 have hm4:nms.length≤4:=by exact le_of_eq_of_le hnm hlen
 have hwo:wOf ac="rows"∨wOf ac="columns":=by cases ac;exact .inl rfl;exact .inr rfl
 refine xE12 (due_ok (n:=n+127) (ac:=ac) (cells:=C++[.lst []]) hlen ho hnm hno) fun D hD hdc=>?_
 have hck:(C++[MO.lst []])[C.length]? = some (.lst []):=by rw [List.getElem?_append_right (Nat.le_refl _),Nat.sub_self];rfl
 refine X.step (st1:=⟨lwT ns Ps nms (bA ac) (some (.cell C.length)) du to er wo ki li si tpv ex un it,C++[.lst []]⟩) ?_ ?_
 ·exact lwB_0 (n:=n)
 refine X.step (st1:=⟨lwT ns Ps nms (bA ac) (some (.cell C.length)) (some (.pv D)) to er wo ki li si tpv ex un it,C++[.lst []]⟩) ?_ ?_
 ·exact lwB_1 (n:=n) hdc
 have hsh:∀(r:Rs) (ds:List PV),(run fnsP (n+196)).call (fnOf ac) [.pv (.lst (Ps.map Prt.pv)),.pv (.lst (nms.map nameV)),.cell 0] [.lst []]=some (r,[.lst ds])→(run fnsP (n+196)).call (fnOf ac) [.pv (.lst (Ps.map Prt.pv)),.pv (.lst (nms.map nameV)),.cell C.length] (C++[MO.lst []])=some (r,(C++[MO.lst []]).set C.length (.lst ds)):=fun r ds h=>call_shift (n:=n+195) h hck
 rcases (fn_okB (n:=n+7) (ac:=ac) hlen ho hnm hno) with ⟨i,hx,hc⟩ | ⟨e,l,hx,hc⟩
 ·-- refused
  rcases hD with ⟨i',hx',rfl⟩ | ⟨e,l,hx',_⟩
  ·rw [hx] at hx'
   cases hx'
   have hi4:i < 4:=by have:=extGo_lt hx;omega
   refine xE11 (lwB_2x (n:=n) (ns:=ns) (to:=to) (er:=er) (wo:=wo) (ki:=ki) (li:=li) (si:=si) (tpv:=tpv) (ex:=ex) (un:=un) (it:=it) hi4 hlen hm4 (hsh _ _ hc)) fun j2 h2=>?_
   exact X.last h2 (by intro z;cases z) ⟨.inr rfl,_,_,_,_,_,_,_,_,_,_,_,_,_,_,rfl⟩
  ·rw [hx] at hx';cases hx'
 ·rcases hD with ⟨i',hx',_⟩ | ⟨e',l',hx',hD⟩
  ·rw [hx] at hx';cases hx'
  rw [hx] at hx'
  cases hx'
  refine xE03 (ext_small hog hx) fun s1 s2 _=>?_
  have hQ:=keptQ_ok hl4 hog hx
  generalize extN e l=E at *
  generalize keptQ E (Ps.map (dv ac))=Q at *
  rcases hc with ⟨hQ0,hc⟩ | ⟨K,ds,hQ0,hK,hu,hds,_,hc⟩
  ·rcases hD with ⟨_,rfl⟩ | ⟨_,hQ1,_⟩
   ·have h2:=lwB_2 (n:=n) (ns:=ns) (du:=some (.pv .none)) (to:=to) (er:=er) (wo:=wo) (ki:=ki) (li:=li) (si:=si) (tpv:=tpv) (ex:=ex) (un:=un) (it:=it) hlen hm4 (hsh _ _ hc)
    refine X.step h2 (X.last (lwB_3r (n:=n)) (by intro z;cases z) ⟨.inr rfl,_,_,_,_,_,_,_,_,_,_,_,_,_,_,rfl⟩)
   ·exact absurd hQ0 hQ1
  ·rcases hD with ⟨hQ1,_⟩ | ⟨K',_,hK',rfl⟩
   ·exact absurd hQ1 hQ0
   refine Bc.rwB (isMax_unique hK hK') ?_
   refine X.step (lwB_2 (n:=n) (ns:=ns) (du:=some (.pv (dueV E K nms Q))) (to:=to) (er:=er) (wo:=wo) (ki:=ki) (li:=li) (si:=si) (tpv:=tpv) (ex:=ex) (un:=un) (it:=it) hlen hm4 (hsh _ _ hc)) ?_
   have hk2:((C++[MO.lst []]).set C.length (.lst ds))[C.length]? = some (.lst ds):=by
    rw [List.getElem?_set_self (by rw [List.length_append,List.length_singleton];exact Nat.lt_add_one C.length)]
   generalize (C++[MO.lst []]).set C.length (.lst ds)=C2 at hk2 ⊢
   have hcl:(linesQ E K Q).length≤100:=by
    refine rwE lines_cols ?_
    have:(colsQ E Q).length≤3 * Q.length:=flat_le fun x hx=>cols_cnt (hog _ (List.mem_of_getElem? (hQ.at_ x hx)))
    have:=hQ.len;omega
   have hE3:=lines_E (K:=K) hQ.fit s1
   have hE4:E≤3:=small3_le s1
   have hfl:((linesQ E K Q).flatMap id).length≤1000:=by
    have:((linesQ E K Q).flatMap id).length≤3 * (linesQ E K Q).length:=flat_le fun x hx=>by rw [id,hE3 x hx];exact hE4
    omega
   obtain ⟨hA1,hA2⟩:=made_look (n:=n+144) (nms:=nms) (K:=K) (h:=C2) hog hQ s1 hno
   refine X.step (lwB_3n (n:=n)) (X.step (lwB_4 (n:=n)) (X.step (lwB_5 (n:=n)) ?_))
   have hend:∀it',X (run fnsP (n+198)) lwC [lwB 7] ⟨lwT ns Ps nms (bA ac) (some (.cell C.length)) (some (.pv (dueV E K nms Q))) (some (.pv (mkOf ac E K nms Q))) er wo (sA K) (lnA (linesQ E K Q)) (oA (rowsQ E (Q.map (·.2)))) (oA (headO (namedB (headsQ nms Q)) (headsQ nms Q))) (iA E) (bA (Q.any fun x=>unevB E x.2)) it',C2⟩ (fun f st=>(f=.next∨f=.cont)∧lwI ns Ps nms st):=by
    intro it'
    refine rwE lwB7_i ?_
    refine X.iff' (n:=n+197) (lwB7_t hk2 (notes_cmp hwo hu hds)) ?_
    rw [cond_false,lwB7_e]
    exact X.nilT (X.nil ⟨.inl rfl,_,_,_,_,_,_,_,_,_,_,_,_,_,_,rfl⟩)
   cases ac
   ·have hmk:mkOf false=madeQ:=rfl
    rw [hmk] at hend ⊢
    refine lwB_6c (n:=n) (ls:=linesQ E K Q) (s:=rowsQ E (Q.map fun x:Nat × Prt=>x.2)) (t:=headO (namedB (headsQ nms Q)) (headsQ nms Q)) (v:=madeQ E K nms Q) hcl hfl ?_ ?_ ?_
    ·intro l hl
     refine rwE (hE3 l hl) ?_;omega
    ·exact hA1
    ·exact hend _
   ·have hmk:mkOf true=madeT:=rfl
    rw [hmk] at hend ⊢
    refine lwB_6r (n:=n) (ls:=linesQ E K Q) (s:=rowsQ E (Q.map fun x:Nat × Prt=>x.2)) (t:=headO (namedB (headsQ nms Q)) (headsQ nms Q)) (v:=madeT E K nms Q) s1 hcl hE3 ?_ ?_
    ·exact hA2
    ·exact hend _
end Bc
namespace Bc
variable{n:Nat}{ns:List Int}
theorem lw_5{Ps:List Prt}{nms:List (Option Str)}{ac no du to er wo ki li si tpv ex un it:Option AV}{C:List MO}:(exs (run fnsP (n+199)) lwC [lwS 5] ⟨lwT ns Ps nms ac no du to er wo ki li si tpv ex un it,C⟩).map (·.1)=some (.ret (.bool true)):=by kernel_rfl
theorem law_run(hl:ns.length≤63):(run fnsP (n+200)).call "law" [.pv (.lst (ns.map .int))] []=some (.ok (.pv (.bool true)),[]):=by
 refine call_pure (vars0:=lw0 (nsA ns) none none none none) find_law plain_law rfl rfl (by kernel_rfl) (by kernel_rfl) ?_
 refine rwE lw_bd ?_
 refine X.step (lw_0 (n:=n) hl) (X.step (lw_1 (n:=n) hl) ?_)
 obtain ⟨Ps,p1,r1,s1,hl4,_,hok,H1,h2⟩:=lw_2 (n:=n) (seed_ok hl)
 refine X.step h2 ?_
 obtain ⟨nms,p2,r2,s2,hnl,hno,H2,h3⟩:=lw_3 (n:=n) (ps:=Ps.map tp) H1 (by rw [List.length_map];exact hl4)
 rw [List.length_map] at hnl
 refine X.step h3 ?_
 refine forN (n:=n+198) (fun _ st=>lwI ns Ps nms st) lw_for (by kernel_rfl) (lw_it (n:=n) (ns:=ns) (Ps:=Ps) (nms:=nms) (ac:=none) (no:=none) (du:=none) (to:=none) (er:=none) (wo:=none) (ki:=none) (li:=none) (si:=none) (tpv:=none) (ex:=none) (un:=none) (it:=none)) (ds:=[.bool false,.bool true]) rfl ⟨none,none,none,none,none,none,none,none,none,none,none,none,none,_,rfl⟩ ?_ ?_
 ·intro j d st hd ⟨ac,no,du,to,er,wo,ki,li,si,tpv,ex,un,it,C,hst⟩
  subst hst
  have hb:∃b,d=.bool b:=by
   have:=List.mem_of_getElem? hd
   rcases List.mem_cons.mp this with rfl | h
   ·exact ⟨_,rfl⟩
   ·exact ⟨_,List.mem_singleton.mp h⟩
  refine xE11 hb fun b e_1=>?_;subst e_1
  refine ⟨_,lw_bind,?_⟩
  refine rwE lw_bb ?_
  refine (lw_turn (n:=n) (ac:=b) hl4 hok hnl hno).mono fun f st ⟨hf,hI⟩=>?_
  rcases hf with rfl | rfl
  ·exact hI
  ·exact hI
 ·intro st ⟨ac,no,du,to,er,wo,ki,li,si,tpv,ex,un,it,C,hst⟩
  subst hst
  exact X.run (lw_5 (n:=n)) fun _=>rfl
theorem law_pure(ns:List Int)(h:ns.length≤63):(run fnsP 300).call "law" [.pv (.lst (ns.map .int))] []=some (.ok (.pv (.bool true)),[]):=law_run (n:=100) h
end Bc
open PySem.Calls
set_option tactic.hygienic true
namespace Bc.main
theorem tw4465256026200728334:True:=⟨⟩
theorem tw16138173063054981400:True:=⟨⟩
theorem tw11280183426342343238:True:=⟨⟩
theorem tw10550400136337135392:True:=⟨⟩
theorem tw3015818732506628880:True:=⟨⟩
theorem tw9267378182653866456:True:=⟨⟩
theorem tw11751373130217419565:True:=⟨⟩
theorem tw100068156724564544:True:=⟨⟩
theorem tw14109085402113858238:True:=⟨⟩
theorem tw11676568629368822121:True:=⟨⟩
theorem tw350062223318989128:True:=⟨⟩
theorem tw10726745390236051659:True:=⟨⟩
theorem tw17049578095349630279:True:=⟨⟩
theorem tw13594059748007638582:True:=⟨⟩
theorem tw2507183653708906496:True:=⟨⟩
theorem tw11376859565914846369:True:=⟨⟩
theorem tw5275304669458957297:True:=⟨⟩
theorem tw1159594075336784485:True:=⟨⟩
theorem tw3347954361683418703:True:=⟨⟩
theorem tw4192155846722617561:True:=⟨⟩
theorem tw13783370232016479074:True:=⟨⟩
theorem tw13541987252840231350:True:=⟨⟩
theorem tw17145258069545942884:True:=⟨⟩
theorem tw18350233019794235526:True:=⟨⟩
theorem tw8883719450918136565:True:=⟨⟩
theorem tw8464988887513244229:True:=⟨⟩
theorem tw2131633092733765132:True:=⟨⟩
theorem tw15332671692351911347:True:=⟨⟩
theorem tw4908697336193319734:True:=⟨⟩
theorem tw17975860127900300498:True:=⟨⟩
theorem tw1087908438040012057:True:=⟨⟩
theorem tw12797875011660492091:True:=⟨⟩
theorem tw12735178010983544103:True:=⟨⟩
theorem tw1247979358833220570:True:=⟨⟩
theorem tw15211311030671585948:True:=⟨⟩
theorem tw15272171989746483109:True:=⟨⟩
theorem tw7722866961408393030:True:=⟨⟩
theorem tw7887512260314721569:True:=⟨⟩
theorem tw16993951853073934953:True:=⟨⟩
theorem tw3465999010179505625:True:=⟨⟩
theorem tw15651375593854380279:True:=⟨⟩
theorem tw16020849692062305843:True:=⟨⟩
theorem tw1821110892502987338:True:=⟨⟩
theorem tw5518536191377586160:True:=⟨⟩
theorem tw14532245277766666067:True:=⟨⟩
theorem tw4219086328818665633:True:=⟨⟩
theorem tw8334821169259604376:True:=⟨⟩
theorem tw13815636540315027894:True:=⟨⟩
theorem tw4403278402376774620:True:=⟨⟩
theorem tw10458879245027015621:True:=⟨⟩
theorem tw9648142972937494957:True:=⟨⟩
theorem tw18136262052930565796:True:=⟨⟩
theorem tw14039396363911867369:True:=⟨⟩
theorem tw14455773126792326443:True:=⟨⟩
theorem tw4967303415386265320:True:=⟨⟩
theorem tw2650856495886714329:True:=⟨⟩
theorem tw17231043342765226379:True:=⟨⟩
theorem tw17703476284419509347:True:=⟨⟩
theorem tw1059706311825850578:True:=⟨⟩
theorem tw11692519401561349820:True:=⟨⟩
theorem tw16133895520339648645:True:=⟨⟩
theorem tw2104194851552038670:True:=⟨⟩
theorem tw4748781758193067415:True:=⟨⟩
theorem tw15508198905564962873:True:=⟨⟩
theorem tw11677358062992064648:True:=⟨⟩
theorem tw12079533313248983494:True:=⟨⟩
theorem tw6777828550637971688:True:=⟨⟩
theorem tw679849764862688606:True:=⟨⟩
theorem tw349684786903712764:True:=⟨⟩
theorem tw17888015270376819483:True:=⟨⟩
theorem tw17386937291403144666:True:=⟨⟩
theorem tw7201918945418087854:True:=⟨⟩
theorem tw3916916521062375454:True:=⟨⟩
theorem tw4107570783923373138:True:=⟨⟩
theorem tw482178653475301395:True:=⟨⟩
theorem tw11174661429696496499:True:=⟨⟩
theorem tw16533893383846216452:True:=⟨⟩
theorem tw12263555084899892663:True:=⟨⟩
theorem tw13287602463185113580:True:=⟨⟩
theorem tw7247798256305284818:True:=⟨⟩
theorem tw14486898828754008031:True:=⟨⟩
theorem tw15139726189496555405:True:=⟨⟩
theorem tw7124642214015968605:True:=⟨⟩
theorem tw10390822828630897526:True:=⟨⟩
theorem tw16707674977500992153:True:=⟨⟩
theorem tw7573812615099395556:True:=⟨⟩
theorem tw8069104563103651787:True:=⟨⟩
theorem tw15008977786388437446:True:=⟨⟩
theorem tw3426381479325541030:True:=⟨⟩
theorem tw800966307681078521:True:=⟨⟩
theorem tw16154054478385000110:True:=⟨⟩
theorem tw9559793435257110295:True:=⟨⟩
theorem tw14987897415254474883:True:=⟨⟩
theorem tw8084138305048828903:True:=⟨⟩
theorem tw15095760804975932399:True:=⟨⟩
theorem tw10657304160286673606:True:=⟨⟩
theorem tw15634702933824139202:True:=⟨⟩
theorem tw9997963527839935498:True:=⟨⟩
theorem tw6050805585514906182:True:=⟨⟩
theorem tw5802312497689000224:True:=⟨⟩
theorem tw14980499689077489640:True:=⟨⟩
theorem tw9975085660466656933:True:=⟨⟩
theorem tw9689102399862187236:True:=⟨⟩
theorem tw756359932174783873:True:=⟨⟩
theorem tw10953410114711590577:True:=⟨⟩
theorem tw1770133042470509532:True:=⟨⟩
theorem tw18269886181812233062:True:=⟨⟩
theorem tw18226896121469580099:True:=⟨⟩
theorem tw2437620153987500249:True:=⟨⟩
theorem tw7869649363503185842:True:=⟨⟩
theorem tw2483250245833498447:True:=⟨⟩
theorem tw6588657388484240245:True:=⟨⟩
theorem tw4241357029403173781:True:=⟨⟩
theorem tw11741529245505739244:True:=⟨⟩
theorem tw9503767080632995191:True:=⟨⟩
theorem tw14458018083493524434:True:=⟨⟩
theorem tw2648411812444580612:True:=⟨⟩
theorem tw1443285808799841686:True:=⟨⟩
theorem tw1885554644868689739:True:=⟨⟩
theorem tw5864170205619167545:True:=⟨⟩
theorem tw1963304294457030018:True:=⟨⟩
theorem tw12439284780001227266:True:=⟨⟩
theorem tw1548645957147390233:True:=⟨⟩
theorem tw17809480405312804682:True:=⟨⟩
theorem tw12257735607602799160:True:=⟨⟩
theorem tw7803108896432697482:True:=⟨⟩
theorem tw5700206450353499497:True:=⟨⟩
theorem tw9939566511630633495:True:=⟨⟩
theorem tw589773459218453770:True:=⟨⟩
theorem tw17413287615360442877:True:=⟨⟩
theorem tw12962675039533477380:True:=⟨⟩
theorem tw8713747651989240775:True:=⟨⟩
theorem tw5909090155141615174:True:=⟨⟩
theorem tw8578794175047762797:True:=⟨⟩
theorem tw2025141444123919996:True:=⟨⟩
theorem tw1919645121402931423:True:=⟨⟩
theorem tw13189707979522813068:True:=⟨⟩
theorem tw15843905628283899850:True:=⟨⟩
theorem tw17572278283494790405:True:=⟨⟩
theorem tw7497620655219263031:True:=⟨⟩
theorem tw3510580969358127252:True:=⟨⟩
theorem tw4912462115766623124:True:=⟨⟩
theorem tw14553813604365677612:True:=⟨⟩
theorem tw972616733529470360:True:=⟨⟩
theorem tw11042765462129829101:True:=⟨⟩
theorem tw16170712488183391909:True:=⟨⟩
theorem tw13069269298641783000:True:=⟨⟩
theorem tw3544588017660873840:True:=⟨⟩
theorem tw14815821653051069565:True:=⟨⟩
theorem tw17083016139469589746:True:=⟨⟩
theorem tw5273676949477000026:True:=⟨⟩
theorem tw13651853629373612448:True:=⟨⟩
theorem tw10217119033685657435:True:=⟨⟩
theorem tw221833656727674790:True:=⟨⟩
theorem tw14807615427457635271:True:=⟨⟩
theorem tw9984057343299547985:True:=⟨⟩
theorem tw16040627890748727771:True:=⟨⟩
theorem tw13431540206092478161:True:=⟨⟩
theorem tw1507590624003189392:True:=⟨⟩
theorem tw1072460144193090923:True:=⟨⟩
theorem tw4111836698389047474:True:=⟨⟩
theorem tw6683829521635396870:True:=⟨⟩
theorem tw12779401290538925010:True:=⟨⟩
theorem tw2092151997909315897:True:=⟨⟩
theorem tw5880470490268529227:True:=⟨⟩
theorem tw14798080405474950275:True:=⟨⟩
theorem tw2099342685332280753:True:=⟨⟩
theorem tw18131253725000961836:True:=⟨⟩
theorem tw6419781750644996210:True:=⟨⟩
theorem tw4939018608904828480:True:=⟨⟩
theorem tw9181852732381126328:True:=⟨⟩
theorem tw2087244083789860117:True:=⟨⟩
theorem tw7887739813295486154:True:=⟨⟩
theorem tw15563217351206295572:True:=⟨⟩
theorem tw15591818853646170372:True:=⟨⟩
theorem tw11307724029011696825:True:=⟨⟩
theorem tw5713373949136761183:True:=⟨⟩
theorem tw13770030755821737911:True:=⟨⟩
theorem tw14942174958717008520:True:=⟨⟩
theorem tw18313898122453746010:True:=⟨⟩
theorem tw9333115746338682015:True:=⟨⟩
theorem tw13667592591891289702:True:=⟨⟩
theorem tw17039928622748099616:True:=⟨⟩
theorem tw5317392518158979500:True:=⟨⟩
theorem tw2588614114588677088:True:=⟨⟩
theorem tw16854611589310140111:True:=⟨⟩
theorem tw14596132765469592396:True:=⟨⟩
theorem tw9815841855115718492:True:=⟨⟩
theorem tw7434138094863590408:True:=⟨⟩
theorem tw11871880173698681868:True:=⟨⟩
theorem tw3146365820471548842:True:=⟨⟩
theorem tw10201092783880962740:True:=⟨⟩
theorem tw6610989021146101667:True:=⟨⟩
theorem tw16869495745703121232:True:=⟨⟩
theorem tw15396542496888107330:True:=⟨⟩
theorem tw2564847047005526692:True:=⟨⟩
theorem tw11664264322314925890:True:=⟨⟩
theorem tw13468623265285727690:True:=⟨⟩
theorem tw14131845380165521344:True:=⟨⟩
theorem tw16095740671029782253:True:=⟨⟩
theorem tw13053362717556057715:True:=⟨⟩
theorem tw15722501831292203761:True:=⟨⟩
theorem tw1430895818073701265:True:=⟨⟩
theorem tw6386228690314801705:True:=⟨⟩
theorem tw13818679893762478618:True:=⟨⟩
theorem tw7912713383219554485:True:=⟨⟩
theorem tw4711173904563208511:True:=⟨⟩
theorem tw17837804076389844332:True:=⟨⟩
theorem tw3823880639998755265:True:=⟨⟩
theorem tw8710976217728787437:True:=⟨⟩
theorem tw14265156520955165376:True:=⟨⟩
theorem tw16679601474819205141:True:=⟨⟩
theorem tw5615712632267806120:True:=⟨⟩
theorem tw6126159175313459371:True:=⟨⟩
theorem tw3738576298355408520:True:=⟨⟩
theorem tw5231005838214166108:True:=⟨⟩
theorem tw8168341453919237920:True:=⟨⟩
theorem tw10271316486511225490:True:=⟨⟩
theorem tw5754605468291542398:True:=⟨⟩
theorem tw7490572996623643991:True:=⟨⟩
theorem tw10843066651898990008:True:=⟨⟩
theorem tw15113916459827209267:True:=⟨⟩
theorem tw1281746500844207321:True:=⟨⟩
theorem tw9393731312003928459:True:=⟨⟩
theorem tw9501912154301489334:True:=⟨⟩
theorem tw18019920580583198826:True:=⟨⟩
theorem tw1896575138077496568:True:=⟨⟩
theorem tw15100046687106843474:True:=⟨⟩
theorem tw6157663110981743991:True:=⟨⟩
theorem tw79068860287160787:True:=⟨⟩
theorem tw16123748570591151845:True:=⟨⟩
theorem tw8300325922725208747:True:=⟨⟩
theorem tw2489579494924961498:True:=⟨⟩
theorem tw6944326547373456838:True:=⟨⟩
theorem tw4287159105574692154:True:=⟨⟩
theorem tw8041111050287507331:True:=⟨⟩
theorem tw9716203815243979329:True:=⟨⟩
theorem tw5505340516960793436:True:=⟨⟩
theorem tw15535339222774983849:True:=⟨⟩
theorem tw3563445004038880111:True:=⟨⟩
theorem tw4814930335156392859:True:=⟨⟩
theorem tw9559501917441876281:True:=⟨⟩
theorem tw5985041301801948497:True:=⟨⟩
theorem tw11589923524434554379:True:=⟨⟩
theorem tw8202266352031965678:True:=⟨⟩
theorem tw2671073528343311540:True:=⟨⟩
theorem tw12057766850692991417:True:=⟨⟩
theorem tw5256071686887694079:True:=⟨⟩
theorem tw5680994303478281309:True:=⟨⟩
theorem tw5175662021185257393:True:=⟨⟩
theorem tw16332265697304205584:True:=⟨⟩
theorem tw17957830568462082828:True:=⟨⟩
theorem tw17443796742051282210:True:=⟨⟩
theorem tw743209747140041459:True:=⟨⟩
theorem tw18014331541095377621:True:=⟨⟩
theorem tw3118417073261122801:True:=⟨⟩
theorem tw13832993040425111951:True:=⟨⟩
theorem tw622369933014277534:True:=⟨⟩
theorem tw9278039841334534366:True:=⟨⟩
theorem tw14321283524897581601:True:=⟨⟩
theorem tw1737996555551476444:True:=⟨⟩
theorem tw13249631814231585551:True:=⟨⟩
theorem tw12495659187650335258:True:=⟨⟩
theorem tw15880477297337227665:True:=⟨⟩
theorem tw7681719227479245508:True:=⟨⟩
theorem tw9873651515964283502:True:=⟨⟩
theorem tw15375573545336141380:True:=⟨⟩
theorem tw11859192267141950733:True:=⟨⟩
theorem tw18090784998240922125:True:=⟨⟩
theorem tw5646007694010456157:True:=⟨⟩
theorem tw7750996550101956215:True:=⟨⟩
theorem tw13360261391058314695:True:=⟨⟩
theorem tw4017406725812744891:True:=⟨⟩
theorem tw4861323840821149815:True:=⟨⟩
theorem tw9298420431970709085:True:=⟨⟩
theorem tw16930015523173979117:True:=⟨⟩
theorem tw12531274652635270612:True:=⟨⟩
theorem tw7351593392618321622:True:=⟨⟩
theorem tw3029482743531099177:True:=⟨⟩
theorem tw10212455016005966670:True:=⟨⟩
theorem tw15688723411590767148:True:=⟨⟩
theorem tw11550394989239850393:True:=⟨⟩
theorem tw16104894990506004495:True:=⟨⟩
theorem tw15761516341153730024:True:=⟨⟩
theorem tw5140566361435880623:True:=⟨⟩
theorem tw8496137666881280293:True:=⟨⟩
theorem tw8402929328445342934:True:=⟨⟩
theorem tw14362161726815063406:True:=⟨⟩
theorem tw9077478123064280667:True:=⟨⟩
theorem tw6500423225054569526:True:=⟨⟩
theorem tw10649169632109809356:True:=⟨⟩
theorem tw9091832817605487476:True:=⟨⟩
theorem tw14420378739610621150:True:=⟨⟩
theorem tw13777389730767190065:True:=⟨⟩
theorem tw9921333295031761641:True:=⟨⟩
theorem tw5632244326775610556:True:=⟨⟩
theorem tw4688263338394190146:True:=⟨⟩
theorem tw364860095901157434:True:=⟨⟩
theorem tw3353008820116290146:True:=⟨⟩
theorem tw10089890192545942193:True:=⟨⟩
theorem tw817132710070800854:True:=⟨⟩
theorem tw9844351428820812522:True:=⟨⟩
theorem tw4344482335926960369:True:=⟨⟩
theorem tw2546526577648386588:True:=⟨⟩
theorem tw2052828296197379219:True:=⟨⟩
theorem tw13517230339133084753:True:=⟨⟩
theorem tw17423544630738834663:True:=⟨⟩
theorem tw4556703077772681400:True:=⟨⟩
theorem tw11076530841746492104:True:=⟨⟩
theorem tw14458503301965256362:True:=⟨⟩
theorem tw8972391135122667289:True:=⟨⟩
theorem tw11924373234352733712:True:=⟨⟩
theorem tw1370622789658105764:True:=⟨⟩
theorem tw11064657913472847046:True:=⟨⟩
theorem tw15641213618771513406:True:=⟨⟩
theorem tw13275364217117931850:True:=⟨⟩
theorem tw4118201186090507648:True:=⟨⟩
theorem tw11801350702188880852:True:=⟨⟩
theorem tw8893448144253441388:True:=⟨⟩
theorem tw4487068324911712131:True:=⟨⟩
theorem tw4389568221168930557:True:=⟨⟩
theorem tw295491715513572108:True:=⟨⟩
theorem tw9454971283710476468:True:=⟨⟩
theorem tw12265881333312827068:True:=⟨⟩
theorem tw6443502103024897949:True:=⟨⟩
theorem tw6210070060030692744:True:=⟨⟩
theorem tw788168839050305387:True:=⟨⟩
theorem tw9832260040614970513:True:=⟨⟩
theorem tw11315613190679457451:True:=⟨⟩
theorem tw14363546964736275998:True:=⟨⟩
theorem tw564038808242510621:True:=⟨⟩
theorem tw1058724682624083417:True:=⟨⟩
theorem tw15459103246900755697:True:=⟨⟩
theorem tw15065459665186602782:True:=⟨⟩
theorem tw1891277071633106692:True:=⟨⟩
theorem tw15078176950674306462:True:=⟨⟩
theorem tw12212170108217736954:True:=⟨⟩
theorem tw17757944805952359573:True:=⟨⟩
theorem tw4756906791066674911:True:=⟨⟩
theorem tw588533288001669134:True:=⟨⟩
theorem tw12612124867333046075:True:=⟨⟩
theorem tw354267795537319436:True:=⟨⟩
theorem tw9818514050409838703:True:=⟨⟩
theorem tw5089558487583067526:True:=⟨⟩
theorem tw11581962911264814184:True:=⟨⟩
theorem tw7418972098082275525:True:=⟨⟩
theorem tw10077289845945870607:True:=⟨⟩
theorem tw15257483335434500674:True:=⟨⟩
theorem tw7735760805746485039:True:=⟨⟩
theorem tw2256799129186922947:True:=⟨⟩
theorem tw18281735025139565371:True:=⟨⟩
theorem tw12022467325321453839:True:=⟨⟩
theorem tw6637425858756850592:True:=⟨⟩
theorem tw7511963297638862440:True:=⟨⟩
theorem tw9973651268116138657:True:=⟨⟩
theorem tw7729811066052978304:True:=⟨⟩
theorem tw290193588543287149:True:=⟨⟩
theorem tw719889836597272464:True:=⟨⟩
theorem tw2699061045189164240:True:=⟨⟩
theorem tw10453330435670445214:True:=⟨⟩
theorem tw10172503553081883343:True:=⟨⟩
theorem tw9367242033505762125:True:=⟨⟩
theorem tw242650665110049523:True:=⟨⟩
theorem tw1561025429555539577:True:=⟨⟩
theorem tw17316068322059105459:True:=⟨⟩
theorem tw12426061436506108666:True:=⟨⟩
theorem tw10616654436283474580:True:=⟨⟩
theorem tw5579548371120807345:True:=⟨⟩
theorem tw17942389950476019492:True:=⟨⟩
theorem tw11230857113030160489:True:=⟨⟩
theorem tw11003097393010837862:True:=⟨⟩
theorem tw16391147030420493446:True:=⟨⟩
theorem tw7918055268344873133:True:=⟨⟩
theorem tw7752478337294046085:True:=⟨⟩
theorem tw1847223243094534267:True:=⟨⟩
theorem tw5838335561429532630:True:=⟨⟩
theorem tw1094380738261324458:True:=⟨⟩
theorem tw8513355939180005944:True:=⟨⟩
theorem tw3519309992428201772:True:=⟨⟩
theorem tw17255360030548772094:True:=⟨⟩
theorem tw3349661651641893083:True:=⟨⟩
theorem tw16606695765242081666:True:=⟨⟩
theorem tw7621205160450817685:True:=⟨⟩
theorem tw13951468988626160546:True:=⟨⟩
theorem tw7871266741460097259:True:=⟨⟩
theorem tw14614447910712889652:True:=⟨⟩
theorem tw5989748895534250556:True:=⟨⟩
theorem tw9197830090334418283:True:=⟨⟩
theorem tw16735189281579575622:True:=⟨⟩
theorem tw8179429861326432572:True:=⟨⟩
theorem tw13797163504985458339:True:=⟨⟩
theorem tw15692289915117593168:True:=⟨⟩
theorem tw13541799958138348531:True:=⟨⟩
theorem tw2523767756944381085:True:=⟨⟩
theorem tw9892214177707195648:True:=⟨⟩
theorem tw2554232045344647172:True:=⟨⟩
theorem tw3808265419850671321:True:=⟨⟩
theorem tw1276104963644111348:True:=⟨⟩
theorem tw2953335662400254195:True:=⟨⟩
theorem tw11837615090523192826:True:=⟨⟩
theorem tw11488728286027604085:True:=⟨⟩
theorem tw6988342513861283678:True:=⟨⟩
theorem tw17291259406076782163:True:=⟨⟩
theorem tw17877653768910548467:True:=⟨⟩
theorem tw17008148215717341597:True:=⟨⟩
theorem tw3254017803430808002:True:=⟨⟩
theorem tw15814941475648860580:True:=⟨⟩
theorem tw4554559619700311158:True:=⟨⟩
theorem tw13207406026052743059:True:=⟨⟩
theorem tw13859430546950330262:True:=⟨⟩
theorem tw9302488084471446650:True:=⟨⟩
theorem tw802498183750977233:True:=⟨⟩
theorem tw18205330293884021011:True:=⟨⟩
theorem tw7311152839072523187:True:=⟨⟩
theorem tw16398144467046769778:True:=⟨⟩
theorem tw5347829422617958414:True:=⟨⟩
theorem tw9544581076386971110:True:=⟨⟩
theorem tw8686484071890056637:True:=⟨⟩
theorem tw15788606338802252716:True:=⟨⟩
theorem tw6502079435432231306:True:=⟨⟩
theorem tw17922281069060074827:True:=⟨⟩
theorem tw8663710489851718498:True:=⟨⟩
theorem tw111816181896569086:True:=⟨⟩
theorem tw5475416053408754658:True:=⟨⟩
theorem tw6792972752431832174:True:=⟨⟩
theorem tw14415934091937329396:True:=⟨⟩
theorem tw14363866166304764704:True:=⟨⟩
theorem tw16265918921096226496:True:=⟨⟩
theorem tw7391896838843477411:True:=⟨⟩
theorem tw825717831546670491:True:=⟨⟩
theorem tw10237569666740098445:True:=⟨⟩
theorem tw9442111465334968994:True:=⟨⟩
theorem tw1963674503697789991:True:=⟨⟩
theorem tw4261241146580446763:True:=⟨⟩
theorem tw5742432856939342296:True:=⟨⟩
theorem tw8672301478497391125:True:=⟨⟩
theorem tw12595725794363056315:True:=⟨⟩
theorem tw6054358493864068566:True:=⟨⟩
theorem tw14551341852982548804:True:=⟨⟩
theorem tw18128060600708083827:True:=⟨⟩
theorem tw1395501102168698184:True:=⟨⟩
theorem tw4976298448516281155:True:=⟨⟩
theorem tw11749354713418082688:True:=⟨⟩
theorem tw6870528664493034416:True:=⟨⟩
theorem tw12774940989682011531:True:=⟨⟩
theorem tw5649183022521128649:True:=⟨⟩
theorem tw14691103090782899616:True:=⟨⟩
theorem tw8242257984263135231:True:=⟨⟩
theorem tw13355672726994451982:True:=⟨⟩
theorem tw10169236352925156353:True:=⟨⟩
theorem tw5519077252784160674:True:=⟨⟩
theorem tw17932607611679689030:True:=⟨⟩
theorem tw7177455880641146270:True:=⟨⟩
theorem tw6104127054395137063:True:=⟨⟩
theorem tw5657081126307076143:True:=⟨⟩
theorem tw10392436103421153351:True:=⟨⟩
theorem tw7461049765421463267:True:=⟨⟩
theorem tw7336170531549869153:True:=⟨⟩
theorem tw7824892256453059519:True:=⟨⟩
theorem tw13471576929687065932:True:=⟨⟩
theorem tw10286743056750799492:True:=⟨⟩
theorem tw11557774223532263927:True:=⟨⟩
theorem tw68973903665805761:True:=⟨⟩
theorem tw17098677141629601131:True:=⟨⟩
theorem tw1220803045461404224:True:=⟨⟩
theorem tw15811209905211280867:True:=⟨⟩
theorem tw12994361018755846914:True:=⟨⟩
theorem tw12330045158570854569:True:=⟨⟩
theorem tw2841956655434864152:True:=⟨⟩
theorem tw13563047363932563440:True:=⟨⟩
theorem tw8355854407377727595:True:=⟨⟩
theorem tw14265674985096854625:True:=⟨⟩
theorem tw2105026771693094158:True:=⟨⟩
theorem tw13861712943685827674:True:=⟨⟩
theorem tw8735617067655416707:True:=⟨⟩
theorem tw16046438752890293261:True:=⟨⟩
theorem tw5739615659157246901:True:=⟨⟩
theorem tw5221055222897763185:True:=⟨⟩
theorem tw11911271159533270323:True:=⟨⟩
theorem tw15499661178350936204:True:=⟨⟩
theorem tw6878725814978108634:True:=⟨⟩
theorem tw12282043898873095013:True:=⟨⟩
theorem tw12942135157332409109:True:=⟨⟩
theorem tw8898271302091636128:True:=⟨⟩
theorem tw12448305165625198150:True:=⟨⟩
theorem tw655249313235885596:True:=⟨⟩
theorem tw4925513426653003965:True:=⟨⟩
theorem tw10364310465167556572:True:=⟨⟩
theorem tw5474729167161987879:True:=⟨⟩
theorem tw10296228267754097682:True:=⟨⟩
theorem tw13589197295128186020:True:=⟨⟩
theorem tw7924114085962077081:True:=⟨⟩
theorem tw18328467577645004805:True:=⟨⟩
theorem tw12748439275913002429:True:=⟨⟩
theorem tw15293398122784158654:True:=⟨⟩
theorem tw302494107551176208:True:=⟨⟩
theorem tw7427519312417175009:True:=⟨⟩
theorem tw11375539327362022610:True:=⟨⟩
theorem tw3924611268927176304:True:=⟨⟩
theorem tw10778226532484172615:True:=⟨⟩
theorem tw12014782073806359512:True:=⟨⟩
theorem tw9312591571486198893:True:=⟨⟩
theorem tw6152459776132510139:True:=⟨⟩
theorem tw4580151383840842897:True:=⟨⟩
theorem tw13058504507743420820:True:=⟨⟩
theorem tw1564175757078820721:True:=⟨⟩
theorem tw13311511714822897120:True:=⟨⟩
theorem tw718828594093620959:True:=⟨⟩
theorem tw10598339282728839227:True:=⟨⟩
theorem tw13756963347827933146:True:=⟨⟩
theorem tw14060824502669419140:True:=⟨⟩
theorem tw11971403603473205462:True:=⟨⟩
theorem tw6357604603615686247:True:=⟨⟩
theorem tw5169585318207150418:True:=⟨⟩
theorem tw17002519036953648039:True:=⟨⟩
theorem tw15996325646887213827:True:=⟨⟩
theorem tw4069243225490278104:True:=⟨⟩
theorem tw2299042122486440865:True:=⟨⟩
theorem tw10301484684985375675:True:=⟨⟩
theorem tw8973930320991440877:True:=⟨⟩
theorem tw17442772969797786430:True:=⟨⟩
theorem tw3466299890497572657:True:=⟨⟩
theorem tw9955789227393005343:True:=⟨⟩
theorem tw13922808359612927249:True:=⟨⟩
theorem tw12368797505840864052:True:=⟨⟩
theorem tw17541861398951273281:True:=⟨⟩
theorem tw13538759027452146755:True:=⟨⟩
theorem tw7043260784435206773:True:=⟨⟩
theorem tw589233214134728162:True:=⟨⟩
theorem tw5232228409544199417:True:=⟨⟩
theorem tw17871576105308146249:True:=⟨⟩
theorem tw8789865488668467302:True:=⟨⟩
theorem tw11548638230898665482:True:=⟨⟩
theorem tw13562449619824780747:True:=⟨⟩
theorem tw16406057683772218765:True:=⟨⟩
theorem tw5799173033896415390:True:=⟨⟩
theorem tw15496507513095225228:True:=⟨⟩
theorem tw8326815750428432537:True:=⟨⟩
theorem tw4357288695285995199:True:=⟨⟩
theorem tw4625845773483079925:True:=⟨⟩
theorem tw16420829602828055738:True:=⟨⟩
theorem tw12005285266172530323:True:=⟨⟩
theorem tw1876805491162966456:True:=⟨⟩
theorem tw9019322167399886166:True:=⟨⟩
theorem tw689710704176686517:True:=⟨⟩
theorem tw8932901767465814619:True:=⟨⟩
theorem tw15686245618224132949:True:=⟨⟩
theorem tw5421025075444076008:True:=⟨⟩
theorem tw6449620528467748706:True:=⟨⟩
theorem tw6738039886894915831:True:=⟨⟩
theorem tw9632807515222588042:True:=⟨⟩
theorem tw5543616845412572229:True:=⟨⟩
theorem tw13769934903585226094:True:=⟨⟩
theorem tw10706856598487019474:True:=⟨⟩
theorem tw12660054646767739913:True:=⟨⟩
theorem tw1286769008010496747:True:=⟨⟩
theorem tw10401154704097609197:True:=⟨⟩
theorem tw2859888387796550140:True:=⟨⟩
theorem tw1407360685592102267:True:=⟨⟩
theorem tw10601249747021279085:True:=⟨⟩
theorem tw17235737383654724106:True:=⟨⟩
theorem tw1328188988738976186:True:=⟨⟩
theorem tw9131794499767235239:True:=⟨⟩
theorem tw6621013959027981116:True:=⟨⟩
theorem tw279559883054187182:True:=⟨⟩
theorem tw16058485892706485630:True:=⟨⟩
theorem tw7688442993418497220:True:=⟨⟩
theorem tw5837418944973885280:True:=⟨⟩
theorem tw9537711933287307780:True:=⟨⟩
theorem tw2178600123995656705:True:=⟨⟩
theorem tw6987435526542813747:True:=⟨⟩
theorem tw14759841295715348728:True:=⟨⟩
theorem tw14732657561583728404:True:=⟨⟩
theorem tw18124037803397854614:True:=⟨⟩
theorem tw6097740973825571867:True:=⟨⟩
theorem tw18017937555501010631:True:=⟨⟩
theorem tw3157035892526360545:True:=⟨⟩
theorem tw14116138127465695824:True:=⟨⟩
theorem tw275258754572615920:True:=⟨⟩
theorem tw13238436392069159275:True:=⟨⟩
theorem tw10156194879777072510:True:=⟨⟩
theorem tw2000790835249829286:True:=⟨⟩
theorem tw10259973816964672465:True:=⟨⟩
theorem tw13262733469445688296:True:=⟨⟩
theorem tw1847157001559373445:True:=⟨⟩
theorem tw13063455147554058218:True:=⟨⟩
theorem tw9550955288754817755:True:=⟨⟩
theorem tw10461450315296920898:True:=⟨⟩
theorem tw1861654171144724788:True:=⟨⟩
theorem tw17052840619538888783:True:=⟨⟩
theorem tw13845400404177438791:True:=⟨⟩
theorem tw8842169491231963985:True:=⟨⟩
theorem tw12482311231838971441:True:=⟨⟩
theorem tw16409249763120861698:True:=⟨⟩
theorem tw18014957819355304977:True:=⟨⟩
theorem tw2413541876010006302:True:=⟨⟩
theorem tw10172200845612527730:True:=⟨⟩
theorem tw1079293610238600367:True:=⟨⟩
theorem tw251130829894987895:True:=⟨⟩
theorem tw18073037116489368166:True:=⟨⟩
theorem tw8768167639664849108:True:=⟨⟩
theorem tw14152090457114678232:True:=⟨⟩
theorem tw11943601629057107023:True:=⟨⟩
theorem tw14249197157164640486:True:=⟨⟩
theorem tw17544431612320393211:True:=⟨⟩
theorem tw6409857543001536490:True:=⟨⟩
theorem tw6808187763808821589:True:=⟨⟩
theorem tw1010489278814329713:True:=⟨⟩
theorem tw1322133450026371665:True:=⟨⟩
theorem tw12188299309226212133:True:=⟨⟩
theorem tw17814282586211288780:True:=⟨⟩
theorem tw12155709442636953475:True:=⟨⟩
theorem tw62847150946597389:True:=⟨⟩
theorem tw3499977126468950951:True:=⟨⟩
theorem tw10514838757975969686:True:=⟨⟩
theorem tw12831510193419429366:True:=⟨⟩
end Bc.main
set_option Elab.async true in
theorem Bc.main:PySem.Challenge.rw_nz0507_01.Holds:=by
 (w_on;o_law;k_head;(case hw=>w_witness2))
 k_fill
 intro w s₀ s₁ mg mb G Y fa o pm cd doc dV kV ho hd' hcd hD hmg hg args vals as hpre hlay hrd hwl hlo
 have KX:=kIn_of Y
 refine Ground.open G ?_
 intro T B D TE TW
 wrow_args hpre hlay hrd hwl hlo
 rename_i ns _ _ _ _ _ _ _ a _ _ _ _ hW _ _ _ hlen _
 refine wpAny_mono (Bc.law_holds KX T hmg hW (Bc.law_pure ns (by omega)) ?_ ?_ ?_ ?_ ?_ ?_ ?_ ?_ ?_ ?_ ?_ (fun _ _=>?_) (fun _ _=>?_) ?_ ?_ ?_ ?_ ?_ ?_) (fun v s' z=>?fin) (fun e s' z=>z.elim)
 case fin =>
  obtain ⟨rfl,z1,z2,z3⟩:=z
  refine GoodW.toG ?_
  refine ⟨.inl ⟨_,.bool true,[],rfl,?_,?_,?_,?_⟩,z1,z2,z3.trans hg⟩
  ·intro cls;rfl
  ·exact .bool true
  ·first | rfl | kernel_rfl
  ·intro _;exact ⟨List.nodup_nil,fun a h=>nomatch h⟩
 all_goals kernel_rfl
theorem PySem.Challenge.cw_nz0507_01_holds : PySem.Challenge.rw_nz0507_01.Holds :=
 Bc.main
