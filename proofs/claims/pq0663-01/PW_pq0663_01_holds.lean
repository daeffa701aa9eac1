import PyProof.Rows.All
import Wide.All
import OpenK.AllK
import Wide.FinOn
import KE.KSortAsk
import KE.KSortKey
import Lean
import PySem.Challenge.RW_pq0663_01
set_option Elab.async false
set_option bootstrap.genMatcherCode false
set_option compiler.extract_closed false
set_option linter.all false
set_option tactic.hygienic false
set_option maxRecDepth 100000
set_option maxHeartbeats 0
noncomputable section
namespace Mine
open PySem PySem.W PySem.Calls PyProof.Rows
section
set_option genInjectivity false
set_option genSizeOf false
set_option genCtorIdx false
inductive B8|lit (n:Nat)|sym (k:Nat)
inductive HV
 |none|bool (b:Bool)|int (i:Int)|str (k:Nat)|sstr (k:Nat)|bytes (l:List B8)
 |typ (k:Nat)|bi (k:Nat)|obj (j:Nat)|fn (g:Nat)|cls (c:Nat)|opq (k:Nat)|sint (k:Nat)
set_option genCtorIdx true in
inductive HO
 |list (l:List HV)|tup (l:List HV)|dict (es:List (Nat × HV))|barr (l:List B8)
 |inst (c d:Nat)|ns (es:List (Nat × HV))|tab (c:Option Nat)|code
noncomputable def HV.uq{α:Type}(v:HV)(d:α)(f:α):α:=HV.rec (motive:=fun J=>α) f (fun J=>d) (fun J=>d) (fun J=>d) (fun J=>d) (fun J=>d) (fun J=>d) (fun J=>d) (fun J=>d) (fun J=>d) (fun J=>d) (fun J=>d) (fun J=>d) v
noncomputable def HV.onBool{α:Type}(v:HV)(d:α)(f:Bool->α):α:=HV.rec (motive:=fun J=>α) d f (fun J=>d) (fun J=>d) (fun J=>d) (fun J=>d) (fun J=>d) (fun J=>d) (fun J=>d) (fun J=>d) (fun J=>d) (fun J=>d) (fun J=>d) v
noncomputable def HV.uf{α:Type}(v:HV)(d:α)(f:Int->α):α:=HV.rec (motive:=fun J=>α) d (fun J=>d) f (fun J=>d) (fun J=>d) (fun J=>d) (fun J=>d) (fun J=>d) (fun J=>d) (fun J=>d) (fun J=>d) (fun J=>d) (fun J=>d) v
noncomputable def HV.onStr{α:Type}(v:HV)(d:α)(f:Nat->α):α:=HV.rec (motive:=fun J=>α) d (fun J=>d) (fun J=>d) f (fun J=>d) (fun J=>d) (fun J=>d) (fun J=>d) (fun J=>d) (fun J=>d) (fun J=>d) (fun J=>d) (fun J=>d) v
noncomputable def HV.uy{α:Type}(v:HV)(d:α)(f:Nat->α):α:=HV.rec (motive:=fun J=>α) d (fun J=>d) (fun J=>d) (fun J=>d) f (fun J=>d) (fun J=>d) (fun J=>d) (fun J=>d) (fun J=>d) (fun J=>d) (fun J=>d) (fun J=>d) v
noncomputable def HV.onBytes{α:Type}(v:HV)(d:α)(f:List B8->α):α:=HV.rec (motive:=fun J=>α) d (fun J=>d) (fun J=>d) (fun J=>d) (fun J=>d) f (fun J=>d) (fun J=>d) (fun J=>d) (fun J=>d) (fun J=>d) (fun J=>d) (fun J=>d) v
noncomputable def HV.uW{α:Type}(v:HV)(d:α)(f:Nat->α):α:=HV.rec (motive:=fun J=>α) d (fun J=>d) (fun J=>d) (fun J=>d) (fun J=>d) (fun J=>d) f (fun J=>d) (fun J=>d) (fun J=>d) (fun J=>d) (fun J=>d) (fun J=>d) v
noncomputable def HV.uc{α:Type}(v:HV)(d:α)(f:Nat->α):α:=HV.rec (motive:=fun J=>α) d (fun J=>d) (fun J=>d) (fun J=>d) (fun J=>d) (fun J=>d) (fun J=>d) (fun J=>d) f (fun J=>d) (fun J=>d) (fun J=>d) (fun J=>d) v
noncomputable def HV.uK{α:Type}(v:HV)(d:α)(f:Nat->α):α:=HV.rec (motive:=fun J=>α) d (fun J=>d) (fun J=>d) (fun J=>d) (fun J=>d) (fun J=>d) (fun J=>d) (fun J=>d) (fun J=>d) (fun J=>d) (fun J=>d) f (fun J=>d) v
noncomputable def HV.ug{α:Type}(v:HV)(d:α)(f:Nat->α):α:=HV.rec (motive:=fun J=>α) d (fun J=>d) (fun J=>d) (fun J=>d) (fun J=>d) (fun J=>d) (fun J=>d) (fun J=>d) (fun J=>d) (fun J=>d) (fun J=>d) (fun J=>d) f v
noncomputable def HO.ud{α:Type}(v:HO)(d:α)(f:List HV->α):α:=HO.rec (motive:=fun J=>α) f (fun J=>d) (fun J=>d) (fun J=>d) (fun J J=>d) (fun J=>d) (fun J=>d) d v
noncomputable def HO.onTup{α:Type}(v:HO)(d:α)(f:List HV->α):α:=HO.rec (motive:=fun J=>α) (fun J=>d) f (fun J=>d) (fun J=>d) (fun J J=>d) (fun J=>d) (fun J=>d) d v
noncomputable def HO.ur{α:Type}(v:HO)(d:α)(f:List (Nat × HV)->α):α:=HO.rec (motive:=fun J=>α) (fun J=>d) (fun J=>d) f (fun J=>d) (fun J J=>d) (fun J=>d) (fun J=>d) d v
noncomputable def HO.uE{α:Type}(v:HO)(d:α)(f:List B8->α):α:=HO.rec (motive:=fun J=>α) (fun J=>d) (fun J=>d) (fun J=>d) f (fun J J=>d) (fun J=>d) (fun J=>d) d v
noncomputable def HO.uD{α:Type}(v:HO)(d:α)(f:Nat->Nat->α):α:=HO.rec (motive:=fun J=>α) (fun J=>d) (fun J=>d) (fun J=>d) (fun J=>d) f (fun J=>d) (fun J=>d) d v
noncomputable def HO.uQ{α:Type}(v:HO)(d:α)(f:Option Nat->α):α:=HO.rec (motive:=fun J=>α) (fun J=>d) (fun J=>d) (fun J=>d) (fun J=>d) (fun J J=>d) (fun J=>d) f d v
noncomputable def HO.uU{α:Type}(v:HO)(d:α)(f:List (Nat × HV)->α):α:=HO.rec (motive:=fun J=>α) (fun J=>d) (fun J=>d) (fun J=>d) (fun J=>d) (fun J J=>d) f (fun J=>d) d v
def HV.ux{α:Type}(v:HV)(d:α)(f:Nat->α):α:=v.uf d fun i=>Int.rec (motive:=fun J=>α) f (fun J=>d) i
noncomputable def ls0{β α:Type}(l:List β)(d x:α):α:=List.rec (motive:=fun J=>α) x (fun J J J=>d) l
def ls1{β α:Type}(l:List β)(d:α)(f:β->α):α:=List.rec (motive:=fun J=>α) d (fun v r J=>ls0 r d (f v)) l
def ls2{β α:Type}(l:List β)(d:α)(f:β->β->α):α:=List.rec (motive:=fun J=>α) d (fun v r J=>ls1 r d (f v)) l
noncomputable def lsC{β α:Type}(l:List β)(d:α)(f:β->List β->α):α:=List.rec (motive:=fun J=>α) d (fun v r J=>f v r) l
def eS{α:Type}(v:HV)(k:Nat)(d x:α):α:=v.ug d fun j=>Bool.rec (motive:=fun J=>α) d x (Nat.beq j k)
def eI{α:Type}(v:HV)(k:Int)(d x:α):α:=v.uf d fun j=>Bool.rec (motive:=fun J=>α) d x (decide (j=k))
inductive Tr|nil|node (v:Option HO) (l r:Tr)
structure St where
 t:Tr
 n:Nat
 loc:List (Nat × HV)
inductive R(α:Type)|no|ok (a:α) (S:St)
inductive Fl|next|ret (v:HV)
inductive HE
 |c (v:HV)|x (i:Nat)|gv (i:Nat) (v:HV)|att (o:HE) (i:Nat)
 |bin (op:Nat) (a b:HE)|cmp (op:Nat) (a b:HE)
 |bo (isAnd:Bool) (l:List HE)|not (a:HE)|neg (a:HE)|ite (t a b:HE)
 |lst (l:List HE)|tup (l:List HE)|dct (ks:List Nat) (vs:List HE)
 |comp (elt:HE) (tgt:List Nat) (one:Bool) (k:Nat) (its:List HE) (cond:Option HE)
 |call (f:HE) (as:List HE)|meth (o:HE) (i:Nat) (as:List HE)
 |sub (o i:HE)|sl (o:HE) (lo hi st:Option HE)
 |stuck
inductive HS
 |ex (e:HE)|ret (e:HE)|asN (i:Nat) (e:HE)|asA (o:HE) (i:Nat) (e:HE)|asS (o i:HE) (e:HE)
 |asL (o:HE) (lo hi:Option HE) (e:HE)|asT (ts:List Nat) (e:HE)|asX (ts:List Nat) (es:List HE)
 |ite (t:HE) (a b:List HS)|wh (t:HE) (b:List HS)|fr (tgt:List Nat) (one:Bool) (k:Nat) (its:List HE) (b:List HS)
 |pass|tr (b:List HS)|stuck
 |asC2 (i:Nat) (elt:HE) (t1:List Nat) (o1:Bool) (k1:Nat) (i1:List HE) (t2:List Nat) (o2:Bool) (k2:Nat) (i2:List HE) (cond:Option HE)
structure Fn where
 ps:List Nat
 ds:List HV
 body:List HS
structure Par where
 T0:Tr
 cand:Nat->List Nat
 nmv:Nat->Option Nat
 fns:Nat->Option Fn
 meths:Nat->Nat->Option Nat
 inits:Nat->Option Nat
 orac:Nat->List HV->St->R HV
 isOr:Nat->Bool
 sub1:Nat->Option Nat
 low:Nat->Option Nat
 cat:Nat->Nat->Option Nat
 atts:Nat->Nat->Bool
 sop:Nat->HV->HV->Option HV
structure Eng where
 ev:HE->St->R HV
 ts:HE->St->R Bool
 xs:List HS->St->R Fl
noncomputable def okV(r:R HV)(f:HV->Bool):Bool:=R.rec (motive:=fun J=>Bool) false (fun v J=>f v) r
noncomputable def R.bind{α β:Type}(x:R α)(f:α->St->R β):R β:=R.rec (motive:=fun J=>R β) .no f x
noncomputable def ofO{α:Type}(x:Option α)(S:St):R α:=Option.rec (motive:=fun J=>R α) .no (fun a=>.ok a S) x
noncomputable def ofS(x:Option St):R Unit:=Option.rec (motive:=fun J=>R Unit) .no (fun S=>.ok () S) x
noncomputable def ob{α β:Type}(x:Option α)(f:α->Option β):Option β:=Option.rec (motive:=fun J=>Option β) none f x
noncomputable def hif(b:Bool){α:Type}(x y:α):α:=Bool.rec (motive:=fun J=>α) y x b
noncomputable def Za{α:Type}(b:Bool)(x:R α):R α:=Bool.rec (motive:=fun J=>R α) .no x b
noncomputable def Qs{α:Type}(b:Bool)(x:Option α):Option α:=Bool.rec (motive:=fun J=>Option α) none x b
noncomputable def Tr.get(t:Tr):Nat->Option HO:=
 Tr.rec (motive:=fun J=>Nat->Option HO) (fun J=>none)
  (fun v J J gl gr i=>Bool.rec (Bool.rec (gr (i/2-1)) (gl (i/2)) (Nat.beq (i%2) 1)) v (Nat.beq i 0)) t
noncomputable def Tr.uM(g:Tr->Nat->HO->Tr)(v:Option HO)(l r:Tr)(i:Nat)(o:HO):Tr:=
 Bool.rec (motive:=fun J=>Tr) (Bool.rec (motive:=fun J=>Tr) (.node v l (g r (i/2-1) o)) (.node v (g l (i/2) o) r) (Nat.beq (i%2) 1)) (.node (some o) l r) (Nat.beq i 0)
def Tr.set(f:Nat):Tr->Nat->HO->Tr:=
 Nat.rec (motive:=fun J=>Tr->Nat->HO->Tr) (fun t J J=>t) (fun J g t=>Tr.rec (motive:=fun J=>Nat->HO->Tr) (Tr.uM g none .nil .nil) (fun v l r J J=>Tr.uM g v l r) t) f
noncomputable def lk(es:List (Nat × HV))(i:Nat):Option HV:=List.rec (motive:=fun J=>Option HV) none (fun p J ih=>Bool.rec ih (some p.2) (Nat.beq p.1 i)) es
noncomputable def pt(es:List (Nat × HV))(i:Nat)(v:HV):List (Nat × HV):=
 List.rec (motive:=fun J=>List (Nat × HV)) [(i,v)] (fun p r ih=>Bool.rec (motive:=fun J=>List (Nat × HV)) (p::ih) ((i,v)::r) (Nat.beq p.1 i)) es
noncomputable def rm(es:List (Nat × HV))(i:Nat):List (Nat × HV):=
 List.rec (motive:=fun J=>List (Nat × HV)) [] (fun p r ih=>Bool.rec (motive:=fun J=>List (Nat × HV)) (p::ih) r (Nat.beq p.1 i)) es
noncomputable def without(es:List (Nat × HV))(t:List Nat):List (Nat × HV):=es.filter fun p=> !t.any (Nat.beq p.1)
noncomputable def szO:HO->Nat
 |.list l=>l.length|.tup l=>l.length|.dict l=>l.length|.barr l=>l.length|.ns l=>l.length|.inst _ _=>0|.tab _=>0|.code=>0
def szOk(o:HO):Bool:=Nat.ble (szO o) 1000
namespace St
def get(S:St)(j:Nat):Option HO:=S.t.get j
def set(S:St)(j:Nat)(o:HO):St:=⟨S.t.set 40 j o,S.n,S.loc⟩
def new(S:St)(o:HO):R HV:=Za (Nat.ble S.n 100000&&szOk o) (.ok (.obj S.n) ⟨S.t.set 40 S.n o,S.n+1,S.loc⟩)
def sto(S:St)(i:Nat)(v:HV):St:=⟨S.t,S.n,pt S.loc i v⟩
noncomputable def back(S' S:St):St:=⟨S'.t,S'.n,S.loc⟩
end St
variable(P:Par)
def L3(S:St)(j:Nat)(o:HO):Option St:=Qs ((P.T0.get j).isNone&&szOk o) (some (S.set j o))
def b8eq:B8->B8->Option Bool
 |.lit a,.lit b=>Qs (Nat.ble a 255&&Nat.ble b 255) (some (Nat.beq a b))
 |.sym a,.sym b=>Qs (Nat.beq a b) (some true)
 |_,_=>none
def bseq:List B8->List B8->Option Bool
 |[],[]=>some true
 |a::r,b::t=>ob (b8eq a b) fun x=>hif x (bseq r t) (some false)
 |[],_::_=>some false
 |_::_,[]=>some false
def xJa(a b:Nat):Option Bool:=Option.rec (motive:=fun J=>Option Bool) (Qs (!(P.cand a).any (Nat.beq b)) (some false)) (fun k=>some (Nat.beq k b)) (P.nmv a)
def xJ0(a b:Nat):Option Bool:=hif (Nat.beq a b) (some true) (ob (P.nmv a) fun k=>ob (P.nmv b) fun l=>some (Nat.beq k l))
def Mm(x y:Bool):Bool:=hif x y (!y)
def Pn(f:HV->HV->Option Bool):List HV->List HV->Option Bool
 |[],[]=>some true
 |a::r,b::t=>ob (f a b) fun x=>ob (Pn f r t) fun y=>some (x&&y)
 |[],_::_=>some false
 |_::_,[]=>some false
noncomputable def deq(x y:List (Nat × HV)):Option Bool:=match x,y with
 |[],[]=>some true
 |_,_=>none
def oeq(f:HV->HV->Option Bool)(a b:HO):Option Bool:=
 a.ud (a.onTup (a.ur none fun x=>b.ur none fun y=>deq x y) fun x=>b.onTup none fun y=>Pn f x y) fun x=>b.ud none fun y=>hif (Nat.beq x.length y.length) (Pn f x y) (some false)
def veqO(f:HV->HV->Option Bool)(S:St)(i j:Nat):Option Bool:=Qs (!Nat.beq i j)<|ob (S.get i) fun x=>ob (S.get j) fun y=>oeq f x y
def boolV(v:HV):Option Bool:=v.onBool none some
def veqN(f:HV->HV->Option Bool)(S:St)(a b:HV):Option Bool:=HV.rec (motive:=fun J=>Option Bool) (b.uq none (some true)) (fun x=>b.onBool none fun y=>some (Mm x y)) (fun x=>b.uf none fun y=>some (decide (x=y)))
 (fun x=>b.onStr (b.uy none fun y=>xJa P y x) fun y=>some (Nat.beq x y)) (fun x=>b.onStr (b.uy none fun y=>xJ0 P x y) fun y=>xJa P x y) (fun x=>b.onBytes none fun y=>bseq x y) (fun J=>none) (fun J=>none) (fun i=>b.uc none fun j=>veqO f S i j)
 (fun J=>none) (fun J=>none) (fun J=>none) (fun x=>b.uf none fun j=>ob (P.sop 9 (.sint x) (.int j)) boolV) a
def veq(S:St)(n:Nat):HV->HV->Option Bool:=Nat.rec (motive:=fun J=>HV->HV->Option Bool) (fun J J=>none) (fun J f=>veqN P f S) n
def Mh(S:St)(v:HV):List HV->Option Bool
 |[]=>some false
 |x::r=>ob (veq P S 6 x v) fun b=>ob (Mh S v r) fun c=>some (b||c)
def xX8(es:List (Nat × HV))(v:HV):Option Bool:=v.onStr none fun k=>some (Option.rec (motive:=fun J=>Bool) false (fun J=>true) (lk es k))
def xX7(S:St)(v:HV)(o:HO):Option Bool:=o.ud (o.onTup (o.ur none fun es=>xX8 es v) (Mh P S v)) (Mh P S v)
def xJl(S:St)(v w:HV):Option Bool:=w.uc none fun j=>ob (S.get j) (xX7 P S v)
def xQw(o:HO):Option Bool:=o.uD none fun J J=>some true
def xJ3(S:St)(i j:Nat):Option Bool:=ob (S.get i) fun x=>ob (xQw x) fun J=>ob (S.get j) fun J=>some (Nat.beq i j)
def same(S:St)(a b:HV):Option Bool:=a.uq (a.onBytes (a.uc none fun i=>b.uq (b.uc none fun j=>xJ3 S i j) (some false)) fun J=>b.uq none (some false)) (b.uq none (some true))
noncomputable def ordI(op:Nat)(x y:Int):Option Bool:=match op with
 |2=>some (decide (x<y))|4=>some (decide (y<x))|5=>some (decide (y<=x))|_=>none
def ord2(op:Nat)(a b:HV):Option Bool:=a.uf none fun x=>b.uf none fun y=>ordI op x y
def neg(x:Option Bool):Option Bool:=ob x fun b=>some (!b)
def xZj(S:St)(op:Nat)(a b:HV):Option Bool:=match op with
 |0=>veq P S 6 a b
 |1=>neg (veq P S 6 a b)
 |6=>xJl P S a b
 |7=>neg (xJl P S a b)
 |8=>same S a b
 |9=>neg (same S a b)
 |op=>ord2 op a b
def zQc(op:Nat)(a b:Int):Option Int:=hif (Nat.beq op 0) (some (a+b))<|hif (Nat.beq op 1) (some (a-b))<|hif (Nat.beq op 2) (Qs (decide (a.natAbs<18446744073709551616)) (some (a*b)))<|
 hif (Nat.beq op 3) (Qs (!decide (b=0)&&decide (b.natAbs<18446744073709551616)) (some (a.fdiv b)))<|hif (Nat.beq op 4) (Qs (!decide (b=0)) (some (a.fmod b)))<|
 hif (Nat.beq op 5) (Qs (decide (2<=a)&&(decide (a<=100000)&&(decide (1<=b)&&decide (b<=50)))) (some (a^b.toNat))) none
noncomputable def rep(l:List B8)(n:Nat):List B8:=match n with|0=>[]|n+1=>l++rep l n
def repR(S:St)(x:List B8):Int->R HV
 |.ofNat n=>Za (Nat.ble n 100&&(Nat.ble x.length 16&& !x.isEmpty)) (.ok (.bytes (rep x n)) S)
 |_=>.no
def addO(S:St)(i j:Nat)(a b:HO):R HV:=a.ud (a.onTup .no fun x=>b.onTup .no fun y=>hif x.isEmpty (.ok (.obj j) S) (hif y.isEmpty (.ok (.obj i) S) (S.new (.tup (x++y))))) fun x=>b.ud .no fun y=>S.new (.list (x++y))
def xZs(S:St)(op:Nat)(a b:HV):R HV:=HV.rec (motive:=fun J=>R HV) .no (fun J=>.no) (fun x=>b.uf (b.ug .no fun J=>ofO (P.sop op a b) S) fun y=>ofO (ob (zQc op x y) fun z=>some (.int z)) S)
 (fun x=>b.onStr .no fun y=>Za (Nat.beq op 0) (ofO (ob (P.cat x y) fun c=>some (.str c)) S)) (fun J=>.no) (fun x=>b.onBytes (b.uf .no fun y=>Za (Nat.beq op 2) (repR S x y)) fun y=>Za (Nat.beq op 0&&Nat.ble (x.length+y.length) 1000) (.ok (.bytes (x++y)) S))
 (fun J=>.no) (fun J=>.no) (fun i=>b.uc .no fun j=>Za (Nat.beq op 0) ((ofO (S.get i) S).bind fun x J=>(ofO (S.get j) S).bind fun y J=>addO S i j x y)) (fun J=>.no) (fun J=>.no) (fun J=>.no)
 (fun J=>b.uf (b.ug .no fun J=>ofO (P.sop op a b) S) fun J=>ofO (P.sop op a b) S) a
def M0(_:St)(v:HV):Option Bool:=v.onBool (v.onStr none fun k=>some (!Nat.beq k 0)) some
def attrD(i:Nat)(o:HO):Option HV:=o.uU none fun es=>lk es i
def attrO(S:St)(i:Nat)(o:HO):Option HV:=o.uD none fun c d=>Qs (P.atts c i) (ob (S.get d) (attrD i))
def attr(S:St)(i:Nat)(v:HV):Option HV:=v.uc none fun j=>ob (S.get j) (attrO P S i)
def Te(S:St)(d i:Nat)(x:HV)(o:HO):Option St:=o.uU none fun es=>L3 P S d (.ns (pt es i x))
def Td(S:St)(i:Nat)(x:HV)(o:HO):Option St:=o.uD none fun c d=>Qs (P.atts c i) (ob (S.get d) (Te P S d i x))
def G7(S:St)(i:Nat)(x v:HV):Option St:=v.uc none fun j=>ob (S.get j) (Td P S i x)
def at_(n:Nat):Int->Option Nat
 |.ofNat k=>Qs (Nat.ble (k+1) n) (some k)
 |.negSucc k=>Qs (Nat.ble (k+1) n) (some (n-(k+1)))
noncomputable def nth{α:Type}:List α->Nat->Option α
 |[],_=>none
 |a::_,0=>some a
 |_::r,k+1=>nth r k
def qX9(l:List HV)(v:HV):Option HV:=v.uf none fun k=>ob (at_ l.length k) (nth l)
def xX3(es:List (Nat × HV))(v:HV):Option HV:=v.onStr none (lk es)
def xQo(i:HV)(o:HO):Option HV:=o.ud (o.onTup (o.ur none fun es=>xX3 es i) fun l=>qX9 l i) fun l=>qX9 l i
def isZ(v:HV):Bool:=v.ux false (Nat.beq 0)
def litV:B8->Option HV
 |.lit n=>Qs (Nat.ble n 255) (some (.int (.ofNat n)))
 |.sym _=>none
def xX4(l:List B8)(v:HV):Option HV:=v.uf none fun k=>Qs (Nat.ble l.length 1000) (ob (at_ l.length k) fun i=>ob (nth l i) litV)
def item(S:St)(i v:HV):Option HV:=v.onBytes (v.uc (v.onStr none fun k=>Qs (isZ i) (ob (P.sub1 k) fun c=>some (.str c))) fun j=>ob (S.get j) (xQo i)) fun l=>xX4 l i
def Tc(S:St)(j:Nat)(es:List (Nat × HV))(x i:HV):Option St:=i.onStr none fun k=>L3 P S j (.dict (pt es k x))
noncomputable def setNth(l:List HV)(k:Nat)(x:HV):List HV:=l.take k++(x::l.drop (k+1))
def Tb(S:St)(j:Nat)(l:List HV)(x i:HV):Option St:=i.ux none fun k=>Qs (Nat.ble (k+1) l.length) (L3 P S j (.list (setNth l k x)))
def Ta(S:St)(j:Nat)(i x:HV)(o:HO):Option St:=o.ur (o.ud none fun l=>Tb P S j l x i) fun es=>Tc P S j es x i
def G6(S:St)(i x v:HV):Option St:=v.uc none fun j=>ob (S.get j) (Ta P S j i x)
def cutV(n:Nat)(v:HV):Option Nat:=v.ux none fun k=>some (hif (Nat.ble k n) k n)
def cut(n d:Nat)(v:Option HV):Option Nat:=Option.rec (motive:=fun J=>Option Nat) (some d) (cutV n) v
noncomputable def slc{α:Type}(l:List α)(lo hi:Nat):List α:=(l.drop lo).take (hi-lo)
def isM1(v:Option HV):Bool:=Option.rec (motive:=fun J=>Bool) false (fun v=>v.uf false fun i=>decide (i= -1)) v
def is1(v:Option HV):Bool:=Option.rec (motive:=fun J=>Bool) false (fun v=>v.ux false (Nat.beq 1)) v
def zZa{α:Type}(l:List α)(lo hi st:Option HV):Option (List α):=Qs st.isNone (ob (cut l.length 0 lo) fun a=>ob (cut l.length l.length hi) fun b=>some (slc l a b))
def zZn(S:St)(lo hi st:Option HV)(o:HO):R HV:=o.uE (o.ud .no fun l=>hif (isM1 st) (Za (lo.isNone&&hi.isNone) (S.new (.list l.reverse))) ((ofO (zZa l lo hi st) S).bind fun x S=>S.new (.list x)))
 fun l=>(ofO (zZa l lo hi st) S).bind fun x S=>S.new (.barr x)
def Ur(S:St)(lo hi st:Option HV)(v:HV):R HV:=v.onBytes (v.onStr (v.uc .no fun j=>(ofO (S.get j) S).bind fun o S=>zZn S lo hi st o) fun k=>Za (st.isNone&&lo.isNone&&is1 hi) (ofO (ob (P.sub1 k) fun c=>some (.str c)) S))
 fun l=>Za (Nat.ble l.length 1000) ((ofO (zZa l lo hi st) S).bind fun x S=>.ok (.bytes x) S)
def W1(S:St)(j:Nat)(l y:List B8)(a b:Nat):Option St:=Qs (Nat.ble a b&&Nat.beq (b-a) y.length) (L3 P S j (.barr (l.take a++(y++l.drop b))))
def M7(S:St)(j:Nat)(lo hi:Option HV)(y:List B8)(o:HO):Option St:=o.uE none fun l=>ob (cut l.length 0 lo) fun a=>ob (cut l.length l.length hi) fun b=>W1 P S j l y a b
def Us(S:St)(lo hi:Option HV)(v w:HV):Option St:=v.uc none fun j=>w.onBytes none fun y=>ob (S.get j) (M7 P S j lo hi y)
def xJi(m:Int):List HV->Option Int
 |[]=>some m
 |v::r=>v.uf none fun i=>xJi (hif (decide (m<i)) i m) r
def maxL(l:List HV):Option HV:=lsC l none fun v r=>v.uf none fun i=>ob (xJi i r) fun m=>some (.int m)
def lenO(o:HO):Option HV:=o.ud (o.onTup (o.uE none fun l=>some (.int (.ofNat l.length))) fun l=>some (.int (.ofNat l.length))) fun l=>some (.int (.ofNat l.length))
def len1(S:St)(v:HV):Option HV:=v.onBytes (v.uc none fun j=>ob (S.get j) lenO) fun l=>Qs (Nat.ble l.length 1000) (some (.int (.ofNat l.length)))
def maxO(o:HO):Option HV:=o.ud none maxL
def max1(S:St)(v:HV):Option HV:=v.uc none fun j=>ob (S.get j) maxO
def max2(a b:HV):Option HV:=a.uf none fun a=>b.uf none fun b=>some (.int (hif (decide (a<b)) b a))
def xX9(o:HO):Option HV:=o.onTup none fun J=>some (.bool false)
def isStr(S:St)(v:HV):Option HV:=v.uc none fun j=>ob (S.get j) xX9
def xQp(S:St)(v t:HV):Option HV:=t.uW none fun k=>Qs (Nat.beq k 4) (isStr S v)
def xJy(o:HO):Bool:=o.ur false fun es=>ls0 es false true
def qJl(S:St)(v:HV):R HV:=v.uc .no fun j=>(ofO (S.get j) S).bind fun o S=>Za (xJy o) (S.new (.list []))
def qZ6(S:St)(k:Nat)(as:List HV):R HV:=hif (Nat.beq k 0) (ls1 as .no fun v=>ofO (len1 S v) S)<|hif (Nat.beq k 1) (ls1 as (ls2 as .no fun a b=>ofO (max2 a b) S) fun v=>ofO (max1 S v) S)<|
 hif (Nat.beq k 2) (ls2 as .no fun v t=>ofO (xQp S v t) S)<|hif (Nat.beq k 3) (ls1 as .no fun v=>qJl S v) .no
def xZq(v:HV):Option B8:=v.ux none fun n=>Qs (Nat.ble n 255) (some (.lit n))
def Go:List HV->Option (List B8)
 |[]=>some []
 |v::r=>ob (xZq v) fun b=>ob (Go r) fun t=>some (b::t)
def xZo(o:HO):Option HV:=o.uE (o.ud none fun l=>Qs (Nat.ble l.length 1000) (ob (Go l) fun b=>some (.bytes b))) fun l=>some (.bytes l)
def xZp(S:St)(v:HV):Option HV:=v.onBytes (v.uc none fun j=>ob (S.get j) xZo) fun l=>some (.bytes l)
def barr1(S:St)(v:HV):R HV:=v.onBytes .no fun l=>S.new (.barr l)
def xXv(S:St)(o:HO):R HV:=o.ud .no fun l=>S.new (.list l)
def xXw(S:St)(v:HV):R HV:=v.uc .no fun j=>(ofO (S.get j) S).bind fun o S=>xXv S o
def intV(S:St)(v:HV):R HV:=v.uf (v.ug .no fun J=>.ok v S) fun J=>.ok v S
def qZ5(S:St)(k:Nat)(as:List HV):R HV:=hif (Nat.beq k 0) (ls1 as .no fun v=>ofO (xZp S v) S)<|hif (Nat.beq k 1) (ls1 as .no fun v=>barr1 S v)<|hif (Nat.beq k 2) (ls1 as .no fun v=>xXw S v)<|hif (Nat.beq k 3) (ls1 as .no fun v=>intV S v) .no
def Dm:List HV->Option (List B8)
 |[]=>some []
 |v::r=>v.onBytes none fun l=>ob (Dm r) fun t=>some (l++t)
def xJc(S:St)(v:HV):List HV->Option (List HV)
 |[]=>none
 |x::r=>ob (veq P S 6 x v) fun b=>hif b (some r) (ob (xJc S v r) fun t=>some (x::t))
def unit(x:Option St):R HV:=(ofS x).bind fun J S=>.ok .none S
def popL(S:St)(j:Nat)(l:List HV):R HV:=lsC l .no fun v r=>(ofS (L3 P S j (.list r.reverse))).bind fun J S=>.ok v S
def extL(S:St)(j:Nat)(l:List HV)(o:HO):R HV:=o.ud .no fun r=>unit (L3 P S j (.list (l++r)))
def extV(S:St)(j:Nat)(l:List HV)(v:HV):R HV:=v.uc .no fun k=>(ofO (S.get k) S).bind fun o S=>extL P S j l o
def xXp(S:St)(j:Nat)(l:List HV)(m:Nat)(as:List HV):R HV:=hif (Nat.beq m 1) (ls1 as .no fun v=>unit (L3 P S j (.list (l++[v]))))<|hif (Nat.beq m 2) (ls0 as .no (unit (L3 P S j (.list []))))<|
 hif (Nat.beq m 3) (ls1 as .no fun v=>extV P S j l v)<|hif (Nat.beq m 4) (ls0 as .no (popL P S j l.reverse))<|hif (Nat.beq m 5) (ls1 as .no fun v=>unit (ob (xJc P S v l) fun r=>L3 P S j (.list r))) .no
def getD(S:St)(es:List (Nat × HV))(d v:HV):R HV:=v.onStr .no fun k=>.ok (Option.rec (motive:=fun J=>HV) d (fun v=>v) (lk es k)) S
def popD(S:St)(j:Nat)(es:List (Nat × HV))(v:HV):R HV:=v.onStr .no fun k=>(ofO (lk es k) S).bind fun v S=>(ofS (L3 P S j (.dict (rm es k)))).bind fun J S=>.ok v S
def xXq(S:St)(j:Nat)(es:List (Nat × HV))(m:Nat)(as:List HV):R HV:=hif (Nat.beq m 6) (ls2 as .no fun k d=>getD S es d k)<|hif (Nat.beq m 4) (ls1 as .no fun k=>popD P S j es k) .no
def xX1(o:HO):Option (List B8):=o.ud none fun l=>Qs (!Nat.beq l.length 1) (ob (Dm l) fun b=>Qs (Nat.ble b.length 1000) (some b))
def xX2(S:St)(v:HV):Option HV:=v.uc none fun k=>ob (S.get k) fun o=>ob (xX1 o) fun b=>some (.bytes b)
def xXr(S:St)(l:List B8)(m:Nat)(as:List HV):R HV:=hif (Nat.beq m 7) (ls1 as .no fun v=>Za l.isEmpty (ofO (xX2 S v) S)) .no
def xXn(S:St)(k:Nat)(m:Nat)(as:List HV):R HV:=hif (Nat.beq m 8) (ls0 as .no (ofO (ob (P.low k) fun c=>some (.str c)) S)) .no
def xXo(S:St)(j m:Nat)(as:List HV)(o:HO):R HV:=o.ud (o.ur .no fun es=>xXq P S j es m as) fun l=>xXp P S j l m as
def Ph(S:St)(m:Nat)(as:List HV)(v:HV):R HV:=v.uc (v.onBytes (v.onStr .no fun k=>xXn P S k m as) fun l=>xXr S l m as) fun j=>(ofO (S.get j) S).bind fun o S=>xXo P S j m as o
noncomputable def kcO:HO->Nat
 |.list _=>0|.tup _=>1|.dict _=>2|_=>3
def kcV(S:St):HV->Nat
 |.obj j=>Option.rec (motive:=fun J=>Nat) 3 kcO (S.get j)
 |_=>3
def Zs(S:St):List HV->Nat
 |[a]=>kcV S a
 |[a,b]=>kcV S a*4+kcV S b
 |_=>3
def xQi(es:List (Nat × HV))(i:Nat):Option HV:=ob (nth es i) fun p=>some (.str p.1)
def seqO(n0 i:Nat)(o:HO):Option (Option HV):=o.ud (o.onTup (o.ur none fun es=>Qs (Nat.beq n0 2) (some (xQi es i))) fun l=>Qs (Nat.beq n0 1) (some (nth l i))) fun l=>Qs (Nat.beq n0 0) (some (nth l i))
def Ll(S:St)(n0 i:Nat)(v:HV):Option (Option HV):=v.uc none fun j=>ob (S.get j) (seqO n0 i)
def seqK(fz:Bool)(o:HO):Bool:=o.ud (o.onTup (o.ur false fun J=>fz) fun J=>true) fun J=>true
def zZp(o:HO):Bool:=o.ud (o.onTup false fun J=>true) fun J=>true
def seqT(o:HO):Bool:=o.onTup false fun J=>true
def isO(f:HO->Bool)(S:St)(v:HV):Bool:=v.uc false fun j=>Option.rec (motive:=fun J=>Bool) false f (S.get j)
def isK(S:St)(v:HV):Bool:=v.uc false fun j=>Option.rec (motive:=fun J=>Bool) false (seqK (P.T0.get j).isSome) (S.get j)
def isN(v:HV):Bool:=v.ux false fun n=>Nat.ble n 1000
def Ym(S:St)(k:Nat)(vs:List HV):Bool:=hif (Nat.beq k 0) (ls1 vs false (isK P S))<|hif (Nat.beq k 1) (ls1 vs false isN)<|hif (Nat.beq k 2) (ls2 vs false fun a b=>isO zZp S a&&isO zZp S b)<|hif (Nat.beq k 3) (ls1 vs false (isO seqT S)) false
def one1(x:Option HV):Option (List HV):=ob x fun v=>some [v]
def xZ7(x y:Option HV):Option (List HV):=ob x fun v=>ob y fun w=>some [v,w]
def xJ7(i:Nat)(v:HV):Option (Option (List HV)):=v.ux none fun n=>some (Qs (Nat.ble (i+1) n) (some [.int (.ofNat i)]))
def Yg(S:St)(k:Nat)(vs:List HV)(n0 i:Nat):Option (Option (List HV)):=hif (Nat.beq k 0) (ls1 vs none fun v=>ob (Ll S n0 i v) fun x=>some (one1 x))<|hif (Nat.beq k 1) (ls1 vs none (xJ7 i))<|
 hif (Nat.beq k 2) (ls2 vs none fun a b=>ob (Ll S (n0/4) i a) fun x=>ob (Ll S (n0%4) i b) fun y=>some (xZ7 x y))<|hif (Nat.beq k 3) (ls1 vs none fun a=>ob (Ll S n0 i a) fun x=>some (xZ7 (some (.int (.ofNat i))) x)) none
def Vy(S:St):List Nat->List HV->Option St
 |[],[]=>some S
 |i::r,v::t=>Vy (S.sto i v) r t
 |_,_=>none
def xJv(o:HO):Option (List HV):=o.onTup none some
def unp(S:St)(v:HV):Option (List HV):=v.uc none fun j=>ob (S.get j) xJv
def xZt(S:St)(tgt:List Nat)(vs:List HV):Option St:=match vs with
 |[v]=>ob (unp S v) (Vy S tgt)
 |vs=>Vy S tgt vs
def Wc(S:St)(tgt:List Nat)(one:Bool)(vs:List HV):Option St:=hif one (Vy S tgt vs) (xZt S tgt vs)
section
variable(ev:HE->St->R HV)(ts:HE->St->R Bool)(xs:List HS->St->R Fl)
def evs(l:List HE):St->R (List HV):=
 List.rec (motive:=fun J=>St->R (List HV)) (fun S=>.ok [] S) (fun e J ih S=>(ev e S).bind fun v S=>(ih S).bind fun vs S=>.ok (v::vs) S) l
def evo(o:Option HE)(S:St):R (Option HV):=Option.rec (motive:=fun J=>R (Option HV)) (.ok none S) (fun e=>(ev e S).bind fun v S=>.ok (some v) S) o
def qXe(S:St)(f:Fl)(S':St):R HV:=Fl.rec (motive:=fun J=>R HV) (.ok .none (S'.back S)) (fun v=>.ok v (S'.back S)) f
def xZm(f:Fn)(as:List HV)(S:St):R HV:=Za (Nat.beq as.length f.ps.length) ((xs f.body ⟨S.t,S.n,f.ps.zip as⟩).bind (qXe S))
def qQ6(f:Fn)(as:List HV)(S:St):R HV:=xZm xs f (as++f.ds.drop (f.ds.length-(f.ps.length-as.length))) S
def Zn(g:Nat)(as:List HV)(S:St):R HV:=hif (P.isOr g) (P.orac g as S) ((ofO (P.fns g) S).bind fun f S=>qQ6 xs f as S)
def isNone(v:HV):Bool:=v.uq false true
def initC(c:Nat)(as:List HV)(o:HV)(S:St):R HV:=(ofO (P.inits c) S).bind fun g S=>(Zn P xs g (o::as) S).bind fun v S=>Za (isNone v) (.ok o S)
def instC(c:Nat)(as:List HV)(d:HV)(S:St):R HV:=d.uc .no fun d=>(S.new (.inst c d)).bind (initC P xs c as)
def xZn(c:Nat)(as:List HV)(S:St):R HV:=(S.new (.ns [])).bind (instC P xs c as)
def zQy(as:List HV)(S:St):HV->R HV
 |.fn g=>Zn P xs g as S
 |.cls c=>xZn P xs c as S
 |.bi k=>qZ6 S k as
 |.typ k=>qZ5 S k as
 |_=>.no
def tsts(isAnd:Bool)(l:List HE):St->R Bool:=
 List.rec (motive:=fun J=>St->R Bool) (fun S=>.ok isAnd S) (fun e J ih S=>(ts e S).bind fun b S=>hif (Mm b isAnd) (ih S) (.ok b S)) l
def Bd(v:HV)(S:St):R Bool:=ofO (M0 S v) S
def bos(isAnd:Bool):List HE->St->R HV
 |[],_=>.no
 |[e],S=>ev e S
 |e::r,S=>(ev e S).bind fun v S=>(Bd v S).bind fun b S=>hif (Mm b isAnd) (bos isAnd r S) (.ok v S)
noncomputable def qQ0(cond:Option HE)(S:St):R Bool:=Option.rec (motive:=fun J=>R Bool) (.ok true S) (fun c=>ts c S) cond
def compT(go:St->R (List HV))(elt:HE)(b:Bool)(S:St):R (List HV):=hif b ((ev elt S).bind fun v S=>(go S).bind fun l S=>.ok (v::l) S) (go S)
def zQw(elt:HE)(tgt:List Nat)(one:Bool)(cond:Option HE)(go:St->R (List HV))(vs:List HV)(S:St):R (List HV):=
 (ofS (Wc S tgt one vs)).bind fun J S=>(qQ0 ts cond S).bind (compT ev go elt)
def Vs(elt:HE)(tgt:List Nat)(one:Bool)(cond:Option HE)(k:Nat)(vs:List HV)(n0:Nat)(f:Nat):Nat->St->R (List HV):=
 Nat.rec (motive:=fun J=>Nat->St->R (List HV)) (fun J J=>.no)
  (fun J ih i S=>(ofO (Yg S k vs n0 i) S).bind fun t S=>Option.rec (motive:=fun J=>R (List HV)) (.ok [] S) (fun vs=>zQw ev ts elt tgt one cond (ih (i+1)) vs S) t) f
noncomputable def zQg(go:St->R Fl)(f:Fl)(S:St):R Fl:=Fl.rec (motive:=fun J=>R Fl) (go S) (fun v=>.ok (.ret v) S) f
def forB(tgt:List Nat)(one:Bool)(b:List HS)(go:St->R Fl)(vs:List HV)(S:St):R Fl:=(ofS (Wc S tgt one vs)).bind fun J S=>(xs b S).bind (zQg go)
def xJn(tgt:List Nat)(one:Bool)(b:List HS)(k:Nat)(vs:List HV)(n0:Nat)(f:Nat):Nat->St->R Fl:=
 Nat.rec (motive:=fun J=>Nat->St->R Fl) (fun J J=>.no)
  (fun J ih i S=>(ofO (Yg S k vs n0 i) S).bind fun t S=>Option.rec (motive:=fun J=>R Fl) (.ok .next S) (fun vs=>forB xs tgt one b (ih (i+1)) vs S) t) f
def whL(t:HE)(b:List HS)(f:Nat):St->R Fl:=
 Nat.rec (motive:=fun J=>St->R Fl) (fun J=>.no) (fun J ih S=>(ts t S).bind fun c S=>hif c ((xs b S).bind (zQg ih)) (.ok .next S)) f
def eX(i:Nat)(S:St):R HV:=ofO (lk S.loc i) S
def eAtt(o:HE)(i:Nat)(S:St):R HV:=(ev o S).bind fun v S=>ofO (attr P S i v) S
def eBin(op:Nat)(a b:HE)(S:St):R HV:=(ev a S).bind fun x S=>(ev b S).bind fun y S=>xZs P S op x y
def boolR(x:Option Bool)(S:St):R HV:=(ofO x S).bind fun b S=>.ok (.bool b) S
def xZc(op:Nat)(a b:HE)(S:St):R HV:=(ev a S).bind fun x S=>(ev b S).bind fun y S=>boolR (xZj P S op x y) S
def eNot(a:HE)(S:St):R HV:=(ev a S).bind fun v S=>(Bd v S).bind fun b S=>.ok (.bool (!b)) S
def negV(S:St)(v:HV):R HV:=v.uf .no fun i=>.ok (.int (-i)) S
def eNeg(a:HE)(S:St):R HV:=(ev a S).bind fun v S=>negV S v
def eIte(t a b:HE)(S:St):R HV:=(ts t S).bind fun c S=>hif c (ev a S) (ev b S)
def eLst(l:List HE)(S:St):R HV:=(evs ev l S).bind fun vs S=>S.new (.list vs)
def eTup(l:List HE)(S:St):R HV:=(evs ev l S).bind fun vs S=>S.new (.tup vs)
def eDct(ks:List Nat)(l:List HE)(S:St):R HV:=(evs ev l S).bind fun vs S=>Za (Nat.beq ks.length vs.length) (S.new (.dict (ks.zip vs)))
def zQr(elt:HE)(tgt:List Nat)(one:Bool)(k:Nat)(its:List HE)(cond:Option HE)(S:St):R HV:=
 (evs ev its S).bind fun vs S=>Za (Ym P S k vs) ((Vs ev ts elt tgt one cond k vs (Zs S vs) 64 0 ⟨S.t,S.n,without S.loc tgt⟩).bind fun l S'=>(S'.back S).new (.list l))
def xZd(f:HE)(as:List HE)(S:St):R HV:=(ev f S).bind fun f S=>(evs ev as S).bind fun vs S=>zQy P xs vs S f
noncomputable def HO.kd:HO->Nat
 |.list _=>1|.tup _=>2|.dict _=>3|.barr _=>4|.ns _=>5|.inst c _=>30+c|.tab _=>6|.code=>7
def kdO(o:Option HO):Nat:=Option.rec (motive:=fun J=>Nat) 0 HO.kd o
def kdV(S:St)(v:HV):Nat:=v.uc (v.onBytes (v.onStr 0 fun J=>21) fun J=>20) fun j=>kdO (S.get j)
def bmK(S1:St)(m:Nat)(v:HV)(vs:List HV)(S:St):R HV:=Za (Nat.beq (kdV S1 v) (kdV S v)) (Ph P S m vs v)
def noAt(m:Nat)(o:HO):Bool:=o.uU false fun es=>(lk es m).isNone
def clsO(S:St)(m:Nat)(o:HO):Option Nat:=o.uD none fun c d=>ob (S.get d) fun o=>Qs (noAt m o) (P.meths c m)
def clsV(S:St)(m:Nat)(v:HV):Option Nat:=v.uc none fun j=>ob (S.get j) (clsO P S m)
def xZb(o:HE)(m:Nat)(as:List HE)(S:St):R HV:=(ev o S).bind fun v S=>Option.rec (motive:=fun J=>R HV)
 ((evs ev as S).bind (bmK P S m v)) (fun g=>(evs ev as S).bind fun vs S=>Zn P xs g (v::vs) S) (clsV P S m v)
def eSub(o i:HE)(S:St):R HV:=(ev o S).bind fun v S=>(ev i S).bind fun w S=>ofO (item P S w v) S
def eSl(o:HE)(lo hi st:Option HE)(S:St):R HV:=(ev o S).bind fun v S=>(evo ev lo S).bind fun a S=>(evo ev hi S).bind fun b S=>(evo ev st S).bind fun c S=>Ur P S a b c v
def evE(e:HE)(S:St):R HV:=match e with
 |.c v=>.ok v S
 |.x i=>eX i S
 |.gv _ v=>.ok v S
 |.att o i=>eAtt P ev o i S
 |.bin op a b=>eBin P ev op a b S
 |.cmp op a b=>xZc P ev op a b S
 |.bo isAnd l=>bos ev isAnd l S
 |.not a=>eNot ev a S
 |.neg a=>eNeg ev a S
 |.ite t a b=>eIte ev ts t a b S
 |.lst l=>eLst ev l S
 |.tup l=>eTup ev l S
 |.dct ks l=>eDct ev ks l S
 |.comp elt tgt one k its cond=>zQr P ev ts elt tgt one k its cond S
 |.call f as=>xZd P ev xs f as S
 |.meth o m as=>xZb P ev xs o m as S
 |.sub o i=>eSub P ev o i S
 |.sl o lo hi st=>eSl P ev o lo hi st S
 |.stuck=>.no
def tsD(e:HE)(S:St):R Bool:=(ev e S).bind Bd
def tsE(e:HE)(S:St):R Bool:=match e with
 |.not a=>(ts a S).bind fun b S=>.ok (!b) S
 |.bo isAnd l=>tsts ts isAnd l S
 |.ite t a b=>(ts t S).bind fun c S=>hif c (ts a S) (ts b S)
 |.cmp op a b=>(xZc P ev op a b S).bind Bd
 |.stuck=>.no
 |e=>tsD ev e S
def next(x:R Unit):R Fl:=x.bind fun J S=>.ok .next S
def sEx(e:HE)(S:St):R Fl:=(ev e S).bind fun J S=>.ok .next S
def sRet(e:HE)(S:St):R Fl:=(ev e S).bind fun v S=>.ok (.ret v) S
def sAsN(i:Nat)(e:HE)(S:St):R Fl:=(ev e S).bind fun v S=>.ok .next (S.sto i v)
def sAsA(o:HE)(i:Nat)(e:HE)(S:St):R Fl:=(ev e S).bind fun v S=>(ev o S).bind fun w S=>next (ofS (G7 P S i v w))
def sAsS(o i:HE)(e:HE)(S:St):R Fl:=(ev e S).bind fun v S=>(ev o S).bind fun w S=>(ev i S).bind fun k S=>next (ofS (G6 P S k v w))
def sAsL(o:HE)(lo hi:Option HE)(e:HE)(S:St):R Fl:=
 (ev e S).bind fun v S=>(ev o S).bind fun w S=>(evo ev lo S).bind fun a S=>(evo ev hi S).bind fun b S=>next (ofS (Us P S a b w v))
def sAsT(tgt:List Nat)(e:HE)(S:St):R Fl:=(ev e S).bind fun v S=>next (ofS (ob (unp S v) (Vy S tgt)))
def sAsX(tgt:List Nat)(es:List HE)(S:St):R Fl:=(evs ev es S).bind fun vs S=>next (ofS (Vy S tgt vs))
def sIte(t:HE)(a b:List HS)(S:St):R Fl:=(ts t S).bind fun c S=>hif c (xs a S) (xs b S)
def xJb(tgt:List Nat)(one:Bool)(k:Nat)(its:List HE)(b:List HS)(S:St):R Fl:=
 (evs ev its S).bind fun vs S=>Za (Ym P S k vs) (xJn xs tgt one b k vs (Zs S vs) 64 0 S)
def qZ3(elt:HE)(t1:List Nat)(o1:Bool)(t2:List Nat)(o2:Bool)(k2:Nat)(i2:List HE)(cond:Option HE)(go:St->R (List HV))(ys:List HV)(S:St):R (List HV):=
 (ofS (Wc S t1 o1 ys)).bind fun J S=>(evs ev i2 S).bind fun vs S=>Za (Ym P S k2 vs) ((Vs ev ts elt t2 o2 cond k2 vs (Zs S vs) 64 0 S).bind fun l S=>(go S).bind fun m S=>.ok (l++m) S)
def Ub(elt:HE)(t1:List Nat)(o1:Bool)(t2:List Nat)(o2:Bool)(k2:Nat)(i2:List HE)(cond:Option HE)(k:Nat)(vs:List HV)(n0:Nat)(f:Nat):Nat->St->R (List HV):=
 Nat.rec (motive:=fun J=>Nat->St->R (List HV)) (fun J J=>.no)
  (fun J ih i S=>(ofO (Yg S k vs n0 i) S).bind fun t S=>Option.rec (motive:=fun J=>R (List HV)) (.ok [] S) (fun ys=>qZ3 P ev ts elt t1 o1 t2 o2 k2 i2 cond (ih (i+1)) ys S) t) f
def V9(elt:HE)(t1:List Nat)(o1:Bool)(k1:Nat)(i1:List HE)(t2:List Nat)(o2:Bool)(k2:Nat)(i2:List HE)(cond:Option HE)(S:St):R HV:=
 (evs ev i1 S).bind fun vs S=>Za (Ym P S k1 vs) ((Ub P ev ts elt t1 o1 t2 o2 k2 i2 cond k1 vs (Zs S vs) 64 0 ⟨S.t,S.n,without S.loc (t1++t2)⟩).bind fun l S'=>(S'.back S).new (.list l))
def xJ4(i:Nat)(elt:HE)(t1:List Nat)(o1:Bool)(k1:Nat)(i1:List HE)(t2:List Nat)(o2:Bool)(k2:Nat)(i2:List HE)(cond:Option HE)(S:St):R Fl:=
 (V9 P ev ts elt t1 o1 k1 i1 t2 o2 k2 i2 cond S).bind fun v S=>.ok .next (S.sto i v)
def exS(s:HS)(S:St):R Fl:=match s with
 |.ex e=>sEx ev e S
 |.ret e=>sRet ev e S
 |.asN i e=>sAsN ev i e S
 |.asA o i e=>sAsA P ev o i e S
 |.asS o i e=>sAsS P ev o i e S
 |.asL o lo hi e=>sAsL P ev o lo hi e S
 |.asT tgt e=>sAsT ev tgt e S
 |.asX tgt es=>sAsX ev tgt es S
 |.ite t a b=>sIte ts xs t a b S
 |.wh t b=>whL ts xs t b 64 S
 |.fr tgt one k its b=>xJb P ev xs tgt one k its b S
 |.pass=>.ok .next S
 |.tr b=>xs b S
 |.stuck=>.no
 |.asC2 i elt t1 o1 k1 i1 t2 o2 k2 i2 cond=>xJ4 P ev ts i elt t1 o1 k1 i1 t2 o2 k2 i2 cond S
def exsS(l:List HS):St->R Fl:=
 List.rec (motive:=fun J=>St->R Fl) (fun S=>.ok .next S) (fun s J ih S=>(exS P ev ts xs s S).bind (zQg ih)) l
end
def eng(n:Nat):Eng:=Nat.rec (motive:=fun J=>Eng) ⟨fun J J=>.no,fun J J=>.no,fun J J=>.no⟩ (fun J g=>⟨evE P g.ev g.ts g.xs,tsE P g.ev g.ts,exsS P g.ev g.ts g.xs⟩) n
noncomputable def zZy(T:Tr):Par:=⟨T,P.cand,P.nmv,P.fns,P.meths,P.inits,P.orac,fun J=>false,P.sub1,P.low,P.cat,P.atts,P.sop⟩
def xJ8(n g:Nat)(as:List HV)(S:St):R HV:=Zn (zZy P S.t) (eng (zZy P S.t) n).xs g as S
end
open Lean in
def qx(a:List Syntax):List String->List Syntax->Syntax
 |c::r::l,s=>qx a l (
  if c=="." then .atom .none r::s else if c=="@" then(mkCIdent r.toName).raw::s else if c=="$" then a.getD r.length .missing::s else
   .node .none (if r=="n" then nullKind else("Lean.Parser."++r).toName) (s.take c.length).reverse.toArray::s.drop c.length)
 |_,s=>s.headD .missing
open Lean in
def q(a:List Syntax)(x:String):Syntax:=qx a (x.splitOn " ") []
def qi(p s l:String):String:=p++(s++p).intercalate (l.splitOn " ")++s
theorem Qo{α:Type}{a:α}{S:St}{G:Prop}(h:R.no=R.ok a S):G:=R.noConfusion rfl (heq_of_eq h)
theorem Qh{α:Type}{a:α}{G:Prop}(h:none=some a):G:=by cases h
theorem zZm{α:Type}{a:α}{G:Prop}(h:some a=none):G:=by cases h
theorem Qg{G:Prop}(h:false=true):G:=by cases h
theorem xJw{G:Prop}(h:true=false):G:=by cases h
theorem xXj{α:Type}{a:α}{l:List α}{G:Prop}(h:[]=a::l):G:=by cases h
theorem co_ni{α:Type}{a:α}{l:List α}{G:Prop}(h:a::l=[]):G:=by cases h
theorem xJz{α:Type}{a b:α}(h:some a=some b){G:Prop}(k:a=b->G):G:=by cases h;exact k rfl
theorem ok_k{α:Type}{a b:α}{S T:St}(h:R.ok a S=R.ok b T){G:Prop}(k:a=b->S=T->G):G:=by cases h;exact k rfl rfl
theorem co_k{α:Type}{a b:α}{S T:List α}(h:a::S=b::T){G:Prop}(k:a=b->S=T->G):G:=by cases h;exact k rfl rfl
theorem aK{a b:Bool}{G:Prop}(h:(a&&b)=true)(k:a=true->b=true->G):G:=k (Bool.and_eq_true_iff.mp h).1 (Bool.and_eq_true_iff.mp h).2
theorem in0{α:Type}{a:α}{l:List α}:a∈a::l:=.head _
theorem in1{α:Type}{a b:α}{l:List α}:a∈b::a::l:=.tail _ in0
theorem in2{α:Type}{a b c:α}{l:List α}:a∈b::c::a::l:=.tail _ in1
theorem in3{α:Type}{a b c d:α}{l:List α}:a∈b::c::d::a::l:=.tail _ in2
theorem in4{α:Type}{a b c d e:α}{l:List α}:a∈b::c::d::e::a::l:=.tail _ in3
theorem nin{α:Type}{a b:α}{l:List α}(n:a∉l)(h:b∈l):a≠b:=fun q=>n (q▸h)
theorem fn0{α:Type}{P:α->Prop}:∀a∈([]:List α),P a:=fun J h=>(List.not_mem_nil h).elim
theorem fc{α:Type}{P:α->Prop}{b:α}{l:List α}(h:P b)(k:∀a∈l,P a):∀a∈b::l,P a:=List.forall_mem_cons.mpr ⟨h,k⟩
theorem pr_k{α β:Type}{a b:α}{S T:β}(h:(a,S)=(b,T)){G:Prop}(k:a=b->S=T->G):G:=by cases h;exact k rfl rfl
inductive F2{α β:Type}(r:α->β->Prop):List α->List β->Prop
 |nil:F2 r [] []
 |cons {a b l m}:r a b->F2 r l m->F2 r (a::l) (b::m)
theorem F2.nil_k{α β:Type}{r:α->β->Prop}{m:List β}(h:F2 r [] m){G:Prop}(k:m=[]->G):G:=by cases h;exact k rfl
theorem F2.co_k{α β:Type}{r:α->β->Prop}{a:α}{l:List α}{m:List β}(h:F2 r (a::l) m){G:Prop}(k:∀b n,m=b::n->r a b->F2 r l n->G):G:=by cases h with|cons x y=>exact k _ _ rfl x y
theorem x0a2{p q:Prop}{G:Prop}(h:p/\q)(k:p->q->G):G:=k h.1 h.2
theorem x1a1{α:Sort _}{p:α->Prop}{G:Prop}(h:∃a,p a)(k:∀a,p a->G):G:=h.elim fun a h=>k a h
theorem x0a3{p q r:Prop}{G:Prop}(h:p/\q/\r)(k:p->q->r->G):G:=k h.1 h.2.1 h.2.2
theorem x1a2{α:Sort _}{p q:α->Prop}{G:Prop}(h:∃a,p a/\q a)(k:∀a,p a->q a->G):G:=h.elim fun a h=>k a h.1 h.2
theorem x2a1{α β:Sort _}{p:α->β->Prop}{G:Prop}(h:∃a b,p a b)(k:∀a b,p a b->G):G:=h.elim fun a h=>h.elim fun b h=>k a b h
theorem x0a4{p q r s:Prop}{G:Prop}(h:p/\q/\r/\s)(k:p->q->r->s->G):G:=k h.1 h.2.1 h.2.2.1 h.2.2.2
theorem x1a3{α:Sort _}{p q r:α->Prop}{G:Prop}(h:∃a,p a/\q a/\r a)(k:∀a,p a->q a->r a->G):G:=h.elim fun a h=>k a h.1 h.2.1 h.2.2
theorem x2a2{α β:Sort _}{p q:α->β->Prop}{G:Prop}(h:∃a b,p a b/\q a b)(k:∀a b,p a b->q a b->G):G:=h.elim fun a h=>h.elim fun b h=>k a b h.1 h.2
theorem x3a1{α β γ:Sort _}{p:α->β->γ->Prop}{G:Prop}(h:∃a b c,p a b c)(k:∀a b c,p a b c->G):G:=h.elim fun a h=>h.elim fun b h=>h.elim fun c h=>k a b c h
theorem x0a5{p q r s t:Prop}{G:Prop}(h:p/\q/\r/\s/\t)(k:p->q->r->s->t->G):G:=k h.1 h.2.1 h.2.2.1 h.2.2.2.1 h.2.2.2.2
theorem x1a4{α:Sort _}{p q r s:α->Prop}{G:Prop}(h:∃a,p a/\q a/\r a/\s a)(k:∀a,p a->q a->r a->s a->G):G:=h.elim fun a h=>k a h.1 h.2.1 h.2.2.1 h.2.2.2
theorem x2a3{α β:Sort _}{p q r:α->β->Prop}{G:Prop}(h:∃a b,p a b/\q a b/\r a b)(k:∀a b,p a b->q a b->r a b->G):G:=h.elim fun a h=>h.elim fun b h=>k a b h.1 h.2.1 h.2.2
theorem x3a2{α β γ:Sort _}{p q:α->β->γ->Prop}{G:Prop}(h:∃a b c,p a b c/\q a b c)(k:∀a b c,p a b c->q a b c->G):G:=h.elim fun a h=>h.elim fun b h=>h.elim fun c h=>k a b c h.1 h.2
theorem x4a1{α β γ δ:Sort _}{p:α->β->γ->δ->Prop}{G:Prop}(h:∃a b c d,p a b c d)(k:∀a b c d,p a b c d->G):G:=h.elim fun a h=>h.elim fun b h=>h.elim fun c h=>h.elim fun d h=>k a b c d h
theorem x0a6{p q r s t u:Prop}{G:Prop}(h:p/\q/\r/\s/\t/\u)(k:p->q->r->s->t->u->G):G:=k h.1 h.2.1 h.2.2.1 h.2.2.2.1 h.2.2.2.2.1 h.2.2.2.2.2
theorem x1a5{α:Sort _}{p q r s t:α->Prop}{G:Prop}(h:∃a,p a/\q a/\r a/\s a/\t a)(k:∀a,p a->q a->r a->s a->t a->G):G:=h.elim fun a h=>k a h.1 h.2.1 h.2.2.1 h.2.2.2.1 h.2.2.2.2
theorem x2a4{α β:Sort _}{p q r s:α->β->Prop}{G:Prop}(h:∃a b,p a b/\q a b/\r a b/\s a b)(k:∀a b,p a b->q a b->r a b->s a b->G):G:=h.elim fun a h=>h.elim fun b h=>k a b h.1 h.2.1 h.2.2.1 h.2.2.2
theorem x3a3{α β γ:Sort _}{p q r:α->β->γ->Prop}{G:Prop}(h:∃a b c,p a b c/\q a b c/\r a b c)(k:∀a b c,p a b c->q a b c->r a b c->G):G:=h.elim fun a h=>h.elim fun b h=>h.elim fun c h=>k a b c h.1 h.2.1 h.2.2
theorem x4a2{α β γ δ:Sort _}{p q:α->β->γ->δ->Prop}{G:Prop}(h:∃a b c d,p a b c d/\q a b c d)(k:∀a b c d,p a b c d->q a b c d->G):G:=h.elim fun a h=>h.elim fun b h=>h.elim fun c h=>h.elim fun d h=>k a b c d h.1 h.2
theorem x0a7{p q r s t u v:Prop}{G:Prop}(h:p/\q/\r/\s/\t/\u/\v)(k:p->q->r->s->t->u->v->G):G:=k h.1 h.2.1 h.2.2.1 h.2.2.2.1 h.2.2.2.2.1 h.2.2.2.2.2.1 h.2.2.2.2.2.2
theorem x1a6{α:Sort _}{p q r s t u:α->Prop}{G:Prop}(h:∃a,p a/\q a/\r a/\s a/\t a/\u a)(k:∀a,p a->q a->r a->s a->t a->u a->G):G:=h.elim fun a h=>k a h.1 h.2.1 h.2.2.1 h.2.2.2.1 h.2.2.2.2.1 h.2.2.2.2.2
theorem x2a5{α β:Sort _}{p q r s t:α->β->Prop}{G:Prop}(h:∃a b,p a b/\q a b/\r a b/\s a b/\t a b)(k:∀a b,p a b->q a b->r a b->s a b->t a b->G):G:=h.elim fun a h=>h.elim fun b h=>k a b h.1 h.2.1 h.2.2.1 h.2.2.2.1 h.2.2.2.2
theorem x3a4{α β γ:Sort _}{p q r s:α->β->γ->Prop}{G:Prop}(h:∃a b c,p a b c/\q a b c/\r a b c/\s a b c)(k:∀a b c,p a b c->q a b c->r a b c->s a b c->G):G:=h.elim fun a h=>h.elim fun b h=>h.elim fun c h=>k a b c h.1 h.2.1 h.2.2.1 h.2.2.2
theorem x4a3{α β γ δ:Sort _}{p q r:α->β->γ->δ->Prop}{G:Prop}(h:∃a b c d,p a b c d/\q a b c d/\r a b c d)(k:∀a b c d,p a b c d->q a b c d->r a b c d->G):G:=h.elim fun a h=>h.elim fun b h=>h.elim fun c h=>h.elim fun d h=>k a b c d h.1 h.2.1 h.2.2
theorem F2.k1{α β:Type}{r:α->β->Prop}{a:α}{m:List β}(h:F2 r [a] m){G:Prop}(k:∀b,m=[b]->r a b->G):G:=F2.co_k h fun b n e x y=>F2.nil_k y fun e'=>k b (by rw[e,e']) x
theorem F2.k2{α β:Type}{r:α->β->Prop}{a c:α}{m:List β}(h:F2 r [a,c] m){G:Prop}(k:∀b d,m=[b,d]->r a b->r c d->G):G:=F2.co_k h fun b n e x y=>F2.k1 y fun d e' z=>k b d (by rw[e,e']) x z
theorem Yj{α:Type}{v:HV}{d r:α}{f:α}{G:Prop}(k:v=.none->f=r->G)(n:d=r->G)(h:v.uq d f=r):G:=by cases v<;>first|exact n h|exact k rfl h
theorem Yl{α:Type}{v:HV}{d r:α}{f:Bool->α}{G:Prop}(k:∀a,v=.bool a->f a=r->G)(n:d=r->G)(h:v.onBool d f=r):G:=by cases v<;>first|exact n h|exact k _ rfl h
theorem Q5{α:Type}{v:HV}{d r:α}{f:Int->α}{G:Prop}(k:∀a,v=.int a->f a=r->G)(n:d=r->G)(h:v.uf d f=r):G:=by cases v<;>first|exact n h|exact k _ rfl h
theorem Zm{α:Type}{v:HV}{d r:α}{f:Nat->α}{G:Prop}(k:∀a,v=.str a->f a=r->G)(n:d=r->G)(h:v.onStr d f=r):G:=by cases v<;>first|exact n h|exact k _ rfl h
theorem Xj{α:Type}{v:HV}{d r:α}{f:Nat->α}{G:Prop}(k:∀a,v=.sstr a->f a=r->G)(n:d=r->G)(h:v.uy d f=r):G:=by cases v<;>first|exact n h|exact k _ rfl h
theorem Q0{α:Type}{v:HV}{d r:α}{f:List B8->α}{G:Prop}(k:∀a,v=.bytes a->f a=r->G)(n:d=r->G)(h:v.onBytes d f=r):G:=by cases v<;>first|exact n h|exact k _ rfl h
theorem zZi{α:Type}{v:HV}{d r:α}{f:Nat->α}{G:Prop}(k:∀a,v=.typ a->f a=r->G)(n:d=r->G)(h:v.uW d f=r):G:=by cases v<;>first|exact n h|exact k _ rfl h
theorem Qv{α:Type}{v:HV}{d r:α}{f:Nat->α}{G:Prop}(k:∀a,v=.obj a->f a=r->G)(n:d=r->G)(h:v.uc d f=r):G:=by cases v<;>first|exact n h|exact k _ rfl h
theorem Zk{α:Type}{v:HV}{d r:α}{f:Nat->α}{G:Prop}(k:∀a,v=.sint a->f a=r->G)(n:d=r->G)(h:v.ug d f=r):G:=by cases v<;>first|exact n h|exact k _ rfl h
theorem Q3{α:Type}{v:HO}{d r:α}{f:List HV->α}{G:Prop}(k:∀a,v=.list a->f a=r->G)(n:d=r->G)(h:v.ud d f=r):G:=by cases v<;>first|exact n h|exact k _ rfl h
theorem Zx{α:Type}{v:HO}{d r:α}{f:List HV->α}{G:Prop}(k:∀a,v=.tup a->f a=r->G)(n:d=r->G)(h:v.onTup d f=r):G:=by cases v<;>first|exact n h|exact k _ rfl h
theorem Ji{α:Type}{v:HO}{d r:α}{f:List (Nat × HV)->α}{G:Prop}(k:∀a,v=.dict a->f a=r->G)(n:d=r->G)(h:v.ur d f=r):G:=by cases v<;>first|exact n h|exact k _ rfl h
theorem Un{α:Type}{v:HO}{d r:α}{f:List B8->α}{G:Prop}(k:∀a,v=.barr a->f a=r->G)(n:d=r->G)(h:v.uE d f=r):G:=by cases v<;>first|exact n h|exact k _ rfl h
theorem Um{α:Type}{v:HO}{d r:α}{f:Nat->Nat->α}{G:Prop}(k:∀a b,v=.inst a b->f a b=r->G)(n:d=r->G)(h:v.uD d f=r):G:=by cases v<;>first|exact n h|exact k _ _ rfl h
theorem qJf{α:Type}{v:HO}{d r:α}{f:List (Nat × HV)->α}{G:Prop}(k:∀a,v=.ns a->f a=r->G)(n:d=r->G)(h:v.uU d f=r):G:=by cases v<;>first|exact n h|exact k _ rfl h
theorem Kq{α:Type}{v:HV}{d r:α}{f:Nat->α}{G:Prop}(k:∀a,v=.int (.ofNat a)->f a=r->G)(n:d=r->G)(h:v.ux d f=r):G:=Q5 (fun i e h=>by cases i with|ofNat a=>exact k a e h|negSucc a=>exact n h) n h
theorem un0{β α:Type}{l:List β}{d x r:α}{G:Prop}(k:l=[]->x=r->G)(n:d=r->G)(h:ls0 l d x=r):G:=by cases l<;>first|exact n h|exact k rfl h
theorem un1{β α:Type}{l:List β}{d r:α}{f:β->α}{G:Prop}(k:∀a,l=[a]->f a=r->G)(n:d=r->G)(h:ls1 l d f=r):G:=by cases l<;>first|exact n h|exact un0 (fun e h=>k _ (by rw[e]) h) n h
theorem un2{β α:Type}{l:List β}{d r:α}{f:β->β->α}{G:Prop}(k:∀a b,l=[a,b]->f a b=r->G)(n:d=r->G)(h:ls2 l d f=r):G:=by cases l<;>first|exact n h|exact un1 (fun b e h=>k _ b (by rw[e]) h) n h
theorem unC{β α:Type}{l:List β}{d r:α}{f:β->List β->α}{G:Prop}(k:∀a m,l=a::m->f a m=r->G)(n:d=r->G)(h:lsC l d f=r):G:=by cases l<;>first|exact n h|exact k _ _ rfl h
theorem Zg{α:Type}{m k:Nat}{x y r:α}{G:Prop}(p:m=k->x=r->G)(n:y=r->G)(h:hif (Nat.beq m k) x y=r):G:=by
 cases e:Nat.beq m k with
 |true=>rw[e]at h;exact p (Nat.eq_of_beq_eq_true e) h
 |false=>rw[e]at h;exact n h
theorem Jy{α β:Type}{x:Option α}{S T:St}{f:α->St->R β}{b:β}{G:Prop}(h:R.bind (ofO x S) f=.ok b T)(k:∀a,x=some a->f a S=.ok b T->G):G:=by cases x with|none=>exact Qo h|some a=>exact k a rfl h
theorem qQ9{β:Type}{x:Option St}{T:St}{f:Unit->St->R β}{b:β}{G:Prop}(h:R.bind (ofS x) f=.ok b T)(k:∀S,x=some S->f () S=.ok b T->G):G:=by cases x with|none=>exact Qo h|some a=>exact k a rfl h
theorem Zw{a b:Nat}{G:Prop}(h:a=b)(e:Nat.beq a b=false):G:=by rw[h,Nat.beq_refl]at e;cases e
theorem Bb{α:Type}{v:HV}{d r:α}{f:Nat->α}{G:Prop}(k:∀a,v=.opq a->f a=r->G)(n:d=r->G)(h:v.uK d f=r):G:=by cases v<;>first|exact n h|exact k _ rfl h
theorem Mt{α:Type}{v:HO}{d r:α}{f:Option Nat->α}{G:Prop}(k:∀a,v=.tab a->f a=r->G)(n:d=r->G)(h:v.uQ d f=r):G:=by cases v<;>first|exact n h|exact k _ rfl h
theorem N0{r:R HV}{f:HV->Bool}(h:okV r f=true):∃v S,r=.ok v S/\f v=true:=by
 cases r with
 |no=>exact Qg h
 |ok v S=>exact⟨v,S,rfl,h⟩
section
open PySem
noncomputable def zZg{α:Type}(v:Value)(d:α)(f:α):α:=Value.rec (motive:=fun J=>α) f d d (fun J=>d) (fun J J=>d) (fun J J=>d) (fun J J=>d) (fun J J=>d) (fun J=>d) (fun J=>d) (fun J=>d) v
theorem P3{α:Type}{v:Value}{d r:α}{f:α}{G:Prop}(k:v=.none->f=r->G)(n:d=r->G)(h:zZg v d f=r):G:=by cases v<;>first|exact n h|exact k rfl h
noncomputable def zZh{α:Type}(v:Value)(d:α)(f:Bool->α):α:=Value.rec (motive:=fun J=>α) d d d f (fun J J=>d) (fun J J=>d) (fun J J=>d) (fun J J=>d) (fun J=>d) (fun J=>d) (fun J=>d) v
theorem P4{α:Type}{v:Value}{d r:α}{f:Bool->α}{G:Prop}(k:∀a,v=.bool a->f a=r->G)(n:d=r->G)(h:zZh v d f=r):G:=by cases v<;>first|exact n h|exact k _ rfl h
noncomputable def xJt{α:Type}(v:Value)(d:α)(f:Int->Tok->α):α:=Value.rec (motive:=fun J=>α) d d d (fun J=>d) f (fun J J=>d) (fun J J=>d) (fun J J=>d) (fun J=>d) (fun J=>d) (fun J=>d) v
theorem Ms{α:Type}{v:Value}{d r:α}{f:Int->Tok->α}{G:Prop}(k:∀a b,v=.int a b->f a b=r->G)(n:d=r->G)(h:xJt v d f=r):G:=by cases v<;>first|exact n h|exact k _ _ rfl h
noncomputable def xJs{α:Type}(v:Value)(d:α)(f:Str->Tok->α):α:=Value.rec (motive:=fun J=>α) d d d (fun J=>d) (fun J J=>d) (fun J J=>d) f (fun J J=>d) (fun J=>d) (fun J=>d) (fun J=>d) v
theorem Mr{α:Type}{v:Value}{d r:α}{f:Str->Tok->α}{G:Prop}(k:∀a b,v=.str a b->f a b=r->G)(n:d=r->G)(h:xJs v d f=r):G:=by cases v<;>first|exact n h|exact k _ _ rfl h
noncomputable def zZf{α:Type}(v:Value)(d:α)(f:String->α):α:=Value.rec (motive:=fun J=>α) d d d (fun J=>d) (fun J J=>d) (fun J J=>d) (fun J J=>d) (fun J J=>d) f (fun J=>d) (fun J=>d) v
theorem P0{α:Type}{v:Value}{d r:α}{f:String->α}{G:Prop}(k:∀a,v=.type a->f a=r->G)(n:d=r->G)(h:zZf v d f=r):G:=by cases v<;>first|exact n h|exact k _ rfl h
noncomputable def xZ6{α:Type}(v:Value)(d:α)(f:Addr->α):α:=Value.rec (motive:=fun J=>α) d d d (fun J=>d) (fun J J=>d) (fun J J=>d) (fun J J=>d) (fun J J=>d) (fun J=>d) (fun J=>d) f v
theorem Ul{α:Type}{v:Value}{d r:α}{f:Addr->α}{G:Prop}(k:∀a,v=.ref a->f a=r->G)(n:d=r->G)(h:xZ6 v d f=r):G:=by cases v<;>first|exact n h|exact k _ rfl h
noncomputable def dSeq{α:Type}(v:Data)(d:α)(f:Array Value->Nat->α):α:=Data.rec (motive:=fun J=>α) d (fun J=>d) f (fun J J=>d) (fun J J J=>d) (fun J J=>d) (fun J=>d) (fun J=>d) (fun J=>d) (fun J=>d) d v
theorem Mu{α:Type}{v:Data}{d r:α}{f:Array Value->Nat->α}{G:Prop}(k:∀a b,v=.seq a b->f a b=r->G)(n:d=r->G)(h:dSeq v d f=r):G:=by cases v<;>first|exact n h|exact k _ _ rfl h
noncomputable def zQt{α:Type}(v:Data)(d:α)(f:FuncData->α):α:=Data.rec (motive:=fun J=>α) d (fun J=>d) (fun J J=>d) (fun J J=>d) (fun J J J=>d) (fun J J=>d) (fun J=>d) f (fun J=>d) (fun J=>d) d v
theorem Bc{α:Type}{v:Data}{d r:α}{f:FuncData->α}{G:Prop}(k:∀a,v=.func a->f a=r->G)(n:d=r->G)(h:zQt v d f=r):G:=by cases v<;>first|exact n h|exact k _ rfl h
noncomputable def Hu{α:Type}(v:Data)(d:α)(f:Array Value->α):α:=Data.rec (motive:=fun J=>α) d (fun J=>d) (fun J J=>d) (fun J J=>d) (fun J J J=>d) (fun J J=>d) (fun J=>d) (fun J=>d) (fun J=>d) f d v
theorem Vx{α:Type}{v:Data}{d r:α}{f:Array Value->α}{G:Prop}(k:∀a,v=.fields a->f a=r->G)(n:d=r->G)(h:Hu v d f=r):G:=by cases v<;>first|exact n h|exact k _ rfl h
noncomputable def oD{β α:Type}(o:Option β)(d:α)(f:β->α):α:=Option.rec (motive:=fun J=>α) d f o
theorem G1{β α:Type}{o:Option β}{d r:α}{f:β->α}{G:Prop}(k:∀a,o=some a->f a=r->G)(n:d=r->G)(h:oD o d f=r):G:=by cases o with|none=>exact n h|some a=>exact k a rfl h
end
theorem Yk{α:Type}{v:HV}{k:Nat}{d x r:α}{G:Prop}(p:v=.sint k->x=r->G)(n:d=r->G)(h:eS v k d x=r):G:=Zk (fun j e h=>by
 cases b:Nat.beq j k with
 |true=>rw[b]at h;exact p (by rw[e,Nat.eq_of_beq_eq_true b]) h
 |false=>rw[b]at h;exact n h) n h
theorem Wq{α:Type}{v:HV}{k:Int}{d x r:α}{G:Prop}(p:v=.int k->x=r->G)(n:d=r->G)(h:eI v k d x=r):G:=Q5 (fun j e h=>by
 cases b:decide (j=k)with
 |true=>rw[b]at h;exact p (by rw[e,of_decide_eq_true b]) h
 |false=>rw[b]at h;exact n h) n h
end Mine
local macro_rules (kind:=Lean.Parser.Tactic.cases)
|s=>if s[1][0][1].isIdent&&s[1][0][0].isNone&&s[2].isNone then
 return Mine.q [s[1][0][1],s,s[1],s[3]] (if s[3].isNone then ". first"++Mine.qi " . | . exact @ Mine." " $  - n -- Term.app -- Tactic.exact -- g" "Qo Qh zZm Qg xJw xXj co_ni"++" . | . subst $  - n -- Tactic.subst -- g"++Mine.qi " . | . refine @ Mine." " $  . ? . _ -- Term.syntheticHole -- n -- Term.app -- Tactic.refine . clear $  - n -- Tactic.clear . intro $  - n -- Tactic.intro $ x ---- n -- g" "xJz F2.nil_k"++Mine.qi " . | . refine @ Mine." " $  . ? . _ -- Term.syntheticHole -- n -- Term.app -- Tactic.refine . clear $  - n -- Tactic.clear . intro $  - n -- Tactic.intro $ x -- n . <;> . intro $  - n -- Tactic.intro $ x -- n --- Tactic.«tactic_<;>_» --- n -- g" "ok_k co_k pr_k"++" ------------- n -- Tactic.first" else ". first"++Mine.qi " . | . induction $ xx . using @ " ".casesOn -- n  n $ xxx ----- Tactic.induction -- g" "Mine.HV Option List Bool Mine.HO PySem.Expr Mine.HE PySem.Stmt Mine.HS PySem.Value Mine.Fl Mine.R Int Mine.B8 PySem.Operator PySem.CmpOp"++" ---------------- n -- Tactic.first")
 else Lean.Macro.throwUnsupported
local macro_rules (kind:=Lean.Parser.Tactic.injection)
|s=>return Mine.q [s[1],s[2][1][0],s[2][1][1]] ". refine @ Mine.F2.co_k $  . ? . _ -- Term.syntheticHole -- n -- Term.app -- Tactic.refine . clear $  - n -- Tactic.clear . intro @ b @ m @ e $ x $ xx ----- n -- Tactic.intro . cases  n @ e -- Tactic.elimTarget - n  n  n ---- Tactic.cases ---- n"
local macro_rules (kind:=Lean.Parser.Tactic.omega)
|s=>return Mine.q [s] ". first . | . assumption - Tactic.assumption -- g . | . lia  n - Tactic.optConfig -- Tactic.lia -- g -- n -- Tactic.first"
local macro_rules (kind:=Lean.Parser.Tactic.obtain)
|s=>
 let t:=s[1][0][0]
 let e:=s[3][1][0]
 let l:=t[0][1].getSepArgs.toList
 let n:=l.length
 if t.getNumArgs==1&&t[0].isOfKind `Lean.Parser.Tactic.rcasesPat.tuple&&s[2].isNone&&Nat.ble 2 n&&Nat.ble n 7 then return Lean.mkNullNode (
  Mine.q [e] (". first"++Mine.qi " . | . refine @ Mine." " $  . ? . _ -- Term.syntheticHole -- n -- Term.app -- Tactic.refine -- g" (["x0a2 x1a1","x0a3 x1a2 x2a1","x0a4 x1a3 x2a2 x3a1","x0a5 x1a4 x2a3 x3a2 x4a1","x0a6 x1a5 x2a4 x3a3 x4a2","x0a7 x1a6 x2a5 x3a4 x4a3"].getD (n-2) "")++" "++"-----".take n++" n -- Tactic.first"++if e.isIdent then " . first . | . clear $  - n -- Tactic.clear -- g . | . skip - Tactic.skip -- g -- n -- Tactic.first -- n" else "")::
  l.map fun x=>let p:=x[0][0][0]
   if p.isOfKind `Lean.Parser.Tactic.rcasesPat.one&&p[0].getId != `rfl then Mine.q [p[0]] ". intro $  - n -- Tactic.intro" else Mine.q [x[0]] ". intro @ J - n -- Tactic.intro . obtain $  - n  n . := @ J - n -- n ---- Tactic.obtain -- n").toArray
 else Lean.Macro.throwUnsupported
local macro_rules (kind:=Lean.Parser.Tactic.rwSeq)
|s=>if s[3].isNone then return Lean.mkNullNode ((s[2][1].getSepArgs.toList.map fun r=>Mine.q [r,r[1],s[1]] (". first . | . refine @ Eq.substr "++(if r[0].isNone then "$ x" else "@ Eq.symm $ x - n -- Term.app")++" . ? . _ -- Term.syntheticHole -- n -- Term.app -- Tactic.refine -- g . | . rewrite $ xx . [ $  - n . ] --- Tactic.rwRuleSeq  n ---- Tactic.rewriteSeq -- g -- n -- Tactic.first"))++[Mine.q [] ". first . | . with_reducible . rfl - Tactic.tacticRfl -- Tactic.withReducible -- g . | . skip - Tactic.skip -- g -- n -- Tactic.first"]).toArray
 else Lean.Macro.throwUnsupported
namespace MHd
open PySem PySem.W PySem.Calls PyProof.Rows
noncomputable abbrev pw:Program:=PySem.Challenge.pw_pq0663_01
noncomputable def iv(i:Nat)(t:Nat):Value:=.int (Int.ofNat i) t
noncomputable def sv(s:String)(t:Nat):Value:=.str (Str.ofString s) t
noncomputable def rv(a:Nat):Value:=.ref a
noncomputable def bv(l:List Nat)(t:Nat):Value:=.bytes (l.map UInt8.ofNat).toArray t
noncomputable def ob(c:Value)(d:Data):Obj:=⟨c,none,d,#[]⟩
def tp(l:List Value):Obj:=ob (.type "tuple") (.seq l.toArray 0)
def t0:Obj:=ob (.type "tuple") (.seq #[] 0)
noncomputable def f0:Obj:=ob .none (.fields #[])
def fl(l:List Value):Obj:=ob .none (.fields l.toArray)
def fo(c:Value)(l:List Value):Obj:=ob c (.fields l.toArray)
noncomputable def de(P:Params)(s:String)(t:Nat)(v:Value):DictEntry:=⟨PyData.keyHash P (Str.ofString s),.str (Str.ofString s) t,v⟩
noncomputable def cl(name:Str)(bases mro:List Value)(ns:Nat)(subs:List Value):ClassData:={name,bases,mro,ns,qualname:=name,subclasses:=subs}
def sd(i:Nat):Stmt:=pw.main.body.getD i (.Pass default)
noncomputable def zQx:Stmt->List Stmt
 |.ClassDef _ _ _ b .. =>b
 |_=>[]
def sm(i j:Nat):Stmt:=(zQx (sd i)).getD j (.Pass default)
def nf:Stmt->Str->Obj
 |.FunctionDef n a b _ _ _ sc ..,q=>ob .none (.func {name:=n,qualname:=q,params:=a,body:=.stmts b,scope:=sc,globals:=0,closure:=[],defaults:=.none,kwdefaults:=.none})
 |_,_=>f0
def fn:Stmt->Str->Value->Value->Value->Obj
 |.FunctionDef n a b _ _ _ sc ..,q,dv,pm,cd=>ob (.type "function") (.func {name:=n,qualname:=q,params:=a,body:=.stmts b,scope:=sc,globals:=3,closure:=[],defaults:=dv,kwdefaults:=.none,pyModule:=pm,code:=cd,builtins:=0})
 |_,_,_,_,_=>f0
def Y2(P:Params)(nm:Value)(l:List DictEntry)(n:Nat):Obj:=
 ob (.type "dict") (.dict (de P "__name__" 165 nm::de P "__doc__" 166 .none::de P "__package__" 167 .none::de P "__loader__" 168 (.builtin "__main__.__loader__#opaque")::de P "__spec__" 169 .none::de P "__annotations__" 170 (rv 6)::de P "__builtins__" 171 (rv 4)::de P "__file__" 173 (sv "/claim/cut.py" 172)::de P "__cached__" 174 .none::l).toArray n)
noncomputable def iw(i:Nat):Value:=.int (Int.ofNat i) 0
noncomputable def z0:Value:=.int (Int.ofNat 0) 0
noncomputable def ty(c:ClassData)(s:Array (Option Value)):Obj:=⟨.type "type",none,.cls c,s⟩
def fr(a b c:Value):Obj:=⟨.type "frame",none,.plain,#[some a,some (rv 3),some b,none,some c,none,some (rv 0)]⟩
def cu(t:Nat):Value:=sv "/claim/cut.py" t
def kg(n q:String)(t l c f x k:Nat)(b:Bool)(z1 z2 z3:Value):Obj:=fo (.type "code") [sv n t,sv q (.add t 1),cu (.add t 2),iw l,iw c,z0,z0,iw f,rv x,.bool b,iw 181,rv (.add x 1),.none,z1,z2,z3,iw k,iw l,cu (.add k 1)]
def ka(n q:String)(t l c x k:Nat):Obj:=kg n q t l c 3 x k true (rv (.add x 2)) (rv (.add x 3)) (rv (.add x 4))
noncomputable def kb(n q:String)(t l c x k:Nat):Obj:=kg n q t l c 3 x k true .none .none (rv (.add x 2))
def kk(n q:String)(t l x k:Nat):Obj:=kg n q t l 0 0 x k false .none .none .none
def svs:Nat->List String->List Value
 |_,[]=>[]
 |t,s::r=>sv s t::svs (.add t 1) r
def FA(s:Stmt)(n q:String)(t l c x k:Nat)(ps:List String)(dv pm:Value):List Obj:=[t0,f0,tp (svs (.add t 3) ps),t0,nf s q,ka n q t l c x k,fn s q dv pm (rv (.add x 5))]
def FB(s:Stmt)(n q:String)(t l c x k:Nat)(dv pm:Value):List Obj:=[t0,f0,nf s q,kb n q t l c x k,fn s q dv pm (rv (.add x 3))]
def m164:Value:=sv "__main__" 164
def Vp:Value:=sv "ledgerspeak.errors" 194
def Bs:Value:=sv "ledgerspeak.decimals" 316
def Xd:Value:=sv "ledgerspeak.keyfile" 447
def m659:Value:=sv "ledgerspeak.pictures" 659
def U1:Value:=sv "ledgerspeak.editing" 671
def qXz:Value:=sv "ledgerspeak.deediting" 841
def Gw:Value:=sv "ledgerspeak.shapes" 912
def Yp:Value:=sv "ledgerspeak.usages" 1053
def Kk:Value:=sv "ledgerspeak.moving" 1193
def J5:Value:=sv "ledgerspeak.relfile" 1311
def Gc:Value:=sv "ledgerspeak.rowfile" 1462
def Yo:Value:=sv "ledgerspeak.shelf" 1534
def Z8:Value:=sv "ledgerspeak.items" 1643
def Df:Value:=sv "ledgerspeak.layout" 1835
def qX0:Value:=sv "ledgerspeak.reckoning" 1877
def De:Value:=sv "ledgerspeak.references" 1917
def J4:Value:=sv "ledgerspeak.world" 1964
def Zo:Value:=sv "ledgerspeak.filedeeds" 2129
def Zt:Value:=sv "ledgerspeak.sorting" 2407
def Dd:Value:=sv "ledgerspeak.envread" 2654
def Lz:Value:=sv "ledgerspeak.program" 2702
def X3:Value:=sv "law_pq0663_01" 2748
noncomputable def Ja:BT->Nat->List Obj->BT
 |t,_,[]=>t
 |t,n,o::r=>Ja (t.ins n o) (n+1) r
def env:Env:={scope:=pw.main.scope,locals:=mainNs,globals:=mainNs,cells:=[],code:=.ref 13,frame:=some 14}
def cE:Code:=.body (behindTheImports pw) env
noncomputable def q0:Pos:={line:=0,col:=0,endLine:=0,endCol:=0}
def rT(w:World)(n:Nat)(S:SharedT)(sts:List Stmt)(p:Pos):Option (Flow × SharedT × Code × Pos):=
 PySem.W.Fast.tw10110043849684766642 PySem.W.Fast.tw14364793385576792824 pw w 11 (some (.ref 6)) 1 n S ⟨(PySem.W.Fast.tw12563942051412417395 sts env).wrap doneF deadEnd id id,cE,p,[topFrame q0]⟩
def sts(i j:Nat):List Stmt:=(pw.main.body.drop i).take j
noncomputable def stT(T:BT)(n t:Nat)(os:OsState):SharedT:=⟨T,n,({}:Life),#[],{},t,os⟩
def g0(P:Params):List Obj:=[boot_o_0 P,boot_o_1 P,boot_o_2 P,boot_o_3 P,boot_o_4 P,boot_o_5 P,boot_o_6 P,boot_o_7 P,boot_o_8 P,boot_o_9 P,boot_o_10 P,t0,f0,fo (.type "code") [(sv "<module>" 182),(sv "<module>" 183),(sv "/claim/cut.py" 184),(iv 1 0),(iv 0 0),(iv 0 0),(iv 0 0),(iv 0 0),(rv 11),(.bool false),(iv 181 0),(rv 12),.none,.none,.none,.none,(iv 185 0),(iv 1 0),(sv "/claim/cut.py" 186)],⟨(.type "frame"),none,.plain,#[some (rv 13),some (rv 3),some (rv 3),none,some (sv "__main__" 164),none,some (rv 0)]⟩]
def T0(P:Params):BT:=Ja .nil 0 (g0 P)
noncomputable def l0(_:Params):List DictEntry:=[]
noncomputable def c0:List Value:=[]
def g1(P:Params):List Obj:=[FA (sd 0) "_wall" "_wall" 187 1 1 15 191 ["k"] .none m164,
 [tp [(.type "Exception")],fo (.type "builtin_function_or_method") [(.builtin "type.__prepare__"),(.type "type")],ob (.type "dict") (.dict [de P "__module__" 203 Vp,de P "__qualname__" 205 (sv "LedgerError" 204),de P "__firstlineno__" 207 (iv 5 206),de P "__init__" 218 (rv 37),de P "told" 225 (rv 44),de P "__static_attributes__" 228 (rv 45)].toArray 6),t0,fl [(iw 7),(iw 4),(rv 36),(iw 12),(iw 4),(rv 43)],kk "LedgerError" "LedgerError" 198 5 25 201,fr (rv 27) (rv 24) Vp,tp [(iv 0 208),(iv 0 209)],tp [(rv 29)]],
 FA (sm 2 0) "__init__" "LedgerError.__init__" 210 7 3 31 216 ["self","what","at"] (rv 30) Vp,
 FA (sm 2 1) "told" "LedgerError.told" 219 12 1 38 223 ["self"] .none Vp,
 [tp [(sv "at" 226),(sv "what" 227)],ob (.type "dict") (.dict [de P "__module__" 203 Vp,de P "__firstlineno__" 207 (iv 5 206),de P "__init__" 218 (rv 37),de P "told" 225 (rv 44),de P "__static_attributes__" 228 (rv 45),de P "__weakref__" 230 (rv 48),de P "__doc__" 231 .none].toArray 3),ty (cl "LedgerError" [(.type "Exception")] [(rv 47),(.type "Exception"),(.type "BaseException"),(.type "object")] 46 [(rv 60),(rv 72),(rv 84)]) #[some (rv 22),none,some (sv "LedgerError" 196),some (sv "LedgerError" 204),some (.builtin "Exception.__new__"),some (.bool true)],fo (.type "getset_descriptor") [(sv "__weakref__" 229),(rv 47),(.builtin "ExceptionGroup.__weakref__"),.none],fo (.type "super") [(rv 47),(rv 47),(rv 47)],fo (.type "builtin_function_or_method") [(.builtin "object.__init_subclass__"),(rv 47)],tp [(rv 47)],fo (.type "builtin_function_or_method") [(.builtin "type.__prepare__"),(.type "type")],ob (.type "dict") (.dict [de P "__module__" 243 Vp,de P "__qualname__" 245 (sv "DataFault" 244),de P "__firstlineno__" 247 (iv 14 246),de P "__static_attributes__" 248 (rv 58)].toArray 4),t0,f0,kk "DataFault" "DataFault" 238 14 54 241,fr (rv 56) (rv 53) Vp,t0,ob (.type "dict") (.dict [de P "__module__" 243 Vp,de P "__firstlineno__" 247 (iv 14 246),de P "__static_attributes__" 248 (rv 58),de P "__doc__" 249 .none].toArray 2),ty (cl "DataFault" [(rv 47)] [(rv 60),(rv 47),(.type "Exception"),(.type "BaseException"),(.type "object")] 59 []) #[some (rv 51),none,some (sv "DataFault" 236),some (sv "DataFault" 244),some (.builtin "Exception.__new__"),some (.bool true)],fo (.type "super") [(rv 60),(rv 60),(rv 60)],fo (.type "builtin_function_or_method") [(.builtin "object.__init_subclass__"),(rv 60)],tp [(rv 47)],fo (.type "builtin_function_or_method") [(.builtin "type.__prepare__"),(.type "type")],ob (.type "dict") (.dict [de P "__module__" 259 Vp,de P "__qualname__" 261 (sv "CheckFault" 260),de P "__firstlineno__" 263 (iv 16 262),de P "__static_attributes__" 264 (rv 70)].toArray 4),t0,f0,kk "CheckFault" "CheckFault" 254 16 66 257,fr (rv 68) (rv 65) Vp,t0,ob (.type "dict") (.dict [de P "__module__" 259 Vp,de P "__firstlineno__" 263 (iv 16 262),de P "__static_attributes__" 264 (rv 70),de P "__doc__" 265 .none].toArray 2),ty (cl "CheckFault" [(rv 47)] [(rv 72),(rv 47),(.type "Exception"),(.type "BaseException"),(.type "object")] 71 []) #[some (rv 63),none,some (sv "CheckFault" 252),some (sv "CheckFault" 260),some (.builtin "Exception.__new__"),some (.bool true)],fo (.type "super") [(rv 72),(rv 72),(rv 72)],fo (.type "builtin_function_or_method") [(.builtin "object.__init_subclass__"),(rv 72)],tp [(rv 47)],fo (.type "builtin_function_or_method") [(.builtin "type.__prepare__"),(.type "type")],ob (.type "dict") (.dict [de P "__module__" 275 Vp,de P "__qualname__" 277 (sv "RunFault" 276),de P "__firstlineno__" 279 (iv 18 278),de P "__static_attributes__" 280 (rv 82)].toArray 4),t0,f0,kk "RunFault" "RunFault" 270 18 78 273,fr (rv 80) (rv 77) Vp,t0,ob (.type "dict") (.dict [de P "__module__" 275 Vp,de P "__firstlineno__" 279 (iv 18 278),de P "__static_attributes__" 280 (rv 82),de P "__doc__" 281 .none].toArray 2),ty (cl "RunFault" [(rv 47)] [(rv 84),(rv 47),(.type "Exception"),(.type "BaseException"),(.type "object")] 83 []) #[some (rv 75),none,some (sv "RunFault" 268),some (sv "RunFault" 276),some (.builtin "Exception.__new__"),some (.bool true)],fo (.type "super") [(rv 84),(rv 84),(rv 84)],fo (.type "builtin_function_or_method") [(.builtin "object.__init_subclass__"),(rv 84)]]].flatten
def l1(P:Params):List DictEntry:=l0 P++[de P "_wall" 193 (rv 21),de P "LedgerError" 235 (rv 47),de P "DataFault" 251 (rv 60),de P "CheckFault" 267 (rv 72),de P "RunFault" 283 (rv 84)]
def c1:List Value:=c0++[(iw 1),z0,(rv 20),(iw 5),z0,(rv 27),(iw 14),z0,(rv 56),(iw 16),z0,(rv 68),(iw 18),z0,(rv 80)]
def T1(P:Params):BT:=Ja ((((T0 P).set 3 (fun J=>Y2 P Vp (l1 P) 14)).set 12 (fun J=>fl c1)).set 2 (fun J=>ob .none (.dict [de P "type.__subclasses__.Exception.0" 232 (iw 47),de P "type.__subclasses__.Exception.n" 233 (iw 1)].toArray 2))) 15 (g1 P)
noncomputable def q1:Pos:={line:=18,col:=0,endLine:=19,endCol:=8}
theorem r1(w:World):(fun os=>rT w 944 (stT (T0 w.params) 15 187 os) (sts 0 6) q0)=fun os=>some (.next,stT (T1 w.params) 87 284 os,cE,q1):=by kernel_rfl
def g2(P:Params):List Obj:=[[tp [(rv 47)],fo (.type "builtin_function_or_method") [(.builtin "type.__prepare__"),(.type "type")],ob (.type "dict") (.dict [de P "__module__" 291 Vp,de P "__qualname__" 293 (sv "SizeFault" 292),de P "__firstlineno__" 295 (iv 20 294),de P "__static_attributes__" 296 (rv 94)].toArray 4),t0,f0,kk "SizeFault" "SizeFault" 286 20 90 289,fr (rv 92) (rv 89) Vp,t0,ob (.type "dict") (.dict [de P "__module__" 291 Vp,de P "__firstlineno__" 295 (iv 20 294),de P "__static_attributes__" 296 (rv 94),de P "__doc__" 297 .none].toArray 2),ty (cl "SizeFault" [(rv 47)] [(rv 96),(rv 47),(.type "Exception"),(.type "BaseException"),(.type "object")] 95 []) #[some (rv 87),none,some (sv "SizeFault" 284),some (sv "SizeFault" 292),some (.builtin "Exception.__new__"),some (.bool true)],fo (.type "super") [(rv 96),(rv 96),(rv 96)],fo (.type "builtin_function_or_method") [(.builtin "object.__init_subclass__"),(rv 96)],tp [(rv 47)],fo (.type "builtin_function_or_method") [(.builtin "type.__prepare__"),(.type "type")],ob (.type "dict") (.dict [de P "__module__" 307 Vp,de P "__qualname__" 309 (sv "FileFault" 308),de P "__firstlineno__" 311 (iv 22 310),de P "__static_attributes__" 312 (rv 106)].toArray 4),t0,f0,kk "FileFault" "FileFault" 302 22 102 305,fr (rv 104) (rv 101) Vp,t0,ob (.type "dict") (.dict [de P "__module__" 307 Vp,de P "__firstlineno__" 311 (iv 22 310),de P "__static_attributes__" 312 (rv 106),de P "__doc__" 313 .none].toArray 2),ty (cl "FileFault" [(rv 47)] [(rv 108),(rv 47),(.type "Exception"),(.type "BaseException"),(.type "object")] 107 []) #[some (rv 99),none,some (sv "FileFault" 300),some (sv "FileFault" 308),some (.builtin "Exception.__new__"),some (.bool true)],fo (.type "super") [(rv 108),(rv 108),(rv 108)],fo (.type "builtin_function_or_method") [(.builtin "object.__init_subclass__"),(rv 108)]],
 FA (sd 12) "cut_quotient" "cut_quotient" 324 28 2 111 329 ["top","bottom"] .none Bs,
 [tp [(iv 0 332)]],
 FA (sd 13) "decimal" "decimal" 333 32 2 119 338 ["units","scale"] (rv 118) Bs,
 FA (sd 14) "kept" "kept" 341 39 2 126 346 ["units","scale"] .none Bs,
 FA (sd 15) "units_beside" "units_beside" 349 46 2 133 355 ["a","b","scale"] .none Bs,
 FA (sd 16) "plus" "plus" 358 49 2 140 366 ["a","b","first","second","scale"] .none Bs,
 FA (sd 17) "minus" "minus" 369 52 2 147 377 ["a","b","first","second","scale"] .none Bs,
 FA (sd 18) "times" "times" 380 55 2 154 385 ["a","b"] .none Bs,
 FA (sd 19) "negated" "negated" 388 57 1 161 392 ["a"] .none Bs,
 [tp [(iv 30 318)]],
 FA (sd 20) "quotient" "quotient" 395 59 3 169 401 ["a","b","many"] (rv 168) Bs,
 FA (sd 21) "power" "power" 404 63 2 176 411 ["a","b","found","turn"] .none Bs,
 FA (sd 22) "units_at" "units_at" 414 72 3 183 422 ["a","scale","is_rounded","size","half"] .none Bs,
 FA (sd 23) "is_whole" "is_whole" 425 80 1 190 429 ["a"] .none Bs,
 FA (sd 24) "whole_of" "whole_of" 432 82 1 197 436 ["a"] .none Bs,
 FA (sd 25) "fits" "fits" 439 84 2 204 444 ["units","digits"] .none Bs,
 [tp [(sv "input" 449),(sv "i-o" 450)]]].flatten
def l2(P:Params):List DictEntry:=l1 P++[de P "SizeFault" 299 (rv 96),de P "FileFault" 315 (rv 108),de P "MOST_PLACES" 319 (iv 30 318),de P "MOST_POWER" 321 (iv 99 320),de P "MOST_FIGURES" 323 (iv 120 322),de P "cut_quotient" 331 (rv 117),de P "decimal" 340 (rv 125),de P "kept" 348 (rv 132),de P "units_beside" 357 (rv 139),de P "plus" 368 (rv 146),de P "minus" 379 (rv 153),de P "times" 387 (rv 160),de P "negated" 394 (rv 167),de P "quotient" 403 (rv 175),de P "power" 413 (rv 182),de P "units_at" 424 (rv 189),de P "is_whole" 431 (rv 196),de P "whole_of" 438 (rv 203),de P "fits" 446 (rv 210),de P "READING_keyfile" 451 (rv 211)]
def c2:List Value:=c1++[(iw 20),z0,(rv 92),(iw 22),z0,(rv 104),(iw 28),z0,(rv 116),(iw 32),z0,(rv 124),(iw 39),z0,(rv 131),(iw 46),z0,(rv 138),(iw 49),z0,(rv 145),(iw 52),z0,(rv 152),(iw 55),z0,(rv 159),(iw 57),z0,(rv 166),(iw 59),z0,(rv 174),(iw 63),z0,(rv 181),(iw 72),z0,(rv 188),(iw 80),z0,(rv 195),(iw 82),z0,(rv 202),(iw 84),z0,(rv 209)]
def T2(P:Params):BT:=Ja ((((T1 P).set 3 (fun J=>Y2 P Xd (l2 P) 34)).set 12 (fun J=>fl c2)).set 47 (fun J=>ty (cl "LedgerError" [(.type "Exception")] [(rv 47),(.type "Exception"),(.type "BaseException"),(.type "object")] 46 [(rv 60),(rv 72),(rv 84),(rv 96),(rv 108)]) #[some (rv 22),none,some (sv "LedgerError" 196),some (sv "LedgerError" 204),some (.builtin "Exception.__new__"),some (.bool true)])) 87 (g2 P)
noncomputable def q2:Pos:={line:=87,col:=0,endLine:=87,endCol:=15}
theorem r2(w:World):(fun os=>rT w 919 (stT (T1 w.params) 87 284 os) (sts 6 22) q1)=fun os=>some (.next,stT (T2 w.params) 212 452 os,cE,q2):=by kernel_rfl
def g3(P:Params):List Obj:=[[t0,fo (.type "builtin_function_or_method") [(.builtin "type.__prepare__"),(.type "type")],ob (.type "dict") (.dict [de P "__module__" 459 Xd,de P "__qualname__" 461 (sv "KeyFile" 460),de P "__firstlineno__" 463 (iv 88 462),de P "__init__" 469 (rv 223),de P "told" 476 (rv 230),de P "worth" 488 (rv 237),de P "ordered" 498 (rv 244),de P "place_of" 507 (rv 251),de P "others_with" 519 (rv 258),de P "stand" 528 (rv 265),de P "lose" 536 (rv 272),de P "found" 542 (rv 277),de P "read_next" 550 (rv 284),de P "read_at" 561 (rv 292),de P "start" 572 (rv 300),de P "put" 578 (rv 305),de P "drop" 586 (rv 312),de P "doubled" 598 (rv 319),de P "may_write" 605 (rv 326),de P "write" 615 (rv 333),de P "last_place" 622 (rv 340),de P "rewrite" 630 (rv 347),de P "delete" 639 (rv 355),de P "__static_attributes__" 651 (rv 356)].toArray 24),t0,fl [(iw 90),(iw 4),(rv 222),(iw 109),(iw 4),(rv 229),(iw 112),(iw 4),(rv 236),(iw 116),(iw 4),(rv 243),(iw 122),(iw 4),(rv 250),(iw 128),(iw 4),(rv 257),(iw 135),(iw 4),(rv 264),(iw 140),(iw 4),(rv 271),(iw 145),(iw 4),(rv 276),(iw 154),(iw 4),(rv 283),(iw 167),(iw 4),(rv 291),(iw 177),(iw 4),(rv 299),(iw 180),(iw 4),(rv 304),(iw 185),(iw 4),(rv 311),(iw 188),(iw 4),(rv 318),(iw 197),(iw 4),(rv 325),(iw 202),(iw 4),(rv 332),(iw 218),(iw 4),(rv 339),(iw 221),(iw 4),(rv 346),(iw 224),(iw 4),(rv 354)],kk "KeyFile" "KeyFile" 454 88 215 457,fr (rv 217) (rv 214) Xd],
 FB (sm 28 0) "__init__" "KeyFile.__init__" 464 90 6 219 467 .none Xd,
 FA (sm 28 1) "told" "KeyFile.told" 470 109 1 224 474 ["self"] .none Xd,
 FA (sm 28 2) "worth" "KeyFile.worth" 477 112 3 231 486 ["self","record","which","offset","size","is_double"] .none Xd,
 FA (sm 28 3) "ordered" "KeyFile.ordered" 489 116 2 238 496 ["self","which","found","place"] .none Xd,
 FA (sm 28 4) "place_of" "KeyFile.place_of" 499 122 2 245 505 ["self","key","place"] .none Xd,
 FA (sm 28 5) "others_with" "KeyFile.others_with" 508 128 4 252 517 ["self","record","which","own","wanted","place"] .none Xd,
 FA (sm 28 6) "stand" "KeyFile.stand" 520 135 3 259 526 ["self","which","at"] .none Xd,
 FA (sm 28 7) "lose" "KeyFile.lose" 529 140 2 266 534 ["self","status"] .none Xd,
 FB (sm 28 8) "found" "KeyFile.found" 537 145 3 273 540 .none Xd,
 FA (sm 28 9) "read_next" "KeyFile.read_next" 543 154 1 278 548 ["self","row"] .none Xd,
 [tp [(iv 0 551)]],
 FA (sm 28 10) "read_at" "KeyFile.read_at" 552 167 3 286 559 ["self","key","which","row"] (rv 285) Xd,
 [tp [(iv 0 562)]],
 FA (sm 28 11) "start" "KeyFile.start" 563 177 4 294 570 ["self","op","key","which"] (rv 293) Xd,
 FB (sm 28 12) "put" "KeyFile.put" 573 180 4 301 576 .none Xd,
 FA (sm 28 13) "drop" "KeyFile.drop" 579 185 2 306 584 ["self","place"] .none Xd,
 FA (sm 28 14) "doubled" "KeyFile.doubled" 587 188 4 313 596 ["self","record","own","numbers","status","which"] .none Xd,
 FA (sm 28 15) "may_write" "KeyFile.may_write" 599 197 1 320 603 ["self"] .none Xd,
 FA (sm 28 16) "write" "KeyFile.write" 606 202 2 327 613 ["self","record","key","status"] .none Xd,
 FA (sm 28 17) "last_place" "KeyFile.last_place" 616 218 1 334 620 ["self"] .none Xd,
 FA (sm 28 18) "rewrite" "KeyFile.rewrite" 623 221 2 341 628 ["self","record"] .none Xd,
 [tp [(bv [] 631)]],
 FA (sm 28 19) "delete" "KeyFile.delete" 632 224 2 349 637 ["self","key"] (rv 348) Xd,
 [tp [(sv "access" 640),(sv "at" 641),(sv "content" 642),(sv "highest" 643),(sv "is_nowhere" 644),(sv "keys" 645),(sv "mode" 646),(sv "next_stamp" 647),(sv "read_last" 648),(sv "stamps" 649),(sv "which" 650)],ob (.type "dict") (.dict [de P "__module__" 459 Xd,de P "__firstlineno__" 463 (iv 88 462),de P "__init__" 469 (rv 223),de P "told" 476 (rv 230),de P "worth" 488 (rv 237),de P "ordered" 498 (rv 244),de P "place_of" 507 (rv 251),de P "others_with" 519 (rv 258),de P "stand" 528 (rv 265),de P "lose" 536 (rv 272),de P "found" 542 (rv 277),de P "read_next" 550 (rv 284),de P "read_at" 561 (rv 292),de P "start" 572 (rv 300),de P "put" 578 (rv 305),de P "drop" 586 (rv 312),de P "doubled" 598 (rv 319),de P "may_write" 605 (rv 326),de P "write" 615 (rv 333),de P "last_place" 622 (rv 340),de P "rewrite" 630 (rv 347),de P "delete" 639 (rv 355),de P "__static_attributes__" 651 (rv 356),de P "__dict__" 653 (rv 359),de P "__weakref__" 655 (rv 360),de P "__doc__" 656 .none].toArray 4),ty (cl "KeyFile" [(.type "object")] [(rv 358),(.type "object")] 357 []) #[none,none,some (sv "KeyFile" 452),some (sv "KeyFile" 460),some (.builtin "object.__new__"),some (.bool true)],fo (.type "getset_descriptor") [(sv "__dict__" 652),(rv 358),(.builtin "function.__dict__"),(.builtin "function.__dict__#set")],fo (.type "getset_descriptor") [(sv "__weakref__" 654),(rv 358),(.builtin "ExceptionGroup.__weakref__"),.none],fo (.type "super") [(rv 358),(rv 358),(rv 358)],fo (.type "builtin_function_or_method") [(.builtin "object.__init_subclass__"),(rv 358)]],
 FA (sd 30) "places" "places" 661 227 1 363 668 ["picture","found","sign","count"] .none m659,
 FA (sd 35) "floating_sign" "floating_sign" 679 236 1 370 684 ["signs","sign"] .none U1,
 FA (sd 36) "roles_of" "roles_of" 687 241 1 377 695 ["signs","plain","sign","floating","found"] .none U1].flatten
def l3(P:Params):List DictEntry:=l2 P++[de P "KeyFile" 658 (rv 358),de P "places" 670 (rv 369),de P "FIXED" 674 (sv "$+-" 673),de P "INSERTED" 676 (sv "B0/," 675),de P "BLANK_editing" 678 (sv " " 677),de P "floating_sign" 686 (rv 376),de P "roles_of" 697 (rv 383)]
def c3:List Value:=c2++[(iw 88),z0,(rv 217),(iw 227),z0,(rv 368),(iw 236),z0,(rv 375),(iw 241),z0,(rv 382)]
def T3(P:Params):BT:=Ja (((T2 P).set 3 (fun J=>Y2 P U1 (l3 P) 41)).set 12 (fun J=>fl c3)) 212 (g3 P)
noncomputable def q3:Pos:={line:=241,col:=0,endLine:=251,endCol:=16}
theorem r3(w:World):(fun os=>rT w 994 (stT (T2 w.params) 212 452 os) (sts 28 9) q2)=fun os=>some (.next,stT (T3 w.params) 384 698 os,cE,q3):=by kernel_rfl
def g4(P:Params):List Obj:=[FA (sd 37) "is_suppressing" "is_suppressing" 698 252 1 384 702 ["role"] .none U1,
 FA (sd 38) "figures_laid" "figures_laid" 705 254 2 391 712 ["picture","number","units","text"] .none U1,
 FA (sd 39) "sign_text" "sign_text" 715 258 2 398 720 ["sign","is_negative"] .none U1,
 FA (sd 40) "insert_text" "insert_text" 723 266 1 405 727 ["sign"] .none U1,
 [t0,fo (.type "builtin_function_or_method") [(.builtin "type.__prepare__"),(.type "type")],ob (.type "dict") (.dict [de P "__module__" 737 U1,de P "__qualname__" 739 (sv "Layer" 738),de P "__firstlineno__" 741 (iv 268 740),de P "__init__" 751 (rv 425),de P "suppress" 758 (rv 432),de P "figure" 767 (rv 439),de P "place" 776 (rv 446),de P "__static_attributes__" 785 (rv 447)].toArray 8),t0,fl [(iw 270),(iw 4),(rv 424),(iw 280),(iw 4),(rv 431),(iw 284),(iw 4),(rv 438),(iw 294),(iw 4),(rv 445)],kk "Layer" "Layer" 732 268 415 735,fr (rv 417) (rv 414) U1],
 FA (sm 41 0) "__init__" "Layer.__init__" 742 270 4 419 749 ["self","figures","is_negative","fill"] .none U1,
 FA (sm 41 1) "suppress" "Layer.suppress" 752 280 1 426 756 ["self"] .none U1,
 FA (sm 41 2) "figure" "Layer.figure" 759 284 2 433 765 ["self","role","figure"] .none U1,
 FA (sm 41 3) "place" "Layer.place" 768 294 3 440 774 ["self","role","sign"] .none U1,
 [tp [(sv "figures" 777),(sv "fill" 778),(sv "found" 779),(sv "is_begun" 780),(sv "is_counting" 781),(sv "is_negative" 782),(sv "next" 783),(sv "spot" 784)],ob (.type "dict") (.dict [de P "__module__" 737 U1,de P "__firstlineno__" 741 (iv 268 740),de P "__init__" 751 (rv 425),de P "suppress" 758 (rv 432),de P "figure" 767 (rv 439),de P "place" 776 (rv 446),de P "__static_attributes__" 785 (rv 447),de P "__dict__" 787 (rv 450),de P "__weakref__" 789 (rv 451),de P "__doc__" 790 .none].toArray 4),ty (cl "Layer" [(.type "object")] [(rv 449),(.type "object")] 448 []) #[none,none,some (sv "Layer" 730),some (sv "Layer" 738),some (.builtin "object.__new__"),some (.bool true)],fo (.type "getset_descriptor") [(sv "__dict__" 786),(rv 449),(.builtin "function.__dict__"),(.builtin "function.__dict__#set")],fo (.type "getset_descriptor") [(sv "__weakref__" 788),(rv 449),(.builtin "ExceptionGroup.__weakref__"),.none],fo (.type "super") [(rv 449),(rv 449),(rv 449)],fo (.type "builtin_function_or_method") [(.builtin "object.__init_subclass__"),(rv 449)]],
 FB (sd 42) "vanished" "vanished" 793 309 3 454 796 .none U1,
 FA (sd 43) "edited_text" "edited_text" 799 313 3 459 812 ["picture","number","is_blank_zero","signs","roles","figures","is_negative","layer","role","sign"] .none U1,
 [tp [(.bool false)]],
 FB (sd 44) "edited" "edited" 815 328 3 467 818 (rv 466) U1,
 FB (sd 45) "data_places" "data_places" 821 330 1 472 824 .none U1,
 FA (sd 46) "inserted" "inserted" 827 332 2 477 838 ["picture","octets","signs","many","held","found","at","sign"] .none U1,
 FA (sd 50) "octet_places" "octet_places" 847 347 1 484 856 ["picture","found","at","signs","role","sign"] .none qXz,
 FA (sd 51) "figure_of" "figure_of" 859 355 1 491 863 ["code"] .none qXz,
 FA (sd 52) "units_told" "units_told" 866 357 2 498 875 ["rows","octets","units","role","sign","at"] .none qXz,
 FB (sd 53) "is_minus_at" "is_minus_at" 878 363 4 505 881 .none qXz,
 FB (sd 54) "has_minus" "has_minus" 884 367 2 510 887 .none qXz,
 FA (sd 55) "first_unlike" "first_unlike" 890 373 2 515 896 ["one","other","at"] .none qXz,
 [tp [(.bool false)]],
 FA (sd 56) "number_of_edited" "number_of_edited" 899 378 3 523 909 ["picture","octets","is_blank_zero","rows","units","found","due"] (rv 522) qXz].flatten
def l4(P:Params):List DictEntry:=l3 P++[de P "is_suppressing" 704 (rv 390),de P "figures_laid" 714 (rv 397),de P "sign_text" 722 (rv 404),de P "insert_text" 729 (rv 411),de P "Layer" 792 (rv 449),de P "vanished" 798 (rv 458),de P "edited_text" 814 (rv 465),de P "edited" 820 (rv 471),de P "data_places" 826 (rv 476),de P "inserted" 840 (rv 483),de P "NOUGHT_deediting" 844 (iv 48 843),de P "MINUS_deediting" 846 (iv 45 845),de P "octet_places" 858 (rv 490),de P "figure_of" 865 (rv 497),de P "units_told" 877 (rv 504),de P "is_minus_at" 883 (rv 509),de P "has_minus" 889 (rv 514),de P "first_unlike" 898 (rv 521),de P "number_of_edited" 911 (rv 529)]
def c4:List Value:=c3++[(iw 252),z0,(rv 389),(iw 254),z0,(rv 396),(iw 258),z0,(rv 403),(iw 266),z0,(rv 410),(iw 268),z0,(rv 417),(iw 309),z0,(rv 457),(iw 313),z0,(rv 464),(iw 328),z0,(rv 470),(iw 330),z0,(rv 475),(iw 332),z0,(rv 482),(iw 347),z0,(rv 489),(iw 355),z0,(rv 496),(iw 357),z0,(rv 503),(iw 363),z0,(rv 508),(iw 367),z0,(rv 513),(iw 373),z0,(rv 520),(iw 378),z0,(rv 528)]
def T4(P:Params):BT:=Ja (((T3 P).set 3 (fun J=>Y2 P Gw (l4 P) 60)).set 12 (fun J=>fl c4)) 384 (g4 P)
noncomputable def q4:Pos:={line:=388,col:=0,endLine:=388,endCol:=8}
theorem r4(w:World):(fun os=>rT w 854 (stT (T3 w.params) 384 698 os) (sts 37 21) q3)=fun os=>some (.next,stT (T4 w.params) 530 914 os,cE,q4):=by kernel_rfl
def o537:Obj:=tp [.none,(sv "display" 926),(sv "trailing" 927),(.bool false),(.bool false),(.bool false)]
def o543:Obj:=ka "__init__" "Shape.__init__" 928 391 9 538 940
def o544:Obj:=fn (sm 58 0) "Shape.__init__" (rv 537) Gw (rv 543)
def o560(P:Params):Obj:=ob (.type "dict") (.dict [de P "__module__" 921 Gw,de P "__firstlineno__" 925 (iv 389 924),de P "__init__" 942 (rv 544),de P "told" 952 (rv 551),de P "sign_place" 959 (rv 558),de P "__static_attributes__" 971 (rv 559),de P "__dict__" 973 (rv 562),de P "__weakref__" 975 (rv 563),de P "__doc__" 976 .none].toArray 4)
def o561:Obj:=ty (cl "Shape" [(.type "object")] [(rv 561),(.type "object")] 560 []) #[none,none,some (sv "Shape" 914),some (sv "Shape" 922),some (.builtin "object.__new__"),some (.bool true)]
def o571:Obj:=ka "is_numeric" "is_numeric" 979 418 1 566 983
def o572:Obj:=fn (sd 59) "is_numeric" .none Gw (rv 571)
def o578:Obj:=ka "has_units" "has_units" 986 420 1 573 990
def o579:Obj:=fn (sd 60) "has_units" .none Gw (rv 578)
def o592:Obj:=ka "group_shape" "group_shape" 1000 424 1 587 1004
def o593:Obj:=fn (sd 62) "group_shape" .none Gw (rv 592)
def o599:Obj:=ka "text_shape" "text_shape" 1007 426 1 594 1011
def o600:Obj:=fn (sd 63) "text_shape" .none Gw (rv 599)
def g5(P:Params):List Obj:=[[t0,fo (.type "builtin_function_or_method") [(.builtin "type.__prepare__"),(.type "type")],ob (.type "dict") (.dict [de P "__module__" 921 Gw,de P "__qualname__" 923 (sv "Shape" 922),de P "__firstlineno__" 925 (iv 389 924),de P "__init__" 942 (rv 544),de P "told" 952 (rv 551),de P "sign_place" 959 (rv 558),de P "__static_attributes__" 971 (rv 559)].toArray 7),t0,fl [(iw 391),(iw 4),(rv 543),(iw 408),(iw 4),(rv 550),(iw 414),(iw 4),(rv 557)],kk "Shape" "Shape" 916 389 533 919,fr (rv 535) (rv 532) Gw,o537,t0,f0,tp [(sv "self" 931),(sv "category" 932),(sv "size" 933),(sv "picture" 934),(sv "usage" 935),(sv "sign" 936),(sv "is_separate" 937),(sv "is_justified" 938),(sv "is_blank_zero" 939)],t0,nf (sm 58 0) "Shape.__init__",o543,o544],
 FA (sm 58 1) "told" "Shape.told" 943 408 1 545 950 ["self","clauses","number","picture"] .none Gw,
 FA (sm 58 2) "sign_place" "Shape.sign_place" 953 414 1 552 957 ["self"] .none Gw,
 [tp [(sv "category" 960),(sv "digits" 961),(sv "is_blank_zero" 962),(sv "is_justified" 963),(sv "is_separate" 964),(sv "is_signed" 965),(sv "picture" 966),(sv "scale" 967),(sv "sign" 968),(sv "size" 969),(sv "usage" 970)],o560 P,o561,fo (.type "getset_descriptor") [(sv "__dict__" 972),(rv 561),(.builtin "function.__dict__"),(.builtin "function.__dict__#set")],fo (.type "getset_descriptor") [(sv "__weakref__" 974),(rv 561),(.builtin "ExceptionGroup.__weakref__"),.none],fo (.type "super") [(rv 561),(rv 561),(rv 561)],fo (.type "builtin_function_or_method") [(.builtin "object.__init_subclass__"),(rv 561)],t0,f0,tp [(sv "shape" 982)],t0,nf (sd 59) "is_numeric",o571,o572,t0,f0,tp [(sv "shape" 989)],t0,nf (sd 60) "has_units",o578,o579],
 FA (sd 61) "unit_bound" "unit_bound" 993 422 1 580 997 ["shape"] .none Gw,
 [t0,f0,tp [(sv "size" 1003)],t0,nf (sd 62) "group_shape",o592,o593,t0,f0,tp [(sv "octets" 1010)],t0,nf (sd 63) "text_shape",o599,o600],
 FA (sd 64) "numbered_shape" "numbered_shape" 1014 428 6 601 1024 ["category","size","usage","digits","scale","is_signed","found"] .none Gw,
 FA (sd 65) "figure_count" "figure_count" 1027 434 1 608 1033 ["number","count","rest"] .none Gw,
 FA (sd 66) "number_shape" "number_shape" 1036 440 1 615 1043 ["number","units","scale","digits"] .none Gw,
 FA (sd 67) "unsigned_shape" "unsigned_shape" 1046 444 1 622 1050 ["shape"] .none Gw,
 FA (sd 77) "kept_units" "kept_units" 1071 455 2 629 1077 ["shape","units","left"] .none Yp,
 FA (sd 78) "figures_for" "figures_for" 1080 458 2 636 1088 ["number","count","found","rest","turn"] .none Yp,
 FB (sd 79) "display_octets" "display_octets" 1091 464 2 643 1094 .none Yp,
 FB (sd 80) "packed_octets" "packed_octets" 1097 475 2 648 1100 .none Yp,
 FA (sd 81) "binary_octets" "binary_octets" 1103 481 2 653 1111 ["shape","units","rest","found","turn"] .none Yp,
 FA (sd 82) "octets_for" "octets_for" 1114 487 2 660 1120 ["shape","units","left"] .none Yp,
 FA (sd 83) "joined_figures" "joined_figures" 1123 492 1 667 1130 ["figures","found","at","figure"] .none Yp,
 FA (sd 84) "signed_figure" "signed_figure" 1133 499 1 674 1137 ["code"] .none Yp,
 FB (sd 85) "display_units" "display_units" 1140 505 2 681 1143 .none Yp,
 FA (sd 86) "packed_units" "packed_units" 1146 517 2 686 1155 ["shape","octets","halves","code","mark","found"] .none Yp,
 FA (sd 87) "binary_units" "binary_units" 1158 526 2 693 1165 ["shape","octets","found","code"] .none Yp].flatten
def l5(P:Params):List DictEntry:=l4 P++[de P "Shape" 978 (rv 561),de P "is_numeric" 985 (rv 572),de P "has_units" 992 (rv 579),de P "unit_bound" 999 (rv 586),de P "group_shape" 1006 (rv 593),de P "text_shape" 1013 (rv 600),de P "numbered_shape" 1026 (rv 607),de P "figure_count" 1035 (rv 614),de P "number_shape" 1045 (rv 621),de P "unsigned_shape" 1052 (rv 628),de P "NOUGHT_usages" 1056 (iv 48 1055),de P "PLUS" 1058 (iv 43 1057),de P "MINUS_usages" 1060 (iv 45 1059),de P "PLUS_FIGURES" 1062 (bv [123,65,66,67,68,69,70,71,72,73] 1061),de P "MINUS_FIGURES" 1064 (bv [125,74,75,76,77,78,79,80,81,82] 1063),de P "PACKED_PLUS" 1066 (iv 12 1065),de P "PACKED_MINUS" 1068 (iv 13 1067),de P "PACKED_PLAIN" 1070 (iv 15 1069),de P "kept_units" 1079 (rv 635),de P "figures_for" 1090 (rv 642),de P "display_octets" 1096 (rv 647),de P "packed_octets" 1102 (rv 652),de P "binary_octets" 1113 (rv 659),de P "octets_for" 1122 (rv 666),de P "joined_figures" 1132 (rv 673),de P "signed_figure" 1139 (rv 680),de P "display_units" 1145 (rv 685),de P "packed_units" 1157 (rv 692),de P "binary_units" 1167 (rv 699)]
def c5:List Value:=c4++[(iw 389),z0,(rv 535),(iw 418),z0,(rv 571),(iw 420),z0,(rv 578),(iw 422),z0,(rv 585),(iw 424),z0,(rv 592),(iw 426),z0,(rv 599),(iw 428),z0,(rv 606),(iw 434),z0,(rv 613),(iw 440),z0,(rv 620),(iw 444),z0,(rv 627),(iw 455),z0,(rv 634),(iw 458),z0,(rv 641),(iw 464),z0,(rv 646),(iw 475),z0,(rv 651),(iw 481),z0,(rv 658),(iw 487),z0,(rv 665),(iw 492),z0,(rv 672),(iw 499),z0,(rv 679),(iw 505),z0,(rv 684),(iw 517),z0,(rv 691),(iw 526),z0,(rv 698)]
def T5(P:Params):BT:=Ja (((T4 P).set 3 (fun J=>Y2 P Yp (l5 P) 89)).set 12 (fun J=>fl c5)) 530 (g5 P)
noncomputable def q5:Pos:={line:=526,col:=0,endLine:=532,endCol:=16}
theorem r5(w:World):(fun os=>rT w 994 (stT (T4 w.params) 530 914 os) (sts 58 30) q4)=fun os=>some (.next,stT (T5 w.params) 700 1168 os,cE,q5):=by kernel_rfl
def o721:Obj:=tp [(sv "numeric" 1199),(sv "edited" 1200)]
def o727:Obj:=ka "goals_of" "goals_of" 1202 550 1 722 1208
def o728:Obj:=fn (sd 95) "goals_of" .none Kk (rv 727)
def o734:Obj:=ka "can_move" "can_move" 1211 554 2 729 1216
def o735:Obj:=fn (sd 96) "can_move" .none Kk (rv 734)
def o736:Obj:=tp [(.bool false)]
def o742:Obj:=ka "aligned" "aligned" 1219 556 3 737 1225
def o743:Obj:=fn (sd 97) "aligned" (rv 736) Kk (rv 742)
def o770:Obj:=ka "text_in" "text_in" 1254 577 2 765 1259
def o771:Obj:=fn (sd 101) "text_in" .none Kk (rv 770)
def o777:Obj:=ka "text_for" "text_for" 1262 583 2 772 1267
def o778:Obj:=fn (sd 102) "text_for" .none Kk (rv 777)
def o791:Obj:=ka "moved" "moved" 1278 591 3 786 1284
def o792:Obj:=fn (sd 104) "moved" .none Kk (rv 791)
def g6(_:Params):List Obj:=[FA (sd 88) "units_in" "units_in" 1168 533 2 700 1174 ["shape","octets","found"] .none Yp,
 FA (sd 89) "number_in" "number_in" 1177 542 2 707 1182 ["shape","octets"] .none Yp,
 FA (sd 90) "cut_octets" "cut_octets" 1185 544 2 714 1190 ["shape","number"] .none Yp,
 [o721,t0,f0,tp [(sv "category" 1205),(sv "texts" 1206),(sv "rows" 1207)],t0,nf (sd 95) "goals_of",o727,o728,t0,f0,tp [(sv "source" 1214),(sv "goal" 1215)],t0,nf (sd 96) "can_move",o734,o735,o736,t0,f0,tp [(sv "octets" 1222),(sv "size" 1223),(sv "is_justified" 1224)],t0,nf (sd 97) "aligned",o742,o743],
 FA (sd 98) "repeated" "repeated" 1228 560 2 744 1233 ["octets","size"] .none Kk,
 FA (sd 99) "whole_figures_of" "whole_figures_of" 1236 564 1 751 1243 ["octets","number","at","code"] .none Kk,
 FA (sd 100) "worth_in_text" "worth_in_text" 1246 571 2 758 1251 ["shape","octets"] .none Kk,
 [t0,f0,tp [(sv "shape" 1257),(sv "octets" 1258)],t0,nf (sd 101) "text_in",o770,o771,t0,f0,tp [(sv "shape" 1265),(sv "octets" 1266)],t0,nf (sd 102) "text_for",o777,o778],
 FA (sd 103) "number_for" "number_for" 1270 587 2 779 1275 ["shape","number"] .none Kk,
 [t0,f0,tp [(sv "source" 1281),(sv "octets" 1282),(sv "goal" 1283)],t0,nf (sd 104) "moved",o791,o792],
 FA (sd 105) "pattern_of" "pattern_of" 1287 599 1 793 1291 ["operand"] .none Kk,
 FA (sd 106) "filled_number" "filled_number" 1294 603 2 800 1299 ["operand","shape"] .none Kk,
 FA (sd 107) "filled" "filled" 1302 609 2 807 1308 ["operand","shape","text"] .none Kk,
 [tp [(sv "sequential" 1313),(sv "dynamic" 1314)],tp [(sv "random" 1316),(sv "dynamic" 1317)]],
 FA (sd 111) "least_from" "least_from" 1319 619 2 816 1325 ["content","low","number"] .none J5].flatten
def l6(P:Params):List DictEntry:=l5 P++[de P "units_in" 1176 (rv 706),de P "number_in" 1184 (rv 713),de P "cut_octets" 1192 (rv 720),de P "BLANK_moving" 1196 (bv [32] 1195),de P "NOUGHT_CODE" 1198 (iv 48 1197),de P "NUMBERS" 1201 (rv 721),de P "goals_of" 1210 (rv 728),de P "can_move" 1218 (rv 735),de P "aligned" 1227 (rv 743),de P "repeated" 1235 (rv 750),de P "whole_figures_of" 1245 (rv 757),de P "worth_in_text" 1253 (rv 764),de P "text_in" 1261 (rv 771),de P "text_for" 1269 (rv 778),de P "number_for" 1277 (rv 785),de P "moved" 1286 (rv 792),de P "pattern_of" 1293 (rv 799),de P "filled_number" 1301 (rv 806),de P "filled" 1310 (rv 813),de P "BY_ORDER" 1315 (rv 814),de P "BY_NUMBER" 1318 (rv 815),de P "least_from" 1327 (rv 822)]
def c6:List Value:=c5++[(iw 533),z0,(rv 705),(iw 542),z0,(rv 712),(iw 544),z0,(rv 719),(iw 550),z0,(rv 727),(iw 554),z0,(rv 734),(iw 556),z0,(rv 742),(iw 560),z0,(rv 749),(iw 564),z0,(rv 756),(iw 571),z0,(rv 763),(iw 577),z0,(rv 770),(iw 583),z0,(rv 777),(iw 587),z0,(rv 784),(iw 591),z0,(rv 791),(iw 599),z0,(rv 798),(iw 603),z0,(rv 805),(iw 609),z0,(rv 812),(iw 619),z0,(rv 821)]
def T6(P:Params):BT:=Ja (((T5 P).set 3 (fun J=>Y2 P J5 (l6 P) 111)).set 12 (fun J=>fl c6)) 700 (g6 P)
noncomputable def q6:Pos:={line:=619,col:=0,endLine:=623,endCol:=12}
theorem r6(w:World):(fun os=>rT w 591 (stT (T5 w.params) 700 1168 os) (sts 88 24) q5)=fun os=>some (.next,stT (T6 w.params) 823 1328 os,cE,q6):=by kernel_rfl
def o923:Obj:=tp [(sv "input" 1464),(sv "i-o" 1465)]
def o924:Obj:=tp [(sv "output" 1467),(sv "extend" 1468)]
def o937:Obj:=ka "__init__" "RowFile.__init__" 1482 716 3 932 1488
def o938:Obj:=fn (sm 116 0) "RowFile.__init__" .none Gc (rv 937)
def o944:Obj:=ka "read_next" "RowFile.read_next" 1491 725 1 939 1495
def o945:Obj:=fn (sm 116 1) "RowFile.read_next" .none Gc (rv 944)
def o951:Obj:=ka "write" "RowFile.write" 1498 738 2 946 1503
def o952:Obj:=fn (sm 116 2) "RowFile.write" .none Gc (rv 951)
def o968(P:Params):Obj:=ob (.type "dict") (.dict [de P "__module__" 1477 Gc,de P "__firstlineno__" 1481 (iv 714 1480),de P "__init__" 1490 (rv 938),de P "read_next" 1497 (rv 945),de P "write" 1505 (rv 952),de P "rewrite" 1513 (rv 959),de P "told" 1520 (rv 966),de P "__static_attributes__" 1526 (rv 967),de P "__dict__" 1528 (rv 970),de P "__weakref__" 1530 (rv 971),de P "__doc__" 1531 .none].toArray 4)
def o969:Obj:=ty (cl "RowFile" [(.type "object")] [(rv 969),(.type "object")] 968 []) #[none,none,some (sv "RowFile" 1470),some (sv "RowFile" 1478),some (.builtin "object.__new__"),some (.bool true)]
def g7(P:Params):List Obj:=[[t0,fo (.type "builtin_function_or_method") [(.builtin "type.__prepare__"),(.type "type")],ob (.type "dict") (.dict [de P "__module__" 1335 J5,de P "__qualname__" 1337 (sv "RelFile" 1336),de P "__firstlineno__" 1339 (iv 624 1338),de P "__init__" 1351 (rv 837),de P "need" 1360 (rv 844),de P "failed" 1368 (rv 851),de P "found" 1376 (rv 858),de P "read_next" 1384 (rv 865),de P "read_at" 1392 (rv 872),de P "start" 1401 (rv 879),de P "write" 1411 (rv 887),de P "chosen" 1419 (rv 894),de P "rewrite" 1429 (rv 902),de P "delete" 1438 (rv 910),de P "told" 1444 (rv 915),de P "__static_attributes__" 1454 (rv 916)].toArray 16),t0,fl [(iw 626),(iw 4),(rv 836),(iw 641),(iw 4),(rv 843),(iw 645),(iw 4),(rv 850),(iw 649),(iw 4),(rv 857),(iw 657),(iw 4),(rv 864),(iw 671),(iw 4),(rv 871),(iw 680),(iw 4),(rv 878),(iw 683),(iw 4),(rv 886),(iw 699),(iw 4),(rv 893),(iw 702),(iw 4),(rv 901),(iw 705),(iw 4),(rv 909),(iw 708),(iw 4),(rv 914)],kk "RelFile" "RelFile" 1330 624 826 1333,fr (rv 828) (rv 825) J5,tp [(iv 0 1340)]],
 FA (sm 112 0) "__init__" "RelFile.__init__" 1341 626 5 831 1349 ["self","content","mode","access","most"] (rv 830) J5,
 FA (sm 112 1) "need" "RelFile.need" 1352 641 3 838 1358 ["self","some","what"] .none J5,
 FA (sm 112 2) "failed" "RelFile.failed" 1361 645 2 845 1366 ["self","status"] .none J5,
 FA (sm 112 3) "found" "RelFile.found" 1369 649 2 852 1374 ["self","number"] .none J5,
 FA (sm 112 4) "read_next" "RelFile.read_next" 1377 657 1 859 1382 ["self","number"] .none J5,
 FA (sm 112 5) "read_at" "RelFile.read_at" 1385 671 2 866 1390 ["self","number"] .none J5,
 FA (sm 112 6) "start" "RelFile.start" 1393 680 3 873 1399 ["self","op","number"] .none J5,
 [tp [(iv 0 1402)]],
 FA (sm 112 7) "write" "RelFile.write" 1403 683 3 881 1409 ["self","octets","number"] (rv 880) J5,
 FA (sm 112 8) "chosen" "RelFile.chosen" 1412 699 2 888 1417 ["self","number"] .none J5,
 [tp [(iv 0 1420)]],
 FA (sm 112 9) "rewrite" "RelFile.rewrite" 1421 702 3 896 1427 ["self","octets","number"] (rv 895) J5,
 [tp [(iv 0 1430)]],
 FA (sm 112 10) "delete" "RelFile.delete" 1431 705 2 904 1436 ["self","number"] (rv 903) J5,
 FB (sm 112 11) "told" "RelFile.told" 1439 708 1 911 1442 .none J5,
 [tp [(sv "access" 1445),(sv "content" 1446),(sv "is_behind" 1447),(sv "is_valid" 1448),(sv "last" 1449),(sv "mode" 1450),(sv "most" 1451),(sv "number" 1452),(sv "place" 1453)],ob (.type "dict") (.dict [de P "__module__" 1335 J5,de P "__firstlineno__" 1339 (iv 624 1338),de P "__init__" 1351 (rv 837),de P "need" 1360 (rv 844),de P "failed" 1368 (rv 851),de P "found" 1376 (rv 858),de P "read_next" 1384 (rv 865),de P "read_at" 1392 (rv 872),de P "start" 1401 (rv 879),de P "write" 1411 (rv 887),de P "chosen" 1419 (rv 894),de P "rewrite" 1429 (rv 902),de P "delete" 1438 (rv 910),de P "told" 1444 (rv 915),de P "__static_attributes__" 1454 (rv 916),de P "__dict__" 1456 (rv 919),de P "__weakref__" 1458 (rv 920),de P "__doc__" 1459 .none].toArray 4),ty (cl "RelFile" [(.type "object")] [(rv 918),(.type "object")] 917 []) #[none,none,some (sv "RelFile" 1328),some (sv "RelFile" 1336),some (.builtin "object.__new__"),some (.bool true)],fo (.type "getset_descriptor") [(sv "__dict__" 1455),(rv 918),(.builtin "function.__dict__"),(.builtin "function.__dict__#set")],fo (.type "getset_descriptor") [(sv "__weakref__" 1457),(rv 918),(.builtin "ExceptionGroup.__weakref__"),.none],fo (.type "super") [(rv 918),(rv 918),(rv 918)],fo (.type "builtin_function_or_method") [(.builtin "object.__init_subclass__"),(rv 918)],o923,o924,t0,fo (.type "builtin_function_or_method") [(.builtin "type.__prepare__"),(.type "type")],ob (.type "dict") (.dict [de P "__module__" 1477 Gc,de P "__qualname__" 1479 (sv "RowFile" 1478),de P "__firstlineno__" 1481 (iv 714 1480),de P "__init__" 1490 (rv 938),de P "read_next" 1497 (rv 945),de P "write" 1505 (rv 952),de P "rewrite" 1513 (rv 959),de P "told" 1520 (rv 966),de P "__static_attributes__" 1526 (rv 967)].toArray 9),t0,fl [(iw 716),(iw 4),(rv 937),(iw 725),(iw 4),(rv 944),(iw 738),(iw 4),(rv 951),(iw 745),(iw 4),(rv 958),(iw 748),(iw 4),(rv 965)],kk "RowFile" "RowFile" 1472 714 928 1475,fr (rv 930) (rv 927) Gc,t0,f0,tp [(sv "self" 1485),(sv "content" 1486),(sv "mode" 1487)],t0,nf (sm 116 0) "RowFile.__init__",o937,o938,t0,f0,tp [(sv "self" 1494)],t0,nf (sm 116 1) "RowFile.read_next",o944,o945,t0,f0,tp [(sv "self" 1501),(sv "octets" 1502)],t0,nf (sm 116 2) "RowFile.write",o951,o952],
 FA (sm 116 3) "rewrite" "RowFile.rewrite" 1506 745 2 953 1511 ["self","octets"] .none Gc,
 FA (sm 116 4) "told" "RowFile.told" 1514 748 1 960 1518 ["self"] .none Gc,
 [tp [(sv "at" 1521),(sv "content" 1522),(sv "is_valid" 1523),(sv "last" 1524),(sv "mode" 1525)],o968 P,o969,fo (.type "getset_descriptor") [(sv "__dict__" 1527),(rv 969),(.builtin "function.__dict__"),(.builtin "function.__dict__#set")],fo (.type "getset_descriptor") [(sv "__weakref__" 1529),(rv 969),(.builtin "ExceptionGroup.__weakref__"),.none],fo (.type "super") [(rv 969),(rv 969),(rv 969)],fo (.type "builtin_function_or_method") [(.builtin "object.__init_subclass__"),(rv 969)]]].flatten
def l7(P:Params):List DictEntry:=l6 P++[de P "RelFile" 1461 (rv 918),de P "READING_rowfile" 1466 (rv 923),de P "ADDING" 1469 (rv 924),de P "RowFile" 1533 (rv 969)]
def c7:List Value:=c6++[(iw 624),z0,(rv 828),(iw 714),z0,(rv 930)]
def T7(P:Params):BT:=Ja (((T6 P).set 3 (fun J=>Y2 P Yo (l7 P) 115)).set 12 (fun J=>fl c7)) 823 (g7 P)
noncomputable def q7:Pos:={line:=750,col:=0,endLine:=750,endCol:=8}
theorem r7(w:World):(fun os=>rT w 989 (stT (T6 w.params) 823 1328 os) (sts 112 6) q6)=fun os=>some (.next,stT (T7 w.params) 974 1536 os,cE,q7):=by kernel_rfl
def o974:Obj:=tp [(sv "sequential" 1536),(sv "relative" 1537),(sv "indexed" 1538)]
def o980:Obj:=ka "outcome_of" "outcome_of" 1540 752 1 975 1544
def o981:Obj:=fn (sd 119) "outcome_of" .none Yo (rv 980)
def o994:Obj:=ka "__init__" "Shelf.__init__" 1559 756 1 989 1563
def o995:Obj:=fn (sm 120 0) "Shelf.__init__" .none Yo (rv 994)
def jXy:Obj:=ka "kind_of" "Shelf.kind_of" 1573 762 2 1003 1578
def jXx:Obj:=fn (sm 120 2) "Shelf.kind_of" .none Yo (rv 1008)
def jXw:Obj:=ka "content_of" "Shelf.content_of" 1581 765 2 1010 1586
def jXv:Obj:=fn (sm 120 3) "Shelf.content_of" .none Yo (rv 1015)
def jXu:Obj:=ka "begin" "Shelf.begin" 1589 770 3 1017 1596
def jXt:Obj:=fn (sm 120 4) "Shelf.begin" .none Yo (rv 1022)
def jXs:Obj:=kb "lay" "Shelf.lay" 1599 777 4 1024 1602
def jXr:Obj:=fn (sm 120 5) "Shelf.lay" .none Yo (rv 1027)
def jXq:Obj:=ka "opened" "Shelf.opened" 1605 787 4 1029 1612
def jXp:Obj:=fn (sm 120 6) "Shelf.opened" .none Yo (rv 1034)
def jXo(P:Params):Obj:=ob (.type "dict") (.dict [de P "__module__" 1554 Yo,de P "__firstlineno__" 1558 (iv 754 1557),de P "__init__" 1565 (rv 995),de P "paths" 1572 (rv 1002),de P "kind_of" 1580 (rv 1009),de P "content_of" 1588 (rv 1016),de P "begin" 1598 (rv 1023),de P "lay" 1604 (rv 1028),de P "opened" 1614 (rv 1035),de P "rows_of" 1620 (rv 1040),de P "copied" 1627 (rv 1047),de P "told" 1633 (rv 1052),de P "__static_attributes__" 1635 (rv 1053),de P "__dict__" 1637 (rv 1056),de P "__weakref__" 1639 (rv 1057),de P "__doc__" 1640 .none].toArray 4)
def jXn:Obj:=ty (cl "Shelf" [(.type "object")] [(rv 1055),(.type "object")] 1054 []) #[none,none,some (sv "Shelf" 1547),some (sv "Shelf" 1555),some (.builtin "object.__new__"),some (.bool true)]
def jXm:Obj:=ka "__init__" "Item.__init__" 1661 812 3 1067 1667
def jXl:Obj:=fn (sm 124 0) "Item.__init__" .none Z8 (rv 1072)
def jXk:Obj:=ka "add" "Item.add" 1670 833 2 1074 1675
def jXj:Obj:=fn (sm 124 1) "Item.add" .none Z8 (rv 1079)
def jXi:Obj:=ka "count" "Item.count" 1678 837 1 1081 1682
def jXh:Obj:=fn (sm 124 2) "Item.count" .none Z8 (rv 1086)
def jXg(P:Params):Obj:=ob (.type "dict") (.dict [de P "__module__" 1656 Z8,de P "__firstlineno__" 1660 (iv 810 1659),de P "__init__" 1669 (rv 1073),de P "add" 1677 (rv 1080),de P "count" 1684 (rv 1087),de P "clauses" 1693 (rv 1094),de P "told" 1699 (rv 1099),de P "__static_attributes__" 1719 (rv 1100),de P "__dict__" 1721 (rv 1103),de P "__weakref__" 1723 (rv 1104),de P "__doc__" 1724 .none].toArray 4)
def jXf:Obj:=ty (cl "Item" [(.type "object")] [(rv 1102),(.type "object")] 1101 []) #[none,none,some (sv "Item" 1649),some (sv "Item" 1657),some (.builtin "object.__new__"),some (.bool true)]
def g8(P:Params):List Obj:=[[o974,t0,f0,tp [(sv "status" 1543)],t0,nf (sd 119) "outcome_of",o980,o981,t0,fo (.type "builtin_function_or_method") [(.builtin "type.__prepare__"),(.type "type")],ob (.type "dict") (.dict [de P "__module__" 1554 Yo,de P "__qualname__" 1556 (sv "Shelf" 1555),de P "__firstlineno__" 1558 (iv 754 1557),de P "__init__" 1565 (rv 995),de P "paths" 1572 (rv 1002),de P "kind_of" 1580 (rv 1009),de P "content_of" 1588 (rv 1016),de P "begin" 1598 (rv 1023),de P "lay" 1604 (rv 1028),de P "opened" 1614 (rv 1035),de P "rows_of" 1620 (rv 1040),de P "copied" 1627 (rv 1047),de P "told" 1633 (rv 1052),de P "__static_attributes__" 1635 (rv 1053)].toArray 14),t0,fl [(iw 756),(iw 4),(rv 994),(iw 759),(iw 4),(rv 1001),(iw 762),(iw 4),(rv 1008),(iw 765),(iw 4),(rv 1015),(iw 770),(iw 4),(rv 1022),(iw 777),(iw 4),(rv 1027),(iw 787),(iw 4),(rv 1034),(iw 796),(iw 4),(rv 1039),(iw 802),(iw 4),(rv 1046),(iw 805),(iw 4),(rv 1051)],kk "Shelf" "Shelf" 1549 754 985 1552,fr (rv 987) (rv 984) Yo,t0,f0,tp [(sv "self" 1562)],t0,nf (sm 120 0) "Shelf.__init__",o994,o995],
 FA (sm 120 1) "paths" "Shelf.paths" 1566 759 1 996 1570 ["self"] .none Yo,
 [t0,f0,tp [(sv "self" 1576),(sv "path" 1577)],t0,nf (sm 120 2) "Shelf.kind_of",jXy,jXx,t0,f0,tp [(sv "self" 1584),(sv "path" 1585)],t0,nf (sm 120 3) "Shelf.content_of",jXw,jXv,t0,f0,tp [(sv "self" 1592),(sv "path" 1593),(sv "kind" 1594),(sv "content" 1595)],t0,nf (sm 120 4) "Shelf.begin",jXu,jXt,t0,f0,nf (sm 120 5) "Shelf.lay",jXs,jXr,t0,f0,tp [(sv "self" 1608),(sv "path" 1609),(sv "kind" 1610),(sv "mode" 1611)],t0,nf (sm 120 6) "Shelf.opened",jXq,jXp],
 FB (sm 120 7) "rows_of" "Shelf.rows_of" 1615 796 2 1036 1618 .none Yo,
 FA (sm 120 8) "copied" "Shelf.copied" 1621 802 1 1041 1625 ["self"] .none Yo,
 FB (sm 120 9) "told" "Shelf.told" 1628 805 1 1048 1631 .none Yo,
 [tp [(sv "files" 1634)],jXo P,jXn,fo (.type "getset_descriptor") [(sv "__dict__" 1636),(rv 1055),(.builtin "function.__dict__"),(.builtin "function.__dict__#set")],fo (.type "getset_descriptor") [(sv "__weakref__" 1638),(rv 1055),(.builtin "ExceptionGroup.__weakref__"),.none],fo (.type "super") [(rv 1055),(rv 1055),(rv 1055)],fo (.type "builtin_function_or_method") [(.builtin "object.__init_subclass__"),(rv 1055)],t0,fo (.type "builtin_function_or_method") [(.builtin "type.__prepare__"),(.type "type")],ob (.type "dict") (.dict [de P "__module__" 1656 Z8,de P "__qualname__" 1658 (sv "Item" 1657),de P "__firstlineno__" 1660 (iv 810 1659),de P "__init__" 1669 (rv 1073),de P "add" 1677 (rv 1080),de P "count" 1684 (rv 1087),de P "clauses" 1693 (rv 1094),de P "told" 1699 (rv 1099),de P "__static_attributes__" 1719 (rv 1100)].toArray 9),t0,fl [(iw 812),(iw 4),(rv 1072),(iw 833),(iw 4),(rv 1079),(iw 837),(iw 4),(rv 1086),(iw 840),(iw 4),(rv 1093),(iw 845),(iw 4),(rv 1098)],kk "Item" "Item" 1651 810 1063 1654,fr (rv 1065) (rv 1062) Z8,t0,f0,tp [(sv "self" 1664),(sv "level" 1665),(sv "name" 1666)],t0,nf (sm 124 0) "Item.__init__",jXm,jXl,t0,f0,tp [(sv "self" 1673),(sv "kid" 1674)],t0,nf (sm 124 1) "Item.add",jXk,jXj,t0,f0,tp [(sv "self" 1681)],t0,nf (sm 124 2) "Item.count",jXi,jXh],
 FA (sm 124 3) "clauses" "Item.clauses" 1685 840 1 1088 1691 ["self","often","first"] .none Z8,
 FB (sm 124 4) "told" "Item.told" 1694 845 1 1095 1697 .none Z8,
 [tp [(sv "base" 1700),(sv "conditions" 1701),(sv "is_blank_zero" 1702),(sv "is_justified" 1703),(sv "is_separate" 1704),(sv "kids" 1705),(sv "level" 1706),(sv "name" 1707),(sv "occurs" 1708),(sv "offset" 1709),(sv "parent" 1710),(sv "picture_text" 1711),(sv "redefines" 1712),(sv "renames" 1713),(sv "shape" 1714),(sv "sign" 1715),(sv "size" 1716),(sv "usage" 1717),(sv "value" 1718)],jXg P,jXf,fo (.type "getset_descriptor") [(sv "__dict__" 1720),(rv 1102),(.builtin "function.__dict__"),(.builtin "function.__dict__#set")],fo (.type "getset_descriptor") [(sv "__weakref__" 1722),(rv 1102),(.builtin "ExceptionGroup.__weakref__"),.none],fo (.type "super") [(rv 1102),(rv 1102),(rv 1102)],fo (.type "builtin_function_or_method") [(.builtin "object.__init_subclass__"),(rv 1102)]]].flatten
def l8(P:Params):List DictEntry:=l7 P++[de P "KINDS" 1539 (rv 974),de P "outcome_of" 1546 (rv 981),de P "Shelf" 1642 (rv 1055),de P "FILLER" 1646 (sv "FILLER" 1645),de P "RENAMING" 1648 (iv 66 1647),de P "Item" 1726 (rv 1102)]
def c8:List Value:=c7++[(iw 752),z0,(rv 980),(iw 754),z0,(rv 987),(iw 810),z0,(rv 1065)]
def T8(P:Params):BT:=Ja (((T7 P).set 3 (fun J=>Y2 P Z8 (l8 P) 121)).set 12 (fun J=>fl c8)) 974 (g8 P)
noncomputable def q8:Pos:={line:=810,col:=0,endLine:=847,endCol:=103}
theorem r8(w:World):(fun os=>rT w 934 (stT (T7 w.params) 974 1536 os) (sts 118 7) q7)=fun os=>some (.next,stT (T8 w.params) 1107 1727 os,cE,q8):=by kernel_rfl
def jXe:Obj:=ka "__init__" "Data.__init__" 1739 850 1 1114 1743
def jXd:Obj:=fn (sm 125 0) "Data.__init__" .none Z8 (rv 1119)
def jXc(P:Params):Obj:=ob (.type "dict") (.dict [de P "__module__" 1734 Z8,de P "__firstlineno__" 1738 (iv 848 1737),de P "__init__" 1745 (rv 1120),de P "told" 1751 (rv 1125),de P "__static_attributes__" 1758 (rv 1126),de P "__dict__" 1760 (rv 1129),de P "__weakref__" 1762 (rv 1130),de P "__doc__" 1763 .none].toArray 4)
def jXb:Obj:=ty (cl "Data" [(.type "object")] [(rv 1128),(.type "object")] 1127 []) #[none,none,some (sv "Data" 1727),some (sv "Data" 1735),some (.builtin "object.__new__"),some (.bool true)]
def jXa:Obj:=ka "records" "records" 1766 861 1 1133 1772
def jJ9:Obj:=fn (sd 126) "records" .none Z8 (rv 1138)
def jJ8:Obj:=ka "items_under" "items_under" 1775 866 1 1140 1782
def jJ7:Obj:=fn (sd 127) "items_under" .none Z8 (rv 1145)
def jJ6:Obj:=ka "all_items" "all_items" 1785 874 1 1147 1791
def jJ5:Obj:=fn (sd 128) "all_items" .none Z8 (rv 1152)
def jJ4:Obj:=ka "items_around" "items_around" 1794 879 1 1154 1800
def jJ3:Obj:=fn (sd 129) "items_around" .none Z8 (rv 1159)
def jJ2:Obj:=ka "root_of" "root_of" 1803 886 1 1161 1808
def jJ1:Obj:=fn (sd 130) "root_of" .none Z8 (rv 1166)
def jJ0:Obj:=kb "names_around" "names_around" 1811 889 1 1168 1814
def jJz:Obj:=fn (sd 131) "names_around" .none Z8 (rv 1171)
def jJy:Obj:=kb "tables_around" "tables_around" 1817 891 1 1173 1820
def jJx:Obj:=fn (sd 132) "tables_around" .none Z8 (rv 1176)
def jJw:Obj:=kb "is_group" "is_group" 1823 894 1 1178 1826
def jJv:Obj:=fn (sd 133) "is_group" .none Z8 (rv 1181)
def jJu:Obj:=kb "plain_kids" "plain_kids" 1829 896 1 1183 1832
def jJt:Obj:=fn (sd 134) "plain_kids" .none Z8 (rv 1186)
def jJs:Obj:=ka "unvalued" "unvalued" 1854 915 1 1202 1858
def jJr:Obj:=fn (sd 138) "unvalued" .none Df (rv 1207)
def jJq:Obj:=kb "first_octets" "first_octets" 1861 919 1 1209 1864
def jJp:Obj:=fn (sd 139) "first_octets" .none Df (rv 1212)
def jJo:Obj:=ka "initial_memory" "initial_memory" 1867 926 1 1214 1874
def jJn:Obj:=fn (sd 140) "initial_memory" .none Df (rv 1219)
def jJm:Obj:=kb "file_of" "file_of" 1919 971 2 1243 1922
def jJl:Obj:=fn (sd 147) "file_of" .none De (rv 1246)
def jJk:Obj:=ka "leads_through" "leads_through" 1925 977 2 1248 1932
def jJj:Obj:=fn (sd 148) "leads_through" .none De (rv 1253)
def jJi:Obj:=ka "only_one" "only_one" 1935 983 2 1255 1940
def jJh:Obj:=fn (sd 149) "only_one" .none De (rv 1260)
def jJg:Obj:=kb "find_item" "find_item" 1943 989 3 1262 1946
def jJf:Obj:=fn (sd 150) "find_item" .none De (rv 1265)
def jJe:Obj:=ka "stretch" "stretch" 1949 992 3 1267 1961
def jJd:Obj:=fn (sd 151) "stretch" .none De (rv 1272)
def g9(P:Params):List Obj:=[[t0,fo (.type "builtin_function_or_method") [(.builtin "type.__prepare__"),(.type "type")],ob (.type "dict") (.dict [de P "__module__" 1734 Z8,de P "__qualname__" 1736 (sv "Data" 1735),de P "__firstlineno__" 1738 (iv 848 1737),de P "__init__" 1745 (rv 1120),de P "told" 1751 (rv 1125),de P "__static_attributes__" 1758 (rv 1126)].toArray 6),t0,fl [(iw 850),(iw 4),(rv 1119),(iw 858),(iw 4),(rv 1124)],kk "Data" "Data" 1729 848 1110 1732,fr (rv 1112) (rv 1109) Z8,t0,f0,tp [(sv "self" 1742)],t0,nf (sm 125 0) "Data.__init__",jXe,jXd],
 FB (sm 125 1) "told" "Data.told" 1746 858 1 1121 1749 .none Z8,
 [tp [(sv "files" 1752),(sv "indexes" 1753),(sv "linkage" 1754),(sv "size" 1755),(sv "sorts" 1756),(sv "working" 1757)],jXc P,jXb,fo (.type "getset_descriptor") [(sv "__dict__" 1759),(rv 1128),(.builtin "function.__dict__"),(.builtin "function.__dict__#set")],fo (.type "getset_descriptor") [(sv "__weakref__" 1761),(rv 1128),(.builtin "ExceptionGroup.__weakref__"),.none],fo (.type "super") [(rv 1128),(rv 1128),(rv 1128)],fo (.type "builtin_function_or_method") [(.builtin "object.__init_subclass__"),(rv 1128)],t0,f0,tp [(sv "data" 1769),(sv "found" 1770),(sv "name" 1771)],t0,nf (sd 126) "records",jXa,jJ9,t0,f0,tp [(sv "item" 1778),(sv "found" 1779),(sv "line" 1780),(sv "one" 1781)],t0,nf (sd 127) "items_under",jJ8,jJ7,t0,f0,tp [(sv "data" 1788),(sv "found" 1789),(sv "root" 1790)],t0,nf (sd 128) "all_items",jJ6,jJ5,t0,f0,tp [(sv "item" 1797),(sv "found" 1798),(sv "above" 1799)],t0,nf (sd 129) "items_around",jJ4,jJ3,t0,f0,tp [(sv "item" 1806),(sv "around" 1807)],t0,nf (sd 130) "root_of",jJ2,jJ1,t0,f0,nf (sd 131) "names_around",jJ0,jJz,t0,f0,nf (sd 132) "tables_around",jJy,jJx,t0,f0,nf (sd 133) "is_group",jJw,jJv,t0,f0,nf (sd 134) "plain_kids",jJu,jJt],
 FA (sd 136) "data_fault" "data_fault" 1837 899 2 1188 1842 ["item","what"] .none Df,
 FA (sd 137) "valued" "valued" 1845 901 1 1195 1851 ["item","is_edited","wrong"] .none Df,
 [t0,f0,tp [(sv "item" 1857)],t0,nf (sd 138) "unvalued",jJs,jJr,t0,f0,nf (sd 139) "first_octets",jJq,jJp,t0,f0,tp [(sv "data" 1870),(sv "found" 1871),(sv "name" 1872),(sv "root" 1873)],t0,nf (sd 140) "initial_memory",jJo,jJn,tp [(sv "+" 1879),(sv "-" 1880),(sv "*" 1881),(sv "/" 1882),(sv "**" 1883)]],
 FA (sd 143) "postfix" "postfix" 1885 937 1 1222 1893 ["expr","found","line","kind","here"] .none qX0,
 FA (sd 144) "applied" "applied" 1896 951 3 1229 1902 ["sign","left","right"] .none qX0,
 FA (sd 145) "reckoned" "reckoned" 1905 959 2 1236 1914 ["expr","number","pile","kind","part","right"] .none qX0,
 [t0,f0,nf (sd 147) "file_of",jJm,jJl,t0,f0,tp [(sv "around" 1928),(sv "qualifiers" 1929),(sv "at" 1930),(sv "name" 1931)],t0,nf (sd 148) "leads_through",jJk,jJj,t0,f0,tp [(sv "found" 1938),(sv "name" 1939)],t0,nf (sd 149) "only_one",jJi,jJh,t0,f0,nf (sd 150) "find_item",jJg,jJf,t0,f0,tp [(sv "item" 1952),(sv "subscripts" 1953),(sv "part" 1954),(sv "tables" 1955),(sv "offset" 1956),(sv "table" 1957),(sv "subscript" 1958),(sv "begin" 1959),(sv "length" 1960)],t0,nf (sd 151) "stretch",jJe,jJd]].flatten
def l9(P:Params):List DictEntry:=l8 P++[de P "Data" 1765 (rv 1128),de P "records" 1774 (rv 1139),de P "items_under" 1784 (rv 1146),de P "all_items" 1793 (rv 1153),de P "items_around" 1802 (rv 1160),de P "root_of" 1810 (rv 1167),de P "names_around" 1816 (rv 1172),de P "tables_around" 1822 (rv 1177),de P "is_group" 1828 (rv 1182),de P "plain_kids" 1834 (rv 1187),de P "data_fault" 1844 (rv 1194),de P "valued" 1853 (rv 1201),de P "unvalued" 1860 (rv 1208),de P "first_octets" 1866 (rv 1213),de P "initial_memory" 1876 (rv 1220),de P "TWO_SIDED" 1884 (rv 1221),de P "postfix" 1895 (rv 1228),de P "applied" 1904 (rv 1235),de P "reckoned" 1916 (rv 1242),de P "file_of" 1924 (rv 1247),de P "leads_through" 1934 (rv 1254),de P "only_one" 1942 (rv 1261),de P "find_item" 1948 (rv 1266),de P "stretch" 1963 (rv 1273)]
def c9:List Value:=c8++[(iw 848),z0,(rv 1112),(iw 861),z0,(rv 1138),(iw 866),z0,(rv 1145),(iw 874),z0,(rv 1152),(iw 879),z0,(rv 1159),(iw 886),z0,(rv 1166),(iw 889),z0,(rv 1171),(iw 891),z0,(rv 1176),(iw 894),z0,(rv 1181),(iw 896),z0,(rv 1186),(iw 899),z0,(rv 1193),(iw 901),z0,(rv 1200),(iw 915),z0,(rv 1207),(iw 919),z0,(rv 1212),(iw 926),z0,(rv 1219),(iw 937),z0,(rv 1227),(iw 951),z0,(rv 1234),(iw 959),z0,(rv 1241),(iw 971),z0,(rv 1246),(iw 977),z0,(rv 1253),(iw 983),z0,(rv 1260),(iw 989),z0,(rv 1265),(iw 992),z0,(rv 1272)]
def T9(P:Params):BT:=Ja (((T8 P).set 3 (fun J=>Y2 P J4 (l9 P) 145)).set 12 (fun J=>fl c9)) 1107 (g9 P)
noncomputable def q9:Pos:={line:=1009,col:=0,endLine:=1009,endCol:=8}
theorem r9(w:World):(fun os=>rT w 962 (stT (T8 w.params) 1107 1727 os) (sts 125 28) q8)=fun os=>some (.next,stT (T9 w.params) 1274 1966 os,cE,q9):=by kernel_rfl
def jJc:Obj:=ka "__init__" "World.__init__" 1978 1012 4 1281 1986
def jJb:Obj:=fn (sm 153 0) "World.__init__" .none J4 (rv 1286)
def jJa(P:Params):Obj:=ob (.type "dict") (.dict [de P "__module__" 1973 J4,de P "__firstlineno__" 1977 (iv 1010 1976),de P "__init__" 1988 (rv 1287),de P "__static_attributes__" 2000 (rv 1288),de P "__dict__" 2002 (rv 1291),de P "__weakref__" 2004 (rv 1292),de P "__doc__" 2005 .none].toArray 4)
def jZ9:Obj:=ty (cl "World" [(.type "object")] [(rv 1290),(.type "object")] 1289 []) #[none,none,some (sv "World" 1966),some (sv "World" 1974),some (.builtin "object.__new__"),some (.bool true)]
def jZ8:Obj:=ka "memory_of" "memory_of" 2016 1028 2 1302 2021
def jZ7:Obj:=fn (sd 155) "memory_of" .none J4 (rv 1307)
def jZ6:Obj:=ka "place_of_octets" "place_of_octets" 2024 1034 4 1309 2034
def jZ5:Obj:=fn (sd 156) "place_of_octets" .none J4 (rv 1314)
def jZ4:Obj:=ka "part_of" "part_of" 2037 1039 2 1316 2043
def jZ3:Obj:=fn (sd 157) "part_of" .none J4 (rv 1321)
def jZ2:Obj:=kb "spot_in" "spot_in" 2046 1044 2 1323 2049
def jZ1:Obj:=fn (sd 158) "spot_in" .none J4 (rv 1326)
def jZ0:Obj:=ka "octets_at" "octets_at" 2052 1050 2 1328 2060
def jZz:Obj:=fn (sd 159) "octets_at" .none J4 (rv 1333)
def jZy:Obj:=ka "operand_in" "operand_in" 2075 1058 2 1342 2083
def jZx:Obj:=fn (sd 161) "operand_in" .none J4 (rv 1347)
def jZw:Obj:=ka "move_to" "move_to" 2114 1086 3 1370 2126
def jZv:Obj:=fn (sd 165) "move_to" .none J4 (rv 1375)
def jZu:Obj:=ka "plain_ref" "plain_ref" 2131 1095 1 1377 2135
def jZt:Obj:=fn (sd 167) "plain_ref" .none Zo (rv 1382)
def jZs:Obj:=ka "spec_of" "spec_of" 2138 1097 2 1384 2143
def jZr:Obj:=fn (sd 168) "spec_of" .none Zo (rv 1389)
def jZq:Obj:=ka "record_file" "record_file" 2146 1101 2 1391 2154
def jZp:Obj:=fn (sd 169) "record_file" .none Zo (rv 1396)
def jZo:Obj:=kb "area_of" "area_of" 2157 1108 2 1398 2160
def jZn:Obj:=fn (sd 170) "area_of" .none Zo (rv 1401)
def jZm:Obj:=ka "area_octets" "area_octets" 2163 1113 2 1403 2170
def jZl:Obj:=fn (sd 171) "area_octets" .none Zo (rv 1408)
def g10(P:Params):List Obj:=[[t0,fo (.type "builtin_function_or_method") [(.builtin "type.__prepare__"),(.type "type")],ob (.type "dict") (.dict [de P "__module__" 1973 J4,de P "__qualname__" 1975 (sv "World" 1974),de P "__firstlineno__" 1977 (iv 1010 1976),de P "__init__" 1988 (rv 1287),de P "__static_attributes__" 2000 (rv 1288)].toArray 5),t0,fl [(iw 1012),(iw 4),(rv 1286)],kk "World" "World" 1968 1010 1277 1971,fr (rv 1279) (rv 1276) J4,t0,f0,tp [(sv "self" 1981),(sv "program" 1982),(sv "shelf" 1983),(sv "rows" 1984),(sv "name" 1985)],t0,nf (sm 153 0) "World.__init__",jJc,jJb,tp [(sv "handles" 1989),(sv "indexes" 1990),(sv "links" 1991),(sv "memory" 1992),(sv "open_paths" 1993),(sv "open_row" 1994),(sv "program" 1995),(sv "rows" 1996),(sv "shelf" 1997),(sv "sorts" 1998),(sv "told_rows" 1999)],jJa P,jZ9,fo (.type "getset_descriptor") [(sv "__dict__" 2001),(rv 1290),(.builtin "function.__dict__"),(.builtin "function.__dict__#set")],fo (.type "getset_descriptor") [(sv "__weakref__" 2003),(rv 1290),(.builtin "ExceptionGroup.__weakref__"),.none],fo (.type "super") [(rv 1290),(rv 1290),(rv 1290)],fo (.type "builtin_function_or_method") [(.builtin "object.__init_subclass__"),(rv 1290)]],
 FA (sd 154) "is_index" "is_index" 2008 1026 2 1295 2013 ["world","operand"] .none J4,
 [t0,f0,tp [(sv "world" 2019),(sv "item" 2020)],t0,nf (sd 155) "memory_of",jZ8,jZ7,t0,f0,tp [(sv "world" 2027),(sv "item" 2028),(sv "offset" 2029),(sv "size" 2030),(sv "memory" 2031),(sv "begin" 2032),(sv "end" 2033)],t0,nf (sd 156) "place_of_octets",jZ6,jZ5,t0,f0,tp [(sv "world" 2040),(sv "part" 2041),(sv "length" 2042)],t0,nf (sd 157) "part_of",jZ4,jZ3,t0,f0,nf (sd 158) "spot_in",jZ2,jZ1,t0,f0,tp [(sv "world" 2055),(sv "ref" 2056),(sv "memory" 2057),(sv "offset" 2058),(sv "shape" 2059)],t0,nf (sd 159) "octets_at",jZ0,jZz],
 FA (sd 160) "put_octets" "put_octets" 2063 1053 3 1335 2072 ["world","ref","octets","memory","offset","shape"] .none J4,
 [t0,f0,tp [(sv "world" 2078),(sv "operand" 2079),(sv "memory" 2080),(sv "offset" 2081),(sv "shape" 2082)],t0,nf (sd 161) "operand_in",jZy,jZx],
 FA (sd 162) "number_of" "number_of" 2086 1068 2 1349 2093 ["world","operand","shape","octets"] .none J4,
 [t0,f0,tp [(sv "world" 2099),(sv "expr" 2100)],tp [(sv "world" 2101)],nf (sd 163) "worth_in",ka "worth_in" "worth_in" 2096 1079 2 1356 2102,fn (sd 163) "worth_in" .none J4 (rv 1361)],
 FA (sd 164) "whole_in" "whole_in" 2105 1081 2 1363 2111 ["world","expr","worth"] .none J4,
 [t0,f0,tp [(sv "world" 2117),(sv "operand" 2118),(sv "ref" 2119),(sv "memory" 2120),(sv "offset" 2121),(sv "shape" 2122),(sv "octets" 2123),(sv "source" 2124),(sv "told" 2125)],t0,nf (sd 165) "move_to",jZw,jZv,t0,f0,tp [(sv "name" 2134)],t0,nf (sd 167) "plain_ref",jZu,jZt,t0,f0,tp [(sv "world" 2141),(sv "file" 2142)],t0,nf (sd 168) "spec_of",jZs,jZr,t0,f0,tp [(sv "world" 2149),(sv "record" 2150),(sv "wanted" 2151),(sv "file" 2152),(sv "root" 2153)],t0,nf (sd 169) "record_file",jZq,jZp,t0,f0,nf (sd 170) "area_of",jZo,jZn,t0,f0,tp [(sv "world" 2166),(sv "file" 2167),(sv "offset" 2168),(sv "size" 2169)],t0,nf (sd 171) "area_octets",jZm,jZl],
 FA (sd 172) "key_part" "key_part" 2173 1116 3 1410 2182 ["world","file","name","memory","offset","shape"] .none Zo,
 FB (sd 173) "which_key" "which_key" 2185 1119 3 1417 2188 .none Zo,
 FA (sd 174) "greatest_number" "greatest_number" 2191 1127 2 1422 2199 ["world","spec","memory","offset","shape"] .none Zo,
 FA (sd 175) "asked_number" "asked_number" 2202 1134 2 1429 2208 ["world","spec","worth"] .none Zo,
 FA (sd 176) "key_number" "key_number" 2211 1141 4 1436 2218 ["world","spec","handle","modes"] .none Zo,
 FA (sd 177) "tell_number" "tell_number" 2221 1143 3 1443 2229 ["world","spec","number","ref","shape"] .none Zo,
 FA (sd 178) "by_order" "by_order" 2232 1148 1 1450 2236 ["spec"] .none Zo].flatten
def l10(P:Params):List DictEntry:=l9 P++[de P "World" 2007 (rv 1290),de P "is_index" 2015 (rv 1301),de P "memory_of" 2023 (rv 1308),de P "place_of_octets" 2036 (rv 1315),de P "part_of" 2045 (rv 1322),de P "spot_in" 2051 (rv 1327),de P "octets_at" 2062 (rv 1334),de P "put_octets" 2074 (rv 1341),de P "operand_in" 2085 (rv 1348),de P "number_of" 2095 (rv 1355),de P "worth_in" 2104 (rv 1362),de P "whole_in" 2113 (rv 1369),de P "move_to" 2128 (rv 1376),de P "plain_ref" 2137 (rv 1383),de P "spec_of" 2145 (rv 1390),de P "record_file" 2156 (rv 1397),de P "area_of" 2162 (rv 1402),de P "area_octets" 2172 (rv 1409),de P "key_part" 2184 (rv 1416),de P "which_key" 2190 (rv 1421),de P "greatest_number" 2201 (rv 1428),de P "asked_number" 2210 (rv 1435),de P "key_number" 2220 (rv 1442),de P "tell_number" 2231 (rv 1449),de P "by_order" 2238 (rv 1456)]
def c10:List Value:=c9++[(iw 1010),z0,(rv 1279),(iw 1026),z0,(rv 1300),(iw 1028),z0,(rv 1307),(iw 1034),z0,(rv 1314),(iw 1039),z0,(rv 1321),(iw 1044),z0,(rv 1326),(iw 1050),z0,(rv 1333),(iw 1053),z0,(rv 1340),(iw 1058),z0,(rv 1347),(iw 1068),z0,(rv 1354),(iw 1079),z0,(rv 1361),(iw 1081),z0,(rv 1368),(iw 1086),z0,(rv 1375),(iw 1095),z0,(rv 1382),(iw 1097),z0,(rv 1389),(iw 1101),z0,(rv 1396),(iw 1108),z0,(rv 1401),(iw 1113),z0,(rv 1408),(iw 1116),z0,(rv 1415),(iw 1119),z0,(rv 1420),(iw 1127),z0,(rv 1427),(iw 1134),z0,(rv 1434),(iw 1141),z0,(rv 1441),(iw 1143),z0,(rv 1448),(iw 1148),z0,(rv 1455)]
def T10(P:Params):BT:=Ja (((T9 P).set 3 (fun J=>Y2 P Zo (l10 P) 170)).set 12 (fun J=>fl c10)) 1274 (g10 P)
noncomputable def q10:Pos:={line:=1148,col:=0,endLine:=1149,endCol:=75}
theorem r10(w:World):(fun os=>rT w 996 (stT (T9 w.params) 1274 1966 os) (sts 153 26) q9)=fun os=>some (.next,stT (T10 w.params) 1457 2239 os,cE,q10):=by kernel_rfl
def jZk:Obj:=ka "concluded" "concluded" 2239 1150 3 1457 2247
def jZj:Obj:=fn (sd 179) "concluded" .none Zo (rv 1462)
def jZi:Obj:=ka "put_record" "put_record" 2250 1158 3 1464 2258
def jZh:Obj:=fn (sd 180) "put_record" .none Zo (rv 1469)
def jZg:Obj:=ka "move_into" "move_into" 2261 1161 4 1471 2274
def jZf:Obj:=fn (sd 181) "move_into" .none Zo (rv 1476)
def jZe:Obj:=kb "handle_of" "handle_of" 2277 1169 4 1478 2280
def jZd:Obj:=fn (sd 182) "handle_of" .none Zo (rv 1481)
def jZc:Obj:=kb "is_path_held" "is_path_held" 2283 1177 3 1483 2286
def jZb:Obj:=fn (sd 183) "is_path_held" .none Zo (rv 1486)
def jZa:Obj:=ka "open_status" "open_status" 2289 1179 3 1488 2298
def jQ9:Obj:=fn (sd 184) "open_status" .none Zo (rv 1493)
def jQ8:Obj:=kb "first_outcome" "first_outcome" 2301 1191 1 1495 2304
def jQ7:Obj:=fn (sd 185) "first_outcome" .none Zo (rv 1498)
def jQ6:Obj:=kb "do_open" "do_open" 2307 1193 2 1500 2310
def jQ5:Obj:=fn (sd 186) "do_open" .none Zo (rv 1503)
def jQ4:Obj:=ka "close_status" "close_status" 2313 1195 2 1505 2319
def jQ3:Obj:=fn (sd 187) "close_status" .none Zo (rv 1510)
def jQ2:Obj:=kb "do_close" "do_close" 2322 1202 2 1512 2325
def jQ1:Obj:=fn (sd 188) "do_close" .none Zo (rv 1515)
def jQ0:Obj:=ka "read_status" "read_status" 2340 1210 4 1524 2350
def jQz:Obj:=fn (sd 190) "read_status" .none Zo (rv 1529)
def jQy:Obj:=ka "read_one" "read_one" 2353 1220 4 1531 2362
def jQx:Obj:=fn (sd 191) "read_one" .none Zo (rv 1536)
def jQw:Obj:=ka "do_read" "do_read" 2365 1225 2 1538 2374
def jQv:Obj:=fn (sd 192) "do_read" .none Zo (rv 1543)
def jQu:Obj:=ka "write_status" "write_status" 2377 1231 3 1545 2386
def jQt:Obj:=fn (sd 193) "write_status" .none Zo (rv 1550)
def jQs:Obj:=ka "write_one" "write_one" 2389 1243 2 1552 2395
def jQr:Obj:=fn (sd 194) "write_one" .none Zo (rv 1557)
def jQq:Obj:=ka "do_write" "do_write" 2398 1246 2 1559 2404
def jQp:Obj:=fn (sd 195) "do_write" .none Zo (rv 1564)
def jQo:Obj:=ka "key_worth" "key_worth" 2411 1253 2 1566 2419
def jQn:Obj:=fn (sd 198) "key_worth" .none Zt (rv 1571)
def jQm:Obj:=ka "sorted_rows" "sorted_rows" 2422 1257 2 1573 2429
def jQl:Obj:=fn (sd 199) "sorted_rows" .none Zt (rv 1578)
def jQk:Obj:=ka "fitted" "fitted" 2466 1283 2 1601 2471
def jQj:Obj:=fn (sd 203) "fitted" .none Zt (rv 1606)
def jQi:Obj:=ka "goal_parts" "goal_parts" 2474 1285 2 1608 2479
def jQh:Obj:=fn (sd 204) "goal_parts" .none Zt (rv 1613)
def jQg:Obj:=ka "sort_parts" "sort_parts" 2482 1289 1 1615 2490
def jQf:Obj:=fn (sd 205) "sort_parts" .none Zt (rv 1620)
def jQe:Obj:=ka "key_of" "key_of" 2493 1302 3 1622 2501
def jQd:Obj:=fn (sd 206) "key_of" .none Zt (rv 1627)
def jQc:Obj:=kb "keys_of" "keys_of" 2504 1308 3 1629 2507
def jQb:Obj:=fn (sd 207) "keys_of" .none Zt (rv 1632)
def jQa:Obj:=ka "rows_of_file" "rows_of_file" 2510 1310 2 1634 2517
def zX9:Obj:=fn (sd 208) "rows_of_file" .none Zt (rv 1639)
def zX8:Obj:=ka "write_given" "write_given" 2520 1320 4 1641 2528
def zX7:Obj:=fn (sd 209) "write_given" .none Zt (rv 1646)
def zX6:Obj:=ka "rows_to_file" "rows_to_file" 2531 1326 3 1648 2539
def zX5:Obj:=fn (sd 210) "rows_to_file" .none Zt (rv 1653)
def g11(_:Params):List Obj:=[[t0,f0,tp [(sv "world" 2242),(sv "file" 2243),(sv "status" 2244),(sv "spec" 2245),(sv "outcome" 2246)],t0,nf (sd 179) "concluded",jZk,jZj,t0,f0,tp [(sv "world" 2253),(sv "file" 2254),(sv "octets" 2255),(sv "offset" 2256),(sv "size" 2257)],t0,nf (sd 180) "put_record",jZi,jZh,t0,f0,tp [(sv "world" 2264),(sv "file" 2265),(sv "octets" 2266),(sv "into" 2267),(sv "roots" 2268),(sv "told" 2269),(sv "source" 2270),(sv "memory" 2271),(sv "offset" 2272),(sv "shape" 2273)],t0,nf (sd 181) "move_into",jZg,jZf,t0,f0,nf (sd 182) "handle_of",jZe,jZd,t0,f0,nf (sd 183) "is_path_held",jZc,jZb,t0,f0,tp [(sv "world" 2292),(sv "mode" 2293),(sv "file" 2294),(sv "spec" 2295),(sv "status" 2296),(sv "content" 2297)],t0,nf (sd 184) "open_status",jZa,jQ9,t0,f0,nf (sd 185) "first_outcome",jQ8,jQ7,t0,f0,nf (sd 186) "do_open",jQ6,jQ5,t0,f0,tp [(sv "world" 2316),(sv "file" 2317),(sv "pair" 2318)],t0,nf (sd 187) "close_status",jQ4,jQ3,t0,f0,nf (sd 188) "do_close",jQ2,jQ1],
 FA (sd 189) "read_by_key" "read_by_key" 2328 1204 3 1517 2337 ["world","file","ref","spec","handle","wanted"] .none Zo,
 [t0,f0,tp [(sv "world" 2343),(sv "file" 2344),(sv "is_next" 2345),(sv "ref" 2346),(sv "spec" 2347),(sv "status" 2348),(sv "octets" 2349)],t0,nf (sd 190) "read_status",jQ0,jQz,t0,f0,tp [(sv "world" 2356),(sv "file" 2357),(sv "is_next" 2358),(sv "ref" 2359),(sv "status" 2360),(sv "octets" 2361)],t0,nf (sd 191) "read_one",jQy,jQx,t0,f0,tp [(sv "world" 2368),(sv "statement" 2369),(sv "file" 2370),(sv "into" 2371),(sv "outcome" 2372),(sv "octets" 2373)],t0,nf (sd 192) "do_read",jQw,jQv,t0,f0,tp [(sv "world" 2380),(sv "file" 2381),(sv "octets" 2382),(sv "spec" 2383),(sv "handle" 2384),(sv "status" 2385)],t0,nf (sd 193) "write_status",jQu,jQt,t0,f0,tp [(sv "world" 2392),(sv "record" 2393),(sv "file" 2394)],t0,nf (sd 194) "write_one",jQs,jQr,t0,f0,tp [(sv "world" 2401),(sv "statement" 2402),(sv "record" 2403)],t0,nf (sd 195) "do_write",jQq,jQp,t0,f0,tp [(sv "row" 2414),(sv "key" 2415),(sv "offset" 2416),(sv "shape" 2417),(sv "part" 2418)],t0,nf (sd 198) "key_worth",jQo,jQn,t0,f0,tp [(sv "rows" 2425),(sv "keys" 2426),(sv "found" 2427)],tp [(sv "key" 2428)],nf (sd 199) "sorted_rows",jQm,jQl],
 FA (sd 200) "goes_ahead" "goes_ahead" 2432 1262 3 1580 2441 ["one","other","keys","key","first","second"] .none Zt,
 FA (sd 201) "merged_pair" "merged_pair" 2444 1268 3 1587 2453 ["one","other","keys","found","at","spot"] .none Zt,
 FA (sd 202) "merged_rows" "merged_rows" 2456 1278 2 1594 2463 ["lists","keys","found","rows"] .none Zt,
 [t0,f0,tp [(sv "octets" 2469),(sv "size" 2470)],t0,nf (sd 203) "fitted",jQk,jQj,t0,f0,tp [(sv "file" 2477),(sv "goal" 2478)],t0,nf (sd 204) "goal_parts",jQi,jQh,t0,f0,tp [(sv "statement" 2485),(sv "file" 2486),(sv "keys" 2487),(sv "found" 2488),(sv "source" 2489)],t0,nf (sd 205) "sort_parts",jQg,jQf,t0,f0,tp [(sv "world" 2496),(sv "file" 2497),(sv "key" 2498),(sv "root" 2499),(sv "item" 2500)],t0,nf (sd 206) "key_of",jQe,jQd,t0,f0,nf (sd 207) "keys_of",jQc,jQb,t0,f0,tp [(sv "world" 2513),(sv "file" 2514),(sv "found" 2515),(sv "outcome" 2516)],t0,nf (sd 208) "rows_of_file",jQa,zX9,t0,f0,tp [(sv "world" 2523),(sv "file" 2524),(sv "row" 2525),(sv "number" 2526),(sv "spec" 2527)],t0,nf (sd 209) "write_given",zX8,zX7,t0,f0,tp [(sv "world" 2534),(sv "file" 2535),(sv "rows" 2536),(sv "outcome" 2537),(sv "place" 2538)],t0,nf (sd 210) "rows_to_file",zX6,zX5]].flatten
def l11(P:Params):List DictEntry:=l10 P++[de P "concluded" 2249 (rv 1463),de P "put_record" 2260 (rv 1470),de P "move_into" 2276 (rv 1477),de P "handle_of" 2282 (rv 1482),de P "is_path_held" 2288 (rv 1487),de P "open_status" 2300 (rv 1494),de P "first_outcome" 2306 (rv 1499),de P "do_open" 2312 (rv 1504),de P "close_status" 2321 (rv 1511),de P "do_close" 2327 (rv 1516),de P "read_by_key" 2339 (rv 1523),de P "read_status" 2352 (rv 1530),de P "read_one" 2364 (rv 1537),de P "do_read" 2376 (rv 1544),de P "write_status" 2388 (rv 1551),de P "write_one" 2397 (rv 1558),de P "do_write" 2406 (rv 1565),de P "MOST_ROWS" 2410 (iv 100000 2409),de P "key_worth" 2421 (rv 1572),de P "sorted_rows" 2431 (rv 1579),de P "goes_ahead" 2443 (rv 1586),de P "merged_pair" 2455 (rv 1593),de P "merged_rows" 2465 (rv 1600),de P "fitted" 2473 (rv 1607),de P "goal_parts" 2481 (rv 1614),de P "sort_parts" 2492 (rv 1621),de P "key_of" 2503 (rv 1628),de P "keys_of" 2509 (rv 1633),de P "rows_of_file" 2519 (rv 1640),de P "write_given" 2530 (rv 1647),de P "rows_to_file" 2541 (rv 1654)]
def c11:List Value:=c10++[(iw 1150),z0,(rv 1462),(iw 1158),z0,(rv 1469),(iw 1161),z0,(rv 1476),(iw 1169),z0,(rv 1481),(iw 1177),z0,(rv 1486),(iw 1179),z0,(rv 1493),(iw 1191),z0,(rv 1498),(iw 1193),z0,(rv 1503),(iw 1195),z0,(rv 1510),(iw 1202),z0,(rv 1515),(iw 1204),z0,(rv 1522),(iw 1210),z0,(rv 1529),(iw 1220),z0,(rv 1536),(iw 1225),z0,(rv 1543),(iw 1231),z0,(rv 1550),(iw 1243),z0,(rv 1557),(iw 1246),z0,(rv 1564),(iw 1253),z0,(rv 1571),(iw 1257),z0,(rv 1578),(iw 1262),z0,(rv 1585),(iw 1268),z0,(rv 1592),(iw 1278),z0,(rv 1599),(iw 1283),z0,(rv 1606),(iw 1285),z0,(rv 1613),(iw 1289),z0,(rv 1620),(iw 1302),z0,(rv 1627),(iw 1308),z0,(rv 1632),(iw 1310),z0,(rv 1639),(iw 1320),z0,(rv 1646),(iw 1326),z0,(rv 1653)]
def T11(P:Params):BT:=Ja (((T10 P).set 3 (fun J=>Y2 P Zt (l11 P) 201)).set 12 (fun J=>fl c11)) 1457 (g11 P)
noncomputable def q11:Pos:={line:=1326,col:=0,endLine:=1333,endCol:=39}
theorem r11(w:World):(fun os=>rT w 966 (stT (T10 w.params) 1457 2239 os) (sts 179 32) q10)=fun os=>some (.next,stT (T11 w.params) 1655 2542 os,cE,q11):=by kernel_rfl
def zX4:Obj:=tp [(iv 100000 2409)]
def zX3:Obj:=ka "__init__" "SortRows.__init__" 2554 1336 2 1663 2559
def zX2:Obj:=fn (sm 211 0) "SortRows.__init__" (rv 1662) Zt (rv 1668)
def zX1:Obj:=ka "take_in" "SortRows.take_in" 2562 1342 2 1670 2567
def zX0:Obj:=fn (sm 211 1) "SortRows.take_in" .none Zt (rv 1675)
def zXz:Obj:=ka "put_in_order" "SortRows.put_in_order" 2570 1347 2 1677 2575
def zXy:Obj:=fn (sm 211 2) "SortRows.put_in_order" .none Zt (rv 1682)
def zXx:Obj:=ka "take" "SortRows.take" 2578 1352 1 1684 2582
def zXw:Obj:=fn (sm 211 3) "SortRows.take" .none Zt (rv 1689)
def zXv(P:Params):Obj:=ob (.type "dict") (.dict [de P "__module__" 2549 Zt,de P "__firstlineno__" 2553 (iv 1334 2552),de P "__init__" 2561 (rv 1669),de P "take_in" 2569 (rv 1676),de P "put_in_order" 2577 (rv 1683),de P "take" 2584 (rv 1690),de P "__static_attributes__" 2589 (rv 1691),de P "__dict__" 2591 (rv 1694),de P "__weakref__" 2593 (rv 1695),de P "__doc__" 2594 .none].toArray 4)
def zXu:Obj:=ty (cl "SortRows" [(.type "object")] [(rv 1693),(.type "object")] 1692 []) #[none,none,some (sv "SortRows" 2542),some (sv "SortRows" 2550),some (.builtin "object.__new__"),some (.bool true)]
def zXt:Obj:=ka "sort_of" "sort_of" 2597 1357 3 1698 2603
def zXs:Obj:=fn (sd 212) "sort_of" .none Zt (rv 1703)
def zXr:Obj:=kb "take_rows" "take_rows" 2606 1361 3 1705 2609
def zXq:Obj:=fn (sd 213) "take_rows" .none Zt (rv 1708)
def zXp:Obj:=ka "sort_step" "sort_step" 2618 1371 2 1715 2628
def zXo:Obj:=fn (sd 215) "sort_step" .none Zt (rv 1720)
def zXn:Obj:=ka "do_release" "do_release" 2631 1392 2 1722 2640
def zXm:Obj:=fn (sd 216) "do_release" .none Zt (rv 1727)
def zXl:Obj:=ka "do_return" "do_return" 2643 1400 2 1729 2651
def zXk:Obj:=fn (sd 217) "do_return" .none Zt (rv 1734)
def zXj:Obj:=ka "__init__" "FileSpec.__init__" 2668 1412 2 1743 2673
def zXi:Obj:=fn (sm 219 0) "FileSpec.__init__" .none Dd (rv 1748)
def zXh(P:Params):Obj:=ob (.type "dict") (.dict [de P "__module__" 2663 Dd,de P "__firstlineno__" 2667 (iv 1410 2666),de P "__init__" 2675 (rv 1749),de P "told" 2683 (rv 1756),de P "__static_attributes__" 2694 (rv 1757),de P "__dict__" 2696 (rv 1760),de P "__weakref__" 2698 (rv 1761),de P "__doc__" 2699 .none].toArray 4)
def zXg:Obj:=ty (cl "FileSpec" [(.type "object")] [(rv 1759),(.type "object")] 1758 []) #[none,none,some (sv "FileSpec" 2656),some (sv "FileSpec" 2664),some (.builtin "object.__new__"),some (.bool true)]
def g12(P:Params):List Obj:=[[t0,fo (.type "builtin_function_or_method") [(.builtin "type.__prepare__"),(.type "type")],ob (.type "dict") (.dict [de P "__module__" 2549 Zt,de P "__qualname__" 2551 (sv "SortRows" 2550),de P "__firstlineno__" 2553 (iv 1334 2552),de P "__init__" 2561 (rv 1669),de P "take_in" 2569 (rv 1676),de P "put_in_order" 2577 (rv 1683),de P "take" 2584 (rv 1690),de P "__static_attributes__" 2589 (rv 1691)].toArray 8),t0,fl [(iw 1336),(iw 4),(rv 1668),(iw 1342),(iw 4),(rv 1675),(iw 1347),(iw 4),(rv 1682),(iw 1352),(iw 4),(rv 1689)],kk "SortRows" "SortRows" 2544 1334 1658 2547,fr (rv 1660) (rv 1657) Zt,zX4,t0,f0,tp [(sv "self" 2557),(sv "most" 2558)],t0,nf (sm 211 0) "SortRows.__init__",zX3,zX2,t0,f0,tp [(sv "self" 2565),(sv "rows" 2566)],t0,nf (sm 211 1) "SortRows.take_in",zX1,zX0,t0,f0,tp [(sv "self" 2573),(sv "rows" 2574)],t0,nf (sm 211 2) "SortRows.put_in_order",zXz,zXy,t0,f0,tp [(sv "self" 2581)],t0,nf (sm 211 3) "SortRows.take",zXx,zXw,tp [(sv "is_ready" 2585),(sv "most" 2586),(sv "place" 2587),(sv "rows" 2588)],zXv P,zXu,fo (.type "getset_descriptor") [(sv "__dict__" 2590),(rv 1693),(.builtin "function.__dict__"),(.builtin "function.__dict__#set")],fo (.type "getset_descriptor") [(sv "__weakref__" 2592),(rv 1693),(.builtin "ExceptionGroup.__weakref__"),.none],fo (.type "super") [(rv 1693),(rv 1693),(rv 1693)],fo (.type "builtin_function_or_method") [(.builtin "object.__init_subclass__"),(rv 1693)],t0,f0,tp [(sv "world" 2600),(sv "file" 2601),(sv "is_ready" 2602)],t0,nf (sd 212) "sort_of",zXt,zXs,t0,f0,nf (sd 213) "take_rows",zXr,zXq],
 FB (sd 214) "merge_rows" "merge_rows" 2612 1365 4 1710 2615 .none Zt,
 [t0,f0,tp [(sv "world" 2621),(sv "deed" 2622),(sv "word" 2623),(sv "file" 2624),(sv "held" 2625),(sv "rows" 2626),(sv "name" 2627)],t0,nf (sd 215) "sort_step",zXp,zXo,t0,f0,tp [(sv "world" 2634),(sv "statement" 2635),(sv "record" 2636),(sv "source" 2637),(sv "file" 2638),(sv "held" 2639)],t0,nf (sd 216) "do_release",zXn,zXm,t0,f0,tp [(sv "world" 2646),(sv "statement" 2647),(sv "file" 2648),(sv "goal" 2649),(sv "row" 2650)],t0,nf (sd 217) "do_return",zXl,zXk,t0,fo (.type "builtin_function_or_method") [(.builtin "type.__prepare__"),(.type "type")],ob (.type "dict") (.dict [de P "__module__" 2663 Dd,de P "__qualname__" 2665 (sv "FileSpec" 2664),de P "__firstlineno__" 2667 (iv 1410 2666),de P "__init__" 2675 (rv 1749),de P "told" 2683 (rv 1756),de P "__static_attributes__" 2694 (rv 1757)].toArray 6),t0,fl [(iw 1412),(iw 4),(rv 1748),(iw 1424),(iw 4),(rv 1755)],kk "FileSpec" "FileSpec" 2658 1410 1739 2661,fr (rv 1741) (rv 1738) Dd,t0,f0,tp [(sv "self" 2671),(sv "name" 2672)],t0,nf (sm 219 0) "FileSpec.__init__",zXj,zXi],
 FA (sm 219 1) "told" "FileSpec.told" 2676 1424 1 1750 2681 ["self","keys"] .none Dd,
 [tp [(sv "access" 2684),(sv "alternates" 2685),(sv "is_sort" 2686),(sv "key" 2687),(sv "name" 2688),(sv "organization" 2689),(sv "path" 2690),(sv "records" 2691),(sv "relative_key" 2692),(sv "status" 2693)],zXh P,zXg,fo (.type "getset_descriptor") [(sv "__dict__" 2695),(rv 1759),(.builtin "function.__dict__"),(.builtin "function.__dict__#set")],fo (.type "getset_descriptor") [(sv "__weakref__" 2697),(rv 1759),(.builtin "ExceptionGroup.__weakref__"),.none],fo (.type "super") [(rv 1759),(rv 1759),(rv 1759)],fo (.type "builtin_function_or_method") [(.builtin "object.__init_subclass__"),(rv 1759)]]].flatten
def l12(P:Params):List DictEntry:=l11 P++[de P "SortRows" 2596 (rv 1693),de P "sort_of" 2605 (rv 1704),de P "take_rows" 2611 (rv 1709),de P "merge_rows" 2617 (rv 1714),de P "sort_step" 2630 (rv 1721),de P "do_release" 2642 (rv 1728),de P "do_return" 2653 (rv 1735),de P "FileSpec" 2701 (rv 1759)]
def c12:List Value:=c11++[(iw 1334),z0,(rv 1660),(iw 1357),z0,(rv 1703),(iw 1361),z0,(rv 1708),(iw 1365),z0,(rv 1713),(iw 1371),z0,(rv 1720),(iw 1392),z0,(rv 1727),(iw 1400),z0,(rv 1734),(iw 1410),z0,(rv 1741)]
def T12(P:Params):BT:=Ja (((T11 P).set 3 (fun J=>Y2 P Lz (l12 P) 209)).set 12 (fun J=>fl c12)) 1655 (g12 P)
noncomputable def q12:Pos:={line:=1427,col:=0,endLine:=1427,endCol:=8}
theorem r12(w:World):(fun os=>rT w 792 (stT (T11 w.params) 1655 2542 os) (sts 211 10) q11)=fun os=>some (.next,stT (T12 w.params) 1764 2704 os,cE,q12):=by kernel_rfl
def zXf:Obj:=tp [(.bool false)]
def zXe:Obj:=ka "__init__" "Program.__init__" 2716 1430 6 1772 2725
def zXd:Obj:=fn (sm 221 0) "Program.__init__" (rv 1771) Lz (rv 1777)
def zXc(P:Params):Obj:=ob (.type "dict") (.dict [de P "__module__" 2711 Lz,de P "__firstlineno__" 2715 (iv 1428 2714),de P "__init__" 2727 (rv 1778),de P "using" 2734 (rv 1785),de P "__static_attributes__" 2740 (rv 1786),de P "__dict__" 2742 (rv 1789),de P "__weakref__" 2744 (rv 1790),de P "__doc__" 2745 .none].toArray 4)
def zXb:Obj:=ty (cl "Program" [(.type "object")] [(rv 1788),(.type "object")] 1787 []) #[none,none,some (sv "Program" 2704),some (sv "Program" 2712),some (.builtin "object.__new__"),some (.bool true)]
def zXa:Obj:=t0
def zJ9:Obj:=t0
def zJ8:Obj:=tp [(sv "ref" 2750),(sv "GOAL" 2751),(rv 1793),(rv 1794),.none]
def zJ7:Obj:=ka "_law_urn" "_law_urn" 2753 1441 1 1796 2759
def zJ6:Obj:=fn (sd 224) "_law_urn" .none X3 (rv 1801)
def zJ5:Obj:=ka "_law_lot" "_law_lot" 2762 1446 2 1803 2768
def zJ4:Obj:=fn (sd 225) "_law_lot" .none X3 (rv 1808)
def zJ3:Obj:=ka "_law_item" "_law_item" 2771 1453 4 1810 2780
def zJ2:Obj:=fn (sd 226) "_law_item" .none X3 (rv 1815)
def zJ1:Obj:=ka "_law_text" "_law_text" 2783 1461 1 1817 2787
def zJ0:Obj:=fn (sd 227) "_law_text" .none X3 (rv 1822)
def zJz:Obj:=kb "_law_world" "_law_world" 2790 1463 3 1824 2793
def zJy:Obj:=fn (sd 228) "_law_world" .none X3 (rv 1827)
def zJx:Obj:=kb "_law_sorted_right" "_law_sorted_right" 2796 1479 3 1829 2799
def zJw:Obj:=fn (sd 229) "_law_sorted_right" .none X3 (rv 1832)
def zJv:Obj:=ka "_law_returned_right" "_law_returned_right" 2802 1484 6 1834 2813
def zJu:Obj:=fn (sd 230) "_law_returned_right" .none X3 (rv 1839)
def zJt:Obj:=ka "_law_read_right" "_law_read_right" 2816 1496 3 1841 2823
def zJs:Obj:=fn (sd 231) "_law_read_right" .none X3 (rv 1846)
def zJr:Obj:=kb "_law_written_right" "_law_written_right" 2826 1504 3 1848 2829
def zJq:Obj:=fn (sd 232) "_law_written_right" .none X3 (rv 1851)
def zJp:Obj:=kb "law" "law" 2832 1510 1 1853 2835
def zJo:Obj:=fn (sd 233) "law" .none X3 (rv 1856)
def g13(P:Params):List Obj:=[[t0,fo (.type "builtin_function_or_method") [(.builtin "type.__prepare__"),(.type "type")],ob (.type "dict") (.dict [de P "__module__" 2711 Lz,de P "__qualname__" 2713 (sv "Program" 2712),de P "__firstlineno__" 2715 (iv 1428 2714),de P "__init__" 2727 (rv 1778),de P "using" 2734 (rv 1785),de P "__static_attributes__" 2740 (rv 1786)].toArray 6),t0,fl [(iw 1430),(iw 4),(rv 1777),(iw 1437),(iw 4),(rv 1784)],kk "Program" "Program" 2706 1428 1767 2709,fr (rv 1769) (rv 1766) Lz,zXf,t0,f0,tp [(sv "self" 2719),(sv "name" 2720),(sv "data" 2721),(sv "files" 2722),(sv "procedures" 2723),(sv "is_initial" 2724)],t0,nf (sm 221 0) "Program.__init__",zXe,zXd],
 FA (sm 221 1) "using" "Program.using" 2728 1437 1 1779 2732 ["self"] .none Lz,
 [tp [(sv "data" 2735),(sv "files" 2736),(sv "is_initial" 2737),(sv "name" 2738),(sv "procedures" 2739)],zXc P,zXb,fo (.type "getset_descriptor") [(sv "__dict__" 2741),(rv 1788),(.builtin "function.__dict__"),(.builtin "function.__dict__#set")],fo (.type "getset_descriptor") [(sv "__weakref__" 2743),(rv 1788),(.builtin "ExceptionGroup.__weakref__"),.none],fo (.type "super") [(rv 1788),(rv 1788),(rv 1788)],fo (.type "builtin_function_or_method") [(.builtin "object.__init_subclass__"),(rv 1788)],zXa,zJ9,zJ8,t0,f0,tp [(sv "script" 2756),(sv "whole" 2757),(sv "cell" 2758)],t0,nf (sd 224) "_law_urn",zJ7,zJ6,t0,f0,tp [(sv "urn" 2765),(sv "many" 2766),(sv "left" 2767)],t0,nf (sd 225) "_law_lot",zJ5,zJ4,t0,f0,tp [(sv "name" 2774),(sv "shape" 2775),(sv "offset" 2776),(sv "kids" 2777),(sv "found" 2778),(sv "kid" 2779)],t0,nf (sd 226) "_law_item",zJ3,zJ2,t0,f0,tp [(sv "size" 2786)],t0,nf (sd 227) "_law_text",zJ1,zJ0,t0,f0,nf (sd 228) "_law_world",zJz,zJy,t0,f0,nf (sd 229) "_law_sorted_right",zJx,zJw,t0,f0,tp [(sv "world" 2805),(sv "record" 2806),(sv "keys" 2807),(sv "rows" 2808),(sv "due" 2809),(sv "goals" 2810),(sv "row" 2811),(sv "goal" 2812)],t0,nf (sd 230) "_law_returned_right",zJv,zJu,t0,f0,tp [(sv "world" 2819),(sv "rows" 2820),(sv "is_justified" 2821),(sv "row" 2822)],t0,nf (sd 231) "_law_read_right",zJt,zJs,t0,f0,nf (sd 232) "_law_written_right",zJr,zJq,t0,f0,nf (sd 233) "law",zJp,zJo]].flatten
def l34(P:Params):List DictEntry:=l12 P++[de P "Program" 2747 (rv 1788),de P "_law_GOAL" 2752 (rv 1795),de P "_law_urn" 2761 (rv 1802),de P "_law_lot" 2770 (rv 1809),de P "_law_item" 2782 (rv 1816),de P "_law_text" 2789 (rv 1823),de P "_law_world" 2795 (rv 1828),de P "_law_sorted_right" 2801 (rv 1833),de P "_law_returned_right" 2815 (rv 1840),de P "_law_read_right" 2825 (rv 1847),de P "_law_written_right" 2831 (rv 1852),de P "law" 2837 (rv 1857)]
def c13:List Value:=c12++[(iw 1428),z0,(rv 1769),(iw 1441),z0,(rv 1801),(iw 1446),z0,(rv 1808),(iw 1453),z0,(rv 1815),(iw 1461),z0,(rv 1822),(iw 1463),z0,(rv 1827),(iw 1479),z0,(rv 1832),(iw 1484),z0,(rv 1839),(iw 1496),z0,(rv 1846),(iw 1504),z0,(rv 1851),(iw 1510),z0,(rv 1856)]
def T34(P:Params):BT:=Ja (((T12 P).set 3 (fun J=>Y2 P X3 (l34 P) 221)).set 12 (fun J=>fl c13)) 1764 (g13 P)
noncomputable def q13:Pos:={line:=1510,col:=0,endLine:=1529,endCol:=97}
theorem r13(w:World):(fun os=>rT w 585 (stT (T12 w.params) 1764 2704 os) (sts 221 13) q12)=fun os=>some (.next,stT (T34 w.params) 1858 2838 os,cE,q13):=by kernel_rfl
def kl0(P:Params):Frag:=[(0,boot_o_0 P),(3,Y2 P (sv "law_pq0663_01" 2748) (l34 P) 221),(537,o537),(543,o543),(544,o544),(560,o560 P),(561,o561),(571,o571),(572,o572),(578,o578),(579,o579),(592,o592),(593,o593),(599,o599),(600,o600),(721,o721),(727,o727),(728,o728),(734,o734),(735,o735),(736,o736),(742,o742),(743,o743),(770,o770),(771,o771),(777,o777),(778,o778),(791,o791),(792,o792),(923,o923),(924,o924),(937,o937),(938,o938),(944,o944),(945,o945),(951,o951),(952,o952),(968,o968 P),(969,o969),(974,o974),(980,o980),(981,o981),(994,o994),(995,o995),(1008,jXy),(1009,jXx),(1015,jXw),(1016,jXv),(1022,jXu),(1023,jXt),(1027,jXs),(1028,jXr),(1034,jXq),(1035,jXp),(1054,jXo P),(1055,jXn),(1072,jXm),(1073,jXl),(1079,jXk),(1080,jXj),(1086,jXi),(1087,jXh),(1101,jXg P),(1102,jXf),(1119,jXe),(1120,jXd),(1127,jXc P),(1128,jXb),(1138,jXa),(1139,jJ9),(1145,jJ8),(1146,jJ7),(1152,jJ6),(1153,jJ5),(1159,jJ4),(1160,jJ3),(1166,jJ2),(1167,jJ1),(1171,jJ0),(1172,jJz),(1176,jJy),(1177,jJx),(1181,jJw),(1182,jJv),(1186,jJu),(1187,jJt),(1207,jJs),(1208,jJr),(1212,jJq),(1213,jJp),(1219,jJo),(1220,jJn),(1246,jJm),(1247,jJl),(1253,jJk),(1254,jJj),(1260,jJi),(1261,jJh),(1265,jJg),(1266,jJf),(1272,jJe),(1273,jJd),(1286,jJc),(1287,jJb),(1289,jJa P),(1290,jZ9),(1307,jZ8),(1308,jZ7),(1314,jZ6),(1315,jZ5),(1321,jZ4),(1322,jZ3),(1326,jZ2),(1327,jZ1),(1333,jZ0),(1334,jZz),(1347,jZy),(1348,jZx),(1375,jZw),(1376,jZv),(1382,jZu),(1383,jZt),(1389,jZs),(1390,jZr),(1396,jZq),(1397,jZp),(1401,jZo),(1402,jZn),(1408,jZm),(1409,jZl),(1462,jZk),(1463,jZj),(1469,jZi),(1470,jZh),(1476,jZg),(1477,jZf),(1481,jZe),(1482,jZd),(1486,jZc),(1487,jZb),(1493,jZa),(1494,jQ9),(1498,jQ8),(1499,jQ7),(1503,jQ6),(1504,jQ5),(1510,jQ4),(1511,jQ3),(1515,jQ2),(1516,jQ1),(1529,jQ0),(1530,jQz),(1536,jQy),(1537,jQx),(1543,jQw),(1544,jQv),(1550,jQu),(1551,jQt),(1557,jQs),(1558,jQr),(1564,jQq),(1565,jQp),(1571,jQo),(1572,jQn),(1578,jQm),(1579,jQl),(1606,jQk),(1607,jQj),(1613,jQi),(1614,jQh),(1620,jQg),(1621,jQf),(1627,jQe),(1628,jQd),(1632,jQc),(1633,jQb),(1639,jQa),(1640,zX9),(1646,zX8),(1647,zX7),(1653,zX6),(1654,zX5),(1662,zX4),(1668,zX3),(1669,zX2),(1675,zX1),(1676,zX0),(1682,zXz),(1683,zXy),(1689,zXx),(1690,zXw),(1692,zXv P),(1693,zXu),(1703,zXt),(1704,zXs),(1708,zXr),(1709,zXq),(1720,zXp),(1721,zXo),(1727,zXn),(1728,zXm),(1734,zXl),(1735,zXk),(1748,zXj),(1749,zXi),(1758,zXh P),(1759,zXg),(1771,zXf),(1777,zXe),(1778,zXd),(1787,zXc P),(1788,zXb),(1793,zXa),(1794,zJ9),(1795,zJ8),(1801,zJ7),(1802,zJ6),(1808,zJ5),(1809,zJ4),(1815,zJ3),(1816,zJ2),(1822,zJ1),(1823,zJ0),(1827,zJz),(1828,zJy),(1832,zJx),(1833,zJw),(1839,zJv),(1840,zJu),(1846,zJt),(1847,zJs),(1851,zJr),(1852,zJq),(1856,zJp),(1857,zJo)]
theorem qX5(w:World):(kl0 w.params).map (fun p=>(T34 w.params).get p.1)=(kl0 w.params).map (fun p=>some p.2):=by kernel_rfl
theorem xQe(w:World):(kl0 w.params).all (fun p=>Nat.blt p.1 1858&&match p.2.data with|.freed=>false|_=>true)=true:=by kernel_rfl
theorem Dy{t:BT}{n:Nat}:∀{K:Frag},K.map (fun p=>t.get p.1)=K.map (fun p=>some p.2)->K.all (fun p=>Nat.blt p.1 n&&match p.2.data with|.freed=>false|_=>true)=true->(K.map Prod.fst).map (absHeap t n {}).get?=K.map (fun p=>some p.2)
 |[],_,_=>rfl
 |⟨a,o⟩::K,e,h=>by
  simp only[List.map_cons,List.cons.injEq]at e;simp only[List.all_cons,Bool.and_eq_true]at h;obtain⟨⟨h1,h2⟩,h3⟩:=h;have h1:a<n:=Nat.le_of_ble_eq_true h1;simp only[List.map_cons];rw[Dy e.2 h3,abs_get h1 e.1];obtain⟨c,d,dt,sl⟩:=o;cases dt with
  |freed=>cases h2
  |_=>rfl
theorem kl0_in(w:World):((kl0 w.params).map Prod.fst).map (absHeap (T34 w.params) 1858 {}).get?=(kl0 w.params).map (fun p=>some p.2):=Dy (qX5 w) (xQe w)
theorem Kh(w:World)(n:Nat)(S:SharedT)(l:List Stmt)(p:Pos):segRunT treeTable pw w 11 (some (.ref 6)) 1 n S (piecesOf l env cE p [topFrame q0])=rT w n S l p:=by
 unfold rT;rw[<-PySem.W.Fast.te10110043849684766642,<-PySem.W.Fast.te14364793385576792824,<-PySem.W.Fast.te12563942051412417395]
def Jj(i:Nat):List Stmt:=pw.main.body.drop i
theorem Qz(i j:Nat):Jj i=sts i j++Jj (i+j):=by
 unfold Jj sts;rw[<-List.drop_drop,List.take_append_drop]
def fin(w:World)(os:OsState):Shared:=(stT (T34 w.params) 1858 2838 os).abs
theorem To:Jj 234=[]:=by kernel_rfl!
theorem d13(w:World)(os:OsState):topRun treeTable pw w 11 (some (.ref 6)) 2 (stT (T34 w.params) 1858 2838 os).abs (restOf (Jj 234) env cE q13 [topFrame q0])=some (fin w os):=by rw[To];exact piece_nil rfl
theorem d12(w:World)(os:OsState):topRun treeTable pw w 11 (some (.ref 6)) 587 (stT (T12 w.params) 1764 2704 os).abs (restOf (Jj 221) env cE q12 [topFrame q0])=some (fin w os):=by
 rw[Qz 221 13];exact piece_app (n:=585) (N:=2) (segRun_of ((Kh ..).trans (congrFun (r13 w) os))) (d13 w os)
theorem d11(w:World)(os:OsState):topRun treeTable pw w 11 (some (.ref 6)) 1379 (stT (T11 w.params) 1655 2542 os).abs (restOf (Jj 211) env cE q11 [topFrame q0])=some (fin w os):=by
 rw[Qz 211 10];exact piece_app (n:=792) (N:=587) (segRun_of ((Kh ..).trans (congrFun (r12 w) os))) (d12 w os)
theorem d10(w:World)(os:OsState):topRun treeTable pw w 11 (some (.ref 6)) 2345 (stT (T10 w.params) 1457 2239 os).abs (restOf (Jj 179) env cE q10 [topFrame q0])=some (fin w os):=by
 rw[Qz 179 32];exact piece_app (n:=966) (N:=1379) (segRun_of ((Kh ..).trans (congrFun (r11 w) os))) (d11 w os)
theorem d9(w:World)(os:OsState):topRun treeTable pw w 11 (some (.ref 6)) 3341 (stT (T9 w.params) 1274 1966 os).abs (restOf (Jj 153) env cE q9 [topFrame q0])=some (fin w os):=by
 rw[Qz 153 26];exact piece_app (n:=996) (N:=2345) (segRun_of ((Kh ..).trans (congrFun (r10 w) os))) (d10 w os)
theorem d8(w:World)(os:OsState):topRun treeTable pw w 11 (some (.ref 6)) 4303 (stT (T8 w.params) 1107 1727 os).abs (restOf (Jj 125) env cE q8 [topFrame q0])=some (fin w os):=by
 rw[Qz 125 28];exact piece_app (n:=962) (N:=3341) (segRun_of ((Kh ..).trans (congrFun (r9 w) os))) (d9 w os)
theorem d7(w:World)(os:OsState):topRun treeTable pw w 11 (some (.ref 6)) 5237 (stT (T7 w.params) 974 1536 os).abs (restOf (Jj 118) env cE q7 [topFrame q0])=some (fin w os):=by
 rw[Qz 118 7];exact piece_app (n:=934) (N:=4303) (segRun_of ((Kh ..).trans (congrFun (r8 w) os))) (d8 w os)
theorem d6(w:World)(os:OsState):topRun treeTable pw w 11 (some (.ref 6)) 6226 (stT (T6 w.params) 823 1328 os).abs (restOf (Jj 112) env cE q6 [topFrame q0])=some (fin w os):=by
 rw[Qz 112 6];exact piece_app (n:=989) (N:=5237) (segRun_of ((Kh ..).trans (congrFun (r7 w) os))) (d7 w os)
theorem d5(w:World)(os:OsState):topRun treeTable pw w 11 (some (.ref 6)) 6817 (stT (T5 w.params) 700 1168 os).abs (restOf (Jj 88) env cE q5 [topFrame q0])=some (fin w os):=by
 rw[Qz 88 24];exact piece_app (n:=591) (N:=6226) (segRun_of ((Kh ..).trans (congrFun (r6 w) os))) (d6 w os)
theorem d4(w:World)(os:OsState):topRun treeTable pw w 11 (some (.ref 6)) 7811 (stT (T4 w.params) 530 914 os).abs (restOf (Jj 58) env cE q4 [topFrame q0])=some (fin w os):=by
 rw[Qz 58 30];exact piece_app (n:=994) (N:=6817) (segRun_of ((Kh ..).trans (congrFun (r5 w) os))) (d5 w os)
theorem d3(w:World)(os:OsState):topRun treeTable pw w 11 (some (.ref 6)) 8665 (stT (T3 w.params) 384 698 os).abs (restOf (Jj 37) env cE q3 [topFrame q0])=some (fin w os):=by
 rw[Qz 37 21];exact piece_app (n:=854) (N:=7811) (segRun_of ((Kh ..).trans (congrFun (r4 w) os))) (d4 w os)
theorem d2(w:World)(os:OsState):topRun treeTable pw w 11 (some (.ref 6)) 9659 (stT (T2 w.params) 212 452 os).abs (restOf (Jj 28) env cE q2 [topFrame q0])=some (fin w os):=by
 rw[Qz 28 9];exact piece_app (n:=994) (N:=8665) (segRun_of ((Kh ..).trans (congrFun (r3 w) os))) (d3 w os)
theorem d1(w:World)(os:OsState):topRun treeTable pw w 11 (some (.ref 6)) 10578 (stT (T1 w.params) 87 284 os).abs (restOf (Jj 6) env cE q1 [topFrame q0])=some (fin w os):=by
 rw[Qz 6 22];exact piece_app (n:=919) (N:=9659) (segRun_of ((Kh ..).trans (congrFun (r2 w) os))) (d2 w os)
theorem d0(w:World)(os:OsState):topRun treeTable pw w 11 (some (.ref 6)) 11522 (stT (T0 w.params) 15 187 os).abs (restOf (Jj 0) env cE q0 [topFrame q0])=some (fin w os):=by
 rw[Qz 0 6];exact piece_app (n:=944) (N:=10578) (segRun_of ((Kh ..).trans (congrFun (r1 w) os))) (d1 w os)
theorem blk(w:World)(os:OsState):topRun treeTable pw w 11 (some (.ref 6)) 11523 (stT (T0 w.params) 15 187 os).abs ⟨denote treeTable cE,cE,q0,[topFrame q0]⟩=some (fin w os):=by
 have h:Jj 0=behindTheImports pw:=by kernel_rfl!
 have k:=d0 w os;rw[h]at k;have z:=piece_block (tb:=treeTable) (p:=pw) (w:=w) (n₀:=11) (ann:=some (.ref 6)) (env:=env) (q:=q0) (n:=1) (N:=11522) (s:=(stT (T0 w.params) 15 187 os).abs) (b:=behindTheImports pw) (c:=cE) (pos:=q0) (by kernel_rfl!) k
 rwa [Nat.add_comm]at z
theorem pre0(w:World):(fun os=>topGo treeTable pw w 11 (some (.ref 6)) 12 ⟨boot_heap w.params,Array.mk [],boot_drawn,boot_toks,os⟩ (topStub pw))=fun os=>some ((stT (T0 w.params) 15 187 os).abs,⟨denote treeTable cE,cE,q0,[topFrame q0]⟩):=by kernel_rfl!
theorem run(w:World)(os:OsState):topRun treeTable pw w 11 (some (.ref 6)) 11535 ⟨boot_heap w.params,Array.mk [],boot_drawn,boot_toks,os⟩ (topStub pw)=some (fin w os):=by
 have z:=go_top (congrFun (pre0 w) os) (blk w os)
 rwa [Nat.add_comm]at z
theorem xXd:∀w:World,(fencedOpening treeTable pw w 24000).map (fun s=>(s.heap,s.gens,s.drawn,s.toks))=some (boot_heap w.params,Array.mk [],boot_drawn,boot_toks):=
 boot_open (p:=pw) (N:=24000) (by kernel_rfl!) (by decide) (fun s=>by rfl)
theorem size(w:World):((boot_heap w.params).isNs mainGlobals&&(Array.mk ([]:List GenState)).size==0,(boot_heap w.params).objs.size,(boot_heap w.params).nsMap mainGlobals "__annotations__")=(true,11,some (.ref 6)):=by kernel_rfl!
def qv:Program:={pw with main:={pw.main with body:=[sd 233]}}
noncomputable def looseL:List Str:=List.map Str.ofString ["_wall","LedgerError","DataFault","CheckFault","RunFault","SizeFault","FileFault","MOST_PLACES","MOST_POWER","MOST_FIGURES","cut_quotient","decimal","kept","units_beside","plus","minus","times","negated","quotient","power","units_at","is_whole","whole_of","fits","READING_keyfile","KeyFile","places","FIXED","INSERTED","BLANK_editing","floating_sign","roles_of","is_suppressing","figures_laid","sign_text","insert_text","Layer","vanished","edited_text","edited","data_places","inserted","NOUGHT_deediting","MINUS_deediting","octet_places","figure_of","units_told","is_minus_at","has_minus","first_unlike","number_of_edited","Shape","is_numeric","has_units","unit_bound","group_shape","text_shape","numbered_shape","figure_count","number_shape","unsigned_shape","NOUGHT_usages","PLUS","MINUS_usages","PLUS_FIGURES","MINUS_FIGURES","PACKED_PLUS","PACKED_MINUS","PACKED_PLAIN","kept_units","figures_for","display_octets","packed_octets","binary_octets","octets_for","joined_figures","signed_figure","display_units","packed_units","binary_units","units_in","number_in","cut_octets","BLANK_moving","NOUGHT_CODE","NUMBERS","goals_of","can_move","aligned","repeated","whole_figures_of","worth_in_text","text_in","text_for","number_for","moved","pattern_of","filled_number","filled","BY_ORDER","BY_NUMBER","least_from","RelFile","READING_rowfile","ADDING","RowFile","KINDS","outcome_of","Shelf","FILLER","RENAMING","Item","Data","records","items_under","all_items","items_around","root_of","names_around","tables_around","is_group","plain_kids","data_fault","valued","unvalued","first_octets","initial_memory","TWO_SIDED","postfix","applied","reckoned","file_of","leads_through","only_one","find_item","stretch","World","is_index","memory_of","place_of_octets","part_of","spot_in","octets_at","put_octets","operand_in","number_of","worth_in","whole_in","move_to","plain_ref","spec_of","record_file","area_of","area_octets","key_part","which_key","greatest_number","asked_number","key_number","tell_number","by_order","concluded","put_record","move_into","handle_of","is_path_held","open_status","first_outcome","do_open","close_status","do_close","read_by_key","read_status","read_one","do_read","write_status","write_one","do_write","MOST_ROWS","key_worth","sorted_rows","goes_ahead","merged_pair","merged_rows","fitted","goal_parts","sort_parts","key_of","keys_of","rows_of_file","write_given","rows_to_file","SortRows","sort_of","take_rows","merge_rows","sort_step","do_release","do_return","FileSpec","Program","_law_GOAL","_law_urn","_law_lot","_law_item","_law_text","_law_world","_law_sorted_right","_law_returned_right","_law_read_right","_law_written_right"]
theorem k0(w:World):(importedModules pw.main.body)=([]):=by kernel_rfl
theorem k1(w:World):(fun os=>staticsOk [] (boot_heap w.params) (fin w os).heap)=(fun J=>true):=by kernel_rfl
theorem k3(w:World):(fun os=>gensDone (fin w os))=(fun J=>true):=by kernel_rfl
theorem k4(w:World):(fun os=>laidKept (boot_heap w.params) (fin w os).heap)=(fun J=>true):=by kernel_rfl
theorem o1(w:World):(fun os=>seen ((recsOf qv).map (·.name)) (ownsOf qv) [] {(fin w os)with gens:=#[]})=(fun J=>expectedOf qv):=by kernel_rfl
theorem o2(w:World):(fun os=>(fin w os).heap.bltView)=(fun J=>bltViewBooted):=by kernel_rfl
theorem o3b(w:World):(fun os=>(fin w os).heap.accountedOkI [])=(fun J=>true):=by kernel_rfl
theorem o3c(w:World):(fun os=>(fin w os).heap.isNs mainGlobals&&(fin w os).heap.isNs builtinsNs&&tablesOk qv (fin w os).heap)=(fun J=>true):=by kernel_rfl
theorem o3d(w:World):(fun os=>(xlAt qv [] (fin w os)&&recOk [] (fin w os))&&((fin w os).gens.size==0))=(fun J=>true):=by kernel_rfl
theorem o4(w:World):(fun os=>tabsOk qv (fin w os))=(fun J=>true):=by kernel_rfl
theorem o5(w:World):(fun os=>pinSeenD qv (drecsOf qv) (fin w os))=(fun J=>pinGoodD (drecsOf qv)):=by kernel_rfl
theorem o6(w:World):(fun os=>plainSeenE qv (looseW qv looseL) (fin w os))=(fun J=>plainGoodE qv (looseW qv looseL)):=by kernel_rfl
theorem o7(w:World):(fun os=>plainSeenD qv looseL (fin w os))=(fun J=>plainGoodD qv looseL):=by kernel_rfl
theorem wl:wlitsOf qv=[]:=by unfold wlitsOf;rw[PySem.W.Fast.te18344453789297297638,PySem.W.Fast.sDec_eq];kernel_rfl
theorem o8(w:World):(fun os=>wideSeen qv (fin w os))=(fun J=>wideGood qv):=by unfold wideSeen wideGood;rw[wl];kernel_rfl
theorem o9(w:World):(fun os=>clsSeenW qv looseL (fin w os))=(fun J=>clsGoodW qv looseL):=by kernel_rfl
theorem nb(w:World):(fun os=>namesBound pw (fin w os).heap)=(fun J=>true):=by
 unfold namesBound;rw[PySem.W.Fast.te18344453789297297638,PySem.W.Fast.sDec_eq]
 kernel_rfl
theorem lw:looseW qv looseL=looseL:=by
 unfold looseW heldW;rw[wl]
 kernel_rfl
theorem ko(w:World):(fun os=>(fin w os).heap.keysOk (looseW qv looseL) ((recsOf qv).map (·.name)) ((litsOf qv).map (·.1)) ((clssOf qv (looseW qv looseL)).map (·.name)))=(fun J=>true):=by
 unfold Heap.keysOk;rw[lw,PySem.W.Fast.sDec_eq]
 kernel_rfl
abbrev Xt0:Shared->Bool:=fun s=>xlAt qv [] s&&recOk [] s
theorem qJr{q:Program}{loose:List Str}{Xt:Shared->Bool}{s:Shared}(h1:seen ((recsOf q).map (·.name)) (ownsOf q) [] {s with gens:=#[]}=expectedOf q)(h2:s.heap.bltView=bltViewBooted)
  (h3:s.heap.keysOk (looseW q loose) ((recsOf q).map (·.name)) ((litsOf q).map (·.1)) ((clssOf q (looseW q loose)).map (·.name))=true) (h3b:s.heap.accountedOkI []=true)
  (h3c:(s.heap.isNs mainGlobals&&s.heap.isNs builtinsNs&&tablesOk q s.heap)=true) (h3d:(Xt s&&(s.gens.size==0))=true) (h4:tabsOk q s=true) (h5:pinSeenD q (drecsOf q) s=pinGoodD (drecsOf q))
  (h6:plainSeenE q (looseW q loose) s=plainGoodE q (looseW q loose)) (h7:plainSeenD q loose s=plainGoodD q loose) (h8:wideSeen q s=wideGood q) (h9:clsSeenW q loose s=clsGoodW q loose):
  openSeen q loose [] Xt true s=openGood q loose:=by
 simp only[Bool.and_eq_true]at h3c h3d;unfold openSeen openGood;rw[h1,h2,h4,h5,h6,h7,h8,h9,h3,h3b,h3c.1.1,h3c.1.2,h3c.2,h3d.1];simp only[if_true,h3d.2,Bool.and_true]
theorem qQf{p q:Program}{loose:List Str}{Xt:Shared->Bool}{aG aH:Heap}{s:Shared}(k0:importedModules p.main.body=[])(k1:staticsOk [] aG s.heap=true)(k2:namesBound p s.heap=true)(k3:gensDone s=true)(k4:laidKept aG s.heap=true)
  (k5:openSeen q loose [] Xt true s=openGood q loose) (k6:s.heap=aH):
  ((staticsOk (importedModules p.main.body) aG s.heap&&namesBound p s.heap&&gensDone s&&laidKept aG s.heap),openSeen q loose (importedModules p.main.body) Xt true s,s.heap)=(true,openGood q loose,aH):=by
 rw[k0,k1,k2,k3,k4,k5,k6];rfl
theorem Dh(w:World)(os:OsState):openSeen qv looseL [] Xt0 true (fin w os)=openGood qv looseL:=
 qJr (congrFun (o1 w) os) (congrFun (o2 w) os) (congrFun (ko w) os) (congrFun (o3b w) os) (congrFun (o3c w) os) (congrFun (o3d w) os) (congrFun (o4 w) os) (congrFun (o5 w) os) (congrFun (o6 w) os) (congrFun (o7 w) os) (congrFun (o8 w) os) (congrFun (o9 w) os)
theorem D6(w:World)(os:OsState):fin w os=⟨absHeap (T34 w.params) 1858 {},#[],{},2838,os⟩:=by kernel_rfl
theorem jX5(w:World)(os:OsState):((staticsOk (importedModules pw.main.body) (boot_heap w.params) (fin w os).heap&&namesBound pw (fin w os).heap&&gensDone (fin w os)&&laidKept (boot_heap w.params) (fin w os).heap),
  openSeen qv looseL (importedModules pw.main.body) Xt0 true (fin w os),(fin w os).heap)=(true,openGood qv looseL,absHeap (T34 w.params) 1858 {}):=
 qQf (k0 w) (congrFun (k1 w) os) (congrFun (nb w) os) (congrFun (k3 w) os) (congrFun (k4 w) os) (Dh w os) (by rw[D6])
theorem L1:LeftO pw qv looseL Xt0 (fun s=>s.heap) (fun w=>absHeap (T34 w.params) 1858 {}) 24000 true:=by
 refine LeftO.of_pieces (H₀:=boot_heap) (H₁:=fun P=>absHeap (T34 P) 1858 {}) (gs₀:=Array.mk []) (gs₁:=#[]) (d₀:=boot_drawn) (d₁:={}) (k₀:=boot_toks) (k₁:=2838) (m₀:=11) (ann:=some (.ref 6)) (M:=11535) xXd size (fun w os=>(run w os).trans (congrArg some (D6 w os))) (by decide) (fun w=>?_)
 funext os
 have h:=jX5 w os;rw[D6]at h;exact h
def YP(w:World)(h:Heap):Prop:=∀b o,(absHeap (T34 w.params) 1858 {}).get? b=some o->h.get? b=some o
section
open TablesWhole
section
abbrev TCx:=TablesWhole.Ctx
structure Im(a b:Bool):Prop where
 go:a=true->b=true
structure Le(A B:Alg Bool):Prop where
 ask:∀sc n p,Im (A.ask sc n p) (B.ask sc n p)
 check:∀w sc n b,Im (A.check w sc n b) (B.check w sc n b)
 enter:∀sc,Im (A.enter sc) (B.enter sc)
 unit:Im A.unit B.unit
 bad:Im A.bad B.bad
 both:∀{a b c d},Im a c->Im b d->Im (A.both a b) (B.both c d)
variable{A B:Alg Bool}(L:Le A B)
include L
theorem Le.n:Im (A.all []) (B.all []):=L.unit
theorem Le.c{a b:Bool}{l m:List Bool}(h:Im a b)(k:Im (A.all l) (B.all m)):Im (A.all (a::l)) (B.all (b::m)):=L.both h k
theorem Le.map{α:Type}{f g:α->Bool}(h:∀x,Im (f x) (g x)):∀l:List α,Im (A.all (l.map f)) (B.all (l.map g))
 |[]=>L.unit
 |x::l=>L.both (h x) (Le.map h l)
theorem Le.bind(cx:TCx)(sc:Scope)(n:Str)(p:Option Pos):Im (A.bind cx sc n p) (B.bind cx sc n p):=L.both (L.ask ..) (L.check ..)
theorem Le.opt(cx:TCx)(sc:Scope)(p:Pos):∀n,Im (A.optName cx sc n p) (B.optName cx sc n p)
 |none=>L.unit
 |some _=>L.bind ..
theorem Le.inl(f o:Scope):Im (A.inlined f o) (B.inlined f o):=by
 unfold Alg.inlined;split
 ·exact L.unit
 ·exact L.map (fun J=>L.check ..) _
theorem Le.ent(ch:List Scope)(cls:Option Scope)(gl:List Str)(p o:Scope):Im (A.enterFrom ch cls gl p o) (B.enterFrom ch cls gl p o):=by
 unfold Alg.enterFrom;refine L.c (L.enter _) (L.c (L.check ..) (L.c (L.map (fun J=>L.both (L.ask ..) (L.check ..)) _) (L.c (L.map (fun J=>L.check ..) _) (L.c ?_ (L.c ?_ (L.c ?_ L.n))))))
 ·split
  ·exact L.map (fun J=>L.check ..) _
  ·exact L.unit
 ·split
  ·exact L.unit
  ·exact L.map (fun J=>L.check ..) _
 ·split
  ·exact L.both (L.ask ..) (L.check ..)
  ·exact L.unit
theorem Le.par(o:Scope)(p:Arguments):Im (A.params o p) (B.params o p):=L.map (fun J=>L.bind ..) _
mutual
theorem mE:∀(e:Expr) (cx:TCx) (sc:Scope) (h:Option Scope),Im (wE A cx sc h e) (wE B cx sc h e)
 |.Constant ..,_,_,_=>L.unit
 |.Name _ _,cx,sc,_=>by
  show Im (ite _ _ _) (ite _ _ _);split
  ·exact L.both (L.ask ..) (L.ask ..)
  ·exact L.ask ..
 |.BoolOp _ vs _,cx,sc,h|.JoinedStr vs _,cx,sc,h|.List vs _,cx,sc,h|.Tuple vs _ _,cx,sc,h|.Set vs _ _,cx,sc,h=>mEs vs cx sc h
 |.NamedExpr t v _,cx,sc,none=>L.both (mE v cx sc none) (mT t cx sc none)
 |.NamedExpr t v _,cx,sc,some h=>L.both (mE v cx sc _) (by
  cases t with
  |Name=>exact L.c (L.ask ..) (L.c (L.ask ..) (L.c (L.check ..) L.n))
  |_=>exact L.bad)
 |.BinOp a _ b _,cx,sc,h|.Subscript a b _,cx,sc,h=>L.both (mE a cx sc h) (mE b cx sc h)
 |.UnaryOp _ a _,cx,sc,h|.Attribute a _ _,cx,sc,h|.Starred a _,cx,sc,h|.Await a _,cx,sc,h|.YieldFrom a _,cx,sc,h=>mE a cx sc h
 |.Yield v _,cx,sc,h=>mEo v cx sc h
 |.FormattedValue a _ s _,cx,sc,h=>L.both (mE a cx sc h) (mEo s cx sc h)
 |.IfExp a b c _,cx,sc,h=>L.c (mE a cx sc h) (L.c (mE b cx sc h) (L.c (mE c cx sc h) L.n))
 |.Compare a _ bs _,cx,sc,h=>L.both (mE a cx sc h) (mEs bs cx sc h)
 |.Call f as ks _,cx,sc,h=>L.c (mE f cx sc h) (L.c (mEs as cx sc h) (L.c (mKs ks cx sc h) L.n))
 |.Dict ks vs _,cx,sc,h=>L.both (xXt ks cx sc h) (mEs vs cx sc h)
 |.Slice a b c _,cx,sc,h=>L.c (mEo a cx sc h) (L.c (mEo b cx sc h) (L.c (mEo c cx sc h) L.n))
 |.Lambda args body own _,cx,sc,h=>L.c (mD args cx sc h) (L.c (L.ent ..) (L.c (L.par ..) (L.c (mE body ..) L.n)))
 |.ListComp e gs own _,cx,sc,h|.SetComp e gs own _,cx,sc,h=>L.c (L.ent ..) (L.c (L.inl ..) (L.c (L.bind ..) (L.c (mG gs ..) (L.c (mE e ..) L.n))))
 |.GeneratorExp e gs own _,cx,sc,h=>L.c (L.ent ..) (L.c (L.bind ..) (L.c (mG gs ..) (L.c (mE e ..) L.n)))
 |.DictComp k v gs own _,cx,sc,h=>L.c (L.ent ..) (L.c (L.inl ..) (L.c (L.bind ..) (L.c (mG gs ..) (L.c (mE k ..) (L.c (mE v ..) L.n)))))
theorem mT:∀(e:Expr) (cx:TCx) (sc:Scope) (h:Option Scope),Im (wT A cx sc h e) (wT B cx sc h e)
 |.Name ..,_,_,_=>L.bind ..
 |.Tuple es _ _,cx,sc,h|.List es _,cx,sc,h=>mTs es cx sc h
 |.Starred e _,cx,sc,h=>mT e cx sc h
 |.Attribute o _ _,cx,sc,h=>mE o cx sc h
 |.Subscript o i _,cx,sc,h=>L.both (mE o cx sc h) (mE i cx sc h)
 |.Constant ..,_,_,_|.BoolOp ..,_,_,_|.JoinedStr ..,_,_,_|.Set ..,_,_,_|.NamedExpr ..,_,_,_|.BinOp ..,_,_,_|.UnaryOp ..,_,_,_|.Await ..,_,_,_|.YieldFrom ..,_,_,_|.Yield ..,_,_,_|.FormattedValue ..,_,_,_|.IfExp ..,_,_,_|.Compare ..,_,_,_|.Call ..,_,_,_|.Dict ..,_,_,_|.Slice ..,_,_,_|.Lambda ..,_,_,_|.ListComp ..,_,_,_|.SetComp ..,_,_,_|.GeneratorExp ..,_,_,_|.DictComp ..,_,_,_=>L.bad
theorem mEs:∀(e:List Expr) (cx:TCx) (sc:Scope) (h:Option Scope),Im (wEs A cx sc h e) (wEs B cx sc h e)
 |[],_,_,_=>L.unit
 |e::r,cx,sc,h=>L.both (mE e cx sc h) (mEs r cx sc h)
theorem mTs:∀(e:List Expr) (cx:TCx) (sc:Scope) (h:Option Scope),Im (wTs A cx sc h e) (wTs B cx sc h e)
 |[],_,_,_=>L.unit
 |e::r,cx,sc,h=>L.both (mT e cx sc h) (mTs r cx sc h)
theorem mEo:∀(e:Option Expr) (cx:TCx) (sc:Scope) (h:Option Scope),Im (wEo A cx sc h e) (wEo B cx sc h e)
 |none,_,_,_=>L.unit
 |some e,cx,sc,h=>mE e cx sc h
theorem xXt:∀(e:List (Option Expr)) (cx:TCx) (sc:Scope) (h:Option Scope),Im (wEos A cx sc h e) (wEos B cx sc h e)
 |[],_,_,_=>L.unit
 |e::r,cx,sc,h=>L.both (mEo e cx sc h) (xXt r cx sc h)
theorem mKs:∀(e:List Keyword) (cx:TCx) (sc:Scope) (h:Option Scope),Im (wKs A cx sc h e) (wKs B cx sc h e)
 |[],_,_,_=>L.unit
 |⟨_,e,_⟩::r,cx,sc,h=>L.both (mE e cx sc h) (mKs r cx sc h)
theorem mG:∀(e:List Comprehension) (cx co:TCx) (ar own:Scope) (o h:Option Scope) (f:Bool),Im (wGens A cx co ar own o h f e) (wGens B cx co ar own o h f e)
 |[],_,_,_,_,_,_,_=>L.unit
 |⟨t,it,ifs,_⟩::r,cx,co,ar,own,o,h,true=>L.c (mE it cx ar o) (L.c (mT t co own h) (L.c (mEs ifs co own h) (L.c (mG r cx co ar own o h false) L.n)))
 |⟨t,it,ifs,_⟩::r,cx,co,ar,own,o,h,false=>L.c (mE it co own h) (L.c (mT t co own h) (L.c (mEs ifs co own h) (L.c (mG r cx co ar own o h false) L.n)))
theorem mD:∀(e:Arguments) (cx:TCx) (sc:Scope) (h:Option Scope),Im (wDefaults A cx sc h e) (wDefaults B cx sc h e)
 |⟨_,_,_,_,kd,_,d⟩,cx,sc,h=>L.both (mEs d cx sc h) (xXt kd cx sc h)
end
theorem mAs(cx:TCx)(sc:Scope)(h:Option Scope):∀l:List Arg,Im (wArgAnns A cx sc h l) (wArgAnns B cx sc h l)
 |[]=>L.unit
 |⟨_,a,_⟩::r=>L.both (mEo L a cx sc h) (mAs cx sc h r)
theorem mAo(cx:TCx)(sc:Scope)(h:Option Scope):∀l:Option Arg,Im (wArgAnnO A cx sc h l) (wArgAnnO B cx sc h l)
 |none=>L.unit
 |some ⟨_,a,_⟩=>mEo L a cx sc h
theorem mAn(cx:TCx)(sc:Scope)(h:Option Scope):∀l:Arguments,Im (wAnns A cx sc h l) (wAnns B cx sc h l)
 |⟨_,_,_,_,_,_,_⟩=>L.c (mAs L ..) (L.c (mAs L ..) (L.c (mAo L ..) (L.c (mAs L ..) (L.c (mAo L ..) L.n))))
mutual
theorem mP:∀(e:Pattern) (cx:TCx) (sc:Scope),Im (wP A cx sc e) (wP B cx sc e)
 |.MatchValue e _,cx,sc=>mE L e cx sc none
 |.MatchSingleton ..,_,_=>L.unit
 |.MatchSequence ps _,cx,sc|.MatchOr ps _,cx,sc=>mPs ps cx sc
 |.MatchMapping ks ps _ _,cx,sc=>L.c (mEs L ks cx sc none) (L.c (mPs ps cx sc) (L.c (L.opt ..) L.n))
 |.MatchClass c ps _ kps _,cx,sc=>L.c (mE L c cx sc none) (L.c (mPs ps cx sc) (L.c (mPs kps cx sc) L.n))
 |.MatchStar ..,_,_=>L.opt ..
 |.MatchAs p _ _,cx,sc=>L.both (mPo p cx sc) (L.opt ..)
theorem mPs:∀(e:List Pattern) (cx:TCx) (sc:Scope),Im (wPs A cx sc e) (wPs B cx sc e)
 |[],_,_=>L.unit
 |e::r,cx,sc=>L.both (mP e cx sc) (mPs r cx sc)
theorem mPo:∀(e:Option Pattern) (cx:TCx) (sc:Scope),Im (wPo A cx sc e) (wPo B cx sc e)
 |none,_,_=>L.unit
 |some e,cx,sc=>mP e cx sc
end
theorem mLz(ch:List Scope)(cls:Option Scope)(p:Scope):∀(e:Option Expr) (o:Option Scope),Im (wLazy A ch cls p e o) (wLazy B ch cls p e o)
 |none,_=>L.unit
 |some e,some _=>L.both (L.ent ..) (mE L e ..)
 |some _,none=>L.bad
theorem mTP(ch:List Scope)(cls:Option Scope)(ts:Scope):∀e:TypeParam,Im (wTP A ch cls ts e) (wTP B ch cls ts e)
 |.TypeVar .. =>L.c (L.bind ..) (L.c (mLz L ..) (L.c (mLz L ..) L.n))
 |.ParamSpec .. |.TypeVarTuple .. =>L.both (L.bind ..) (mLz L ..)
theorem mIt(cx:TCx)(sc:Scope)(l:List WithItem):Im (wItems A cx sc l) (wItems B cx sc l):=L.map (fun i=>L.both (mE L ..) (by
 cases i.optional_vars with
 |none=>exact L.unit
 |some v=>exact mT L v ..)) l
theorem mDh(cx:TCx)(sc:Scope)(a:Arguments)(d:List Expr)(r:Option Expr)(tp:List TypeParam)(own:Scope)(ts:Option Scope)(b:Str)(p:Pos)(gl:List Str):Im (wDefHead A cx sc a d r tp own ts b p gl) (wDefHead B cx sc a d r tp own ts b p gl):=by
 refine L.c (mEs L ..) (L.c (mD L ..) (L.c (L.bind ..) (L.c (L.par ..) (L.c ?_ L.n))));cases tp with
 |nil=>exact L.c (L.ent ..) (L.c (mAn L ..) (L.c (mEo L ..) L.n))
 |cons t tp=>
  cases ts with
  |none=>exact L.bad
  |some ts=>
   refine L.c (L.ent ..) (L.c (L.ent ..) (L.c (L.map (fun J=>mTP L ..) _) (L.c (mAn L ..) (L.c (mEo L ..) (L.c (L.bind ..) (L.c ?_ L.n))))));split
   ·exact L.unit
   ·exact L.bind ..
theorem mCh(cx:TCx)(sc:Scope)(bs:List Expr)(ks:List Keyword)(d:List Expr)(tp:List TypeParam)(own:Scope)(ts:Option Scope)(b:Str)(p:Pos)(gl:List Str):Im (wClassHead A cx sc bs ks d tp own ts b p gl) (wClassHead B cx sc bs ks d tp own ts b p gl):=by
 refine L.c (mEs L ..) (L.c (L.bind ..) (L.c ?_ L.n));cases tp with
 |nil=>exact L.c (L.ent ..) (L.c (mEs L ..) (L.c (mKs L ..) L.n))
 |cons t tp=>
  cases ts with
  |none=>exact L.bad
  |some ts=>exact L.c (L.ent ..) (L.c (L.ent ..) (L.c (L.map (fun J=>mTP L ..) _) (L.c (L.bind ..) (L.c (L.bind ..) (L.c (L.ask ..) (L.c (L.bind ..) (L.c (mEs L ..) (L.c (mKs L ..) L.n))))))))
mutual
theorem mS:∀(s:Stmt) (top:Scope) (cx:TCx) (sc:Scope),Im (wS A top cx sc s) (wS B top cx sc s)
 |.Pass _,_,_,_|.Break _,_,_,_|.Continue _,_,_,_=>L.unit
 |.Global ..,_,_,_=>L.c (L.map (fun J=>L.ask ..) _) (L.c (L.map (fun J=>L.check ..) _) (L.c (L.map (fun J=>L.ask ..) _) L.n))
 |.Nonlocal ..,_,_,_=>L.both (L.map (fun J=>L.ask ..) _) (L.map (fun J=>L.check ..) _)
 |.Import ..,_,_,_=>L.map (fun J=>L.bind ..) _
 |.ImportFrom ..,_,_,_=>L.map (fun a=>by
  show Im (ite _ _ _) (ite _ _ _);split
  ·exact L.unit
  ·exact L.bind ..) _
 |.Return v _,_,cx,sc=>mEo L v cx sc none
 |.Expr e _,_,cx,sc=>mE L e cx sc none
 |.Raise a b _,_,cx,sc=>L.both (mEo L a ..) (mEo L b ..)
 |.Assert a b _,_,cx,sc=>L.both (mE L a ..) (mEo L b ..)
 |.Assign ts v _,_,cx,sc=>L.both (mE L v ..) (mTs L ts ..)
 |.AugAssign t _ v _,_,cx,sc=>L.both (mT L t ..) (mE L v ..)
 |.Delete ts _,_,cx,sc=>mTs L ts cx sc none
 |.AnnAssign t a v n _,_,cx,sc=>L.c (by
  cases v with
  |some e=>exact L.both (mE L e ..) (mT L t ..)
  |none=>
   cases t with
   |Name=>
    show Im (ite _ _ _) (ite _ _ _);split
    ·exact L.unit
    ·exact L.bind ..
   |_=>exact mT L _ cx sc none) (L.c (mE L a ..) L.n)
 |.If t b o _,top,cx,sc|.While t b o _,top,cx,sc=>L.c (mE L t ..) (L.c (mSs b top cx sc) (L.c (mSs o top cx sc) L.n))
 |.For t i b o _,top,cx,sc|.AsyncFor t i b o _,top,cx,sc=>L.c (mE L i ..) (L.c (mT L t ..) (L.c (mSs b top cx sc) (L.c (mSs o top cx sc) L.n)))
 |.With i b _,top,cx,sc|.AsyncWith i b _,top,cx,sc=>L.both (mIt L ..) (mSs b top cx sc)
 |.Match e c _,top,cx,sc=>L.both (mE L e ..) (mCs c top cx sc)
 |.Try b hs o f _,top,cx,sc|.TryStar b hs o f _,top,cx,sc=>L.c (mSs b top cx sc) (L.c (mHs hs top cx sc) (L.c (mSs o top cx sc) (L.c (mSs f top cx sc) L.n)))
 |.FunctionDef _ _ b _ _ _ own _ _ _,top,cx,sc|.AsyncFunctionDef _ _ b _ _ _ own _ _ _,top,cx,sc=>L.both (mDh L ..) (mSs b top _ own)
 |.ClassDef _ _ _ b _ _ own _ _ _ _,top,cx,sc=>L.both (mCh L ..) (mSs b top _ own)
 |.TypeAlias _ tp v own ts _ _,_,cx,sc=>L.c (L.bind ..) (L.c (mE L v ..) (L.c (by
  cases tp with
  |nil=>exact L.ent ..
  |cons t tp=>
   cases ts with
   |none=>exact L.bad
   |some ts=>exact L.c (L.ent ..) (L.c (L.ent ..) (L.c (L.map (fun J=>mTP L ..) _) L.n))) L.n))
theorem mSs:∀(s:List Stmt) (top:Scope) (cx:TCx) (sc:Scope),Im (wSs A top cx sc s) (wSs B top cx sc s)
 |[],_,_,_=>L.unit
 |s::r,top,cx,sc=>L.both (mS s top cx sc) (mSs r top cx sc)
theorem mHs:∀(s:List ExceptHandler) (top:Scope) (cx:TCx) (sc:Scope),Im (wHs A top cx sc s) (wHs B top cx sc s)
 |[],_,_,_=>L.unit
 |.ExceptHandler t n b _::r,top,cx,sc=>L.c (mEo L t ..) (L.c (L.opt ..) (L.c (mSs b top cx sc) (L.c (mHs r top cx sc) L.n)))
theorem mCs:∀(s:List MatchCase) (top:Scope) (cx:TCx) (sc:Scope),Im (wCs A top cx sc s) (wCs B top cx sc s)
 |[],_,_,_=>L.unit
 |⟨p,g,b⟩::r,top,cx,sc=>L.c (mP L p ..) (L.c (mEo L g ..) (L.c (mSs b top cx sc) (L.c (mCs r top cx sc) L.n)))
end
theorem mM(m:Module)(h:wModule A m=true):wModule B m=true:=by
 refine Im.go (L.c (L.enter _) (L.c (L.check ..) (L.c (mSs L ..) L.n))) h
end
noncomputable abbrev pwx:Program:=PySem.Challenge.pw_pq0663_01
noncomputable def V3(l:List Nat):Bool:= @List.rec Nat (fun J=>Bool) true (fun a t ih=> @Bool.rec (fun J=>Bool) ih false (@List.rec Nat (fun J=>Bool) false (fun b J r=> @Bool.rec (fun J=>Bool) r true (Nat.beq a b)) t)) l
theorem Hi{a:Nat}{t:List Nat}(h:V3 (a::t)=true):(∀b∈t,a≠b)/\V3 t=true:=by
 have e:V3 (a::t)= @Bool.rec (fun J=>Bool) (V3 t) false (@List.rec Nat (fun J=>Bool) false (fun b J r=> @Bool.rec (fun J=>Bool) r true (Nat.beq a b)) t):=rfl;rw[e]at h;have k:∀u:List Nat,@List.rec Nat (fun J=>Bool) false (fun b J r=> @Bool.rec (fun J=>Bool) r true (Nat.beq a b)) u=false->∀b∈u,a≠b:=by
  intro u;induction u with
  |nil=>exact fun J b hb=>by cases hb
  |cons c u ih=>
   intro q b hb;have q: @Bool.rec (fun J=>Bool) (@List.rec Nat (fun J=>Bool) false (fun b J r=> @Bool.rec (fun J=>Bool) r true (Nat.beq a b)) u) true (Nat.beq a c)=false:=q;cases hc:Nat.beq a c with
   |true=>rw[hc]at q;cases q
   |false=>
    rw[hc]at q;rcases List.mem_cons.mp hb with rfl|hb
    ·exact Nat.ne_of_beq_eq_false hc
    ·exact ih q b hb
 cases hq: @List.rec Nat (fun J=>Bool) false (fun b J r=> @Bool.rec (fun J=>Bool) r true (Nat.beq a b)) t with
 |true=>rw[hq]at h;cases h
 |false=>rw[hq]at h;exact⟨k t hq,h⟩
theorem Z2{β:Type}{c:Str->Nat}:∀{l:List (Str × β)},V3 (l.map fun p=>c p.1)=true->∀p∈l,l.filter (fun q=>q.1==p.1)=[p]
 |[],_,p,hp=>by cases hp
 |x::l,h,p,hp=>by
  obtain⟨h1,h2⟩:=Hi h;rcases List.mem_cons.mp hp with rfl|hp
  ·rw[List.filter_cons_of_pos (by simp)]
   congr 1
   refine List.filter_eq_nil_iff.mpr fun q hq e=>?_;exact h1 (c q.1) (List.mem_map.mpr ⟨q,hq,rfl⟩) (congrArg c (eq_of_beq e).symm)
  ·have hn:¬((x.1==p.1)=true):=fun e=>h1 (c p.1) (List.mem_map.mpr ⟨p,hp,rfl⟩) (congrArg c (eq_of_beq e))
   rw[List.filter_cons_of_neg (p:=fun q:Str × β=>q.1==p.1) hn];exact Z2 h2 p hp
theorem once(c:Str->Nat){sc:Scope}(h:V3 (sc.names.map fun p=>c p.1)=true):TablesWhole.noTwice sc=true:=
 List.all_eq_true.mpr fun p hp=>by
  dsimp only;rw[Z2 h p hp]
theorem hb1:TablesWhole.noTwice pwx.main.scope=true:=once (fun s=>Fast.code s.cps.toList) (by kernel_rfl)
theorem qZy(top:Scope)(cx:TCx)(sc:Scope)(r:List Stmt):∀l:List Stmt,TablesWhole.wSs TablesWhole.gather top cx sc (l++r)=TablesWhole.wSs TablesWhole.gather top cx sc l++TablesWhole.wSs TablesWhole.gather top cx sc r
 |[]=>rfl
 |s::l=>by
  have e:∀u:List Stmt,TablesWhole.wSs TablesWhole.gather top cx sc (s::u)=TablesWhole.wS TablesWhole.gather top cx sc s++TablesWhole.wSs TablesWhole.gather top cx sc u:=fun J=>rfl;rw[List.cons_append,e,e,qZy top cx sc r l,List.append_assoc]
theorem qZx(top:Scope)(cx:TCx)(sc:Scope)(l:List Stmt)(n:Nat)(h1:TablesWhole.wSs TablesWhole.gather top cx sc (l.take n)=[])(h2:TablesWhole.wSs TablesWhole.gather top cx sc (l.drop n)=[]):TablesWhole.wSs TablesWhole.gather top cx sc l=[]:=by
 rw[<-List.take_append_drop n l,qZy,h1,h2];rfl
abbrev gaQ(l:List Stmt):Prop:=TablesWhole.wSs TablesWhole.gather pwx.main.scope ⟨pwx.main.scope,[],[],[],none⟩ pwx.main.scope l=[]
theorem hq1:gaQ (pwx.main.body.take 100):=by kernel_rfl
theorem hq2:gaQ ((pwx.main.body.drop 100).take 70):=by kernel_rfl
theorem hq3:gaQ ((pwx.main.body.drop 100).drop 70):=by kernel_rfl
theorem hb2:gaQ pwx.main.body:=qZx _ _ _ _ 100 hq1 (qZx _ _ _ _ 70 hq2 hq3)
theorem D0{A:TablesWhole.Alg Bool}(h:A.both=fun a b=>a&&b)(top:Scope)(cx:TCx)(sc:Scope)(s:Stmt)(r:List Stmt):TablesWhole.wSs A top cx sc (s::r)=(TablesWhole.wS A top cx sc s&&TablesWhole.wSs A top cx sc r):=by
 show A.both _ _=_;rw[h]
theorem qZw{A:TablesWhole.Alg Bool}(h:A.both=fun a b=>a&&b)(u:A.unit=true)(top:Scope)(cx:TCx)(sc:Scope)(r:List Stmt):∀l:List Stmt,TablesWhole.wSs A top cx sc (l++r)=(TablesWhole.wSs A top cx sc l&&TablesWhole.wSs A top cx sc r)
 |[]=>by
  have e:TablesWhole.wSs A top cx sc []=A.unit:=rfl;rw[List.nil_append,e,u,Bool.true_and]
 |s::l=>by rw[List.cons_append,D0 h,D0 h,qZw h u top cx sc r l,Bool.and_assoc]
theorem Dz{A:TablesWhole.Alg Bool}(h:A.both=fun a b=>a&&b)(u:A.unit=true)(top:Scope)(cx:TCx)(sc:Scope)(l:List Stmt)(n:Nat)(h1:TablesWhole.wSs A top cx sc (l.take n)=true)(h2:TablesWhole.wSs A top cx sc (l.drop n)=true):TablesWhole.wSs A top cx sc l=true:=by
 rw[<-List.take_append_drop n l,qZw h u,h1,h2];rfl
noncomputable abbrev AM (ok:Scope->Str->Bool):TablesWhole.Alg Bool:=⟨fun sc n J=>ok sc n,fun J J J J=>true,fun J=>true,true,false,fun a b=>a&&b⟩
noncomputable abbrev okR (p:Program) (sc:Scope) (n:Str):Bool:=match sc.names.lookup n with
 |some .globalImplicit|some .globalExplicit=>p.boundNames.contains n||n==("__name__":Str)||n==("__debug__":Str)||(builtinNamed n&& !worldNames.contains n&& !n.opensWith "__")
 |_=>true
abbrev okG(p:Program)(sc:Scope)(n:Str):Bool:=(sc.names.lookup n).isSome&&(okR p sc n&&(attrL n&&(n != ("vars":Str)&&(n != ("dir":Str)&&n != ("locals":Str)))))
abbrev GA(p:Program):TablesWhole.Alg Bool:=⟨fun sc n J=>okG p sc n,fun J J J ok=>ok,fun J=>true,true,false,fun a b=>a&&b⟩
theorem qZ8{a b c d:Bool}(h:Im a c)(k:Im b d):Im (a&&b) (c&&d):=⟨fun e=>by
 rw[Bool.and_eq_true]at e⊢;exact⟨h.go e.1,k.go e.2⟩⟩
theorem jX8{p:Program}{ok:Scope->Str->Bool}(h:∀sc n,okG p sc n=true->ok sc n=true):Le (GA p) (AM ok):=⟨fun sc n J=>⟨h sc n⟩,fun J J J J=>⟨fun J=>rfl⟩,fun J=>⟨id⟩,⟨id⟩,⟨id⟩,qZ8⟩
theorem xXx{p:Program}:Le (GA p) TablesWhole.holds:=⟨fun sc n J=>⟨fun h=>(Bool.and_eq_true_iff.mp h).1⟩,fun J J J J=>⟨id⟩,fun J=>⟨id⟩,⟨id⟩,⟨id⟩,qZ8⟩
theorem jX0{p:Program}{ok:Scope->Str->Bool}(h:∀sc n,okG p sc n=true->ok sc n=true)(g:TablesWhole.wModule (GA p) p.main=true):namesMeet p p.main.body ok=true:=mM (jX8 h) p.main g
theorem xXi{p:Program}(g:TablesWhole.wModule (GA p) p.main=true):namesResolve p=true:=mM (jX8 (p:=p) (ok:=okR p) fun sc n h=>(Bool.and_eq_true_iff.mp (Bool.and_eq_true_iff.mp h).2).1) p.main g
theorem at_of{p:Program}(g:TablesWhole.wModule (GA p) p.main=true):namesMeet p p.main.body (fun J n=>attrL n)=true:=jX0 (fun sc n h=>(Bool.and_eq_true_iff.mp (Bool.and_eq_true_iff.mp (Bool.and_eq_true_iff.mp h).2).2).1) g
theorem qXc{p:Program}{x:Str}(hx:x="vars"∨x="dir"∨x="locals")(g:TablesWhole.wModule (GA p) p.main=true):readsOut p p.main.body x=false:=by
 unfold readsOut
 rewrite [jX0 (fun sc n h=>?_) g];rfl
 simp only[Bool.and_eq_true]at h;obtain⟨_,_,_,h1,h2,h3⟩:=h;rcases hx with rfl|rfl|rfl
 ·rw[h1];rfl
 ·rw[h2];rfl
 ·rw[h3];rfl
abbrev hoQ(l:List Stmt):Prop:=TablesWhole.wSs (GA pwx) pwx.main.scope ⟨pwx.main.scope,[],[],[],none⟩ pwx.main.scope l=true
theorem ho1:hoQ (pwx.main.body.take 80):=by
 unfold hoQ GA okG okR;rw[Fast.sDec_eq,Fast.te18344453789297297638,Fast.named_eq,Fast.te17868728402115742887,Fast.te14412699480532031325]
 kernel_rfl
theorem ho2:hoQ ((pwx.main.body.drop 80).take 50):=by
 unfold hoQ GA okG okR;rw[Fast.sDec_eq,Fast.te18344453789297297638,Fast.named_eq,Fast.te17868728402115742887,Fast.te14412699480532031325]
 kernel_rfl
theorem ho3:hoQ (((pwx.main.body.drop 80).drop 50).take 50):=by
 unfold hoQ GA okG okR;rw[Fast.sDec_eq,Fast.te18344453789297297638,Fast.named_eq,Fast.te17868728402115742887,Fast.te14412699480532031325]
 kernel_rfl
theorem ho4:hoQ (((pwx.main.body.drop 80).drop 50).drop 50):=by
 unfold hoQ GA okG okR;rw[Fast.sDec_eq,Fast.te18344453789297297638,Fast.named_eq,Fast.te17868728402115742887,Fast.te14412699480532031325]
 kernel_rfl
theorem hb3:hoQ pwx.main.body:=Dz rfl rfl _ _ _ _ 80 ho1 (Dz rfl rfl _ _ _ _ 50 ho2 (Dz rfl rfl _ _ _ _ 50 ho3 ho4))
theorem qJe{p:Program}(h1:TablesWhole.noTwice p.main.scope=true)(h2:TablesWhole.wSs TablesWhole.gather p.main.scope ⟨p.main.scope,[],[],[],none⟩ p.main.scope p.main.body=[])(h3:TablesWhole.wSs (GA p) p.main.scope ⟨p.main.scope,[],[],[],none⟩ p.main.scope p.main.body=true):TablesWhole.wModule (GA p) p.main=true:=by
 unfold TablesWhole.wModule;rw[h2];show(true&&(TablesWhole.noTwice p.main.scope&&(TablesWhole.wSs (GA p) p.main.scope ⟨p.main.scope,[],[],[],none⟩ p.main.scope p.main.body&&true)))=true;rw[h1,h3];rfl
theorem Ke:TablesWhole.wModule (GA pwx) pwx.main=true:=qJe hb1 hb2 hb3
theorem qJd{p:Program}(h1:p.modules=[])(h2:p.parses=[])(h3:p.harvested=[])(h:TablesWhole.wModule (GA p) p.main=true):p.tablesWhole=true:=by
 unfold Program.tablesWhole TablesWhole.wProgram;rw[h1,h2,h3,mM xXx p.main h];rfl
theorem hbt:pwx.tablesWhole=true:=qJd (by kernel_rfl) (by kernel_rfl) (by kernel_rfl) Ke
end
noncomputable abbrev lx:OpenLaw:=PySem.Challenge.rw_pq0663_01
abbrev rx:OpenRow:=lx.row
theorem wa1:sreFenced pwx.main=true:=by rw[PySem.W.Fast.te11788848310118352699];kernel_rfl
theorem wa2:((moduleNames pwx.main.body).isEmpty||lookedIntoSs (moduleNames pwx.main.body) pwx.main.body)=true:=by rw[PySem.W.Fast.te9807087744658564304,PySem.W.Fast.te12862048085361865435];kernel_rfl
theorem wa3:namesResolve pwx=true:=xXi Ke
theorem wa4:pwx.boundNames.all (fun n=> !worldNames.contains n)=true:=by rw[PySem.W.Fast.te18344453789297297638,PySem.W.Fast.te14412699480532031325];kernel_rfl
theorem wv1:readsOut pwx pwx.main.body "vars"=false:=qXc (.inl rfl) Ke
theorem wv2:readsOut pwx pwx.main.body "dir"=false:=qXc (.inr (.inl rfl)) Ke
theorem wv3:readsOut pwx pwx.main.body "locals"=false:=qXc (.inr (.inr rfl)) Ke
theorem wb1:(["vars","dir","locals"]:List Str).filter (readsOut pwx pwx.main.body)=[]:=by
 rw[List.filter_cons_of_neg (by rw[wv1];decide),List.filter_cons_of_neg (by rw[wv2];decide),List.filter_cons_of_neg (by rw[wv3];decide)];rfl
theorem wb2:(!(importedModules pwx.main.body).all cThrough.contains)=false:=by rw[PySem.W.Fast.te17691160309236699985,PySem.W.Fast.te5923862056798008813];kernel_rfl
theorem wb3:noRoadLSs {strict:=false,foot:=none,bare:=[]} pwx.main.body=true:=by rw[PySem.W.Fast.te8326940854005059898];kernel_rfl
theorem wa5:noRoadLSs {strict:= !(importedModules pwx.main.body).all cThrough.contains,foot:=none,bare:=(["vars","dir","locals"]:List Str).filter (readsOut pwx pwx.main.body)} pwx.main.body=true:=by
 rw[wb1,wb2];exact wb3
theorem wa6:namesMeet pwx pwx.main.body (fun J n=>attrL n)=true:=at_of Ke
theorem wa7:looksOpen pwx=true:=by unfold looksOpen;exact look_both (look_both (look_both (look_both (look_both wa1 wa2) wa3) wa4) wa5) wa6
theorem b1:(pwx.boundNames.contains "law")=true:=by rw[PySem.W.Fast.te18344453789297297638];kernel_rfl
theorem wc2:decide (lx.foot<=(behindTheImports pwx).length)=true:=by kernel_rfl
theorem wc3:lx.footing.all footLine=true:=by rw[PySem.W.Fast.te10501279942588096481];kernel_rfl
theorem wc4:noClassBlock pwx lx.footing=true:=by rw[PySem.W.Fast.te8179353310426384613];kernel_rfl
theorem wc5:lx.most.all (fun n=>decide (63<=n))=true:=by kernel_rfl
theorem wc6:lx.bound.all (fun n=>decide (2^63<=n))=true:=by kernel_rfl
theorem wc7:noRoadLSs {strict:=true,foot:=some lx.bound',writes:=lx.writes,may:=lx.may} lx.footing=true:=by
 rw[PySem.W.Fast.te8326940854005059898,PySem.W.Fast.te797321630700447069,PySem.W.Fast.te9572597257264208301];kernel_rfl
theorem wc8:defStands lx.about lx.above=true:=by rw[PySem.W.Fast.te9558739934217749035];kernel_rfl
theorem wc9:lx.namesIt=true:=by rw[PySem.W.Fast.te16286561074155671207];kernel_rfl
theorem wc10:(["type","isinstance","issubclass","getattr","hasattr"]:List Str).all (fun n=>lx.about != [n])=true:=by kernel_rfl
theorem wc11:lx.bound'.all (fun n=> !builtinNamed n||lx.about==[n]|| !lx.reads n)=true:=by rw[PySem.W.Fast.te797321630700447069,PySem.W.Fast.named_eq,PySem.W.Fast.te6984425678791042302];kernel_rfl
theorem wc12:(!lx.writes||(pwx.main.body.flatMap importedNames).all fun n=> !lx.reads n)=true:=by kernel_rfl
theorem wc13:(pwx.main.body.flatMap importedNames).all (fun n=> !lx.reads n||(drawsOf n pwx.main.body).all fun mn=>mn.2 != ("attrgetter":Str)&&mn.2 != ("methodcaller":Str))=true:=by
 rw[PySem.W.Fast.te12879404354523853263];kernel_rfl
theorem wc14:namesMeet pwx lx.footing (fun sc n=>(!(["type","isinstance","issubclass","getattr","hasattr"]:List Str).contains n||sc.names.lookup n==some .globalImplicit)&&
  (lx.may != some n||sc.kind==.module||sc.names.lookup n==some .globalImplicit))=true:=by rw[PySem.W.Fast.te17119622794617984870,PySem.W.Fast.te9572597257264208301];kernel_rfl
theorem wc15:lx.own.contains lx.name=true:=by rw[PySem.W.Fast.te10792542408131684335];kernel_rfl
theorem wc16:(lx.own.eraseDups.length==lx.own.length)=true:=by rw[PySem.W.Fast.te10792542408131684335];kernel_rfl
theorem wc17:lx.own.all (fun n=> !builtinNamed n)=true:=by rw[PySem.W.Fast.te10792542408131684335,PySem.W.Fast.named_eq];kernel_rfl
theorem wc18:namesMeet pwx lx.above (fun J n=> !lx.own.contains n)=true:=by rw[PySem.W.Fast.te17119622794617984870,PySem.W.Fast.te10792542408131684335];kernel_rfl
theorem wc19:namesMeet pwx lx.footing (fun sc n=>sc.kind==.module||sc.names.lookup n != some .globalExplicit)=true:=by rw[PySem.W.Fast.te17119622794617984870];kernel_rfl
theorem p1:rx.partSaid=true:=by
 unfold OpenRow.partSaid;refine look_both (look_both (look_both (look_both (look_both (look_both (look_both (look_both (look_both (look_both (look_both (look_both (look_both wa7 ?_) ?_) ?_) ?_) ?_) ?_) ?_) ?_) ?_) ?_) ?_) ?_) ?_<;>kernel_rfl
theorem p2:rx.wellSaid=true:=by unfold OpenRow.wellSaid;exact look_both (look_both p1 b1) (by kernel_rfl)
theorem said:lx.wellSaid=true:=by
 unfold OpenLaw.wellSaid;exact look_both (look_both (look_both (look_both (look_both (look_both (look_both (look_both (look_both (look_both (look_both (look_both (look_both (look_both (look_both (look_both (look_both (look_both p2 wc2) wc3) wc4) wc5) wc6) wc7) wc8) wc9) wc10) wc11) wc12) wc13) wc14) wc15) wc16) wc17) wc18) wc19
def dL:DefRec:=match sd 233 with
 |.FunctionDef n a b _ _ _ sc _ _ pos=>⟨n,a,b,sc,pos⟩
 |_=>⟨"",⟨[],[],none,[],[],none,[]⟩,[],⟨.module,[],false,false,[]⟩,q0⟩
theorem zQf:defOf qv rx.name=some (dL,[]):=by kernel_rfl
theorem hp:rx.prog.theDef rx.name=some (dL.params,dL.body,dL.scope):=by kernel_rfl
theorem hk:kwWritten? dL.params.kwonlyargs dL.params.kw_defaults=some []:=by kernel_rfl
theorem hwr:(!rx.writes||rx.records.isEmpty)=true:=by kernel_rfl
theorem hok:(chainsOk qv&&opensWell rx.prog&&(frees rx.toRowW&&rx.within.isEmpty))=true:=by kernel_rfl
theorem hw:rx.toRowW.promised:=⟨[.list []],by decide+kernel,by decide+kernel⟩
theorem hY(w:World)(s:Shared)(e:s.heap=absHeap (T34 w.params) 1858 {}):YP w s.heap:=by
 rw[e];exact fun b o h=>h
theorem hYk(w:World)(h h':Heap)(y:YP w h)(k:∀b o,h.get? b=some o->h'.get? b=some o):YP w h':=fun b o e=>k b o (y b o e)
theorem hX(s:Shared)(e:Xt0 s=true):XL qv [] (s.heap.nsMap mainGlobals) s.heap:=xl_of s (Bool.and_eq_true_iff.mp e).1
theorem hRf(s:Shared)(e:Xt0 s=true):RecFacts rx.records s.heap:=recFacts_of (Bool.and_eq_true_iff.mp e).2
end MHd
namespace Mine
open PySem PySem.W PySem.Calls PyProof.Rows
theorem QA{a b:Bool}:(a&&b)=true->a=true/\b=true:=Bool.and_eq_true_iff.mp
theorem QB(a b:Bool):((a&&b)=true)=(a=true/\b=true):=Bool.and_eq_true a b
theorem QC{n m:Nat}:Nat.beq n m=true->n=m:=Nat.eq_of_beq_eq_true
theorem QD{α:Type}{x:Option α}:x.isSome=true->∃a,x=some a:=Option.isSome_iff_exists.mp
theorem QE{n m:Nat}:Nat.ble n m=true->n<=m:=Nat.le_of_ble_eq_true
theorem QF{n m k:Nat}:n<m->m<=k->n<k:=Nat.lt_of_lt_of_le
theorem QG{n m k:Nat}:n<=m->m<=k->n<=k:=Nat.le_trans
theorem QH{h:Heap}{a:Addr}{o:Obj}:h.get? a=some o->a<h.objs.size:=Heap.lt_size
theorem QI{α:Type}{p:α->Bool}{l:List α}:l.all p=true->∀x,x∈l->p x=true:=List.all_eq_true.mp
theorem QJ{a b:Nat}:b<=a->¬a<b:=Nat.not_lt.mpr
theorem QK(n:Nat):n<n.succ:=Nat.lt_succ_self n
theorem QL(n:Nat):n<=n:=Nat.le_refl n
theorem QM(n:Nat):¬n<n:=Nat.lt_irrefl n
theorem QN{α β:Type}{M:Model}{A:Around}{E:Value->Shared->Prop}{s:Shared}{m:Sem α}{f:α->Sem β}{Q:β->Shared->Prop}:wpAny M A m (fun a s'=>wpAny M A (f a) Q E s') E s->wpAny M A (m>>=f) Q E s:=wpAny_bind
theorem QO{α:Type}{M:Model}{A:Around}{E:Value->Shared->Prop}{s:Shared}{a:α}{Q:α->Shared->Prop}:Q a s->wpAny M A (pure a) Q E s:=wpAny_pure
theorem QQ{α:Type}{l:List α}:l.isEmpty=true->l=[]:=List.isEmpty_iff.mp
theorem QR{α:Type}{a b:α}{l:List α}:a∈b::l->a=b∨a∈l:=List.mem_cons.mp
section
open Sem (wp)
noncomputable def K3:List String:=["bytearray.__contains__","bytearray.__mod__","bytearray.__rmod__","_struct.pack_into.held","bytearray.find.held"]++Builtin.Bytes.decodersThatHold
def hlc:Code->Bool
 |.builtin id _=> !K3.contains id
 |_=>true
structure Wi(Γ:Ctx):Prop where
 code:hlc Γ.code=true
 below:∀x∈Γ.below,hlc x.1=true
theorem Wi.enter{Γ:Ctx}(h:Wi Γ){c:Code}(hc:hlc c=true)(hd:Option Value)(p:Pos):Wi (Γ.enter c hd p):=⟨hc,fun x hx=>by
 rcases QR hx with rfl|hx
 ·exact h.code
 ·exact h.below x hx⟩
theorem Wi.goto{Γ:Ctx}(h:Wi Γ){c:Code}(hc:hlc c=true):Wi (Γ.goto c):=⟨hc,h.below⟩
def wpC{α:Type}(M:Model)(A:Around)(t:Sem α)(Q:α->Shared->Prop)(E:Value->Shared->Prop)(s:Shared):Prop:=
 ∀Γ p,Γ.In A->Wi Γ->wp M Γ t (fun a J s'=>Q a s') (fun e J s'=>E e s') p s
def Q1(M:Model)(A:Around)(c:Code)(R:Result->Shared->Prop)(s:Shared):Prop:=
 ∀Γ p,Γ.code=c->Γ.Below A->Wi Γ->wpCode M Γ R p s
section
variable{α β:Type}{M:Model}{A:Around}{E:Value->Shared->Prop}{s:Shared}
theorem Qe{t:Sem α}{Q:α->Shared->Prop}(h:wpAny M A t Q E s):wpC M A t Q E s:=fun Γ p hΓ _=>h Γ p hΓ
theorem Qc{a:α}{Q:α->Shared->Prop}(h:Q a s):wpC M A (pure a) Q E s:=Qe (QO h)
theorem Qf{t:Sem α}{Q Q':α->Shared->Prop}{E':Value->Shared->Prop}(h:wpC M A t Q E s)(hQ:∀a s,Q a s->Q' a s)(hE:∀e s,E e s->E' e s):wpC M A t Q' E' s:=
 fun Γ p hΓ hC=>Sem.wp_mono M Γ t (fun a J s=>hQ a s) (fun e J s=>hE e s) p s (h Γ p hΓ hC)
theorem Qa{m:Sem α}{f:α->Sem β}{Q:β->Shared->Prop}(h:wpC M A m (fun a s'=>wpC M A (f a) Q E s') E s):wpC M A (m>>=f) Q E s:=fun Γ p hΓ hC=>by
 rw[Sem.wp_bind'];exact Sem.wp_mono M Γ m (fun a p' s' h'=>h' Γ p' hΓ hC) (fun J J J h'=>h') p s (h Γ p hΓ hC)
theorem Qy{m:Sem α}{k:Value->Sem Unit}{Q:α->Shared->Prop}(h:wpC M A m Q (fun J J=>False) s):wpC M A (m.onRaise k) Q E s:=fun Γ p hΓ hC=>by
 rw[Sem.wp_onRaise];exact Sem.wp_mono M Γ m (fun J J J h'=>h') (fun e p' s' h'=>h'.elim) p s (h Γ p hΓ hC)
theorem Yi{m:Sem α}{Q:Except Value α->Shared->Prop}(h:wpC M A m (fun a=>Q (.ok a)) (fun J J=>False) s):wpC M A m.attempt Q E s:=fun Γ p hΓ hC=>by
 rw[Sem.wp_attempt];exact Sem.wp_mono M Γ m (fun J J J h'=>h') (fun e p' s' h'=>h'.elim) p s (h Γ p hΓ hC)
theorem Qd{vs:List Value}{m:Sem α}{Q:α->Shared->Prop}(h:wpC M A m Q E s):wpC M A (holding vs m) Q E s:=fun Γ p hΓ hC=>by rw[Sem.wp_holding];exact h Γ p hΓ hC
theorem Gz{vs:List Value}{m:Sem Value}{Q:Value->Shared->Prop}(h:wpC M A m Q E s):wpC M A (operate vs m) Q E s:=fun Γ p hΓ hC=>by rw[Sem.wp_operate];exact h Γ p hΓ hC
theorem Qi{pos:Pos}{Q:Unit->Shared->Prop}(h:Q () s):wpC M A (standAt pos) Q E s:=Qe (wpAny_standAt h)
theorem J9{tag:String}{Q:Unit->Shared->Prop}(h:Q () s):wpC M A (rule tag) Q E s:=Qe (wpAny_rule h)
theorem Yu{Q:Unit->Shared->Prop}(h:Q () s):wpC M A point Q E s:=Qe (wpAny_point h)
theorem zZd{t:Sem α}{a:α}{Q:α->Shared->Prop}(e:t=pure a)(h:Q a s):wpC M A t Q E s:=Qe (wpAny_of_eq e h)
theorem Yd{c:Code}{R R':Result->Shared->Prop}(h:Q1 M A c R s)(hR:∀r s,R r s->R' r s):Q1 M A c R' s:=fun Γ p hc hΓ hC=>wpCode_mono hR (h Γ p hc hΓ hC)
theorem Mp{c:Code}{h:Option Value}{Q:Flow->Shared->Prop}(hl:hlc c=true)(hc:Q1 M (A.mark h) c (fun r s'=>match r with|.ok f=>Q f s'|.error e=>E e s') s)(hnb:h≠some byPass):wpC M A (run c h) Q E s:=
 fun Γ p hΓ hC=>by rw[Sem.wp_run];exact hc _ p rfl (hΓ.enter c h p hnb) (hC.enter hl h p)
theorem Wm{c:Code}{Q:Value->Shared->Prop}(hl:hlc c=true)(hc:Q1 M A c (fun r s'=>match r with|.ok (.ret v)=>Q v s'|.ok _=>False|.error e=>E e s') s):wpC M A (runValue c) Q E s:=
 fun Γ p hΓ hC=>by rw[Sem.wp_runValue];exact hc _ p rfl (hΓ.enter c none p (by intro x;cases x)) (hC.enter hl none p)
theorem Z1{f:Value}{pos:List Value}{kw:List (Str × Value)}{Q:Value->Shared->Prop}(hc:Q1 M A (.call f ⟨pos,kw⟩) (fun r s'=>match r with|.ok (.ret v)=>Q v s'|.ok _=>False|.error e=>E e s') s):wpC M A (call f pos kw) Q E s:=Wm rfl hc
theorem Qr{c:Code}{R:Result->Shared->Prop}
  (h:wpC M (A.under c) (M.den c) (fun fin s'=>match fin with|.done f=>R (.ok f) s'|.again c'=>c'.quiet=true/\hlc c'=true/\Q1 M A c' R s') (fun e s'=>R (.error e) s') s):Q1 M A c R s:=fun Γ p hc hΓ hC=>by
 rw[wpCode_iff_wp,hc];refine Sem.wp_mono M Γ _ (fun fin p' s' h'=>?_) (fun J J J h'=>h') p s (h Γ p (hc▸hΓ.in) hC);cases fin with
 |done f=>exact h'
 |again c'=>exact⟨h'.1,h'.2.2 (Γ.goto c') p' rfl (hΓ.goto c') (hC.goto h'.2.1)⟩
theorem Jr{c:Code}{R:Result->Shared->Prop}(hq:c.quiet=true)(hl:hlc c=true)(I:Nat->Shared->Prop)
  (turn:∀n s,I n s->wpC M (A.under c) (M.den c) (fun fin s'=>match fin with|.done f=>R (.ok f) s'|.again c'=>(c'=c/\∃m,m<n/\I m s')∨(c'.quiet=true/\hlc c'=true/\Q1 M A c' R s')) (fun J J=>False) s)
  (n:Nat) (h:I n s):Q1 M A c R s:=by
 induction n using Nat.strongRecOn generalizing s with
 |ind n ih=>
  refine Qr (Qf (turn n s h) (fun fin s' hf=>?_) fun J J h'=>h'.elim);cases fin with
  |done f=>exact hf
  |again c'=>
   rcases hf with⟨rfl,m,hm,hI⟩|hf
   ·exact⟨hq,hl,ih m hm hI⟩
   ·exact hf
theorem Kd{c:Code}{env:Env}{Q:Flow->Shared->Prop}(hl:hlc c=true)(hc:Q1 M A c (fun r s'=>match r with|.ok f=>Q f s'|.error _=>False) s):wpC M A (runOwn c env none) Q E s:=by
 unfold runOwn;refine Qy (Mp hl ?_ Qh);have:A.mark none=A:=by cases A;rfl
 rw[this];exact hc
end
section
variable{prog:Program}{w:World}{A:Around}{E:Value->Shared->Prop}{s:Shared}{R:Result->Shared->Prop}
theorem Zl{a:Addr}{args:Args}{o:Obj}{fd:FuncData}{body:List Stmt}(hroom:A.depth<recursionLimit)(ho:s.heap.get? a=some o)
  (hd':o.data=.func fd) (hco:fd.scope.isCoroutine=false) (hgen:fd.scope.isGenerator=false) (hbody:fd.body=.stmts body) (hcd:s.heap.CodeRec fd.code fd.qualname)
  (h:wpAny (model prog w) A.in1 (bindArgs fd args) (fun binds sA=>wpAny (model prog w) A.in1 (newFunctionEnv fd.scope fd.globals fd.closure binds (fd.qualname++".<locals>.") (some a) fd.code none fd.builtins)
    (fun env s2=>s2.heap.NoLimit/\Q1 (model prog w) A (.func body env) R s2) (fun e s'=>R (.error e) s') sA) (fun e s'=>R (.error e) s') s):
  Q1 (model prog w) A (.call (.ref a) args) R s:=by
 refine Qr ?_;show wpC _ A.in1 (callAny (.ref a) args) _ _ s;refine Qe (QN (wpAny_load ho ?_));obtain⟨c,oc,vs,tq,zq⟩:=hcd;obtain⟨hc,hoc,hdc,hq⟩:=zq;rw[hd'];show wpAny _ _ (callFunction a fd args) _ _ _;simp only[callFunction,hco,hgen,hbody,hc];rw[hc]at h;refine QN (m:=field (.ref c) 1) (wpAny_field hoc hdc hq (QN (QO ?_)));exact QN (wpAny_mono h (fun binds sA aH=>QN (wpAny_mono aH (fun env s2 aJ=>QN (wpAny_enterFrame aJ.1 hroom
  (QO ⟨rfl,rfl,aJ.2⟩))) fun J J h'=>h')) fun J J h'=>h')
theorem Ko{body:List Stmt}{env:Env}(h:wpC (model prog w) (A.deeper env) (execs body env) (fun f s'=>R (.ok (.ret (match f with|.ret v=>v|_=>.none))) s') (fun J J=>False) s):Q1 (model prog w) A (.func body env) R s:=by
 refine Qr ?_;show wpC _ (A.deeper env) (do point;match<-(execs body env).onRaise (leaving env)with|.ret v=>ret v|_=>ret .none) _ _ s;refine Qa (Yu (Qa (Qy (Qf h (fun f s' h'=>?_) fun J J h'=>h'))));cases f<;>exact Qc h'
theorem U8{target:Expr}{it:Value}{body:List Stmt}{env:Env}(I:Nat->Shared->Prop)
  (turn:∀n s,I n s->wpC (model prog w) A (pyNext it) (fun r sA=>match r with
   |none=>R (.ok .next) sA
   |some v=>wpC (model prog w) A (letOwnedTupleGo target it v) (fun J s1'=>wpC (model prog w) A (assign target env v) (fun J s2=>wpC (model prog w) A (execs body env) (fun f s3=>match f with
      |.next|.cont=>∃m,m<n/\I m s3
      |.brk=>R (.ok .next) s3
      |.ret v=>R (.ok (.ret v)) s3) (fun J J=>False) s2) (fun J J=>False) s1') (fun J J=>False) sA) (fun J J=>False) s)
  (n:Nat) (h:I n s):Q1 (model prog w) A (.forLoop target it body [] env) R s:=by
 refine Jr rfl rfl I (fun n s hI=>?_) n h;show wpC _ A ((forTurn target it body [] env).onRaise (fun x=>do noteFrame x env;theTreesLotGoes x)) _ _ s;refine Qy ?_;simp only[forTurn];refine Qa (Qi (Qa (Qy (Qf (turn n s hI) (fun r sA aH=>?_) fun J J h'=>h'))));cases r with
 |none=>
  refine Qc (.inr ⟨rfl,rfl,?_⟩);refine Qr ?_;show wpC _ _ (do return Fin.done (<-(execs [] env).onRaise (fun x=>do noteFrame x env;theTreesLotGoes x))) _ _ sA;exact Qa (Qy (Qe (wpAny_execs_nil (Qc aH))))
 |some v=>
  refine Qa (Qf aH (fun J s1' aI=>?_) fun J J h'=>h');refine Qa (Qf aI (fun J s2 aJ=>Qa (Qf aJ (fun f s3 aL=>?_) fun J J h'=>h')) fun J J h'=>h');cases f with
  |next=>exact Qc (.inl ⟨rfl,aL⟩)
  |cont=>exact Qc (.inl ⟨rfl,aL⟩)
  |brk=>exact Qc aL
  |ret v=>exact Qc aL
theorem Vd{test:Expr}{body:List Stmt}{env:Env}(I:Nat->Shared->Prop)
  (turn:∀n s,I n s->wpC (model prog w) A (isTrue test env (eval test env)) (fun b s2=>
    if b then wpC (model prog w) A (execs body env) (fun f s3=>match f with
      |.next|.cont=>∃m,m<n/\I m s3
      |.brk=>R (.ok .next) s3
      |.ret v=>R (.ok (.ret v)) s3) (fun J J=>False) s2
    else R (.ok .next) s2) (fun J J=>False) s)
  (n:Nat) (h:I n s):Q1 (model prog w) A (.whileLoop test body [] env) R s:=by
 refine Jr rfl rfl I (fun n s hI=>?_) n h;show wpC _ A ((whileTurn test body [] env).onRaise (fun x=>do noteFrame x env;theTreesLotGoes x)) _ _ s;refine Qy ?_;simp only[whileTurn];refine Qa (Qf (turn n s hI) (fun b s2 aJ=>?_) fun J J h'=>h');cases b with
 |false=>
  simp only[Bool.false_eq_true,if_false]at aJ⊢;exact Qa (Qe (wpAny_execs_nil (Qc aJ)))
 |true=>
  simp only[if_true]at aJ⊢;refine Qa (Qf aJ (fun f s3 aL=>?_) fun J J h'=>h');cases f with
  |next=>exact Qc (.inl ⟨rfl,aL⟩)
  |cont=>exact Qc (.inl ⟨rfl,aL⟩)
  |brk=>exact Qc aL
  |ret v=>exact Qc aL
theorem Gx{M:Model}{env:Env}{body orelse:Sem Flow}{aG:ExceptHandler}{hs:List ExceptHandler}{Q:Flow->Shared->Prop}
  (h:wpC M A body (fun f sA=>match f with|.next=>wpC M A orelse Q E sA|f=>Q f sA) (fun J J=>False) s):wpC M A (tryStmt false body (aG::hs) orelse [] env) Q E s:=by
 refine Qa (Yi (Qf h (fun f sA aH=>?_) fun e sA aH=>aH.elim));cases f<;>first|exact aH|exact Qc aH
theorem Ug{env:Env}{c:Expr}{Q:Bool->Shared->Prop}(h:wpC (model prog w) A (isTrue c env (eval c env)) Q E s):
  wpC (model prog w) A (forIn [c] true fun c r=>if r=true then do let ok <-isTrue c env (eval c env);pure (ForInStep.yield ok)else pure (ForInStep.yield r)) Q E s:=by
 simp only[List.forIn_cons,List.forIn_nil,if_true];exact Qa (Qa (Qf h (fun b s' hb=>Qc (Qc hb)) fun J J x=>x))
end
end
section
open Sem (wp)
section
variable{M:Model}{A:Around}{E:Value->Shared->Prop}{s:Shared}{env:Env}
def Jb(M:Model)(A:Around)(E:Value->Shared->Prop)(use:Option (Value->Sem Unit))(Q:Value->Shared->Prop)(acc:Value)(C:Addr)(r:Result)(s':Shared):Prop:=
 match r,use with
 |.ok _,none=>∃m,s'.heap.Ns C m/\∀h',Heap.SameBut C s'.heap h'->Q acc {s' with heap:=h'}
 |.ok _,some u=>wpC M A (u acc) (fun J s''=>∃m,s''.heap.Ns C m/\∀h',Heap.SameBut C s''.heap h'->Q .none {s'' with heap:=h'}) E s'
 |.error _,_=>False
theorem Gy{α:Type}{c:Prop}[Decidable c]{pos:Pos}{k:PUnit->Sem α}{Q:α->Shared->Prop}(h:wpC M A (k ()) Q E s):wpC M A (if c then(standAt pos>>=k)else k ()) Q E s:=by
 split
 ·exact Qa (Qi h)
 ·exact h
theorem Jn{e:Expr}{scope:Scope}{pos:Pos}{newAcc first:Sem Value}{g:Comprehension}{gs:List Comprehension}{cl:List (Str × Addr)}{use:Option (Value->Sem Unit)}
  {Q:Value->Shared->Prop}
  (hcl:clausesOf e=g::gs) (hs:∀x,foldedSetIterable g.iter env x=pure x) (hclos:closureFor scope env=pure cl)
  (hkind:scope.kind=.function) (hnames:∀x∈scope.names,x.2=.local->scope.names.lookup x.1=some .local)
  (h:wpC M A first (fun x sA=>wpC M A (pyIter x) (fun it s2=>wpC M A newAcc (fun acc s3=>
   wpC M A (newFunctionEnv scope env.globals cl [] env.qual none .none (some env)) (fun cenv s4=>
    Q1 M A (.compStart e 0 it acc {cenv with scope:=relabel scope env}) (Jb M A E use Q acc cenv.locals) s4) E s3) E s2) E sA) E s):
  wpC M A (comprehension e scope env pos newAcc false first use) Q E s:=by
 unfold comprehension;rw[hclos,hcl];refine Qa (Qf h (fun x sA aH=>Qa (Qi (Qa (zZd (hs x) (Qa (Qd (Qf aH (fun it s2 aJ=>
  Gy (Qa (Qf aJ (fun acc s3 aL=>Qa (Qc (Qa (Qf aL (fun cenv s4 aM=>?_) fun J J h'=>h')))) fun J J h'=>h')))
   fun J J h'=>h'))))))) fun J J h'=>h')
 dsimp only;have hv:∀x∈(scope.names.filter fun x=>(x.2==.local||x.2==.cell)&&x.1 != (".0":Str)).reverse,x.2=.local->
   Env.kindOf {cenv with scope:=relabel scope env} x.1=some .local:=fun x hx hl=>lookup_relabel_local (hnames x (List.mem_filter.mp (List.mem_reverse.mp hx)).1 hl)
 have hv':∀x∈(scope.names.filter fun x=>(x.2==.local||x.2==.cell)&&x.1 != (".0":Str)).reverse.drop 1++(scope.names.filter fun x=>(x.2==.local||x.2==.cell)&&x.1 != (".0":Str)).reverse.take 1,
   x.2=.local->Env.kindOf {cenv with scope:=relabel scope env} x.1=some .local:=fun x hx hl=>by
  rcases List.mem_append.mp hx with h1|h1
  ·exact hv x (List.mem_of_mem_drop h1) hl
  ·exact hv x (List.mem_of_mem_take h1) hl
 have hA:A.mark none=A:=by cases A;rfl
 refine Qd (Qa (Yi (Qd (Mp rfl ?_ Qh))));rw[hA];refine Yd aM fun r s' hr=>?_;cases r with
 |ok f=>
  cases use with
  |none=>
   obtain⟨m,hn,hr⟩:=hr;exact Qe (QN (wpAny_holding (wpAny_comp_letGo (cenv:={cenv with scope:=relabel scope env}) hkind _ s' m hv hn fun h' m' J hs'=>QO (hr h' hs'))))
  |some u=>
   refine Qa (J9 (Qa (Qd (Qf hr (fun J s'' hr'=>?_) fun J J h'=>h'))));obtain⟨m,hn,hr'⟩:=hr';exact Qe (QN (wpAny_comp_letGo (cenv:={cenv with scope:=relabel scope env}) hkind _ s'' m hv' hn fun h' m' J hs'=>QO (hr' h' hs')))
 |error x=>exact hr
theorem Vb{fv:Value}{xs:List (Bool × Sem Value)}{Q:Args->Shared->Prop}(hx:xs=[]∨∃x r,xs=(false,x)::r)(h:wpC M A (spliced xs) (fun vs s'=>Q ⟨vs,[]⟩ s') E s):wpC M A (evalArgs fv true xs []) Q E s:=by
 rcases hx with rfl|⟨x,r,rfl⟩
 all_goals
  unfold evalArgs;refine Qa (Qf h (fun vs s' h'=>?_) fun J J x=>x);refine Qd ?_;exact Qa (Qc (Qa (Qc (Qc h'))))
theorem H8{α:Type}{vs:List Value}{m:Sem α}{Q:α->Shared->Prop}(h:wpC M A m Q E s):wpC M A (m.keep vs) Q E s:=
 fun Γ p hΓ hC=>by rw[Sem.wp_keep];exact h Γ p hΓ hC
theorem Vg{P:Heap->Prop}{pos:Pos}{f:Value}{first:List Value}{Q:Value->Shared->Prop}{args:List (Bool × Sem Value)}(hplain:(args.any (·.1))=false)
  (hk:∀h,P h->∃k,(k=Keeper.frame∨k=Keeper.machine∨k=Keeper.boundFrame)/\Looks M h (keeperOf f) k)
  (h:wpC M A (evalArgs f true args []) (fun a sA=>P sA.heap/\wpC M A (call f (first++a.pos) a.kw) Q E sA) E s):wpC M A (callWith pos f first args []) Q E s:=by
 have hp:(args.any (·.1)||([]:List (Option Str × Sem Value)).any (·.1.isNone))=false:=by rw[hplain];rfl
 unfold callWith;refine Qa (Qd (Qf h (fun a sA aH=>Qa (Qi ?_)) fun J J x=>x));obtain⟨k,hk',L⟩:=hk _ aH.1;rw[hp];refine Qa (Qe (L.here ?_));have tail:∀{t:Sem Value},wpC M A t Q E sA->wpC M A (t>>=fun r=>holding [r] point>>=fun J=>pure r) Q E sA:=
  fun ht=>Qa (Qf ht (fun r s2 hr=>Qa (Qd (Yu (Qc hr)))) fun J J x=>x)
 have marked (mk:Value):wpC M A (callMarked mk f (first++a.pos) a.kw) Q E sA:=by unfold callMarked;exact H8 aH.2
 rcases hk' with rfl|rfl|rfl<;>dsimp only<;>first|exact tail aH.2|(split<;>first|exact tail aH.2|exact tail (marked _))
theorem Z0{prog:Program}{w:World}{R:Result->Shared->Prop}{elt target iter ifs Jj scope pos it acc env}
  (h0:Q1 (model prog w) A (.compLoop (.ListComp elt (⟨target,iter,ifs,0⟩::Jj) scope pos) 0 it acc env) R s)
  (h:wpAny (model prog w) A (pyIter it) (fun it' s'=>Q1 (model prog w) A (.compLoop (.ListComp elt (⟨target,iter,ifs,0⟩::Jj) scope pos) 0 it' acc env) R s') (fun J J=>False) s):
  Q1 (model prog w) A (.compStart (.ListComp elt (⟨target,iter,ifs,0⟩::Jj) scope pos) 0 it acc env) R s:=by
 refine Qr ?_;show wpC _ _ ((compStart (.ListComp elt (⟨target,iter,ifs,0⟩::Jj) scope pos) 0 it acc env).onRaise (fun x=>do noteFrame x env;standAt theWindowsPlace)) _ _ s;refine Qy (Qe ?_);unfold compStart;show wpAny _ _ (ask>>=_) _ _ s;refine QN (wpAny_askSetting (wpAny_ite ?_));split
 ·first
   |exact QN (QO (QO ⟨rfl,rfl,h0⟩))
   |exact QO ⟨rfl,rfl,h0⟩
 ·first
   |exact QN (wpAny_rule (QN (wpAny_standAt (QN (wpAny_mono h (fun it' s' h'=>QO ⟨rfl,rfl,h'⟩) fun J J x=>x.elim)))))
   |(refine QN (wpAny_rule ?_);show wpAny _ _ (standAt iter.pos>>=_) _ _ s;exact QN (wpAny_standAt (QN (wpAny_mono h (fun it' s' h'=>QO ⟨rfl,rfl,h'⟩) fun J J x=>x.elim))))
theorem U9{prog:Program}{w:World}{R':Result->Shared->Prop}{elt target iter:Expr}{ifs:List Expr}{scope:Scope}{pos:Pos}{it acc:Value}{env:Env}(I:Nat->Shared->Prop)
  (turn:∀n s,I n s->wpC (model prog w) A (pyNext it) (fun r sA=>match r with
   |none=>R' (.ok .next) sA
   |some v=>wpC (model prog w) A (letOwnedTupleGo target it v) (fun J s1'=>wpC (model prog w) A (assign target env v) (fun J s2=>
     wpC (model prog w) A (forIn ifs true fun c r=>if r=true then do let ok <-isTrue c env (eval c env);pure (ForInStep.yield ok)else pure (ForInStep.yield r)) (fun ok s3=>
      if ok=true then wpC (model prog w) A (eval elt env) (fun x s4=>
       wpC (model prog w) A (call (.builtin "list.append") [acc,x]) (fun J s5=>∃m,m<n/\I m s5) (fun J J=>False) s4) (fun J J=>False) s3
      else∃m,m<n/\I m s3) (fun J J=>False) s2) (fun J J=>False) s1') (fun J J=>False) sA) (fun J J=>False) s)
  (n:Nat) (s:Shared) (h:I n s):
  Q1 (model prog w) A (.compLoop (.ListComp elt [⟨target,iter,ifs,0⟩] scope pos) 0 it acc env) R' s:=by
 refine Jr rfl rfl I (fun n s hI=>?_) n h;show wpC _ A ((compTurn (.ListComp elt [⟨target,iter,ifs,0⟩] scope pos) 0 it acc env).onRaise (fun x=>do noteFrame x env;theTreesLotGoes x)) _ _ s;refine Qy ?_;rw[compTurn_list];refine Qa (Qi (Qa (Qf (turn n s hI) (fun r sA aH=>?_) fun J J h'=>h')));cases r with
 |none=>exact Qc aH
 |some v=>
  refine Qa (Qf aH (fun J s1' aI=>?_) fun J J h'=>h');refine Qa (Qf aI (fun J s2 aJ=>Qa (Qf aJ (fun ok s3 aL=>?_) fun J J h'=>h')) fun J J h'=>h');cases ok with
  |false=>exact Qc (.inl ⟨rfl,aL⟩)
  |true=>
   exact Qa (Qa (Qf aL (fun x s4 aM=>Qa (Qf aM (fun J s5 aN=>Qc (Qc (.inl ⟨rfl,aN⟩))) fun J J h'=>h')) fun J J h'=>h'))
theorem L7{prog:Program}{w:World}{k v:Sem Value}{Jj:List (Sem Value × Sem Value)}{Q:List (Value × Value)->Shared->Prop}
  (h:wpC (model prog w) A k (fun kv sA=>wpC (model prog w) A v (fun vv s2=>wpC (model prog w) A (evalPairs Jj) (fun vs s3=>Q ((kv,vv)::vs) s3) E s2) E sA) E s):
  wpC (model prog w) A (evalPairs ((k,v)::Jj)) Q E s:=by
 rw[evalPairs];refine Qa (Qf h (fun kv sA aH=>?_) fun J J e=>e);refine Qa (Qd (Qf aH (fun vv s2 aJ=>?_) fun J J e=>e));exact Qa (Qd (Qf aJ (fun vs s3 aL=>Qc aL) fun J J e=>e))
theorem Vq{prog:Program}{w:World}{pairs:List (Sem Value × Sem Value)}{Q:List (Value × Value)->Shared->Prop}(h:wpC (model prog w) A (evalPairs pairs) Q E s):
  wpC (model prog w) A (evalPairs pairs) (fun vs s'=>vs.length=pairs.length/\Q vs s') E s:=fun Γ p hΓ hC=>wp_evalPairs_len _ Γ pairs _ _ p s (h Γ p hΓ hC)
theorem Ui{prog:Program}{w:World}{K:Type}[DecidableEq K]{knd:KeyKind prog w K}{keys:List (Option Expr)}{values:List Expr}{pos:Pos}{Q:Value->Shared->Prop}
  (hall:keys.all (·.isSome)=true) (hl:keys.length=values.length) (h0:keys≠[]) (hlen:keys.length<=15)
  (h:wpC (model prog w) A (evalPairs (pairTrees keys values env pos)) (fun vs sA=>∃kvs,Carries knd vs kvs/\sA.heap.DictOf knd s.heap.objs.size []/\
   ∀h',h'.DictOf knd s.heap.objs.size (merged [] kvs)->Heap.SameBut s.heap.objs.size sA.heap h'->Q (.ref s.heap.objs.size) {sA with heap:=h',toks:=sA.toks+vs.length}) E
   {s with heap:=s.heap.push {cls:=.type "dict",data:=.dict #[]}}):
  wpC (model prog w) A (eval (.Dict keys values pos) env) Q E s:=by
 have hn:=pairTrees_length keys values env pos hall hl;have hp0:pairTrees keys values env pos≠[]:=by
  intro he;rw[he]at hn;exact h0 (List.length_eq_zero_iff.mp hn.symm)
 rw[arm_eval_Dict,zip_pairTrees keys values env pos hall hl,dictDisplay_pairs _ hp0 (by rw[hn];omega)];refine Qa (Qi (Qa ?_));unfold subDict;refine Qa (Qe (wpAny_alloc ?_));refine Qa (Qd ?_);rw[if_pos (by rw[hn];exact hlen)];refine Qa (Qf (Vq h) (fun vs sA aH=>?_) fun J J e=>e);obtain⟨hvl,kvs,hc,hm,hQ⟩:=aH;have hsz:([]:List (K × Value)).length+kvs.length<=sizeLine:=by
  have e:=hc.length;rw[sizeLine_eq,List.length_nil];omega
 exact Qe (wpAny_holding (QN (wpAny_storeAll (knd:=knd) vs kvs [] sA _ hc hm hsz fun h' hm' hs'=>QO (Qc (Qc (hQ h' hm' hs'))))))
end
end
section
open Builtin
section
variable{α β:Type}{M:Model}{A:Around}{E:Value->Shared->Prop}{s:Shared}{h:Heap}{g:Array GenState}{d:Drawn}{tk:Nat}{os:OsState}
theorem lkC{t:Sem α}{r:α}{Q:α->Shared->Prop}(x:Looks M h t r)(q:Q r ⟨h,g,d,tk,os⟩):wpC M A t Q E ⟨h,g,d,tk,os⟩:=Qe (x.at q)
end
section
variable{prog:Program}{w:World}{A:Around}{C:Addr}{R:Result->Shared->Prop}{h:Heap}{g:Array GenState}{d:Drawn}{t:Nat}{os:OsState}
theorem Zj{s:Shared}{id:String}{args:Args}{b:Builtin}(hl:hlc (.builtin id args)=true)(hq:(Code.builtin id args).quiet=true)(hb:entryFor table id=some b)
  (h:wpAny (model prog w) A.in1 (checkBuiltinCall id args) (fun J sA=>wpC (model prog w) (A.under (.builtin id args)) (b args)
   (fun fin s'=>match fin with|.done f=>R (.ok f) s'|.again c'=>c'.quiet=true/\hlc c'=true/\Q1 (model prog w) A c' R s') (fun e s'=>R (.error e) s') sA)
   (fun e s'=>R (.error e) s') s):Q1 (model prog w) A (.call (.builtin id) args) R s:=by
 refine Qr ?_;show wpC _ A.in1 (do checkBuiltinCall id args;again (.builtin id args)) _ _ s;refine Qa (Qe (wpAny_mono h (fun J sA aH=>Qc ⟨hq,hl,Qr ?_⟩) fun J J h'=>h'));show wpC _ _ (match entryFor table id with|some b=>b args|none=>unsupported ((withoutEnding? id "#data").getD id)) _ _ sA;rw[hb];exact aH
theorem Ly{Jj:List Value}{kw:List (Str × Value)}{init:Value}(Y:Makes (model prog w) h C)(hi:Looks (model prog w) h (typeLookup (.ref C) "__init__") (some init))
  (hb:∀self,Looks (model prog w) h (bindSpecial init self) (init,[self])) (hne:(some init != some (Value.builtin "object.__init__"))=true∨(Jj=[]/\kw=[]))
  (hq:Q1 (model prog w) (A.under (.builtin "type.__call__" ⟨.ref C::Jj,kw⟩)) (.call init ⟨.ref (h.objs.size+1)::Jj,kw⟩) (InitBack (h.objs.size+1) R) ⟨(h.push emptyDict).push (instObj C h.objs.size),g,d,t,os⟩):
  Q1 (model prog w) A (.call (.ref C) ⟨Jj,kw⟩) R ⟨h,g,d,t,os⟩:=by
 have Y':=Y;obtain⟨⟨oc,od,cd,sl,hC,e1,e2,e4⟩,made,base,self,top,call,typ⟩:=Y;refine Qr (Qe ?_);show wpAny _ _ (callAny (.ref C) _) _ _ _;refine nd_load hC ?_;show wpAny _ _ (callAny.viaDunder (.ref C) _) _ _ _;unfold callAny.viaDunder;refine QN (call.at ?_);dsimp only;rw[tc_bind];refine QN (QO (QN (QO ?_)));refine QO (a:=Fin.again (.call (.builtin "type.__call__") ⟨.ref C::Jj,kw⟩)) ⟨rfl,rfl,?_⟩;refine Zj (show(!K3.contains "type.__call__")=true from by decide+kernel) (Code.quiet_builtin _ (by decide+kernel)) entry_typeCall ?_
 with_reducible refine check_slot tc_kind tc_split typ (tc_args _ _ _) ?_
 unfold Builtin.«type.__call__»;have hm:Looks (model prog w) h (mroOf (.ref C)) cd.mro:=((Looks.ld (part:=none) hC).andThen .now).andThen .now;have ne:¬(Value.ref C==Value.type "type")=true:=by intro e;exact absurd (eq_of_beq e) (by intro q;cases q)
 dsimp only;rw[if_neg ne];have step:∀{α β:Type} {m:Sem α} {f:α->Sem β} {r:α} {Q:β->Shared->Prop} {E:Value->Shared->Prop} {A:Around} {d tk os},Looks (model prog w) h m r->wpC (model prog w) A (f r) Q E ⟨h,g,d,tk,os⟩->wpC (model prog w) A (m>>=f) Q E ⟨h,g,d,tk,os⟩:=
  fun x y=>Qa (lkC x y)
 refine step hm ?_;rw[if_neg (by rw[e4];decide)];refine step made ?_;refine Qa (Qc ?_);refine Qa (Qd (Qe (wpAny_call (new_K Y' hi hne ?_))));have k:∀b o,h.get? b=some o->((h.push emptyDict).push (instObj C h.objs.size)).get? b=some o:=fun b o e=>Heap.get?_push_of_some _ (Heap.get?_push_of_some _ e);have hx:((h.push emptyDict).push (instObj C h.objs.size)).get? (h.objs.size+1)=some (instObj C h.objs.size):=by heap_get
 have t1:Looks (model prog w) ((h.push emptyDict).push (instObj C h.objs.size)) (typeOf (.ref (h.objs.size+1))) (.ref C):=(Looks.ld hx).andThen .now;have s1:=self.keeps k;have i1:=hi.keeps k;have b1:=(hb (.ref (h.objs.size+1))).keeps k;dsimp only;unfold isInstance callSpecial? specialOf;have step2:∀{α β:Type} {m:Sem α} {f:α->Sem β} {r:α} {Q:β->Shared->Prop} {E:Value->Shared->Prop} {A:Around} {d tk os},Looks (model prog w) ((h.push emptyDict).push (instObj C h.objs.size)) m r->wpC (model prog w) A (f r) Q E ⟨(h.push emptyDict).push (instObj C h.objs.size),g,d,tk,os⟩->wpC (model prog w) A (m>>=f) Q E ⟨(h.push emptyDict).push (instObj C h.objs.size),g,d,tk,os⟩:=
  fun x y=>Qa (lkC x y)
 refine step2 (t1.andThen s1) ?_;rw[if_neg (by decide)];refine Qa (Qd (step2 (t1.andThen i1) (Qd (step2 b1 ?_))));refine Qa (Z1 (Yd hq fun r s' z=>?_));rcases r with e|(v|_|_|_)<;>first|exact z|exact z.elim|skip
 obtain⟨rfl,z⟩:=z;exact Qc (Qc z)
end
section
variable{M:Model}{prog:Program}{w:World}{A:Around}{E:Value->Shared->Prop}{s:Shared}{env:Env}
theorem Uh{Q:Flow->Shared->Prop}(h:Q .next s):wpC M A (execs [] env) Q E s:=Qe (wpAny_execs_nil h)
theorem Lh{e pos}{Q:Flow->Shared->Prop}(h:wpC M A (eval e env) (fun v=>Q (.ret v)) E s):
  wpC M A (exec (.Return (some e) pos) env) Q E s:=fun Γ p hΓ hC=>by
 simp only[exec_Return_some,Sem.wp_bind',Sem.wp_cmd_standAt,Sem.wp_pure'];exact h Γ _ hΓ hC
theorem Mq{test body orelse pos}{Q:Flow->Shared->Prop}
  (h:Q1 M A (.whileLoop test body orelse env) (fun r s'=>match r with|.ok f=>Q f s'|.error e=>False) s):
  wpC M A (exec (.While test body orelse pos) env) Q E s:=by
 rw[exec_While];exact Qa (Qi (Kd rfl h))
theorem Wj{elts k tpos value pos}{Q:Flow->Shared->Prop}
  (h:wpC M A (eval value env) (fun v sA=>wpC M A (assign (.Tuple elts k tpos) env v) (fun J=>Q .next) E sA) E s)
  (hs:swapsWithSole [.Tuple elts k tpos] value pos.line env=pure false)
  (hw:swappedStores [.Tuple elts k tpos] value env=pure none):
  wpC M A (exec (.Assign [.Tuple elts k tpos] value pos) env) Q E s:=by
 rw[exec_Assign];refine Qa (Qi ?_);rw[hs];refine Qa (Qc ?_);rw[if_neg (by decide)];refine Qa (Qf h (fun v sA aH=>?_) fun J J x=>x);rw[hw];refine Qa (Qc ?_);show wpC M A (do assignAll v [assign (.Tuple elts k tpos) env];pure .next) Q E sA;exact Qa (Qf aH (fun J J x=>Qc x) fun J J x=>x)
theorem J8{elts k tpos value pos}{names:List Str}{Q:Flow->Shared->Prop}
  (h:wpC M A (eval value env) (fun v sA=>wpC M A (unpackItems v names.length none) (fun items s2=>
   wpC M A (assignInOrder (names.reverse.map fun n=>bindName env n) items.reverse) (fun J=>Q .next) E s2) E sA) E s)
  (hs:swapsWithSole [.Tuple elts k tpos] value pos.line env=pure false)
  (hw:swappedStores [.Tuple elts k tpos] value env=pure (some names)):
  wpC M A (exec (.Assign [.Tuple elts k tpos] value pos) env) Q E s:=by
 rw[exec_Assign];refine Qa (Qi ?_);rw[hs];refine Qa (Qc ?_);rw[if_neg (by decide)];refine Qa (Qf h (fun v sA aH=>?_) fun J J x=>x);rw[hw];refine Qa (Qc ?_);show wpC M A (do rule "assign.swapped-stores";let items <-unpackItems v names.length none;assignInOrder (names.reverse.map fun n=>bindName env n) items.reverse;pure .next) Q E sA;exact Qa (J9 (Qa (Qf aH (fun items s2 aJ=>Qa (Qf aJ (fun J J x=>Qc x) fun J J x=>x)) fun J J x=>x)))
end
end
theorem Yw:Slot "bytes" (cmpInfo .Lt).2.1 "bytes.__lt__":=
 .of (owner:="bytes") (n:="__lt__") (by rw[typeLookup_type,builtinLookup_eq_fast];kernel_rfl) (by decide+kernel) (by decide+kernel) (by decide+kernel)
  (by first|exact .inl (by decide+kernel)|exact .inr (by decide+kernel)) (by rw[isSubtype_type];kernel_rfl)
theorem Vr:entryFor table "bytes.__lt__"=some Builtin.«bytes.__lt__»:=entryFor_of_tree (by kernel_rfl)
theorem We(a b:Value):argsOk "bytes.__lt__" ⟨[a,b],[]⟩:=by
 unfold argsOk;rw[signature?_of (id:="bytes.__lt__") (n:=['_','_','t','l','_','_']) (o:=['s','e','t','y','b']) (by kernel_rfl) FB.owner_bytes];kernel_rfl
section
variable{prog:Program}{w:World}{A:Around}{E:Value->Shared->Prop}{s:Shared}
theorem Dg(x y:UInt8):Builtin.Bytes.holds "__lt__" (Builtin.Bytes.order [x] [y])=decide (x<y):=by
 by_cases h1:x<y
 ·simp[Builtin.Bytes.order,h1,Builtin.Bytes.holds]
 ·by_cases h2:y<x
  ·simp[Builtin.Bytes.order,h1,h2,Builtin.Bytes.holds]
  ·simp[Builtin.Bytes.order,h1,h2,Builtin.Bytes.holds]
theorem qQ2{x y:UInt8}{t u:Tok}{Q:Value->Shared->Prop}(h:Q (.bool (decide (x<y))) s):wpAny (model prog w) A (call (.builtin "bytes.__lt__") [.bytes #[x] t,.bytes #[y] u]) Q E s:=by
 refine wpAny_call_entry Yw (typeIs_bytes s #[x] t) Vr ?_ (We _ _);show wpAny _ _ (isInstance (.bytes #[y] u) (.type "bytes")>>=fun r=>_) _ _ s;refine QN (wpAny_isInstance (typeIs_bytes s #[y] u) F.sub_bytes_bytes ?_);exact QO ⟨_,rfl,Dg x y▸h⟩
theorem xQg{x y:UInt8}{t u:Tok}{Q:Bool->Shared->Prop}(h:Q (decide (x<y)) s):wpAny (model prog w) A (keyLt' oneType' (.bytes #[x] t) (.bytes #[y] u)) Q E s:=by
 rw[keyLt'_oneType,oneLt'_eq];simp only[if_true];refine QN (wpAny_cRoomFor_byValue rfl ?_);refine QN (wpAny_callSpecialIfBound?_slot (typeIs_bytes s #[x] t) Yw (qQ2 ?_));exact wpAny_truthy_bool h
end
structure Q2(s s':Shared):Prop where
 k:∀b o,s.heap.get? b=some o->s'.heap.get? b=some o
 g:s'.gens=s.gens
 o:s'.os=s.os
theorem Q2.refl(s:Shared):Q2 s s:=⟨fun J J h=>h,rfl,rfl⟩
theorem Q2.trans{s s' s'':Shared}(a:Q2 s s')(b:Q2 s' s''):Q2 s s'':=⟨fun x o h=>b.k x o (a.k x o h),b.g.trans a.g,b.o.trans a.o⟩
theorem Q2.push{s s':Shared}(a:Q2 s s')(o:Obj)(tk:Nat):Q2 s {s' with heap:=s'.heap.push o,toks:=tk}:=⟨fun x o h=>Heap.get?_push_of_some _ (a.k x o h),a.g,a.o⟩
theorem Q2.upd{s s':Shared}(a:Q2 s s'){x:Addr}(hx:s.heap.objs.size<=x)(F:Obj->Obj)(tk:Nat):Q2 s {s' with heap:=s'.heap.update x F,toks:=tk}:=⟨fun b o h=>by
 rw[Heap.get?_update_ne _ _ _ _ (Nat.ne_of_lt (QF (QH h) hx))];exact a.k b o h,a.g,a.o⟩
noncomputable def kgo{α:Type}(n:Nat)(lt:Nat->Nat->Bool):KasT α->Option α
 |.ret a=>some a
 |.ask i j k=>match Nat.ble (i+1) n&&Nat.ble (j+1) n with
  |true=>kgo n lt (k (lt i j))
  |false=>none
theorem qZo{α:Type}{n:Nat}{lt:Nat->Nat->Bool}{cmp:Nat->Nat->(Bool->Shared->Prop)->Shared->Prop}{Q:α->Shared->Prop}{s:Shared}(hc:∀i j C,i<n->j<n->C (lt i j) s->cmp i j C s):∀(t:KasT α) (a:α),kgo n lt t=some a->Q a s->t.kasWp cmp Q s
 |.ret a,b,h,q=>by cases h;exact q
 |.ask i j k,b,h,q=>by
  unfold kgo at h;split at h
  ·rename_i e
   simp only[QB]at e;exact hc i j _ (QE e.1) (QE e.2) (qZo hc _ _ h q)
  ·cases h
noncomputable def Qw{α:Type}(b:Bool)(l:List α):List α:=if b=true then l.reverse else l
theorem Ze{α:Type}(b:Bool)(l:List α):(Qw b l).length=l.length:=by
 unfold Qw;split
 ·exact List.length_reverse
 ·rfl
def Ps(b:Bool)(vs:List Value)(p:List Nat):List Value:=Qw b (p.map fun i=>(Qw b vs).getD i .none)
inductive K1:List UInt8->List Value->Prop
 |nil:K1 [] []
 |cons {x t l m}:K1 l m->K1 (x::l) (.bytes #[x] t::m)
theorem K1.len{l:List UInt8}{m:List Value}(h:K1 l m):l.length=m.length:=by
 induction h with
 |nil=>rfl
 |cons _ ih=>exact congrArg (· +1) ih
theorem K1.app{l l':List UInt8}{m m':List Value}(h:K1 l m)(h':K1 l' m'):K1 (l++l') (m++m'):=by
 induction h with
 |nil=>exact h'
 |cons _ ih=>exact .cons ih
theorem K1.rev{l:List UInt8}{m:List Value}(h:K1 l m):K1 l.reverse m.reverse:=by
 induction h with
 |nil=>exact .nil
 |cons _ ih=>rw[List.reverse_cons,List.reverse_cons];exact ih.app (.cons .nil)
theorem K1.rv{b:Bool}{l:List UInt8}{m:List Value}(h:K1 l m):K1 (Qw b l) (Qw b m):=by
 unfold Qw;split
 ·exact h.rev
 ·exact h
theorem K1.at{l:List UInt8}{m:List Value}(h:K1 l m)(i:Nat)(hi:i<l.length):∃t,m.getD i .none=.bytes #[l.getD i 0] t:=by
 induction h generalizing i with
 |nil=>exact absurd hi (Nat.not_lt_zero _)
 |cons _ ih=>cases i with
  |zero=>exact⟨_,rfl⟩
  |succ i=>exact ih i (Nat.lt_of_succ_lt_succ hi)
noncomputable def ltX(xs:List UInt8)(i j:Nat):Bool:=decide (xs.getD i 0<xs.getD j 0)
section
variable{prog:Program}{w:World}{A:Around}{E:Value->Shared->Prop}{s s0:Shared}{a kS:Addr}{b:Bool}{vs ks:List Value}{xs:List UInt8}{e e1:Nat}{p:Array Nat}{P:PySem.Fin->Shared->Prop}
theorem Hp{l m:List Value}(hl:l.length=m.length){i:Nat}(hi:i<l.length):kas_item (l.toArray.zip m.toArray) i=(l.getD i .none,m.getD i .none):=by
 unfold kas_item;have h:i<(l.toArray.zip m.toArray).size:=by rw[Array.size_zip,List.size_toArray,List.size_toArray];omega
 have hm:i<m.length:=by omega
 simp only[Array.getD,h,dite_true];simp[hi,hm,List.getD_eq_getElem?_getD]
theorem M5{st:SortSt}{out:List Value}(K:Q2 s0 s)(na:s.heap.get? a=some (seqObj "list" #[] e1))(nk:s.heap.get? kS=some (seqObj "list" ks.toArray e))(hne:kS≠a)(ha:s0.heap.objs.size<=a)(hk:s0.heap.objs.size<=kS)
  (hks:ks.length<64) (hout:(arrOf st).map (·.2)=List.toArray out) (hz:out.length<64) (hf:failedOf st=none)
  (h:∀s' c,Q2 s0 s'->s'.heap.get? a=some (seqObj "list" (Qw b out).toArray c)->P (.done (.ret .none)) s'):wpAny (model prog w) A (ksk_tail a b e1 (.ref kS) st) P E s:=by
 have s1:=Heap.SameBut.update s.heap kS (Obj.mapSeq fun J=>(#[]:Array Value));have na1:(s.heap.update kS (Obj.mapSeq fun J=>(#[]:Array Value))).get? a=some (seqObj "list" #[] e1):=(s1.2 a hne.symm).trans na;have hrev:(if b then((arrOf st).map (·.2)).reverse else(arrOf st).map (·.2))=(Qw b out).toArray:=by
  rw[hout];unfold Qw;cases b<;>simp
 obtain⟨c2,hc2⟩:∃c2,((s.heap.update kS (Obj.mapSeq fun J=>(#[]:Array Value))).update a (Obj.mapSeq fun J=>(Qw b out).toArray)).get? a=some (seqObj "list" (Qw b out).toArray c2):=⟨_,get?_update_seq na1 fun J=>(Qw b out).toArray⟩;unfold ksk_tail;try dsimp only
 refine QN (listUpdate_at nk rfl ?_ (by rw[List.size_toArray,sizeLine_eq];omega) (Nat.zero_le _));refine QN (wpAny_letGo ?_);refine QN (seqEpoch_at na1 rfl ?_);rw[hrev];refine QN (listUpdate_at na1 rfl ?_ (Nat.zero_le _) (by rw[List.size_toArray,Ze,sizeLine_eq];omega));rw[hf];simp only[bne_self_eq_false,Bool.false_eq_true,if_false];refine QO (h _ c2 ((K.upd hk _ s.toks).upd ha _ _) hc2)
theorem kgo1(lt:Nat->Nat->Bool):kgo 1 lt (kas_sort 1)=some #[0]:=rfl
theorem zZo(K:Q2 s0 s)(na:s.heap.get? a=some (seqObj "list" #[] e1))(nk:s.heap.get? kS=some (seqObj "list" ks.toArray e))(hne:kS≠a)(ha:s0.heap.objs.size<=a)(hk:s0.heap.objs.size<=kS)
  (hl:ks.length=vs.length) (h1:1<=vs.length) (h64:vs.length<64) (hx:K1 xs ks) (hp:kgo vs.length (ltX (Qw b xs)) (kas_sort vs.length)=some p)
  (h:∀s' c,Q2 s0 s'->s'.heap.get? a=some (seqObj "list" (Ps b vs p.toList).toArray c)->P (.done (.ret .none)) s'):wpAny (model prog w) A (ksk_end a b vs.toArray e1 (.ref kS) ks.toArray) P E s:=by
 have step:∀t:Sem PySem.Fin,wpAny (model prog w) A t P E s->wpAny (model prog w) A (if b=true then(do let _ <-rule "list.sort.reverse";t)else t) P E s:=by
  intro t ht;split
  ·exact QN (wpAny_rule ht)
  ·exact ht
 have hpairs:(if b=true then(ks.toArray.zip vs.toArray).reverse else ks.toArray.zip vs.toArray)=(Qw b ks).toArray.zip (Qw b vs).toArray:=by
  cases b with
  |false=>rfl
  |true=>
   apply Array.toList_inj.mp;rw[if_pos rfl,Array.toList_reverse,ksk_zip,ksk_zip];show(List.zipWith Prod.mk ks vs).reverse=List.zipWith Prod.mk ks.reverse vs.reverse;exact List.reverse_zipWith hl
 unfold ksk_end;try dsimp only
 refine step _ ?_;rw[hpairs]
 by_cases h2:vs.toArray.size<2
 ·rw[if_pos h2,if_pos h2]
  refine QN (QO ?_);rw[StateT.run_pure];refine QN (QO ?_);try dsimp only
  rw[List.size_toArray]at h2;obtain⟨v,rfl⟩:=List.length_eq_one_iff.mp (show vs.length=1 by omega);obtain⟨k,rfl⟩:=List.length_eq_one_iff.mp (show ks.length=1 from hl);have hp':p=#[0]:=by
   have:kgo 1 (ltX (Qw b xs)) (kas_sort 1)=some p:=hp;rw[kgo1]at this;exact(Option.some.inj this).symm
  subst hp';refine M5 (out:=[v]) K na nk hne ha hk (by simp) (by
   have e1:Qw b [k]=[k]:=by cases b<;>rfl
   have e2:Qw b [v]=[v]:=by cases b<;>rfl
   show(((Qw b [k]).toArray.zip (Qw b [v]).toArray).map (·.2))=_;rw[e1,e2];simp) (by simp) rfl fun s' c k' hs'=>h s' c k' ?_
  have:Ps b [v] [0]=Qw b [v]:=by cases b<;>rfl
  rw[this];exact hs'
 ·rw[if_neg h2,if_neg h2]
  rw[List.size_toArray]at h2;have hkt:∀v∈ks,Looks (model prog w) s.heap (typeOf v) (.type "bytes"):=by
   clear hl hp h step hpairs nk;intro v hv;have:∀{l:List UInt8} {m:List Value},K1 l m->v∈m->∃x t,v=.bytes x t:=fun{l m} h=>by
    induction h with
    |nil=>intro h;cases h
    |cons _ ih=>
     intro h;rcases QR h with rfl|h
     ·exact⟨_,_,rfl⟩
     ·exact ih h
   obtain⟨x,t,rfl⟩:=this hx hv;exact Looks.of_pure rfl
  refine QN (kas_kind (by omega) hkt (by decide) (by decide) ?_);have hsz:((Qw b ks).toArray.zip (Qw b vs).toArray).size=vs.length:=by rw[Array.size_zip,List.size_toArray,List.size_toArray,Ze,Ze];omega
  have hl':(Qw b ks).length=(Qw b vs).length:=by rw[Ze,Ze];exact hl
  have hxl:=hx.len;have est:SortSt.mk' oneType' ((Qw b ks).toArray.zip (Qw b vs).toArray) #[] 7 none=kas_st oneType' ((Qw b ks).toArray.zip (Qw b vs).toArray) (List.toArray (List.range vs.length)):=by
   have e:=kas_range ((Qw b ks).toArray.zip (Qw b vs).toArray);rw[hsz]at e;show _=SortSt.mk' oneType' ((List.toArray (List.range vs.length)).map (kas_item _)) #[] 7 none;rw[e]
  have ask:(kas_sort vs.length).kasWp (kas_cmp prog w A oneType' ((Qw b ks).toArray.zip (Qw b vs).toArray)) (fun p' s'=>p'=p/\s'=s) s:=
   qZo (n:=vs.length) (lt:=ltX (Qw b xs)) (fun i j C hi hj hC=>by
    unfold kas_cmp;rw[Hp hl' (by rw[Ze];omega),Hp hl' (by rw[Ze];omega)];obtain⟨t,e1⟩:=(hx.rv (b:=b)).at i (by rw[Ze];omega);obtain⟨u,e2⟩:=(hx.rv (b:=b)).at j (by rw[Ze];omega);dsimp only;rw[e1,e2];exact xQg hC) _ p hp ⟨rfl,rfl⟩
  have run:=kas_runs (E:=E) (Q:=fun J st' s'=>arrOf st'=p.map (kas_item ((Qw b ks).toArray.zip (Qw b vs).toArray))/\p.size=vs.length/\failedOf st'=none/\s'=s)
   (by omega:2<=vs.length) h64 (fun p' st' s' a1 a2 a3 a4=>by obtain⟨rfl,rfl⟩:=a4;exact⟨a2,a1,a3,rfl⟩) ask
  rw[<-est]at run;refine QN (wpAny_mono run ?_ fun J J e=>e);rintro⟨⟨⟩,st'⟩ s' ⟨har,hps,hf,hs'⟩;dsimp only at hs' har hf⊢;subst hs';refine M5 (out:=p.toList.map fun i=>(Qw b vs).getD i .none) K na nk hne ha hk (by omega) ?_ (by rw[List.length_map,Array.length_toList];omega) hf fun s' c k' hs'=>h s' c k' hs';apply Array.toList_inj.mp;rw[har,Array.map_map,Array.toList_map];exact List.map_congr_left fun i hi=>by
   show(kas_item _ i).2=_
   by_cases hi':i<vs.length
   ·rw[Hp hl' (by rw[Ze];omega)]
   ·have h1:¬i<((Qw b ks).toArray.zip (Qw b vs).toArray).size:=by rw[hsz];exact hi'
    have h2:¬i<(Qw b vs).length:=by rw[Ze];exact hi'
    unfold kas_item;simp only[Array.getD,h1,dite_false];rw[List.getD_eq_getElem?_getD,List.getElem?_eq_none (Nat.not_lt.mp h2)];rfl
end
section
variable{prog:Program}{w:World}{A:Around}{E:Value->Shared->Prop}{s s0:Shared}{a kS l:Addr}{b:Bool}{vs:List Value}{xs:List UInt8}{e1:Nat}{p:Array Nat}{f:Value}
theorem Y9{id:String}{bb:Builtin}{args:List Value}{kw:List (Str × Value)}{Q:Value->Shared->Prop}(hq:plainId id=true)(hl:hlc (.builtin id ⟨args,kw⟩)=true)(hb:entryFor table id=some bb)
  (hchk:∀(E':Value->Shared->Prop) (Q':Unit->Shared->Prop),Q' () s->wpAny (model prog w) A.in1 (checkBuiltinCall id ⟨args,kw⟩) Q' E' s)
  (hc:wpC (model prog w) A.in1 (bb ⟨args,kw⟩) (fun fin s'=>∃v,fin=.done (.ret v)/\Q v s') E s):wpC (model prog w) A (call (.builtin id) args kw) Q E s:=by
 refine Z1 (Zj hl (plainId_quiet hq _) hb (hchk _ _ ?_));rw[Around.under_plainId hq];refine Qf hc (fun fin s' h=>?_) fun J J h=>h;obtain⟨v,rfl,hv⟩:=h;exact hv
theorem xQ7{M:Model}{body:Value->PUnit->Sem (ForInStep PUnit)}{Q:PUnit->Shared->Prop}(I:Nat->Shared->Prop):∀(vs:List Value) (i:Nat) (s:Shared),I i s->
  (∀j x s',vs[j]? =some x->I (i+j) s'->wpC M A (body x ⟨⟩) (fun r s''=>r=.yield ⟨⟩/\I (i+j+1) s'') E s')->
  (∀s',I (i+vs.length) s'->Q ⟨⟩ s')->wpC M A (forIn vs PUnit.unit body) Q E s
 |[],i,s,hI,_,done=>by
  rw[List.forIn_nil];exact Qc (done s (by simpa using hI))
 |x::vs,i,s,hI,step,done=>by
  rw[List.forIn_cons];refine Qa (Qf (step 0 x s (by simp) hI) (fun r s' h'=>?_) fun J J e=>e);obtain⟨rfl,hI'⟩:=h';show wpC M A (forIn vs PUnit.unit body) Q E s';refine xQ7 I vs (i+1) s' hI' (fun j y s'' hy hJ=>?_) fun s'' hd=>done s'' ?_
  ·have e:i+(j+1)=i+1+j:=by omega
   have h1:=step (j+1) y s'' (by simpa using hy) (by rw[e];exact hJ);rw[e]at h1;exact h1
  ·have e:i+(x::vs).length=i+1+vs.length:=by rw[List.length_cons];omega
   rw[e];exact hd
theorem K1.snoc{x:UInt8}{t:Tok}{l:List UInt8}{m:List Value}(h:K1 l m):K1 (l++[x]) (m++[.bytes #[x] t]):=h.app (.cons .nil)
abbrev Turn(prog:Program)(w:World)(A:Around)(s0:Shared)(f:Value)(vs:List Value)(xs:List UInt8):Prop:=
 ∀(i:Nat) (v:Value) (x:UInt8) (s':Shared),vs[i]? =some v->xs[i]? =some x->Q2 s0 s'->wpC (model prog w) A (call f [v]) (fun r s''=>(∃t,r=.bytes #[x] t)/\Q2 s' s'') (fun J J=>False) s'
theorem qJp{P:PySem.Fin->Shared->Prop}(K:Q2 s0 s)(na:s.heap.get? a=some (seqObj "list" #[] e1))(nk:s.heap.get? kS=some (seqObj "list" #[] 0))(hne:kS≠a)(ha:s0.heap.objs.size<=a)(hk:s0.heap.objs.size<=kS)
  (hl:xs.length=vs.length) (h1:1<=vs.length) (h64:vs.length<64) (hp:kgo vs.length (ltX (Qw b xs)) (kas_sort vs.length)=some p) (turn:Turn prog w A s0 f vs xs)
  (h:∀s' c,Q2 s0 s'->s'.heap.get? a=some (seqObj "list" (Ps b vs p.toList).toArray c)->P (.done (.ret .none)) s'):wpC (model prog w) A (ksk_rest a f b vs.toArray e1 (.ref kS)) P E s:=by
 unfold ksk_rest;refine Qa (J9 ?_);first
  |rw[List.forIn_toArray]
  |(rw[<-Array.forIn_toList];simp only[List.toList_toArray])
  |rw[<-Array.forIn_toList]
 refine Qa (xQ7 (fun i s'=>∃kA e,Q2 s0 s'/\s'.heap.get? a=some (seqObj "list" #[] e1)/\s'.heap.get? kS=some (seqObj "list" (List.toArray kA) e)/\K1 (xs.take i) kA) vs 0 s ⟨[],0,K,na,nk,.nil⟩ ?step ?done)
 case step=>
  rintro j x s' hx ⟨kA,e,K',na',nk',hk'⟩;simp only[Nat.zero_add]at hk'⊢;have hj:j<vs.length:=(List.getElem?_eq_some_iff.mp hx).1;obtain⟨k,hkj⟩:∃k,xs[j]? =some k:=⟨_,List.getElem?_eq_getElem (by omega)⟩;refine Qa (Yi (Qf (turn j x k s' hx hkj K') (fun v s'' he=>?_) fun J J hF=>hF.elim));obtain⟨⟨t2,rfl⟩,K2⟩:=he;try dsimp only
  have nk2:=K2.k _ _ nk';have na2:=K2.k _ _ na';have s1:=Heap.SameBut.update s''.heap kS (Obj.mapSeq (·.push (.bytes #[k] t2)));obtain⟨c2,hc2⟩:∃c2,(s''.heap.update kS (Obj.mapSeq (·.push (.bytes #[k] t2)))).get? kS=some (seqObj "list" ((List.toArray kA).push (.bytes #[k] t2)) c2):=⟨_,get?_update_seq nk2 (·.push (.bytes #[k] t2))⟩;have ek:xs.take (j+1)=xs.take j++[k]:=by rw[List.take_add_one,hkj];simp
  have ea:(List.toArray kA).push (Value.bytes #[k] t2)=List.toArray (kA++[Value.bytes #[k] t2]):=by simp
  have hz:=hk'.len;rw[List.length_take]at hz;refine Qe (QN (listUpdate_at nk2 rfl ?_ (by rw[List.size_toArray,sizeLine_eq];omega) (QG (Nat.le_of_eq (Array.size_push ..)) (by rw[List.size_toArray,sizeLine_eq];omega))));rw[ea]at hc2;refine QO ⟨rfl,kA++[Value.bytes #[k] t2],c2,(K'.trans K2).upd hk _ _,(s1.2 a hne.symm).trans na2,hc2,by rw[ek];exact hk'.snoc⟩
 case done=>
  rintro s' ⟨kA,e,K',na',nk',hk'⟩;have hk':K1 xs kA:=by
   have e3:xs.take (0+vs.length)=xs:=List.take_of_length_le (by omega);rw[e3]at hk';exact hk'
  try dsimp only
  refine Qe (QN (listItems_at nk' rfl ?_));exact zZo K' na' nk' hne ha hk (by rw[<-hk'.len];exact hl) h1 h64 hk' hp h
theorem qJo{n:Nat}{P:PySem.Fin->Shared->Prop}(K:Q2 s0 s)(ho:s.heap.get? a=some (seqObj "list" vs.toArray n))(ha:s0.heap.objs.size<=a)
  (hl:xs.length=vs.length) (h1:1<=vs.length) (h64:vs.length<64) (hp:kgo vs.length (ltX (Qw b xs)) (kas_sort vs.length)=some p) (turn:Turn prog w A s0 f vs xs)
  (h:∀s' c,Q2 s0 s'->s'.heap.get? a=some (seqObj "list" (Ps b vs p.toList).toArray c)->P (.done (.ret .none)) s'):wpC (model prog w) A (ksk_tree a f b) P E s:=by
 have ha':a<s.heap.objs.size:=QH ho;obtain⟨e1,ho1⟩:∃e1,(s.heap.update a (Obj.mapSeq fun J=>(#[]:Array Value))).get? a=some (seqObj "list" #[] e1):=⟨_,get?_update_seq ho fun J=>#[]⟩;have hkS:((s.heap.update a (Obj.mapSeq fun J=>(#[]:Array Value))).push (seqObj "tuple" vs.toArray 0)).objs.size=s.heap.objs.size+1:=by rw[size_push',Heap.size_update]
 unfold ksk_tree;refine Qa (Qe (listItems_at ho rfl ?_));refine Qa (Qe (listUpdate_at ho rfl ?_ (by rw[List.size_toArray,sizeLine_eq];omega) (Nat.zero_le _)));refine Qa (Qe (seqEpoch_at ho1 rfl ?_));refine Qa (Qe (wpAny_newTuple ?_ (by show vs.length<=_;rw[sizeLine_eq];omega)));refine Qa (Qe (wpAny_newList ?_ (Nat.zero_le _)));refine Qd ?_;refine qJp (s0:=s0) (kS:=((s.heap.update a (Obj.mapSeq fun J=>(#[]:Array Value))).push (seqObj "tuple" vs.toArray 0)).objs.size) (((K.upd ha _ s.toks).push _ s.toks).push _ _) (Heap.get?_push_of_some _ (Heap.get?_push_of_some _ ho1)) (Heap.get?_push_size _ rfl) (by rw[hkS];exact Nat.ne_of_gt (Nat.lt_succ_of_lt ha')) ha (by rw[hkS];exact Nat.le_succ_of_le (QG ha (Nat.le_of_lt ha'))) hl h1 h64 hp turn h
theorem M6{q:Addr}{Q:Value->Shared->Prop}(hL:s.heap.IsList l vs.toArray)
  (hl:xs.length=vs.length) (h1:1<=vs.length) (h64:vs.length<64) (hp:kgo vs.length (ltX (Qw b xs)) (kas_sort vs.length)=some p) (turn:Turn prog w A.in1.in1 s (.ref q) vs xs)
  (h:∀D s' c,Q2 s s'->s'.heap.get? D=some (seqObj "list" (Ps b vs p.toList).toArray c)->s.heap.objs.size<=D->Q (.ref D) s'):wpC (model prog w) A (call (.builtin "sorted") [.ref l] [(Str.ofString "key",.ref q),(Str.ofString "reverse",.bool b)]) Q E s:=by
 refine Y9 plain_sorted rfl entry_sorted (fun E' Q' hq=>?_) ?_
 ·simp only[checkBuiltinCall,kind_sorted]
  have ha:=ksk_s2 (.ref l) (.ref q) (.bool b);cases hsig:Manifest.signature? "sorted" with
  |none=>exact QO hq
  |some sig=>
   have ha':Bind.checkArgs "sorted" sig ⟨[.ref l],[(Str.ofString "key",.ref q),(Str.ofString "reverse",.bool b)]⟩=pure ():=by simpa only[argsOk,hsig]using ha
   simp only[ha'];exact QO hq
 unfold Builtin.«sorted»;refine Qa (m:=checkCount "sorted" 1 1 _) (Qe (QO ?_));refine Qa (Qe (collect_list hL ?_ (by rw[sizeLine_eq];omega)));refine Qa (Qe (wpAny_newList ?_ (by rw[sizeLine_eq];omega)));have hsz:((s.heap.push (seqObj "list" #[] 0)).update s.heap.objs.size (Obj.mapSeq (· ++vs.toArray))).objs.size=s.heap.objs.size+1:=by
  rw[Heap.size_update,size_push']
 have hoL:(((s.heap.push (seqObj "list" #[] 0)).update s.heap.objs.size (Obj.mapSeq (· ++vs.toArray))).push (seqObj "list" vs.toArray 0)).get? (s.heap.objs.size+1)=some (seqObj "list" vs.toArray 0):=by
  rw[<-hsz];exact Heap.get?_push_size _ rfl
 show wpC _ _ _ _ _ {s with heap:=((s.heap.push (seqObj "list" #[] 0)).update s.heap.objs.size (Obj.mapSeq (· ++vs.toArray))).push (seqObj "list" vs.toArray 0)};rw[hsz];have K1:Q2 s {s with heap:=((s.heap.push (seqObj "list" #[] 0)).update s.heap.objs.size (Obj.mapSeq (· ++vs.toArray))).push (seqObj "list" vs.toArray 0)}:=
  (((Q2.refl s).push (seqObj "list" #[] 0) s.toks).upd (QL _) _ s.toks).push _ s.toks
 have hout:∀(s':Shared) (c:Nat),Q2 s s'->s'.heap.get? (s.heap.objs.size+1)=some (seqObj "list" (Ps b vs p.toList).toArray c)->Q (.ref (s.heap.objs.size+1)) s':=fun s' c k hs=>h _ s' c k hs (Nat.le_succ _);refine Qa (Qd (Y9 slot_list_sort.plain rfl entry_list_sort (fun E' Q' hq=>slot_list_sort.check _ _ _ _ _ _ _ _ ⟨_,hoL,rfl⟩ (ksk_l2 _ _ _) hq) ?_));show wpC (model prog w) A.in1.in1 (Builtin.«list.sort» ⟨[.ref (s.heap.objs.size+1)],[(Str.ofString "key",.ref q),(Str.ofString "reverse",.bool b)]⟩) _ _ _;rw[ksk_t2];exact qJo K1 hoL (Nat.le_succ _) hl h1 h64 hp turn fun s' c k hs=>⟨_,rfl,Qc ⟨_,rfl,hout s' c k hs⟩⟩
end
section
set_option genInjectivity false
set_option genSizeOf false
set_option genCtorIdx false
noncomputable abbrev b (n:Nat):B8:=.lit n
noncomputable abbrev fkk:=Fn.mk
def f0:=fkk [46] [] [.asA (.x 46) 47 (.lst []),.asA (.x 46) 48 (.lst []),.asA (.x 46) 49 (.dct [] []),.asA (.x 46) 50 (.lst []),.asA (.x 46) 51 (.c (.int 0)),.asA (.x 46) 52 (.dct [] [])]
def f1:=fkk [46,53] [] [.asA (.x 46) 53 (.x 53),.asA (.x 46) 54 (.c (.str 0)),.asA (.x 46) 55 (.c (.str 38)),.asA (.x 46) 56 (.c (.str 38)),.asA (.x 46) 57 (.c (.str 0)),.asA (.x 46) 58 (.tup []),.asA (.x 46) 59 (.c (.str 0)),.asA (.x 46) 60 (.c (.str 0)),.asA (.x 46) 61 (.c (.bool false)),.asA (.x 46) 62 (.tup [])]
def f2:=fkk [46,63,53] [] [.asA (.x 46) 63 (.x 63),.asA (.x 46) 53 (.x 53),.asA (.x 46) 64 (.c .none),.asA (.x 46) 65 (.c (.str 0)),.asA (.x 46) 66 (.c (.str 0)),.asA (.x 46) 67 (.c (.bool false)),.asA (.x 46) 68 (.c .none),.asA (.x 46) 69 (.c (.str 0)),.asA (.x 46) 70 (.c .none),.asA (.x 46) 71 (.c (.bool false)),.asA (.x 46) 72 (.c (.bool false)),.asA (.x 46) 73 (.lst []),.asA (.x 46) 74 (.lst []),.asA (.x 46) 75 (.c .none),.asA (.x 46) 76 (.c .none),.asA (.x 46) 77 (.c (.str 0)),.asA (.x 46) 78 (.c (.int 0)),.asA (.x 46) 51 (.c (.int 0)),.asA (.x 46) 79 (.c .none)]
def f3:=fkk [46,80] [] [.asA (.x 80) 75 (.x 46),.ex (.meth (.att (.x 46) 74) 1 [(.x 80)])]
def f4:=fkk [46] [] [.ret (.ite (.cmp 8 (.att (.x 46) 68) (.c .none)) (.c (.int 1)) (.att (.att (.x 46) 68) 81))]
def f5:=fkk [46,53,82,49,83,84] [(.bool false)] [.asA (.x 46) 53 (.x 53),.asA (.x 46) 82 (.x 82),.asA (.x 46) 49 (.x 49),.asA (.x 46) 83 (.x 83),.asA (.x 46) 84 (.x 84)]
def f6:=fkk [46,85,86] [] [.asA (.x 46) 85 (.x 85),.asA (.x 46) 86 (.x 86),.asA (.x 46) 87 (.c (.int 0)),.asA (.x 46) 88 (.c (.bool true)),.asA (.x 46) 89 (.neg (.c (.int 1))),.ite (.cmp 0 (.x 86) (.c (.str 37))) [.ex (.meth (.x 85) 2 [])] []]
def f7:=fkk [46] [] [.asA (.x 46) 89 (.neg (.c (.int 1))),.ite (.cmp 7 (.att (.x 46) 86) (.gv 90 (.obj 0))) [.ret (.tup [(.c (.str 91)),(.c (.bytes []))])] [],.ite (.not (.att (.x 46) 88)) [.ret (.tup [(.c (.str 92)),(.c (.bytes []))])] [],.ite (.cmp 5 (.att (.x 46) 87) (.call (.gv 93 (.bi 0)) [(.att (.x 46) 85)])) [.asA (.x 46) 88 (.c (.bool false)),.ret (.tup [(.c (.str 94)),(.c (.bytes []))])] [],.asA (.x 46) 89 (.att (.x 46) 87),.asA (.x 46) 87 (.bin 0 (.att (.x 46) 87) (.c (.int 1))),.ret (.tup [(.c (.str 95)),(.sub (.att (.x 46) 85) (.att (.x 46) 89))])]
def f8:=fkk [46,96] [] [.asA (.x 46) 89 (.neg (.c (.int 1))),.ite (.cmp 7 (.att (.x 46) 86) (.gv 97 (.obj 1))) [.ret (.c (.str 98))] [],.ex (.meth (.att (.x 46) 85) 1 [(.call (.gv 99 (.typ 0)) [(.x 96)])]),.ret (.c (.str 95))]
def f9:=fkk [46,100,51,101,65,66,67,71,72] [.none,(.str 102),(.str 103),(.bool false),(.bool false),(.bool false)] [.asA (.x 46) 100 (.x 100),.asA (.x 46) 51 (.x 51),.asA (.x 46) 101 (.x 101),.asA (.x 46) 65 (.x 65),.asA (.x 46) 66 (.x 66),.asA (.x 46) 67 (.x 67),.asA (.x 46) 71 (.x 71),.asA (.x 46) 72 (.x 72),.asA (.x 46) 104 (.c (.int 0)),.asA (.x 46) 105 (.c (.int 0)),.asA (.x 46) 106 (.c (.bool false)),.ite (.bo true [(.cmp 9 (.x 101) (.c .none)),(.cmp 6 (.x 100) (.tup [(.c (.str 41)),(.c (.str 42))]))]) [.asA (.x 46) 104 (.att (.x 101) 104),.asA (.x 46) 105 (.att (.x 101) 105),.asA (.x 46) 106 (.att (.x 101) 106)] []]
def f10:=fkk [46] [] [.asA (.x 46) 49 (.dct [] [])]
def f11:=fkk [46,54,107] [] [.ite (.cmp 7 (.x 107) (.gv 108 (.obj 2))) [.stuck] [],.asN 85 (.ite (.cmp 0 (.x 107) (.c (.str 39))) (.dct [] []) (.lst [])),.asS (.att (.x 46) 49) (.x 54) (.tup [(.x 107),(.x 85)]),.ret (.x 85)]
def f12:=fkk [46,54] [] [.ite (.cmp 7 (.x 54) (.att (.x 46) 49)) [.stuck] [],.ret (.sub (.sub (.att (.x 46) 49) (.x 54)) (.c (.int 1)))]
def f13:=fkk [46,54] [] [.ret (.ite (.cmp 6 (.x 54) (.att (.x 46) 49)) (.sub (.sub (.att (.x 46) 49) (.x 54)) (.c (.int 0))) (.c (.str 0)))]
def f14:=fkk [46,54,107,109] [] [.ite (.bo true [(.cmp 0 (.x 107) (.c (.str 39))),(.cmp 1 (.comp (.x 110) [110] true 0 [(.x 109)] (some (.cmp 2 (.sub (.x 110) (.c (.int 0))) (.c (.int 1))))) (.lst []))]) [.stuck] [],.asN 85 (.meth (.x 46) 111 [(.x 54),(.x 107)]),.fr [110] true 0 [(.x 109)] [.ite (.cmp 0 (.x 107) (.c (.str 39))) [.asS (.x 85) (.sub (.x 110) (.c (.int 0))) (.call (.gv 99 (.typ 0)) [(.sub (.x 110) (.c (.int 1)))])] [.ex (.meth (.x 85) 1 [(.call (.gv 99 (.typ 0)) [(.x 110)])])]]]
def f15:=fkk [46,54,107,86] [] [.ite (.cmp 0 (.x 86) (.c (.str 37))) [.ret (.tup [(.c (.str 95)),(.meth (.x 46) 111 [(.x 54),(.x 107)])])] [],.ite (.cmp 7 (.x 54) (.att (.x 46) 49)) [.ret (.tup [(.c (.str 112)),(.c .none)])] [],.ite (.cmp 1 (.meth (.x 46) 113 [(.x 54)]) (.x 107)) [.ret (.tup [(.c (.str 114)),(.c .none)])] [],.ret (.tup [(.c (.str 95)),(.meth (.x 46) 115 [(.x 54)])])]
def f16:=fkk [46,116] [(.int 100000)] [.asA (.x 46) 116 (.x 116),.asA (.x 46) 109 (.lst []),.asA (.x 46) 117 (.c (.int 0)),.asA (.x 46) 118 (.c (.bool false))]
def f17:=fkk [46,109] [] [.asA (.x 46) 109 (.x 109),.asA (.x 46) 117 (.c (.int 0)),.asA (.x 46) 118 (.c (.bool true))]
def f18:=fkk [46] [] [.ite (.cmp 5 (.att (.x 46) 117) (.call (.gv 93 (.bi 0)) [(.att (.x 46) 109)])) [.ret (.c .none)] [],.asA (.x 46) 117 (.bin 0 (.att (.x 46) 117) (.c (.int 1))),.ret (.sub (.att (.x 46) 109) (.bin 1 (.att (.x 46) 117) (.c (.int 1))))]
def f19:=fkk [46,109] [] [.ite (.cmp 4 (.bin 0 (.call (.gv 93 (.bi 0)) [(.att (.x 46) 109)]) (.call (.gv 93 (.bi 0)) [(.x 109)])) (.att (.x 46) 116)) [.stuck] [],.ex (.meth (.att (.x 46) 109) 3 [(.x 109)])]
def f20:=fkk [46,119,120,109] [] [.asA (.x 46) 119 (.x 119),.asA (.x 46) 120 (.x 120),.asA (.x 46) 109 (.call (.gv 121 (.typ 2)) [(.x 109)]),.asA (.x 46) 122 (.lst []),.asA (.x 46) 123 (.call (.gv 124 (.typ 1)) [(.call (.gv 125 (.fn 51)) [(.att (.x 119) 82)])]),.asA (.x 46) 52 (.dct [] []),.fr [53] true 0 [(.call (.gv 126 (.bi 3)) [(.att (.att (.x 119) 82) 52)])] [.asS (.att (.x 46) 52) (.x 53) (.c (.int 1))],.asA (.x 46) 127 (.dct [] []),.asA (.x 46) 128 (.dct [] []),.asA (.x 46) 129 (.lst []),.asA (.x 46) 130 (.c (.bytes [])),.asA (.x 46) 50 (.dct [] [])]
def f21:=fkk [53,79,78,74] [] [.asN 131 (.call (.gv 132 (.cls 2)) [(.c (.int 5)),(.x 53)]),.asA (.x 131) 79 (.x 79),.asA (.x 131) 51 (.att (.x 79) 51),.asA (.x 131) 78 (.x 78),.fr [80] true 0 [(.x 74)] [.ex (.meth (.x 131) 133 [(.x 80)])],.ret (.x 131)]
def f22:=fkk [134,109,71] [] [.ex (.call (.gv 135 (.fn 36)) [(.x 134),(.tup [(.c (.str 136)),(.tup [(.tup [(.c (.str 35)),(.c (.str 137))])])])]),.fr [110] true 0 [(.x 109)] [.ite (.cmp 1 (.call (.gv 138 (.fn 37)) [(.x 134),(.tup [(.c (.str 139)),(.c (.str 137)),(.c (.bool true)),(.gv 140 (.obj 5)),(.c .none),(.tup [])])]) (.c (.str 0))) [.ret (.c (.bool false))] [],.ite (.cmp 1 (.call (.gv 141 (.fn 66)) [(.x 134),(.gv 140 (.obj 5))]) (.ite (.x 71) (.bin 0 (.c (.bytes [b 32,b 32])) (.x 110)) (.bin 0 (.x 110) (.c (.bytes [b 32,b 32]))))) [.ret (.c (.bool false))] []],.ret (.cmp 0 (.call (.gv 142 (.fn 35)) [(.x 134),(.tup [(.c (.str 143)),(.tup [(.c (.str 137))])])]) (.c (.str 0)))]
def f23:=fkk [134,144,145,109,146,147] [] [.ex (.call (.gv 148 (.fn 85)) [(.x 134),(.tup [(.c (.str 149)),(.c (.str 150))])]),.fr [110] true 0 [(.x 109)] [.ite (.cmp 1 (.call (.gv 151 (.fn 38)) [(.x 134),(.tup [(.c (.str 152)),(.x 144),(.tup [(.c (.str 153)),(.x 110)])])]) (.c (.str 0))) [.ret (.c (.bool false))] []],.ex (.call (.gv 148 (.fn 85)) [(.x 134),(.tup [(.c (.str 154)),(.c (.str 150)),(.x 145)])]),.fr [110,155] false 2 [(.x 146),(.x 147)] [.ite (.bo false [(.cmp 1 (.call (.gv 156 (.fn 39)) [(.x 134),(.tup [(.c (.str 157)),(.c (.str 150)),(.gv 140 (.obj 5)),(.tup [])])]) (.c (.str 0))),(.cmp 1 (.call (.gv 141 (.fn 66)) [(.x 134),(.gv 140 (.obj 5))]) (.x 155))]) [.ret (.c (.bool false))] [],.ite (.cmp 1 (.call (.gv 141 (.fn 66)) [(.x 134),(.x 144)]) (.x 110)) [.ret (.c (.bool false))] []],.ret (.bo true [(.cmp 0 (.call (.gv 156 (.fn 39)) [(.x 134),(.tup [(.c (.str 157)),(.c (.str 150)),(.gv 140 (.obj 5)),(.tup [])])]) (.c (.str 158))),(.cmp 0 (.call (.gv 148 (.fn 85)) [(.x 134),(.tup [(.c (.str 159)),(.c (.str 150))])]) (.c (.str 0)))])]
def f24:=fkk [134,145,146] [] [.asN 160 (.tup [(.c (.str 161)),(.c (.str 150)),(.x 145),(.c (.bool false)),(.tup [(.c (.str 49)),(.tup [(.c (.str 137))])]),(.tup [(.c (.str 49)),(.tup [(.c (.str 162))])])]),.ite (.cmp 1 (.comp (.x 164) [164] true 0 [(.call (.gv 163 (.fn 84)) [(.x 160)])] (some (.cmp 1 (.call (.gv 148 (.fn 85)) [(.x 134),(.sub (.x 164) (.c (.int 1)))]) (.c (.str 0))))) (.lst [])) [.ret (.c (.bool false))] [],.ret (.cmp 0 (.meth (.att (.x 134) 120) 115 [(.c (.str 165))]) (.comp (.bin 0 (.x 110) (.c (.bytes [b 32]))) [110] true 0 [(.x 146)] none))]
def f25:=fkk [51] [] [.ret (.call (.gv 166 (.fn 94)) [(.bin 2 (.c (.bytes [b 120])) (.x 51))])]
def f26:=fkk [167,168,71] [] [.asX [82,169] [(.call (.gv 170 (.cls 0)) []),(.dct [] [])],.asS (.att (.x 82) 49) (.c (.str 137)) (.lst [(.call (.gv 171 (.fn 21)) [(.sub (.x 167) (.c (.int 0))),(.call (.gv 172 (.fn 25)) [(.c (.int 3))]),(.c (.int 0)),(.lst [])])]),.asS (.att (.x 82) 49) (.c (.str 162)) (.lst [(.call (.gv 171 (.fn 21)) [(.sub (.x 167) (.c (.int 1))),(.call (.gv 172 (.fn 25)) [(.c (.int 4))]),(.c (.int 3)),(.lst [])])]),.asN 173 (.lst [(.call (.gv 171 (.fn 21)) [(.c (.str 174)),(.call (.gv 172 (.fn 25)) [(.c (.int 1))]),(.c (.int 7)),(.lst [])]),(.call (.gv 171 (.fn 21)) [(.c (.str 175)),(.call (.gv 172 (.fn 25)) [(.c (.int 2))]),(.c (.int 8)),(.lst [])])]),.asS (.att (.x 82) 49) (.c (.str 150)) (.bin 0 (.lst [(.call (.gv 171 (.fn 21)) [(.sub (.x 167) (.c (.int 2))),(.call (.gv 176 (.fn 48)) [(.c (.int 3))]),(.c (.int 7)),(.x 173)])]) (.ite (.x 168) (.lst [(.call (.gv 171 (.fn 21)) [(.c (.str 177)),(.call (.gv 172 (.fn 25)) [(.c (.int 4))]),(.c (.int 7)),(.lst [])])]) (.lst []))),.ex (.meth (.att (.x 82) 50) 1 [(.c (.str 150))]),.asN 178 (.comp (.call (.gv 171 (.fn 21)) [(.x 53),(.call (.gv 172 (.fn 25)) [(.c (.int 1))]),(.bin 0 (.c (.int 11)) (.x 87)),(.lst [])]) [87,53] false 3 [(.tup [(.c (.str 179)),(.c (.str 25)),(.c (.str 180)),(.c (.str 181)),(.c (.str 182))])] none),.ex (.meth (.att (.x 82) 47) 1 [(.call (.gv 171 (.fn 21)) [(.c (.str 183)),(.call (.gv 176 (.fn 48)) [(.c (.int 5))]),(.c (.int 11)),(.x 178)])]),.ex (.meth (.att (.x 82) 47) 1 [(.call (.gv 171 (.fn 21)) [(.c (.str 45)),(.call (.gv 184 (.cls 5)) [(.c (.str 185)),(.c (.int 5)),(.c .none),(.c (.str 102)),(.c (.str 103)),(.c (.bool false)),(.x 71)]),(.c (.int 16)),(.lst [])])]),.asA (.x 82) 51 (.c (.int 21)),.fr [53] true 0 [(.tup [(.c (.str 137)),(.c (.str 162)),(.c (.str 150))])] [.asS (.x 169) (.x 53) (.call (.gv 186 (.cls 1)) [(.x 53)]),.asA (.sub (.x 169) (.x 53)) 54 (.meth (.x 53) 8 []),.asA (.sub (.x 169) (.x 53)) 61 (.cmp 0 (.x 53) (.c (.str 150)))],.ret (.call (.gv 187 (.cls 8)) [(.call (.gv 188 (.cls 3)) [(.c (.str 189)),(.x 82),(.x 169),(.c .none)]),(.call (.gv 190 (.cls 6)) []),(.lst [])])]
def f27:=fkk [134,144,109] [] [.ex (.call (.gv 135 (.fn 36)) [(.x 134),(.tup [(.c (.str 136)),(.tup [(.tup [(.c (.str 37)),(.c (.str 162))])])])]),.fr [110] true 0 [(.x 109)] [.ite (.cmp 1 (.call (.gv 191 (.fn 40)) [(.x 134),(.tup [(.c (.str 192)),(.x 144),(.tup [(.c (.str 153)),(.x 110)]),(.tup [])])]) (.c (.str 0))) [.ret (.c (.bool false))] []],.ret (.bo true [(.cmp 0 (.call (.gv 142 (.fn 35)) [(.x 134),(.tup [(.c (.str 143)),(.tup [(.c (.str 162))])])]) (.c (.str 0))),(.cmp 0 (.meth (.att (.x 134) 120) 115 [(.c (.str 165))]) (.comp (.bin 0 (.x 110) (.c (.bytes [b 32]))) [110] true 0 [(.x 109)] none))])]
def f28:=fkk [96,51,71] [(.bool false)] [.ite (.x 71) [.ret (.bin 0 (.bin 2 (.gv 193 (.bytes [b 32])) (.bin 1 (.x 51) (.call (.gv 93 (.bi 0)) [(.x 96)]))) (.sl (.x 96) (some (.call (.gv 194 (.bi 1)) [(.bin 1 (.call (.gv 93 (.bi 0)) [(.x 96)]) (.x 51)),(.c (.int 0))])) none none))] [],.ret (.bin 0 (.sl (.x 96) none (some (.x 51)) none) (.bin 2 (.gv 193 (.bytes [b 32])) (.bin 1 (.x 51) (.call (.gv 93 (.bi 0)) [(.x 96)]))))]
def f29:=fkk [82] [] [.asN 131 (.lst []),.fr [195] true 0 [(.call (.gv 62 (.fn 79)) [(.x 82)])] [.ex (.meth (.x 131) 3 [(.call (.gv 196 (.fn 56)) [(.x 195)])])],.ret (.x 131)]
def f30:=fkk [134,197] [] [.asT [78,51] (.call (.gv 198 (.fn 31)) [(.x 134),(.x 197)]),.ret (.call (.gv 99 (.typ 0)) [(.sl (.att (.x 134) 123) (some (.x 78)) (some (.bin 0 (.x 78) (.x 51))) none)])]
def f31:=fkk [134,197] [] [.asN 199 (.meth (.att (.att (.att (.x 134) 119) 82) 49) 6 [(.x 197),(.lst [])]),.ite (.cmp 0 (.call (.gv 93 (.bi 0)) [(.x 199)]) (.c (.int 0))) [.stuck] [],.ret (.tup [(.att (.sub (.x 199) (.c (.int 0))) 78),(.call (.gv 194 (.bi 1)) [(.comp (.att (.x 195) 51) [195] true 0 [(.x 199)] none)])])]
def f32:=fkk [200,155] [] [.ret (.cmp 6 (.x 155) (.call (.gv 201 (.fn 47)) [(.x 200)]))]
def f33:=fkk [134,197] [] [.ite (.cmp 7 (.x 197) (.att (.x 134) 128)) [.ret (.c (.str 202))] [],.asN 203 (.tup [(.att (.call (.gv 204 (.fn 87)) [(.x 134),(.x 197)]) 54),(.att (.meth (.att (.x 134) 128) 4 [(.x 197)]) 86)]),.ite (.cmp 6 (.x 203) (.att (.x 134) 129)) [.ex (.meth (.att (.x 134) 129) 5 [(.x 203)])] [],.ret (.c (.str 95))]
def f34:=fkk [134,197,60] [] [.asN 205 (.call (.gv 204 (.fn 87)) [(.x 134),(.x 197)]),.ite (.att (.x 205) 60) [.ex (.call .stuck [(.x 134),(.call (.gv 207 (.fn 74)) [(.att (.x 205) 60)]),(.meth (.x 60) 208 [(.c (.str 209))])])] [],.asN 210 (.call (.gv 211 (.fn 70)) [(.x 60)]),.ite (.bo true [(.cmp 0 (.x 210) (.c (.str 212))),(.not (.att (.x 205) 60))]) [.stuck] [],.ret (.x 210)]
def f35:=fkk [134,160] [] [.ret (.call (.gv 213 (.fn 44)) [(.comp (.call (.gv 214 (.fn 34)) [(.x 134),(.x 197),(.call (.gv 215 (.fn 33)) [(.x 134),(.x 197)])]) [197] true 0 [(.sub (.x 160) (.c (.int 1)))] none)])]
def f36:=fkk [134,160] [] [.ret (.call (.gv 213 (.fn 44)) [(.comp (.call (.gv 214 (.fn 34)) [(.x 134),(.x 197),(.call (.gv 216 (.fn 68)) [(.x 134),(.x 86),(.x 197)])]) [86,197] false 0 [(.sub (.x 160) (.c (.int 1)))] none)])]
def f37:=fkk [134,160] [] [.asX [197,217] [(.sub (.x 160) (.c (.int 1))),(.sub (.x 160) (.c (.int 3)))],.asT [210,96] (.call (.gv 218 (.fn 76)) [(.x 134),(.x 197),(.sub (.x 160) (.c (.int 2))),(.sub (.x 160) (.c (.int 4)))]),.ite (.bo true [(.cmp 0 (.x 210) (.c (.str 0))),(.cmp 9 (.x 217) (.c .none))]) [.ex (.call (.gv 219 (.fn 62)) [(.x 134),(.x 197),(.x 96),(.x 217)])] [],.ret (.x 210)]
def f38:=fkk [134,160] [] [.asX [144,200] [(.call (.gv 207 (.fn 74)) [(.sub (.x 160) (.c (.int 1)))]),(.sub (.x 160) (.c (.int 2)))],.asN 197 (.call (.gv 220 (.fn 78)) [(.x 134),(.x 144)]),.asN 221 (.call (.gv 222 (.fn 83)) [(.x 134),(.x 197),(.c (.bool false))]),.ite (.cmp 9 (.x 200) (.c .none)) [.ex (.call (.gv 223 (.fn 63)) [(.x 134),(.x 200),(.x 144)])] [],.ex (.meth (.x 221) 224 [(.lst [(.call (.gv 225 (.fn 45)) [(.call (.gv 141 (.fn 66)) [(.x 134),(.x 144)]),(.sub (.call (.gv 198 (.fn 31)) [(.x 134),(.x 197)]) (.c (.int 1)))])])]),.ret (.c (.str 0))]
def f39:=fkk [134,160] [] [.asX [197,155] [(.sub (.x 160) (.c (.int 1))),(.sub (.x 160) (.c (.int 2)))],.asN 110 (.meth (.call (.gv 222 (.fn 83)) [(.x 134),(.x 197),(.c (.bool true))]) 226 []),.ite (.cmp 8 (.x 110) (.c .none)) [.ret (.c (.str 158))] [],.ex (.call (.gv 227 (.fn 75)) [(.x 134),(.x 197),(.x 110)]),.ite (.cmp 9 (.x 155) (.c .none)) [.ex (.call (.gv 219 (.fn 62)) [(.x 134),(.x 197),(.x 110),(.x 155)])] [],.ret (.c (.str 0))]
def f40:=fkk [134,160] [] [.asN 144 (.call (.gv 207 (.fn 74)) [(.sub (.x 160) (.c (.int 1)))]),.ite (.cmp 9 (.sub (.x 160) (.c (.int 2))) (.c .none)) [.ex (.call (.gv 223 (.fn 63)) [(.x 134),(.sub (.x 160) (.c (.int 2))),(.x 144)])] [],.ret (.call (.gv 228 (.fn 97)) [(.x 134),(.x 144)])]
def f41:=fkk [82,229] [] [.asN 230 (.call (.gv 231 (.fn 80)) [(.x 229)]),.fr [53] true 0 [(.att (.x 82) 49)] [.ite (.cmp 1 (.comp (.x 195) [195] true 0 [(.sub (.att (.x 82) 49) (.x 53))] (some (.cmp 8 (.x 195) (.x 230)))) (.lst [])) [.ret (.x 53)] []],.ret (.c (.str 0))]
def f42:=fkk [82,53,232] [] [.asN 178 (.comp (.x 229) [229] true 0 [(.call (.gv 233 (.fn 29)) [(.x 82)])] (some (.cmp 0 (.att (.x 229) 53) (.x 53)))),.ret (.call (.gv 234 (.fn 67)) [(.comp (.x 229) [229] true 0 [(.x 178)] (some (.call (.gv 235 (.fn 60)) [(.bin 0 (.call (.gv 236 (.fn 65)) [(.x 229)]) (.lst [(.call (.gv 237 (.fn 41)) [(.x 82),(.x 229)])])),(.x 232)]))),(.x 53)])]
def f43:=fkk [229] [] [.ite (.cmp 9 (.att (.x 229) 70) (.c .none)) [.ret (.call .stuck [(.x 229)])] [],.ite (.not (.call (.gv 239 (.fn 52)) [(.x 229)])) [.ret (.call (.gv 240 (.fn 95)) [(.x 229)])] [],.asN 74 (.comp (.x 80) [80] true 0 [(.call (.gv 241 (.fn 73)) [(.x 229)])] (some (.cmp 0 (.att (.x 80) 69) (.c (.str 0))))),.ret (.meth (.c (.bytes [])) 7 [(.comp (.bin 2 (.call (.gv 242 (.fn 43)) [(.x 80)]) (.meth (.x 80) 243 [])) [80] true 0 [(.x 74)] none)])]
def f44:=fkk [145] [] [.ret (.sub (.bin 0 (.comp (.x 57) [57] true 0 [(.x 145)] (some (.cmp 1 (.x 57) (.c (.str 0))))) (.lst [(.c (.str 0))])) (.c (.int 0)))]
def f45:=fkk [96,51] [] [.ret (.bin 0 (.call (.gv 99 (.typ 0)) [(.sl (.x 96) none (some (.x 51)) none)]) (.bin 2 (.c (.bytes [b 32])) (.bin 1 (.x 51) (.call (.gv 93 (.bi 0)) [(.x 96)]))))]
def f46:=fkk [197,155] [] [.ite (.cmp 0 (.sub (.x 155) (.c (.int 0))) (.c (.str 49))) [.ret (.lst [(.tup [(.c (.str 244)),(.tup [(.c (.str 245)),(.x 197),(.sub (.x 155) (.c (.int 1)))])])])] [],.ret (.lst [(.tup [(.c (.str 246)),(.sub (.x 155) (.c (.int 1))),(.sub (.x 155) (.c (.int 2)))])])]
def f47:=fkk [100] [] [.asN 247 (.tup [(.c (.str 248)),(.c (.str 249)),(.c (.str 185)),(.c (.str 250))]),.asN 109 (.dct [248,185,249,250,41,42] [(.bin 0 (.x 247) (.gv 251 (.obj 3))),(.bin 0 (.x 247) (.gv 251 (.obj 3))),(.x 247),(.x 247),(.bin 0 (.tup [(.c (.str 248)),(.c (.str 185)),(.c (.str 250))]) (.gv 251 (.obj 3))),(.bin 0 (.tup [(.c (.str 248)),(.c (.str 185)),(.c (.str 250))]) (.gv 251 (.obj 3)))]),.ret (.meth (.x 109) 6 [(.x 100),(.tup [])])]
def f48:=fkk [51] [] [.ret (.call (.gv 184 (.cls 5)) [(.c (.str 248)),(.x 51)])]
def f49:=fkk [134,197,85,86] [] [.asN 205 (.call (.gv 204 (.fn 87)) [(.x 134),(.x 197)]),.ite (.cmp 0 (.att (.x 205) 55) (.c (.str 38))) [.ret (.call (.gv 252 (.cls 4)) [(.x 85),(.x 86)])] [],.ite (.cmp 0 (.att (.x 205) 55) (.c (.str 39))) [.ret (.call .stuck [(.x 85),(.x 86),(.att (.x 205) 56),(.call .stuck [(.x 134),(.x 205)])])] [],.asN 58 (.comp (.bin 0 (.call .stuck [(.x 134),(.x 197),(.sub (.x 110) (.c (.int 0)))]) (.tup [(.sub (.x 110) (.c (.int 1)))])) [110] true 0 [(.att (.x 205) 58)] none),.ret (.call .stuck [(.x 85),(.x 86),(.att (.x 205) 56),(.call .stuck [(.x 134),(.x 197),(.att (.x 205) 57)]),(.call .stuck [(.x 58)])])]
def f50:=fkk [79] [] [.ret (.cmp 6 (.att (.x 79) 100) (.tup [(.c (.str 41)),(.c (.str 258))]))]
def f51:=fkk [82] [] [.asN 131 (.call (.gv 124 (.typ 1)) [(.bin 2 (.c (.bytes [b 32])) (.att (.x 82) 51))]),.fr [53] true 0 [(.att (.x 82) 49)] [.fr [195] true 0 [(.sl (.sub (.att (.x 82) 49) (.x 53)) none none (some (.neg (.c (.int 1)))))] [.asL (.x 131) (some (.att (.x 195) 78)) (some (.bin 0 (.att (.x 195) 78) (.att (.x 195) 51))) (.call (.gv 242 (.fn 43)) [(.x 195)])]],.fr [195] true 0 [(.att (.x 82) 47)] [.ite (.cmp 0 (.att (.x 195) 69) (.c (.str 0))) [.asL (.x 131) (some (.att (.x 195) 78)) (some (.bin 0 (.att (.x 195) 78) (.att (.x 195) 51))) (.call (.gv 242 (.fn 43)) [(.x 195)])] []],.ret (.call (.gv 99 (.typ 0)) [(.x 131)])]
def f52:=fkk [229] [] [.ret (.cmp 1 (.comp (.x 80) [80] true 0 [(.att (.x 229) 74)] (some (.cmp 1 (.att (.x 80) 63) (.gv 259 (.int 66))))) (.lst []))]
def f53:=fkk [79] [] [.ret (.cmp 0 (.att (.x 79) 100) (.c (.str 41)))]
def f54:=fkk [134,54,86] [] [.ret (.cmp 1 (.comp (.x 203) [203] true 0 [(.att (.x 134) 129)] (some (.bo true [(.cmp 0 (.sub (.x 203) (.c (.int 0))) (.x 54)),(.cmp 1 (.tup [(.x 86),(.sub (.x 203) (.c (.int 1)))]) (.tup [(.c (.str 35)),(.c (.str 35))]))]))) (.lst []))]
def f55:=fkk [229] [] [.asN 131 (.lst []),.asN 260 (.att (.x 229) 75),.wh (.cmp 9 (.x 260) (.c .none)) [.ex (.meth (.x 131) 1 [(.x 260)]),.asN 260 (.att (.x 260) 75)],.ret (.x 131)]
def f56:=fkk [229] [] [.asN 131 (.lst []),.asN 261 (.lst [(.x 229)]),.wh (.cmp 1 (.x 261) (.lst [])) [.asN 262 (.meth (.x 261) 4 []),.ex (.meth (.x 131) 1 [(.x 262)]),.ex (.meth (.x 261) 3 [(.sl (.att (.x 262) 74) none none (some (.neg (.c (.int 1)))))])],.ret (.x 131)]
def f57:=fkk [134,197,57] [] [.fr [195] true 0 [(.sub (.att (.att (.att (.x 134) 119) 82) 49) (.x 197))] [.fr [229] true 0 [(.call (.gv 196 (.fn 56)) [(.x 195)])] [.ite (.bo true [(.cmp 0 (.att (.x 229) 53) (.sub (.x 57) (.c (.int 1)))),(.cmp 9 (.att (.x 229) 79) (.c .none)),(.cmp 0 (.call (.gv 263 (.fn 90)) [(.x 229)]) (.lst []))]) [.ret (.tup [(.sub (.x 57) (.c (.int 0))),(.bin 1 (.att (.x 229) 78) (.att (.x 195) 78)),(.att (.x 229) 79)])] []]],.stuck]
def f58:=fkk [110,57] [] [.asX [78,79] [(.sub (.x 57) (.c (.int 1))),(.sub (.x 57) (.c (.int 2)))],.asN 164 (.call (.gv 99 (.typ 0)) [(.sl (.x 110) (some (.x 78)) (some (.bin 0 (.x 78) (.att (.x 79) 51))) none)]),.ret (.ite (.call (.gv 264 (.fn 50)) [(.x 79)]) (.call .stuck [(.x 79),(.x 164)]) (.x 164))]
def f59:=fkk [134,197,145] [] [.ret (.comp (.call (.gv 266 (.fn 57)) [(.x 134),(.x 197),(.x 57)]) [57] true 0 [(.x 145)] none)]
def f60:=fkk [267,232] [] [.asN 87 (.c (.int 0)),.fr [53] true 0 [(.x 267)] [.ite (.bo true [(.cmp 2 (.x 87) (.call (.gv 93 (.bi 0)) [(.x 232)])),(.cmp 0 (.x 53) (.sub (.x 232) (.x 87)))]) [.asN 87 (.bin 0 (.x 87) (.c (.int 1)))] []],.ret (.cmp 0 (.x 87) (.call (.gv 93 (.bi 0)) [(.x 232)]))]
def f61:=fkk [134,229] [] [.ite (.cmp 0 (.att (.x 229) 77) (.c (.str 0))) [.ret (.tup [(.att (.x 134) 123),(.c (.int 0)),(.call (.gv 93 (.bi 0)) [(.att (.x 134) 123)])])] [],.ite (.cmp 7 (.att (.x 229) 77) (.att (.x 134) 127)) [.stuck] [],.ret (.sub (.att (.x 134) 127) (.att (.x 229) 77))]
def f62:=fkk [134,197,96,217] [] [.asN 199 (.sub (.att (.att (.att (.x 134) 119) 82) 49) (.x 197)),.asN 268 (.sl (.x 96) none (some (.sub (.call (.gv 198 (.fn 31)) [(.x 134),(.x 197)]) (.c (.int 1)))) none),.asN 200 (.call (.gv 166 (.fn 94)) [(.x 268)]),.ite (.cmp 0 (.call (.gv 93 (.bi 0)) [(.x 199)]) (.c (.int 1))) [.asX [200,268] [(.att (.sub (.x 199) (.c (.int 0))) 79),(.call (.gv 269 (.fn 30)) [(.x 134),(.x 197)])]] [],.asT [123,78,79] (.call (.gv 270 (.fn 88)) [(.x 134),(.x 217)]),.asL (.x 123) (some (.x 78)) (some (.bin 0 (.x 78) (.att (.x 79) 51))) (.call (.gv 271 (.fn 64)) [(.x 200),(.x 268),(.x 79)])]
def f63:=fkk [134,272,44] [] [.asT [123,78,79] (.call (.gv 270 (.fn 88)) [(.x 134),(.x 44)]),.ite (.cmp 6 (.sub (.x 272) (.c (.int 0))) (.tup [(.c (.str 273)),(.c (.str 274))])) [.asN 96 (.call .stuck [(.x 272),(.x 79)])] [.asT [200,268] (.call (.gv 276 (.fn 69)) [(.x 134),(.x 272)]),.asN 96 (.call (.gv 271 (.fn 64)) [(.x 200),(.x 268),(.x 79)])],.asL (.x 123) (some (.x 78)) (some (.bin 0 (.x 78) (.att (.x 79) 51))) (.x 96)]
def f64:=fkk [200,96,155] [] [.ite (.not (.call (.gv 277 (.fn 32)) [(.att (.x 200) 100),(.att (.x 155) 100)])) [.stuck] [],.ite (.bo false [(.cmp 0 (.att (.x 200) 100) (.c (.str 248))),(.cmp 0 (.att (.x 155) 100) (.c (.str 248)))]) [.ret (.call (.gv 278 (.fn 28)) [(.x 96),(.att (.x 155) 51)])] [],.ite (.cmp 6 (.att (.x 155) 100) (.gv 251 (.obj 3))) [.ret (.call .stuck [(.x 155),(.call .stuck [(.x 200),(.x 96)])])] [],.ret (.call (.gv 281 (.fn 92)) [(.x 155),(.call (.gv 282 (.fn 93)) [(.x 200),(.x 96)])])]
def f65:=fkk [229] [] [.ret (.comp (.att (.x 262) 53) [262] true 0 [(.call (.gv 283 (.fn 55)) [(.x 229)])] (some (.cmp 1 (.att (.x 262) 53) (.gv 25 (.str 25)))))]
def f66:=fkk [134,44] [] [.asT [123,78,79] (.call (.gv 270 (.fn 88)) [(.x 134),(.x 44)]),.ret (.call (.gv 99 (.typ 0)) [(.sl (.x 123) (some (.x 78)) (some (.bin 0 (.x 78) (.att (.x 79) 51))) none)])]
def f67:=fkk [131,53] [] [.ite (.cmp 0 (.call (.gv 93 (.bi 0)) [(.x 131)]) (.c (.int 0))) [.stuck] [],.ite (.cmp 4 (.call (.gv 93 (.bi 0)) [(.x 131)]) (.c (.int 1))) [.stuck] [],.ret (.sub (.x 131) (.c (.int 0)))]
def f68:=fkk [134,86,197] [] [.asN 205 (.call (.gv 204 (.fn 87)) [(.x 134),(.x 197)]),.ite (.att (.x 205) 61) [.stuck] [],.ite (.bo false [(.cmp 6 (.x 197) (.att (.x 134) 128)),(.call (.gv 284 (.fn 54)) [(.x 134),(.att (.x 205) 54),(.x 86)])]) [.ret (.c (.str 285))] [],.asT [60,85] (.meth (.att (.x 134) 120) 286 [(.att (.x 205) 54),(.att (.x 205) 55),(.x 86)]),.ite (.cmp 8 (.x 85) (.c .none)) [.ret (.x 60)] [],.asS (.att (.x 134) 128) (.x 197) (.call (.gv 287 (.fn 49)) [(.x 134),(.x 197),(.x 85),(.x 86)]),.ex (.meth (.att (.x 134) 129) 1 [(.tup [(.att (.x 205) 54),(.x 86)])]),.ret (.x 60)]
def f69:=fkk [134,272] [] [.ite (.cmp 0 (.sub (.x 272) (.c (.int 0))) (.c (.str 44))) [.asT [123,78,79] (.call (.gv 270 (.fn 88)) [(.x 134),(.x 272)]),.ret (.tup [(.x 79),(.call (.gv 99 (.typ 0)) [(.sl (.x 123) (some (.x 78)) (some (.bin 0 (.x 78) (.att (.x 79) 51))) none)])])] [],.ite (.cmp 0 (.sub (.x 272) (.c (.int 0))) (.c (.str 288))) [.asN 79 (.call .stuck [(.sub (.x 272) (.c (.int 1)))]),.ret (.tup [(.x 79),(.call .stuck [(.x 79),(.call .stuck [(.sub (.x 272) (.c (.int 1))),(.att (.x 79) 105),(.c (.bool false))])])])] [],.ite (.cmp 0 (.sub (.x 272) (.c (.int 0))) (.c (.str 153))) [.ret (.tup [(.call (.gv 166 (.fn 94)) [(.sub (.x 272) (.c (.int 1)))]),(.sub (.x 272) (.c (.int 1)))])] [],.stuck]
def f70:=fkk [60] [] [.ret (.meth (.dct [292,293,294] [(.c (.str 0)),(.c (.str 158)),(.c (.str 295))]) 6 [(.sl (.x 60) none (some (.c (.int 1))) none),(.c (.str 212))])]
def f71:=fkk [134,164] [] [.ite (.cmp 8 (.x 164) (.c .none)) [.ret (.c .none)] [],.asN 296 (.ite (.cmp 8 (.sub (.x 164) (.c (.int 1))) (.c .none)) (.c .none) (.call .stuck [(.x 134),(.sub (.x 164) (.c (.int 1)))])),.ret (.tup [(.call .stuck [(.x 134),(.sub (.x 164) (.c (.int 0)))]),(.x 296)])]
def f72:=fkk [134,229,78,51] [] [.asT [123,111,158] (.call (.gv 298 (.fn 61)) [(.x 134),(.x 229)]),.ite (.cmp 4 (.bin 0 (.bin 0 (.x 111) (.x 78)) (.x 51)) (.x 158)) [.stuck] [],.ret (.tup [(.x 123),(.bin 0 (.x 111) (.x 78))])]
def f73:=fkk [229] [] [.ret (.comp (.x 80) [80] true 0 [(.att (.x 229) 74)] (some (.cmp 1 (.att (.x 80) 63) (.gv 259 (.int 66)))))]
def f74:=fkk [53] [] [.ret (.ite (.call (.gv 299 (.bi 2)) [(.x 53),(.gv 300 (.typ 4))]) (.tup [(.c (.str 44)),(.x 53),(.tup []),(.tup []),(.c .none)]) (.x 53))]
def f75:=fkk [134,197,96] [] [.asT [78,51] (.call (.gv 198 (.fn 31)) [(.x 134),(.x 197)]),.asL (.att (.x 134) 123) (some (.x 78)) (some (.bin 0 (.x 78) (.x 51))) (.sl (.bin 0 (.x 96) (.bin 2 (.c (.bytes [b 32])) (.x 51))) none (some (.x 51)) none)]
def f76:=fkk [134,197,301,44] [] [.asT [60,96] (.call (.gv 302 (.fn 77)) [(.x 134),(.x 197),(.x 301),(.x 44)]),.ite (.cmp 0 (.sub (.x 60) (.c (.int 0))) (.c (.str 292))) [.ex (.call (.gv 227 (.fn 75)) [(.x 134),(.x 197),(.x 96)])] [],.ret (.tup [(.call (.gv 214 (.fn 34)) [(.x 134),(.x 197),(.x 60)]),(.x 96)])]
def f77:=fkk [134,197,301,44] [] [.ite (.cmp 7 (.x 197) (.att (.x 134) 128)) [.ret (.tup [(.c (.str 91)),(.c (.bytes []))])] [],.asN 205 (.call (.gv 204 (.fn 87)) [(.x 134),(.x 197)]),.ite (.bo true [(.not (.x 301)),(.not (.call .stuck [(.x 205)]))]) [.ret (.call .stuck [(.x 134),(.x 197),(.x 44)])] [],.asT [60,96] (.meth (.sub (.att (.x 134) 128) (.x 197)) 305 []),.ite (.bo true [(.cmp 0 (.att (.x 205) 55) (.c (.str 39))),(.cmp 0 (.sub (.x 60) (.c (.int 0))) (.c (.str 292)))]) [.ex (.call .stuck [(.x 134),(.x 205),(.att (.sub (.att (.x 134) 128) (.x 197)) 288)])] [],.ret (.tup [(.x 60),(.x 96)])]
def f78:=fkk [134,144] [] [.asN 307 (.call (.gv 207 (.fn 74)) [(.x 144)]),.fr [197] true 0 [(.att (.att (.att (.x 134) 119) 82) 49)] [.fr [195] true 0 [(.sub (.att (.att (.att (.x 134) 119) 82) 49) (.x 197))] [.ite (.bo true [(.cmp 0 (.att (.x 195) 53) (.sub (.x 307) (.c (.int 1)))),(.cmp 6 (.sub (.x 307) (.c (.int 2))) (.tup [(.tup []),(.tup [(.x 197)])]))]) [.ret (.x 197)] []]],.stuck]
def f79:=fkk [82] [] [.asN 131 (.lst []),.fr [53] true 0 [(.att (.x 82) 49)] [.ex (.meth (.x 131) 3 [(.sub (.att (.x 82) 49) (.x 53))])],.ret (.bin 0 (.bin 0 (.x 131) (.att (.x 82) 47)) (.att (.x 82) 48))]
def f80:=fkk [229] [] [.asN 267 (.call (.gv 283 (.fn 55)) [(.x 229)]),.ret (.ite (.cmp 1 (.x 267) (.lst [])) (.sub (.x 267) (.neg (.c (.int 1)))) (.x 229))]
def f81:=fkk [134,197] [] [.asX [131,210] [(.lst []),(.call (.gv 135 (.fn 36)) [(.x 134),(.tup [(.c (.str 136)),(.tup [(.tup [(.c (.str 35)),(.x 197)])])])])],.wh (.cmp 0 (.x 210) (.c (.str 0))) [.asN 210 (.call (.gv 138 (.fn 37)) [(.x 134),(.tup [(.c (.str 139)),(.x 197),(.c (.bool true)),(.c .none),(.c .none),(.tup [])])]),.ite (.cmp 0 (.x 210) (.c (.str 0))) [.ex (.meth (.x 131) 1 [(.call (.gv 269 (.fn 30)) [(.x 134),(.x 197)])])] []],.ite (.cmp 1 (.x 210) (.c (.str 158))) [.stuck] [],.ex (.call (.gv 142 (.fn 35)) [(.x 134),(.tup [(.c (.str 143)),(.tup [(.x 197)])])]),.ret (.x 131)]
def f82:=fkk [134,197,109] [] [.asN 210 (.call (.gv 135 (.fn 36)) [(.x 134),(.tup [(.c (.str 136)),(.tup [(.tup [(.c (.str 37)),(.x 197)])])])]),.fr [117] true 1 [(.call (.gv 93 (.bi 0)) [(.x 109)])] [.ite (.cmp 0 (.x 210) (.c (.str 0))) [.asN 210 (.call (.gv 308 (.fn 96)) [(.x 134),(.x 197),(.sub (.x 109) (.x 117)),(.bin 0 (.x 117) (.c (.int 1)))])] []],.ite (.cmp 1 (.x 210) (.c (.str 0))) [.stuck] [],.ex (.call (.gv 142 (.fn 35)) [(.x 134),(.tup [(.c (.str 143)),(.tup [(.x 197)])])])]
def f83:=fkk [134,197,118] [] [.ite (.bo false [(.cmp 7 (.x 197) (.att (.x 134) 50)),(.cmp 1 (.att (.sub (.att (.x 134) 50) (.x 197)) 118) (.x 118))]) [.stuck] [],.ret (.sub (.att (.x 134) 50) (.x 197))]
def f84:=fkk [160] [] [.asX [197,145] [(.sub (.x 160) (.c (.int 1))),(.sub (.x 160) (.c (.int 2)))],.asN 131 (.lst [(.tup [(.c (.str 244)),(.tup [(.c (.str 149)),(.x 197)])])]),.ite (.cmp 0 (.sub (.x 160) (.c (.int 0))) (.c (.str 309))) [.ex (.meth (.x 131) 1 [(.tup [(.c (.str 244)),(.tup [(.c (.str 310)),(.x 197),(.x 145),(.sub (.x 160) (.c (.int 3)))])])]),.ret (.bin 0 (.bin 0 (.x 131) (.call (.gv 311 (.fn 46)) [(.x 197),(.sub (.x 160) (.c (.int 4)))])) (.lst [(.tup [(.c (.str 244)),(.tup [(.c (.str 159)),(.x 197)])])]))] [],.asN 200 (.sub (.x 160) (.c (.int 4))),.ite (.cmp 0 (.sub (.x 200) (.c (.int 0))) (.c (.str 49))) [.ex (.meth (.x 131) 1 [(.tup [(.c (.str 244)),(.tup [(.c (.str 312)),(.x 197),(.sub (.x 200) (.c (.int 1)))])])])] [.ex (.meth (.x 131) 1 [(.tup [(.c (.str 246)),(.sub (.x 200) (.c (.int 1))),(.sub (.x 200) (.c (.int 2)))])])],.ex (.meth (.x 131) 1 [(.tup [(.c (.str 244)),(.tup [(.c (.str 154)),(.x 197),(.x 145)])])]),.ret (.bin 0 (.bin 0 (.x 131) (.call (.gv 311 (.fn 46)) [(.x 197),(.sub (.x 160) (.c (.int 5)))])) (.lst [(.tup [(.c (.str 244)),(.tup [(.c (.str 159)),(.x 197)])])]))]
def f85:=fkk [134,313] [] [.asX [314,197] [(.sub (.x 313) (.c (.int 0))),(.sub (.x 313) (.c (.int 1)))],.ite (.cmp 0 (.x 314) (.c (.str 149))) [.ite (.cmp 6 (.x 197) (.att (.x 134) 50)) [.stuck] [],.ex (.call (.gv 198 (.fn 31)) [(.x 134),(.x 197)]),.asS (.att (.x 134) 50) (.x 197) (.call (.gv 315 (.cls 7)) [])] [.ite (.cmp 0 (.x 314) (.c (.str 312))) [.ex (.call (.gv 316 (.fn 91)) [(.x 134),(.x 197),(.sub (.x 313) (.c (.int 2)))])] [.ite (.cmp 0 (.x 314) (.c (.str 310))) [.ex (.call .stuck [(.x 134),(.x 197),(.sub (.x 313) (.c (.int 2))),(.sub (.x 313) (.c (.int 3)))])] [.ite (.cmp 0 (.x 314) (.c (.str 154))) [.asN 221 (.call (.gv 222 (.fn 83)) [(.x 134),(.x 197),(.c (.bool false))]),.ex (.meth (.x 221) 318 [(.call (.gv 319 (.fn 86)) [(.att (.x 221) 109),(.call (.gv 320 (.fn 59)) [(.x 134),(.x 197),(.sub (.x 313) (.c (.int 2)))])])])] [.ite (.cmp 0 (.x 314) (.c (.str 245))) [.asN 109 (.att (.call (.gv 222 (.fn 83)) [(.x 134),(.x 197),(.c (.bool true))]) 109),.fr [53] true 0 [(.sub (.x 313) (.c (.int 2)))] [.ex (.call (.gv 321 (.fn 82)) [(.x 134),(.x 53),(.x 109)])]] [.ex (.meth (.att (.x 134) 50) 4 [(.x 197)])]]]]],.ret (.c (.str 0))]
def f86:=fkk [109,145] [] [.asN 131 (.call (.gv 121 (.typ 2)) [(.x 109)]),.fr [57] true 0 [(.sl (.x 145) none none (some (.neg (.c (.int 1)))))] [.asN 131 .stuck],.ret (.x 131)]
def f87:=fkk [134,197] [] [.ite (.cmp 7 (.x 197) (.att (.att (.x 134) 119) 49)) [.stuck] [],.ret (.sub (.att (.att (.x 134) 119) 49) (.x 197))]
def f88:=fkk [134,44] [] [.asN 229 (.call (.gv 322 (.fn 42)) [(.att (.att (.x 134) 119) 82),(.sub (.x 44) (.c (.int 1))),(.sub (.x 44) (.c (.int 2)))]),.asN 164 (.call (.gv 323 (.fn 71)) [(.x 134),(.sub (.x 44) (.c (.int 4)))]),.asT [78,51] (.call (.gv 324 (.fn 89)) [(.x 229),(.comp (.call .stuck [(.x 134),(.x 325)]) [325] true 0 [(.sub (.x 44) (.c (.int 3)))] none),(.x 164)]),.asT [123,117] (.call (.gv 326 (.fn 72)) [(.x 134),(.x 229),(.x 78),(.x 51)]),.ret (.tup [(.x 123),(.x 117),(.ite (.cmp 8 (.x 164) (.c .none)) (.att (.x 229) 79) (.call (.gv 184 (.cls 5)) [(.c (.str 185)),(.x 51)]))])]
def f89:=fkk [229,327,164] [] [.asN 328 (.call (.gv 263 (.fn 90)) [(.x 229)]),.ite (.cmp 1 (.call (.gv 93 (.bi 0)) [(.x 327)]) (.call (.gv 93 (.bi 0)) [(.x 328)])) [.stuck] [],.asN 78 (.att (.x 229) 78),.fr [329,330] false 2 [(.x 328),(.x 327)] [.ite (.not .stuck) [.stuck] [],.asN 78 (.bin 0 (.x 78) (.bin 2 (.bin 1 (.x 330) (.c (.int 1))) (.att (.x 329) 51)))],.ite (.cmp 8 (.x 164) (.c .none)) [.ret (.tup [(.x 78),(.att (.x 229) 51)])] [],.asT [111,296] (.x 164),.ite (.cmp 8 (.x 296) (.c .none)) [.asN 296 (.bin 0 (.bin 1 (.att (.x 229) 51) (.x 111)) (.c (.int 1)))] [],.ite (.bo false [(.cmp 2 (.x 111) (.c (.int 1))),(.cmp 2 (.x 296) (.c (.int 1))),(.cmp 4 (.bin 1 (.bin 0 (.x 111) (.x 296)) (.c (.int 1))) (.att (.x 229) 51))]) [.stuck] [],.ret (.tup [(.bin 1 (.bin 0 (.x 78) (.x 111)) (.c (.int 1))),(.x 296)])]
def f90:=fkk [229] [] [.asN 261 (.bin 0 (.sl (.call (.gv 283 (.fn 55)) [(.x 229)]) none none (some (.neg (.c (.int 1))))) (.lst [(.x 229)])),.ret (.comp (.x 262) [262] true 0 [(.x 261)] (some (.cmp 9 (.att (.x 262) 68) (.c .none))))]
def f91:=fkk [134,197,167] [] [.asX [51,221] [(.sub (.call (.gv 198 (.fn 31)) [(.x 134),(.x 197)]) (.c (.int 1))),(.call (.gv 222 (.fn 83)) [(.x 134),(.x 197),(.c (.bool false))])],.fr [53] true 0 [(.x 167)] [.ex (.meth (.x 221) 224 [(.comp (.call (.gv 225 (.fn 45)) [(.x 110),(.x 51)]) [110] true 0 [(.call (.gv 331 (.fn 81)) [(.x 134),(.x 53)])] none)])]]
def f92:=fkk [79,96] [] [.ite (.cmp 0 (.att (.x 79) 100) (.c (.str 250))) [.ret (.call .stuck [(.att (.x 79) 101),(.x 96)])] [],.ret (.call (.gv 278 (.fn 28)) [(.x 96),(.att (.x 79) 51),(.att (.x 79) 71)])]
def f93:=fkk [79,96] [] [.ite (.cmp 1 (.att (.x 79) 100) (.c (.str 41))) [.ret (.x 96)] [],.ite (.cmp 4 (.att (.x 79) 105) (.c (.int 0))) [.stuck] [],.ret (.bin 0 (.call .stuck [(.call .stuck [(.x 79)]),(.call .stuck [(.call .stuck [(.x 79),(.x 96)])])]) (.bin 2 (.c (.bytes [b 48])) (.bin 1 (.c (.int 0)) (.att (.x 79) 105))))]
def f94:=fkk [96] [] [.ret (.call (.gv 184 (.cls 5)) [(.c (.str 185)),(.call (.gv 93 (.bi 0)) [(.x 96)])])]
def f95:=fkk [229] [] [.ite (.bo false [(.cmp 0 (.att (.att (.x 229) 79) 100) (.c (.str 258))),(.call (.gv 335 (.fn 53)) [(.att (.x 229) 79)])]) [.ret (.call .stuck [(.att (.x 229) 79),(.c (.int 0))])] [],.ret (.bin 2 (.c (.bytes [b 32])) (.att (.x 229) 51))]
def f96:=fkk [134,197,110,288] [] [.ex (.call (.gv 227 (.fn 75)) [(.x 134),(.x 197),(.x 110)]),.asN 205 (.call (.gv 204 (.fn 87)) [(.x 134),(.x 197)]),.ite (.bo true [(.cmp 0 (.att (.x 205) 55) (.c (.str 39))),(.not (.call .stuck [(.x 205)]))]) [.ex (.call .stuck [(.x 134),(.x 205),(.x 288)])] [],.ret (.call (.gv 214 (.fn 34)) [(.x 134),(.x 197),(.call (.gv 336 (.fn 98)) [(.x 134),(.x 197),(.call (.gv 269 (.fn 30)) [(.x 134),(.x 197)])])])]
def f97:=fkk [134,144] [] [.asN 197 (.call (.gv 220 (.fn 78)) [(.x 134),(.x 144)]),.ret (.call (.gv 214 (.fn 34)) [(.x 134),(.x 197),(.call (.gv 336 (.fn 98)) [(.x 134),(.x 197),(.call (.gv 141 (.fn 66)) [(.x 134),(.call (.gv 207 (.fn 74)) [(.x 144)])])])])]
def f98:=fkk [134,197,96] [] [.ite (.cmp 7 (.x 197) (.att (.x 134) 128)) [.ret (.c (.str 98))] [],.asX [205,337] [(.call (.gv 204 (.fn 87)) [(.x 134),(.x 197)]),(.sub (.att (.x 134) 128) (.x 197))],.ite (.cmp 1 (.att (.x 205) 55) (.c (.str 39))) [.ret (.meth (.x 337) 192 [(.x 96)])] [],.ite (.not (.call .stuck [(.x 205)])) [.ret (.meth (.x 337) 192 [(.x 96),(.call .stuck [(.x 134),(.x 205),(.x 337),(.tup [(.c (.str 37)),(.c (.str 36))])])])] [],.asN 60 (.meth (.x 337) 192 [(.x 96)]),.ite (.cmp 0 (.sub (.x 60) (.c (.int 0))) (.c (.str 292))) [.ex (.call .stuck [(.x 134),(.x 205),(.att (.x 337) 288)])] [],.ret (.x 60)]
def f99:=fkk [339] [] [.asN 340 (.call (.gv 341 (.fn 101)) [(.x 339)]),.asN 167 (.comp (.sub (.tup [(.c (.str 179)),(.c (.str 25)),(.bin 0 (.x 197) (.c (.str 342)))]) (.call (.gv 343 (.fn 100)) [(.x 340),(.c (.int 3))])) [197] true 0 [(.tup [(.c (.str 137)),(.c (.str 162)),(.c (.str 150))])] none),.asX [71,168,344] [(.cmp 0 (.call (.gv 343 (.fn 100)) [(.x 340),(.c (.int 2))]) (.c (.int 1))),(.cmp 0 (.call (.gv 343 (.fn 100)) [(.x 340),(.c (.int 2))]) (.c (.int 1))),(.cmp 0 (.call (.gv 343 (.fn 100)) [(.x 340),(.c (.int 2))]) (.c (.int 0)))],.asN 109 (.comp (.call (.gv 99 (.typ 0)) [(.lst [(.bin 0 (.c (.int 65)) (.call (.gv 343 (.fn 100)) [(.x 340),(.c (.int 3))])),(.bin 0 (.c (.int 48)) (.x 87)),(.c (.int 120))])]) [87] true 1 [(.bin 0 (.c (.int 1)) (.call (.gv 343 (.fn 100)) [(.x 340),(.c (.int 5))]))] none),.asC2 146 (.x 110) [358] true 0 [(.ite (.x 344) (.tup [(.c (.int 65)),(.c (.int 66)),(.c (.int 67))]) (.tup [(.c (.int 67)),(.c (.int 66)),(.c (.int 65))]))] [110] true 0 [(.x 109)] (some (.cmp 0 (.sub (.x 110) (.c (.int 0))) (.x 358))),.asN 147 (.comp (.bin 0 (.x 110) (.c (.bytes [b 32,b 32]))) [110] true 0 [(.x 146)] none),.ite (.bo true [(.x 168),(.x 71)]) [.asN 147 (.comp (.bin 0 (.bin 0 (.c (.bytes [b 32])) (.x 110)) (.c (.bytes [b 32]))) [110] true 0 [(.x 146)] none)] [],.asX [134,145] [(.call (.gv 345 (.fn 26)) [(.x 167),(.x 168),(.x 71)]),(.tup [(.tup [(.x 344),(.c (.str 174))])])],.asN 346 (.comp (.tup [(.c (.str 44)),(.x 53),(.tup [(.x 197)]),(.tup []),(.c .none)]) [53,197] false 2 [(.x 167),(.tup [(.c (.str 137)),(.c (.str 162)),(.c (.str 150))])] none),.ex (.meth (.att (.x 134) 120) 347 [(.c (.str 348)),(.c (.str 38)),(.x 109)]),.tr [.ite (.bo false [(.not (.call (.gv 349 (.fn 24)) [(.x 134),(.x 145),(.x 146)])),(.not (.call (.gv 350 (.fn 23)) [(.x 134),(.sub (.x 346) (.c (.int 2))),(.x 145),(.x 109),(.x 146),(.x 147)]))]) [.ret (.c (.bool false))] [],.ite (.bo false [(.not (.call (.gv 351 (.fn 22)) [(.x 134),(.x 109),(.x 71)])),(.not (.call (.gv 352 (.fn 27)) [(.x 134),(.sub (.x 346) (.c (.int 1))),(.x 109)]))]) [.ret (.c (.bool false))] []],.ret (.bo true [(.cmp 0 (.att (.x 134) 128) (.dct [] [])),(.cmp 0 (.att (.x 134) 50) (.dct [] [])),(.cmp 0 (.meth (.att (.x 134) 120) 115 [(.c (.str 348))]) (.x 109))])]
def f100:=fkk [340,357] [] [.ite (.cmp 0 (.sub (.x 340) (.c (.int 0))) (.c (.int 0))) [.asS (.x 340) (.c (.int 1)) (.bin 0 (.sub (.x 340) (.c (.int 1))) (.c (.int 1))),.asS (.x 340) (.c (.int 0)) (.bin 3 (.bin 5 (.bin 0 (.bin 2 (.c (.int 20)) (.sub (.x 340) (.c (.int 1)))) (.c (.int 10119))) (.c (.int 9))) (.c (.int 4)))] [],.asN 348 (.call (.gv 359 (.typ 3)) [(.sub (.x 340) (.c (.int 0)))]),.asS (.x 340) (.c (.int 0)) (.bin 3 (.x 348) (.x 357)),.ret (.bin 4 (.x 348) (.x 357))]
def f101:=fkk [339] [] [.asN 355 (.c (.int 31)),.fr [356] true 0 [(.sl (.x 339) none (some (.c (.int 30))) none)] [.asN 355 (.bin 0 (.bin 2 (.x 355) (.c (.int 1031))) (.bin 4 (.call (.gv 359 (.typ 3)) [(.x 356)]) (.bin 5 (.c (.int 10)) (.c (.int 45)))))],.ret (.lst [(.x 355),(.c (.int 0))])]
inductive FT|nil|node (f:Fn) (l r:FT)
noncomputable def FT.get:FT->Nat->Option Fn
 |.nil,_=>none
 |.node v l r,i=>match Nat.beq i 0 with
  |true=>some v
  |false=>match Nat.beq (i%2) 1 with
   |true=>l.get (i/2)
   |false=>r.get (i/2-1)
def fT:FT:=(.node f0 (.node f1 (.node f3 (.node f7 (.node f15 (.node f31 (.node f63 .nil .nil) (.node f95 .nil .nil)) (.node f47 (.node f79 .nil .nil) .nil)) (.node f23 (.node f39 (.node f71 .nil .nil) .nil) (.node f55 (.node f87 .nil .nil) .nil))) (.node f11 (.node f19 (.node f35 (.node f67 .nil .nil) (.node f99 .nil .nil)) (.node f51 (.node f83 .nil .nil) .nil)) (.node f27 (.node f43 (.node f75 .nil .nil) .nil) (.node f59 (.node f91 .nil .nil) .nil)))) (.node f5 (.node f9 (.node f17 (.node f33 (.node f65 .nil .nil) (.node f97 .nil .nil)) (.node f49 (.node f81 .nil .nil) .nil)) (.node f25 (.node f41 (.node f73 .nil .nil) .nil) (.node f57 (.node f89 .nil .nil) .nil))) (.node f13 (.node f21 (.node f37 (.node f69 .nil .nil) (.node f101 .nil .nil)) (.node f53 (.node f85 .nil .nil) .nil)) (.node f29 (.node f45 (.node f77 .nil .nil) .nil) (.node f61 (.node f93 .nil .nil) .nil))))) (.node f2 (.node f4 (.node f8 (.node f16 (.node f32 (.node f64 .nil .nil) (.node f96 .nil .nil)) (.node f48 (.node f80 .nil .nil) .nil)) (.node f24 (.node f40 (.node f72 .nil .nil) .nil) (.node f56 (.node f88 .nil .nil) .nil))) (.node f12 (.node f20 (.node f36 (.node f68 .nil .nil) (.node f100 .nil .nil)) (.node f52 (.node f84 .nil .nil) .nil)) (.node f28 (.node f44 (.node f76 .nil .nil) .nil) (.node f60 (.node f92 .nil .nil) .nil)))) (.node f6 (.node f10 (.node f18 (.node f34 (.node f66 .nil .nil) (.node f98 .nil .nil)) (.node f50 (.node f82 .nil .nil) .nil)) (.node f26 (.node f42 (.node f74 .nil .nil) .nil) (.node f58 (.node f90 .nil .nil) .nil))) (.node f14 (.node f22 (.node f38 (.node f70 .nil .nil) .nil) (.node f54 (.node f86 .nil .nil) .nil)) (.node f30 (.node f46 (.node f78 .nil .nil) .nil) (.node f62 (.node f94 .nil .nil) .nil))))))
noncomputable def mT(c:Nat):List (Nat × Nat):=match c with
 |2=>[(133,3),(243,4)]
 |4=>[(305,7),(192,8)]
 |6=>[(111,11),(115,12),(113,13),(347,14),(286,15)]
 |7=>[(318,17),(226,18),(224,19)]
 |_=>[]
noncomputable def lkN:List (Nat × Nat)->Nat->Option Nat
 |[],_=>none
 |p::r,i=>match Nat.beq p.1 i with|true=>some p.2|false=>lkN r i
noncomputable def iT:List (Nat × Nat):=[(0,0),(1,1),(2,2),(3,5),(4,6),(5,9),(6,10),(7,16),(8,20)]
noncomputable def lowT:List (Nat × Nat):=[(137,348),(162,165),(150,354)]
noncomputable def subT:List (Nat × Nat):=[(95,292),(94,293)]
noncomputable def Mk:List String:=["","append","clear","extend","pop","remove","get","join","lower","ledgerspeak.errors","ledgerspeak.decimals","ledgerspeak.keyfile","ledgerspeak.pictures","ledgerspeak.editing","$+-","B0/,"," ","ledgerspeak.deediting","ledgerspeak.shapes","ledgerspeak.usages","ledgerspeak.moving","ledgerspeak.relfile","ledgerspeak.rowfile","ledgerspeak.shelf","ledgerspeak.items","FILLER","ledgerspeak.layout","ledgerspeak.reckoning","ledgerspeak.references","ledgerspeak.world","ledgerspeak.filedeeds","ledgerspeak.sorting","ledgerspeak.envread","ledgerspeak.program","law_pq0663_01","input","i-o","output","sequential","relative","indexed","numeric","edited","dynamic","ref","GOAL","self","working","linkage","files","sorts","size","indexes","name","path","organization","access","key","alternates","relative_key","status","is_sort","records","level","picture_text","usage","sign","is_separate","occurs","redefines","value","is_justified","is_blank_zero","conditions","kids","parent","renames","base","offset","shape","kid","high","data","procedures","is_initial","content","mode","at","is_valid","last","READING_rowfile","47","46","len","10","00","octets","ADDING","48","bytes","category","picture","display","trailing","digits","scale","is_signed","kind","KINDS","rows","row","begin","35","kind_of","39","content_of","most","place","is_ready","program","shelf","list","told_rows","memory","bytearray","initial_memory","sorted","links","handles","open_paths","open_row","found","Item","add","world","do_open","open","LEFT","do_read","read","_law_GOAL","octets_at","do_close","close","record","keys","due","goals","sort_step","sort-begin","WORK","do_release","release","text","sort-order","goal","do_return","return","end","sort-end","statement","sort","OTHER","sort_parts","part","other","text_shape","names","is_double","specs","Data","_law_item","_law_text","parts","LETTER","MARK","group_shape","WIDER","alike","REC","LEFT-REC","OTHER-REC","WORK-REC","ALIKE","Shape","alphanumeric","FileSpec","World","Program","P","Shelf","do_write","write","BLANK_moving","max","root","items_under","file","area_of","roots","source","goals_of","42","pair","spec_of","spec","put_octets","plain_ref","encode","ascii","outcome","outcome_of","fault","first_outcome","concluded","close_status","open_status","into","read_one","move_into","record_file","held","sort_of","move_to","take_in","fitted","take","put_record","write_one","item","top","root_of","qualifiers","all_items","only_one","leads_through","names_around","file_of","valued","is_group","unvalued","plain_kids","first_octets","count","do","sort-give","range","texts","group","alphabetic","alnum-edited","NUMBERS","RowFile","RelFile","greatest_number","key_part","KeyFile","tuple","index","RENAMING","above","line","one","tables_around","has_units","units_in","key_of","around","told","area_octets","spot_in","moved","operand","figure","all","filled","operand_in","can_move","aligned","number_for","worth_in_text","text_for","text_in","items_around","is_path_held","41","opened","handle_of","number","number_shape","octets_for","units_at","0","1","2","invalid","length","whole_in","memory_of","isinstance","str","is_next","read_status","by_order","read_by_key","read_next","tell_number","wanted","write_given","merge","merge-take","goal_parts","sort-take","deed","word","SortRows","take_rows","merge_rows","put_in_order","sorted_rows","keys_of","rows_to_file","find_item","part_of","stretch","expr","place_of_octets","subscripts","tables","table","subscript","rows_of_file","inserted","unsigned_shape","abs","is_numeric","write_status","handle","key_number","script","urn","_law_urn","-REC","_law_lot","is_ascending","_law_world","marked","lay","left","_law_sorted_right","_law_returned_right","_law_read_right","_law_written_right","__init__","work","whole","cell","many","letter","int"]
def fro:Tr:=(((((((Tr.nil.set 40 0 (.tup [.str 35,.str 36])).set 40 1 (.tup [.str 37,.str 3])).set 40 2 (.tup [.str 38,.str 39,.str 40])).set 40 3 (.tup [.str 41,.str 42])).set 40 4 (.tup [])).set 40 5 (.tup [.str 44,.str 45,.obj 4,.obj 6,.none])).set 40 6 (.tup []))
end
section
set_option genInjectivity false
set_option genSizeOf false
set_option genCtorIdx false
def tx(k:Nat):Str:=match Mk[k]? with
 |some s=>Str.ofString s
 |none=>⟨#[1114112+k]⟩
noncomputable def codeS(s:String):Nat:=s.toByteArray.data.toList.foldl (fun a b=>a*257+(b.toNat+1)) 0
noncomputable def Kw:List Nat->Bool
 |[]=>true
 |a::r=> !r.any (Nat.beq a)&&Kw r
theorem Yc:∀{l:List Nat},Kw l=true->l.Nodup
 |[],_=>.nil
 |a::r,h=>by
  simp only[Kw,QB,Bool.not_eq_true']at h;refine List.nodup_cons.mpr ⟨fun hm=>?_,Yc h.2⟩;have:=List.any_eq_false.mp h.1 a hm;simp at this
theorem Lj:Mk.Nodup:=by
 have:(Mk.map codeS).Nodup:=Yc (by decide+kernel);exact List.Pairwise.of_map _ (fun a b h e=>h (congrArg _ e)) this
theorem Kv{a b:String}(h:Str.ofString a=Str.ofString b):a=b:=by
 rw[Str.ofString_eq_toList,Str.ofString_eq_toList]at h;have h:(a.toList.map Char.toNat).toArray=(b.toList.map Char.toNat).toArray:=congrArg Str.cps h;have h:=congrArg Array.toList h;simp only at h;have e:=(List.map_inj_right (fun x y (e:x.toNat=y.toNat)=>Char.toNat_inj.mp e)).mp h;exact String.toList_inj.mp e
theorem Yn(s:String)(k:Nat):Str.ofString s≠⟨#[1114112+k]⟩:=by
 rw[Str.ofString_eq_toList];intro h;have h:(s.toList.map Char.toNat).toArray=#[1114112+k]:=congrArg Str.cps h;have h:=congrArg Array.toList h;simp only[List.map_eq_cons_iff]at h;obtain⟨c,l,_,hc,_⟩:=h;have:=c.valid;have h2:c.toNat<1114112:=by
  rcases this with h|⟨_,h⟩
  ·have:c.toNat<0xd800:=h
   omega
  ·exact h
 omega
theorem Zy{a b:Nat}(h:tx a=tx b):a=b:=by
 unfold tx at h;cases ha:Mk[a]? with
 |none=>
  rw[ha]at h;cases hb:Mk[b]? with
  |none=>
   rw[hb]at h;simpa using h
  |some s=>rw[hb]at h;exact absurd h.symm (Yn s a)
 |some s=>
  rw[ha]at h;cases hb:Mk[b]? with
  |none=>rw[hb]at h;exact absurd h (Yn s b)
  |some t=>
   rw[hb]at h;obtain⟨i,hi⟩:=List.getElem?_eq_some_iff.mp ha;obtain⟨j,hj⟩:=List.getElem?_eq_some_iff.mp hb;have e:Mk[a]=Mk[b]:=by rw[hi,hj];exact Kv h
   have P:=List.pairwise_iff_getElem.mp Lj;rcases Nat.lt_trichotomy a b with q|q|q
   ·exact absurd e (P a b i j q)
   ·exact q
   ·exact absurd e.symm (P b a j i q)
theorem Tr.get_nil(i:Nat):Tr.nil.get i=none:=rfl
theorem Tr.get_node(v:Option HO)(l r:Tr)(i:Nat):(Tr.node v l r).get i=if i=0 then v else if i%2=1 then l.get (i/2)else r.get (i/2-1):=by
 show(Bool.rec (motive:=fun J=>Option HO) (Bool.rec (motive:=fun J=>Option HO) (r.get (i/2-1)) (l.get (i/2)) (Nat.beq (i%2) 1)) v (Nat.beq i 0))=_;rw[PySem.W.BT.beq_eq,PySem.W.BT.beq_eq]
 by_cases h:i=0
 ·simp[h]
 ·by_cases q:i%2=1<;>simp[h,q]
theorem Tr.uH(g:Tr->Nat->HO->Tr)(v:Option HO)(l r:Tr)(i:Nat)(o:HO):
  Tr.uM g v l r i o=if i=0 then .node (some o) l r else if i%2=1 then .node v (g l (i/2) o) r else .node v l (g r (i/2-1) o):=by
 unfold Tr.uM;rw[PySem.W.BT.beq_eq,PySem.W.BT.beq_eq]
 by_cases h:i=0
 ·simp[h]
 ·by_cases q:i%2=1<;>simp[h,q]
theorem Tr.uJ(f:Nat)(t:Tr)(i:Nat)(o:HO):Tr.set (f+1) t i o=match t with|.nil=>Tr.uM (Tr.set f) none .nil .nil i o|.node v l r=>Tr.uM (Tr.set f) v l r i o:=by
 cases t<;>rfl
theorem half{i f:Nat}(h:i<2^(f+1)):i/2<2^f:=Nat.div_lt_of_lt_mul (by rw[Nat.pow_succ,Nat.mul_comm]at h;exact h)
theorem par{a b:Nat}(h:a%2=b%2)(q:a/2=b/2):a=b:=by rw[<-Nat.div_add_mod a 2,<-Nat.div_add_mod b 2,h,q]
theorem xJp{a:Nat}(h:¬a%2=1):a%2=0:=(Nat.mod_two_eq_zero_or_one a).resolve_right h
theorem xQ0{a:Nat}(h:¬a=0)(p:¬a%2=1):0<a/2:=Nat.pos_of_ne_zero fun q=>h (by
 have:=Nat.div_add_mod a 2;rw[q,xJp p]at this;exact this.symm)
theorem N1{a:Nat}(h:a%2=1):2*(a/2)+1=a:=by
 have:=Nat.div_add_mod a 2
 rwa [h]at this
theorem Ht{a:Nat}(h:¬a=0)(p:¬a%2=1):2*(a/2-1)+2=a:=by
 have:=Nat.div_add_mod a 2;rw[xJp p]at this;show 2*(a/2-1+1)=a;rw[Nat.sub_add_cancel (xQ0 h p)];exact this
theorem Tr.uL{g:Tr->Nat->HO->Tr}{v:Option HO}{l r:Tr}{i:Nat}{o:HO}(f:Nat)(hg:∀t i,i<2^f->∀j,(g t i o).get j=if j=i then some o else t.get j)(hi:i<2^(f+1))(j:Nat):
  (Tr.uM g v l r i o).get j=if j=i then some o else(Tr.node v l r).get j:=by
 rw[Tr.uH]
 by_cases h0:i=0
 ·subst h0
  rw[if_pos rfl,Tr.get_node,Tr.get_node]
  by_cases hj:j=0<;>simp[hj]
 ·rw[if_neg h0]
  by_cases hp:i%2=1
  ·rw[if_pos hp,Tr.get_node,Tr.get_node]
   by_cases hj:j=0
   ·have:j≠i:=fun q=>h0 (q.symm.trans hj)
    simp[hj,Ne.symm h0]
   ·by_cases pj:j%2=1
    ·rw[if_neg hj,if_pos pj,hg l (i/2) (half hi)]
     by_cases e:j=i
     ·simp[e]
     ·have:j/2≠i/2:=fun q=>e (par (pj.trans hp.symm) q)
      simp[e,this,hj,pj]
    ·have:j≠i:=fun q=>pj (q▸hp)
     simp[hj,pj,this]
  ·rw[if_neg hp,Tr.get_node,Tr.get_node]
   by_cases hj:j=0
   ·have:j≠i:=fun q=>h0 (q.symm.trans hj)
    simp[hj,Ne.symm h0]
   ·by_cases pj:j%2=1
    ·have:j≠i:=fun q=>hp (q▸pj)
     simp[hj,pj,this]
    ·rw[if_neg hj,if_neg pj,hg r (i/2-1) (Nat.lt_of_le_of_lt (Nat.sub_le _ _) (half hi))]
     by_cases e:j=i
     ·simp[e]
     ·have:j/2-1≠i/2-1:=fun q=>e (par ((xJp pj).trans (xJp hp).symm) (Nat.sub_one_cancel (xQ0 hj pj) (xQ0 h0 hp) q))
      simp[e,this,hj,pj]
theorem Tr.get_set(o:HO):∀(f:Nat) (t:Tr) (i:Nat),i<2^f->∀j,(Tr.set (f+1) t i o).get j=if j=i then some o else t.get j:=by
 intro f;induction f with
 |zero=>
  intro t i hi j;obtain rfl:i=0:=by omega
  rw[Tr.uJ];cases t with
  |nil=>dsimp only;rw[Tr.uH,if_pos rfl,Tr.get_node];by_cases hj:j=0<;>simp[hj,Tr.get_nil]
  |node v l r=>dsimp only;rw[Tr.uH,if_pos rfl,Tr.get_node,Tr.get_node];by_cases hj:j=0<;>simp[hj]
 |succ f ih=>
  intro t i hi j;rw[Tr.uJ];cases t with
  |nil=>
   dsimp only;rw[Tr.uL f (fun t i hi=>ih t i hi) hi j,Tr.get_node]
   by_cases hj:j=i
   ·simp[hj]
   ·simp only[hj,if_false,Tr.get_nil]
    by_cases h0:j=0<;>simp[h0]
  |node v l r=>exact Tr.uL f (fun t i hi=>ih t i hi) hi j
theorem St.get_set{S:St}{i:Nat}(h:i<=100000)(o:HO)(j:Nat):(S.set i o).get j=if j=i then some o else S.get j:=
 Tr.get_set o 39 S.t i (by omega) j
theorem F2.imp{α β:Type}{r q:α->β->Prop}(h:∀a b,r a b->q a b){l:List α}{m:List β}(H:F2 r l m):F2 q l m:=by
 induction H with
 |nil=>exact .nil
 |cons x _ ih=>exact .cons (h _ _ x) ih
theorem F2.length{α β:Type}{r:α->β->Prop}{l:List α}{m:List β}(H:F2 r l m):l.length=m.length:=by
 induction H with
 |nil=>rfl
 |cons _ _ ih=>exact congrArg (· +1) ih
theorem F2.append{α β:Type}{r:α->β->Prop}{l':List α}{m':List β}(z:F2 r l' m'){l:List α}{m:List β}(H:F2 r l m):F2 r (l++l') (m++m'):=by
 induction H with
 |nil=>exact z
 |cons x _ ih=>exact .cons x ih
theorem F2.snoc{α β:Type}{r:α->β->Prop}{a:α}{b:β}{l:List α}{m:List β}(h:F2 r l m)(x:r a b):F2 r (l++[a]) (m++[b]):=F2.append (.cons x .nil) h
theorem F2.reverse{α β:Type}{r:α->β->Prop}{l:List α}{m:List β}(H:F2 r l m):F2 r l.reverse m.reverse:=by
 induction H with
 |nil=>exact .nil
 |cons x _ ih=>rw[List.reverse_cons,List.reverse_cons];exact ih.snoc x
theorem F2.nth{α β:Type}{r:α->β->Prop}{l:List α}{m:List β}{i:Nat}{a:α}(H:F2 r l m):Mine.nth l i=some a->∃b,m[i]? =some b/\r a b:=by
 induction H generalizing i with
 |nil=>exact Qh
 |cons x _ ih=>cases i with
  |zero=>exact fun e=>xJz e fun e=>⟨_,rfl,e▸x⟩
  |succ i=>exact ih
theorem F2.nth_none{α β:Type}{r:α->β->Prop}{l:List α}{m:List β}{i:Nat}(H:F2 r l m):Mine.nth l i=none->m.length<=i:=by
 induction H generalizing i with
 |nil=>exact fun J=>Nat.zero_le _
 |cons x _ ih=>cases i with
  |zero=>exact zZm
  |succ i=>exact fun e=>Nat.succ_le_succ (ih e)
theorem F2.zip{α β γ δ:Type}{r:α->γ->Prop}{q:β->δ->Prop}{l:List α}{l':List β}{m:List γ}{m':List δ}(H:F2 r l m):F2 q l' m'->F2 (fun p p'=>r p.1 p'.1/\q p.2 p'.2) (l.zip l') (m.zip m'):=by
 induction H generalizing l' m' with
 |nil=>exact fun J=>.nil
 |cons x _ ih=>
  intro h;cases h with
  |nil=>exact .nil
  |cons z w=>exact .cons ⟨x,z⟩ (ih w)
structure Cx where
 prog:Program
 w:World
 h0:Heap
 T0:Tr
 β:Nat->UInt8
 nam:Nat->Str
 opq:Nat->Value
 iv2:Nat->Int
 fnA:Nat->Addr
 clsA:Nat->Addr
 froA:Nat->Addr
 epA:Nat->Nat
 K:Frag
noncomputable def tyN:Nat->String
 |0=>"bytes"|1=>"bytearray"|2=>"list"|3=>"int"|_=>"str"
noncomputable def biN:Nat->String
 |0=>"len"|1=>"max"|2=>"isinstance"|_=>"sorted"
section
variable(C:Cx)
noncomputable def b8:B8->UInt8
 |.lit n=>UInt8.ofNat n
 |.sym k=>C.β k
def VR(O:Nat->Addr)(n:Nat):HV->Value->Prop
 |.none,v=>v=.none
 |.bool b,v=>v=.bool b
 |.int i,v=>∃t,v=.int i t
 |.str k,v=>∃t,v=.str (tx k) t
 |.sstr k,v=>∃t,v=.str (C.nam k) t
 |.bytes l,v=>∃t,v=.bytes (l.map (b8 C)).toArray t
 |.typ k,v=>v=.type (tyN k)
 |.bi k,v=>v=.builtin (biN k)
 |.obj j,v=>j<n/\v=.ref (O j)
 |.fn g,v=>v=.ref (C.fnA g)
 |.cls c,v=>v=.ref (C.clsA c)
 |.opq k,v=>v=C.opq k
 |.sint k,v=>∃t,v=.int (C.iv2 k) t
def DR(O:Nat->Addr)(n:Nat)(p:Nat × HV)(e:DictEntry):Prop:=(∃t,e.key=.str (tx p.1) t)/\e.hash=PyData.keyHash C.w.params (tx p.1)/\VR C O n p.2 e.val
def HO.good:HO->Prop
 |.list l=>l.length<=1000
 |.tup l=>l.length<=1000
 |.barr l=>l.length<=1000
 |.dict es=>es.length<=1000/\(es.map (·.1)).Nodup
 |.ns es=>es.length<=1000/\(es.map (·.1)).Nodup
 |.inst _ _=>True
 |.tab _=>True
 |.code=>True
noncomputable def Ml:Pos:=⟨1260,34,1260,65⟩
noncomputable def qZn:Str:=Str.ofString "sorted_rows.<locals>.<lambda>"
def OR0(O:Nat->Addr)(n:Nat):HO->Obj->Prop
 |.list l,o=>∃xs m,o=⟨.type "list",none,.seq xs m,#[]⟩/\F2 (VR C O n) l xs.toList
 |.tup l,o=>∃xs m,o=⟨.type "tuple",none,.seq xs m,#[]⟩/\F2 (VR C O n) l xs.toList
 |.dict es,o=>∃ens m,o=⟨.type "dict",none,.dict ens m,#[]⟩/\F2 (DR C O n) es ens.toList
 |.ns es,o=>∃ens m,o=⟨.type "dict",none,.dict ens m,#[]⟩/\F2 (DR C O n) es ens.toList
 |.barr l,o=>∃m,o=⟨.type "bytearray",none,.bytearray (l.map (b8 C)).toArray 0,m⟩
 |.inst c d,o=>d<n/\∃sl,o=⟨.ref (C.clsA c),some (O d),.plain,sl⟩
 |.tab none,o=>7<n/\O 7=C.froA 7/\∃ps,o=tabObj ps/\TriplesOk ps.toList/\codeAmong Ml ps.toList=Option.none
 |.tab (some j),o=>7<n/\O 7=C.froA 7/\j<n/\∃ps,o=tabObj ps/\TriplesOk ps.toList/\codeAmong Ml ps.toList=some (.ref (O j))
 |.code,o=>∃vs t,o.data=.fields vs/\vs[1]? =some (.str qZn t)
def OR(O:Nat->Addr)(n:Nat)(o:HO)(ob:Obj):Prop:=o.good/\OR0 C O n o ob
structure Lf(O:Nat->Addr)(S:St)(h:Heap):Prop where
 live:∀j o,S.get j=some o->j<S.n/\∃ob,h.get? (O j)=some ob/\OR C O S.n o ob
 inj:∀i j,(S.get i).isSome->(S.get j).isSome->O i=O j->i=j
 above:∀j,7<=j->(S.get j).isSome->C.h0.objs.size<=O j∨((C.T0.get j).isSome∨C.h0.get? (O j)=none)/\O j≠sysModules
 small:S.n<=100001
 frz:∀j o,C.T0.get j=some o->S.get j=some o
 fro:∀j,j<7->(C.T0.get j).isSome/\O j=C.froA j
 ep:∀j es,C.T0.get j=some (.dict es)->∃ens,h.get? (O j)=some ⟨.type "dict",none,.dict ens (C.epA j),#[]⟩
def Loc(env:Env)(m:Str->Option Value)(h:Heap)(x:Str)(v:Value):Prop:=match env.kindOf x with
 |some .local=>m x=some v
 |some .cell=>∃c,env.cells.lookup x=some c/\h.IsCell c (some v)
 |_=>True
structure Ld(env:Env)(O:Nat->Addr)(S:St)(h:Heap):Prop where
 above:C.h0.objs.size<=env.locals
 off:∀j,(S.get j).isSome->O j≠env.locals
 cell:∀x c,env.cells.lookup x=some c->C.h0.objs.size<=c/\c≠env.locals/\(∀j,(S.get j).isSome->O j≠c)/\∃v,h.IsCell c v
 apart:∀x y c,env.cells.lookup x=some c->env.cells.lookup y=some c->x=y
 loc:∃m,h.Ns env.locals m/\∀i V,lk S.loc i=some V->∃v,VR C O S.n V v/\Loc env m h (tx i) v
def Wr(env:Env)(a:Addr):Prop:=a=env.locals∨∃x,env.cells.lookup x=some a
set_option genCtorIdx true in
inductive Wk|no|loc|all
def Wd(env:Env):Wk->Addr->Prop
 |.no,_=>False
 |.loc,a=>a=env.locals
 |.all,a=>Wr env a
theorem Uf{env:Env}:∀{k:Wk} {a:Addr},Wd env k a->Wr env a
 |.no,_,h=>h.elim
 |.loc,_,h=>.inl h
 |.all,_,h=>h
structure Ext(W:Addr->Prop)(O:Nat->Addr)(S:St)(s:Shared)(O':Nat->Addr)(S':St)(s':Shared):Prop where
 agree:∀j,j<S.n->O' j=O j
 n:S.n<=S'.n
 kd:∀j,j<S.n->(S'.get j).map HO.kd=(S.get j).map HO.kd
 new:∀j,S.n<=j->(S'.get j).isSome->s.heap.get? (O' j)=none
 keep:∀a o,s.heap.get? a=some o->¬W a->(∀j,C.T0.get j=none->j<S.n->(S.get j).isSome->O j≠a)->s'.heap.get? a=some o
 gens:s'.gens=s.gens
 os:s'.os=s.os
end
section
variable{C:Cx}
theorem VR.mono{O O':Nat->Addr}{n n':Nat}(ha:∀j,j<n->O' j=O j)(hn:n<=n'):∀{V:HV} {v:Value},VR C O n V v->VR C O' n' V v
 |.obj j,v,h=>⟨QF h.1 hn,by rw[ha j h.1];exact h.2⟩
 |.none,_,h|.bool _,_,h|.int _,_,h|.str _,_,h|.sstr _,_,h|.bytes _,_,h|.typ _,_,h|.bi _,_,h|.fn _,_,h|.cls _,_,h|.opq _,_,h|.sint _,_,h=>h
theorem VRs.mono{O O':Nat->Addr}{n n':Nat}(ha:∀j,j<n->O' j=O j)(hn:n<=n'){l:List HV}{vs:List Value}(h:F2 (VR C O n) l vs):F2 (VR C O' n') l vs:=
 h.imp fun J J=>VR.mono ha hn
theorem OR0.mono{O O':Nat->Addr}{n n':Nat}(ha:∀j,j<n->O' j=O j)(hn:n<=n'){o:HO}{ob:Obj}(h:OR0 C O n o ob):OR0 C O' n' o ob:=by
 cases o with
 |list l=>obtain⟨xs,m,h1,h2⟩:=h;exact⟨xs,m,h1,VRs.mono ha hn h2⟩
 |tup l=>obtain⟨xs,m,h1,h2⟩:=h;exact⟨xs,m,h1,VRs.mono ha hn h2⟩
 |dict l=>obtain⟨xs,m,h1,h2⟩:=h;exact⟨xs,m,h1,h2.imp fun J J h=>⟨h.1,h.2.1,h.2.2.mono ha hn⟩⟩
 |ns l=>obtain⟨xs,m,h1,h2⟩:=h;exact⟨xs,m,h1,h2.imp fun J J h=>⟨h.1,h.2.1,h.2.2.mono ha hn⟩⟩
 |barr l=>exact h
 |inst c d=>obtain⟨h1,sl,h2⟩:=h;exact⟨QF h1 hn,sl,by rw[ha d h1];exact h2⟩
 |tab c=>
  cases c with
  |none=>exact⟨QF h.1 hn,(ha 7 h.1).trans h.2.1,h.2.2⟩
  |some j=>
   obtain⟨a,b,h1,ps,h2,h3,h4⟩:=h;exact⟨QF a hn,(ha 7 a).trans b,QF h1 hn,ps,h2,h3,by rw[ha j h1];exact h4⟩
 |code=>exact h
theorem OR.mono{O O':Nat->Addr}{n n':Nat}(ha:∀j,j<n->O' j=O j)(hn:n<=n'){o:HO}{ob:Obj}(h:OR C O n o ob):OR C O' n' o ob:=⟨h.1,h.2.mono ha hn⟩
theorem Lf.uw{O:Nat->Addr}{S:St}{h:Heap}(H:Lf C O S h)(hs:sysModules<C.h0.objs.size){j:Nat}(h7:7<=j)(hj:(S.get j).isSome):(O j==sysModules)=false:=
 beq_false_of_ne ((H.above j h7 hj).elim (fun q=>Nat.ne_of_gt (QF hs q)) fun q=>q.2)
theorem Lf.seven{O:Nat->Addr}{S:St}{h:Heap}(H:Lf C O S h):7<=S.n:=by
 obtain⟨o,ho⟩:=QD (H.fro 6 (by decide)).1;exact(H.live 6 o (H.frz 6 o ho)).1
theorem Lf.froA{O:Nat->Addr}{S:St}{h:Heap}(H:Lf C O S h):∀j,j<7->O j=C.froA j:=fun j hj=>(H.fro j hj).2
theorem Lf.none{O:Nat->Addr}{S:St}{h:Heap}(H:Lf C O S h){j:Nat}(hj:S.n<=j):S.get j=Option.none:=by
 cases e:S.get j with
 |none=>rfl
 |some o=>exact absurd (H.live j o e).1 (QJ hj)
theorem Lf.uo{O O':Nat->Addr}{S:St}{h h':Heap}(H:Lf C O S h)(ha:∀j,j<S.n->O' j=O j)(hk:∀j o,C.T0.get j=some o->(S.get j).isSome->∀ob,h.get? (O j)=some ob->h'.get? (O j)=some ob):
  ∀j es,C.T0.get j=some (.dict es)->∃ens,h'.get? (O' j)=some ⟨.type "dict",Option.none,.dict ens (C.epA j),#[]⟩:=fun j es hj=>by
 obtain⟨ens,he⟩:=H.ep j es hj;have hs:=H.frz j _ hj;exact⟨ens,by rw[ha j (H.live j _ hs).1];exact hk j _ hj (by rw[hs];rfl) _ he⟩
theorem Ext.dom{W:Addr->Prop}{O O':Nat->Addr}{S S':St}{s s':Shared}(X:Ext C W O S s O' S' s')(j:Nat)(h:j<S.n):(S'.get j).isSome↔(S.get j).isSome:=by
 have:=congrArg Option.isSome (X.kd j h);simp only[Option.isSome_map]at this;rw[this]
theorem Ext.refl{W:Addr->Prop}{O:Nat->Addr}{S:St}{s:Shared}(H:Lf C O S s.heap)(tk:Nat):Ext C W O S s O S {s with toks:=tk}:=
 ⟨fun J J=>rfl,QL _,fun J J=>rfl,fun j hj h=>(by rw[H.none hj]at h;cases h),fun J J e J J=>e,rfl,rfl⟩
end
structure Stt(C:Cx)(env:Env)(O:Nat->Addr)(S:St)(s:Shared):Prop where
 hr:Lf C O S s.heap
 lr:Ld C env O S s.heap
 old:∀b o,C.h0.get? b=some o->s.heap.get? b=some o
section
variable{C:Cx}{env:Env}{kk:Wk}{A:Around}{O:Nat->Addr}{S:St}{s:Shared}{α β:Type}
theorem Ext.trans{k:Wk}{O1 O2:Nat->Addr}{S1 S2:St}{sA s2:Shared}(a:Ext C (Wd env k) O S s O1 S1 sA)(z:Stt C env O1 S1 sA)(b:Ext C (Wd env k) O1 S1 sA O2 S2 s2):Ext C (Wd env k) O S s O2 S2 s2 where
 agree j hj:=(b.agree j (QF hj a.n)).trans (a.agree j hj)
 n:=QG a.n b.n
 kd j hj:=(b.kd j (QF hj a.n)).trans (a.kd j hj)
 new j hj h:=by
  by_cases q:j<S1.n
  ·rw[b.agree j q];exact a.new j hj ((b.dom j q).mp h)
  ·have h1:=b.new j (Nat.not_lt.mp q) h
   cases e:s.heap.get? (O2 j)with
   |none=>rfl
   |some o=>
    exfalso
    by_cases w:Wd env k (O2 j)
    ·rcases Uf w with w|⟨x,w⟩
     ·obtain⟨m,⟨o',_,_,ho,_⟩,_⟩:=z.lr.loc
      rw[<-w,h1]at ho;cases ho
     ·obtain⟨_,_,_,v,o',ho,_⟩:=z.lr.cell x _ w
      rw[h1]at ho;cases ho
    ·by_cases l:∀i,C.T0.get i=none->i<S.n->(S.get i).isSome->O i≠O2 j
     ·rw[a.keep _ o e w l]at h1;cases h1
     ·simp only[Classical.not_forall,not_imp,Classical.not_not,ne_eq]at l
      obtain⟨i,_,hin,hi,e'⟩:=l;obtain⟨o',ho'⟩:=QD ((a.dom i hin).mpr hi);obtain⟨_,ob,hob,_⟩:=z.hr.live i o' ho';rw[a.agree i hin,e',h1]at hob;cases hob
 keep x o e hW hl:=by
  refine b.keep x o (a.keep x o e hW hl) hW fun j hj J h=>?_
  by_cases q:j<S.n
  ·rw[a.agree j q];exact hl j hj q ((a.dom j q).mp h)
  ·intro e'
   have:=a.new j (Nat.not_lt.mp q) h;rw[e',e]at this;cases this
 gens:=b.gens.trans a.gens
 os:=b.os.trans a.os
theorem Stt.tok(Z:Stt C env O S s)(tk:Nat):Stt C env O S {s with toks:=tk}:=⟨Z.hr,Z.lr,Z.old⟩
abbrev Yt(α:Type):=(Nat->Addr)->Nat->α->Prop
def Qt(C:Cx)(env:Env)(k:Wk)(A:Around)(t:Sem α)(O:Nat->Addr)(S:St)(s:Shared)(S':St)(r:Yt α):Prop:=
 ∀(E:Value->Shared->Prop) (Q:α->Shared->Prop),(∀a O' s',Ext C (Wd env k) O S s O' S' s'->Stt C env O' S' s'->r O' S'.n a->Q a s')->wpAny (model C.prog C.w) A t Q E s
theorem Qt.use{t:Sem α}{S':St}{r:Yt α}(R:Qt C env kk A t O S s S' r){E:Value->Shared->Prop}{Q:α->Shared->Prop}
  (k:∀a O' s',Ext C (Wd env kk) O S s O' S' s'->Stt C env O' S' s'->r O' S'.n a->Q a s'):wpAny (model C.prog C.w) A t Q E s:=R E Q k
theorem Qt.bind{t:Sem α}{f:α->Sem β}{S1 S2:St}{rA:Yt α}{rB:Yt β}(R:Qt C env kk A t O S s S1 rA)
  (k:∀a O1 sA,Ext C (Wd env kk) O S s O1 S1 sA->Stt C env O1 S1 sA->rA O1 S1.n a->Qt C env kk A (f a) O1 S1 sA S2 rB):Qt C env kk A (t>>=f) O S s S2 rB:=
 fun E J q=>QN (R E _ fun a O1 sA x z h=>k a O1 sA x z h E _ fun b O2 s2 xA zA aJ=>q b O2 s2 (x.trans z xA) zA aJ)
theorem Qt.pure{a:α}{r:Yt α}(Z:Stt C env O S s)(h:r O S.n a):Qt C env kk A (pure a) O S s S r:=
 fun J J q=>QO (q a O s (by have:=Ext.refl (W:=Wd env kk) (s:=s) Z.hr s.toks;exact this) Z h)
theorem Qt.of{t:Sem α}{S':St}{r r':Yt α}(R:Qt C env kk A t O S s S' r)(h:∀O' a,r O' S'.n a->r' O' S'.n a):Qt C env kk A t O S s S' r':=
 fun E J q=>R E _ fun a O' s' x z y=>q a O' s' x z (h O' a y)
theorem Qt.holding{vs:List Value}{t:Sem α}{S':St}{r:Yt α}(R:Qt C env kk A t O S s S' r):Qt C env kk A (holding vs t) O S s S' r:=fun E Q q=>wpAny_holding (R E Q q)
theorem Qt.standAt{pos:Pos}{f:Unit->Sem α}{S':St}{r:Yt α}(R:Qt C env kk A (f ()) O S s S' r):Qt C env kk A (standAt pos>>=f) O S s S' r:=fun E Q q=>QN (wpAny_standAt (R E Q q))
theorem Qt.tok{t:Sem α}{r:Yt α}(Z:Stt C env O S s)(h:∀(E:Value->Shared->Prop) (Q:α->Shared->Prop),(∀a tk,r O S.n a->Q a {s with toks:=tk})->wpAny (model C.prog C.w) A t Q E s):Qt C env kk A t O S s S r:=
 fun E Q q=>h E Q fun a tk hr=>q a O _ (Ext.refl Z.hr tk) (Z.tok tk) hr
def Run(C:Cx)(env:Env)(k:Wk)(A:Around)(t:Sem α)(O:Nat->Addr)(S:St)(s:Shared)(S':St)(r:Yt α):Prop:=
 ∀(E:Value->Shared->Prop) (Q:α->Shared->Prop),(∀a O' s',Ext C (Wd env k) O S s O' S' s'->Stt C env O' S' s'->r O' S'.n a->Q a s')->wpC (model C.prog C.w) A t Q E s
theorem Run.use{t:Sem α}{S':St}{r:Yt α}(R:Run C env kk A t O S s S' r){E:Value->Shared->Prop}{Q:α->Shared->Prop}
  (k:∀a O' s',Ext C (Wd env kk) O S s O' S' s'->Stt C env O' S' s'->r O' S'.n a->Q a s'):wpC (model C.prog C.w) A t Q E s:=R E Q k
theorem Run.bind{t:Sem α}{f:α->Sem β}{S1 S2:St}{rA:Yt α}{rB:Yt β}(R:Run C env kk A t O S s S1 rA)
  (k:∀a O1 sA,Ext C (Wd env kk) O S s O1 S1 sA->Stt C env O1 S1 sA->rA O1 S1.n a->Run C env kk A (f a) O1 S1 sA S2 rB):Run C env kk A (t>>=f) O S s S2 rB:=
 fun E J q=>Qa (R E _ fun a O1 sA x z h=>k a O1 sA x z h E _ fun b O2 s2 xA zA aJ=>q b O2 s2 (x.trans z xA) zA aJ)
theorem Run.pure{a:α}{r:Yt α}(Z:Stt C env O S s)(h:r O S.n a):Run C env kk A (pure a) O S s S r:=
 fun J J q=>Qc (q a O s (by have:=Ext.refl (W:=Wd env kk) (s:=s) Z.hr s.toks;exact this) Z h)
theorem Run.of{t:Sem α}{S':St}{r r':Yt α}(R:Run C env kk A t O S s S' r)(h:∀O' a,r O' S'.n a->r' O' S'.n a):Run C env kk A t O S s S' r':=
 fun E J q=>R E _ fun a O' s' x z y=>q a O' s' x z (h O' a y)
theorem Run.holding{vs:List Value}{t:Sem α}{S':St}{r:Yt α}(R:Run C env kk A t O S s S' r):Run C env kk A (holding vs t) O S s S' r:=fun E Q q=>Qd (R E Q q)
theorem Run.standAt{pos:Pos}{f:Unit->Sem α}{S':St}{r:Yt α}(R:Run C env kk A (f ()) O S s S' r):Run C env kk A (standAt pos>>=f) O S s S' r:=fun E Q q=>Qa (Qi (R E Q q))
theorem Run.tok{t:Sem α}{r:Yt α}(Z:Stt C env O S s)(h:∀(E:Value->Shared->Prop) (Q:α->Shared->Prop),(∀a tk,r O S.n a->Q a {s with toks:=tk})->wpAny (model C.prog C.w) A t Q E s):Run C env kk A t O S s S r:=
 fun E Q q=>Qe<|h E Q fun a tk hr=>q a O _ (Ext.refl Z.hr tk) (Z.tok tk) hr
theorem Ext.wide{W W':Addr->Prop}{O':Nat->Addr}{S':St}{s':Shared}(h:∀a,W a->W' a)(X:Ext C W O S s O' S' s'):Ext C W' O S s O' S' s':=
 ⟨X.agree,X.n,X.kd,X.new,fun a o e w l=>X.keep a o e (fun q=>w (h a q)) l,X.gens,X.os⟩
theorem Qt.wide{t:Sem α}{S':St}{r:Yt α}(R:Qt C env .no A t O S s S' r):Qt C env kk A t O S s S' r:=fun E Q q=>R E Q fun a O' s' X=>q a O' s' (X.wide fun J h=>h.elim)
theorem Run.wide{t:Sem α}{S':St}{r:Yt α}(R:Run C env .no A t O S s S' r):Run C env kk A t O S s S' r:=fun E Q q=>R E Q fun a O' s' X=>q a O' s' (X.wide fun J h=>h.elim)
theorem Qt.c{t:Sem α}{S':St}{r:Yt α}(R:Qt C env kk A t O S s S' r):Run C env kk A t O S s S' r:=fun E Q q=>Qe (R E Q q)
end
end
section
theorem ff{p:Prop}(h:false=true):p:=nomatch h
section
set_option backward.match.sparseCases false
variable{X:Expr->Prop}{Y:Stmt->Prop}
noncomputable def Hg(f:Const->Bool):Expr->Bool
 |.Constant c _ _=>f c
 |_=>false
theorem Xy{f:Const->Bool}(k:∀zc zn zp,f zc=true->X (.Constant zc zn zp))(x:Expr):Hg f x=true->X x:=by
 cases x with
 |Constant zc zn zp=>exact k zc zn zp
 |_=>exact ff
noncomputable def Jg(f:Str->Pos->Bool):Expr->Bool
 |.Name s p=>f s p
 |_=>false
theorem Zh{f:Str->Pos->Bool}(k:∀zs zp,f zs zp=true->X (.Name zs zp))(x:Expr):Jg f x=true->X x:=by
 cases x with
 |Name zs zp=>exact k zs zp
 |_=>exact ff
noncomputable def Bn(f:Expr->Str->Pos->Bool):Expr->Bool
 |.Attribute a s p=>f a s p
 |_=>false
theorem Xb{f:Expr->Str->Pos->Bool}(k:∀za zs zp,f za zs zp=true->X (.Attribute za zs zp))(x:Expr):Bn f x=true->X x:=by
 cases x with
 |Attribute za zs zp=>exact k za zs zp
 |_=>exact ff
noncomputable def zJm(f:Expr->Operator->Expr->Bool):Expr->Bool
 |.BinOp l o r _=>f l o r
 |_=>false
theorem Ny{f:Expr->Operator->Expr->Bool}(k:∀zl zo zr zp,f zl zo zr=true->X (.BinOp zl zo zr zp))(x:Expr):zJm f x=true->X x:=by
 cases x with
 |BinOp zl zo zr zp=>exact k zl zo zr zp
 |_=>exact ff
noncomputable def zJl(f:Expr->(List CmpOp)->(List Expr)->Bool):Expr->Bool
 |.Compare l o r _=>f l o r
 |_=>false
theorem Nx{f:Expr->(List CmpOp)->(List Expr)->Bool}(k:∀zl zo zr zp,f zl zo zr=true->X (.Compare zl zo zr zp))(x:Expr):zJl f x=true->X x:=by
 cases x with
 |Compare zl zo zr zp=>exact k zl zo zr zp
 |_=>exact ff
noncomputable def onBool(f:BoolOp->(List Expr)->Bool):Expr->Bool
 |.BoolOp o l _=>f o l
 |_=>false
theorem Bm{f:BoolOp->(List Expr)->Bool}(k:∀zo zl zp,f zo zl=true->X (.BoolOp zo zl zp))(x:Expr):onBool f x=true->X x:=by
 cases x with
 |BoolOp zo zl zp=>exact k zo zl zp
 |_=>exact ff
noncomputable def xJe(f:UnaryOp->Expr->Bool):Expr->Bool
 |.UnaryOp o a _=>f o a
 |_=>false
theorem W9{f:UnaryOp->Expr->Bool}(k:∀zo za zp,f zo za=true->X (.UnaryOp zo za zp))(x:Expr):xJe f x=true->X x:=by
 cases x with
 |UnaryOp zo za zp=>exact k zo za zp
 |_=>exact ff
noncomputable def onIf(f:Expr->Expr->Expr->Bool):Expr->Bool
 |.IfExp t a b _=>f t a b
 |_=>false
theorem qZm{f:Expr->Expr->Expr->Bool}(k:∀zt za zb zp,f zt za zb=true->X (.IfExp zt za zb zp))(x:Expr):onIf f x=true->X x:=by
 cases x with
 |IfExp zt za zb zp=>exact k zt za zb zp
 |_=>exact ff
noncomputable def zJh(f:(List Expr)->Bool):Expr->Bool
 |.List l _=>f l
 |_=>false
theorem Nu{f:(List Expr)->Bool}(k:∀zl zp,f zl=true->X (.List zl zp))(x:Expr):zJh f x=true->X x:=by
 cases x with
 |List zl zp=>exact k zl zp
 |_=>exact ff
noncomputable def onTup(f:(List Expr)->Bool):Expr->Bool
 |.Tuple l _ _=>f l
 |_=>false
theorem Xx{f:(List Expr)->Bool}(k:∀zl zk zp,f zl=true->X (.Tuple zl zk zp))(x:Expr):onTup f x=true->X x:=by
 cases x with
 |Tuple zl zk zp=>exact k zl zk zp
 |_=>exact ff
noncomputable def zJk(f:(List (Option Expr))->(List Expr)->Bool):Expr->Bool
 |.Dict k l _=>f k l
 |_=>false
theorem Nw{f:(List (Option Expr))->(List Expr)->Bool}(k:∀zk zl zp,f zk zl=true->X (.Dict zk zl zp))(x:Expr):zJk f x=true->X x:=by
 cases x with
 |Dict zk zl zp=>exact k zk zl zp
 |_=>exact ff
noncomputable def xXh(f:Expr->(List Comprehension)->Scope->Bool):Expr->Bool
 |.ListComp e g sc _=>f e g sc
 |_=>false
theorem Bl{f:Expr->(List Comprehension)->Scope->Bool}(k:∀ze zg zsc zp,f ze zg zsc=true->X (.ListComp ze zg zsc zp))(x:Expr):xXh f x=true->X x:=by
 cases x with
 |ListComp ze zg zsc zp=>exact k ze zg zsc zp
 |_=>exact ff
noncomputable def Xz(f:Expr->(List Expr)->(List Keyword)->Pos->Bool):Expr->Bool
 |.Call u l k p=>f u l k p
 |_=>false
theorem Jt{f:Expr->(List Expr)->(List Keyword)->Pos->Bool}(k:∀zu zl zk zp,f zu zl zk zp=true->X (.Call zu zl zk zp))(x:Expr):Xz f x=true->X x:=by
 cases x with
 |Call zu zl zk zp=>exact k zu zl zk zp
 |_=>exact ff
noncomputable def zJi(f:Arguments->Expr->Scope->Pos->Bool):Expr->Bool
 |.Lambda g b sc p=>f g b sc p
 |_=>false
theorem qXv{f:Arguments->Expr->Scope->Pos->Bool}(k:∀zg zb zsc zp,f zg zb zsc zp=true->X (.Lambda zg zb zsc zp))(x:Expr):zJi f x=true->X x:=by
 cases x with
 |Lambda zg zb zsc zp=>exact k zg zb zsc zp
 |_=>exact ff
noncomputable def Nt(f:Expr->Expr->Bool):Expr->Bool
 |.Subscript a b _=>f a b
 |_=>false
theorem Ki{f:Expr->Expr->Bool}(k:∀za zb zp,f za zb=true->X (.Subscript za zb zp))(x:Expr):Nt f x=true->X x:=by
 cases x with
 |Subscript za zb zp=>exact k za zb zp
 |_=>exact ff
noncomputable def Hf(f:(Option Expr)->(Option Expr)->(Option Expr)->Bool):Expr->Bool
 |.Slice l h s _=>f l h s
 |_=>false
theorem Ga{f:(Option Expr)->(Option Expr)->(Option Expr)->Bool}(k:∀zl zh zs zp,f zl zh zs=true->X (.Slice zl zh zs zp))(x:Expr):Hf f x=true->X x:=by
 cases x with
 |Slice zl zh zs zp=>exact k zl zh zs zp
 |_=>exact ff
noncomputable def onEx(f:Expr->Bool):Stmt->Bool
 |.Expr e _=>f e
 |_=>false
theorem zJj{f:Expr->Bool}(k:∀ze zp,f ze=true->Y (.Expr ze zp))(x:Stmt):onEx f x=true->Y x:=by
 cases x with
 |Expr ze zp=>exact k ze zp
 |_=>exact ff
noncomputable def zJg(f:(Option Expr)->Bool):Stmt->Bool
 |.Return e _=>f e
 |_=>false
theorem qXu{f:(Option Expr)->Bool}(k:∀ze zp,f ze=true->Y (.Return ze zp))(x:Stmt):zJg f x=true->Y x:=by
 cases x with
 |Return ze zp=>exact k ze zp
 |_=>exact ff
noncomputable def Vm(f:(List Expr)->Expr->Bool):Stmt->Bool
 |.Assign t e _=>f t e
 |_=>false
theorem Nz{f:(List Expr)->Expr->Bool}(k:∀zt ze zp,f zt ze=true->Y (.Assign zt ze zp))(x:Stmt):Vm f x=true->Y x:=by
 cases x with
 |Assign zt ze zp=>exact k zt ze zp
 |_=>exact ff
noncomputable def zJf(f:Expr->(List Stmt)->(List Stmt)->Bool):Stmt->Bool
 |.If t a b _=>f t a b
 |_=>false
theorem qXt{f:Expr->(List Stmt)->(List Stmt)->Bool}(k:∀zt za zb zp,f zt za zb=true->Y (.If zt za zb zp))(x:Stmt):zJf f x=true->Y x:=by
 cases x with
 |If zt za zb zp=>exact k zt za zb zp
 |_=>exact ff
noncomputable def onWh(f:Expr->(List Stmt)->(List Stmt)->Bool):Stmt->Bool
 |.While t a b _=>f t a b
 |_=>false
theorem zJd{f:Expr->(List Stmt)->(List Stmt)->Bool}(k:∀zt za zb zp,f zt za zb=true->Y (.While zt za zb zp))(x:Stmt):onWh f x=true->Y x:=by
 cases x with
 |While zt za zb zp=>exact k zt za zb zp
 |_=>exact ff
noncomputable def qXw(f:Expr->Expr->(List Stmt)->(List Stmt)->Bool):Stmt->Bool
 |.For t i a b _=>f t i a b
 |_=>false
theorem Nv{f:Expr->Expr->(List Stmt)->(List Stmt)->Bool}(k:∀zt zi za zb zp,f zt zi za zb=true->Y (.For zt zi za zb zp))(x:Stmt):qXw f x=true->Y x:=by
 cases x with
 |For zt zi za zb zp=>exact k zt zi za zb zp
 |_=>exact ff
noncomputable def qZl(f:Bool):Stmt->Bool
 |.Pass _=>f
 |_=>false
theorem Tw{f:Bool}(k:∀zp,f=true->Y (.Pass zp))(x:Stmt):qZl f x=true->Y x:=by
 cases x with
 |Pass zp=>exact k zp
 |_=>exact ff
noncomputable def zJe(f:(List Stmt)->(List ExceptHandler)->(List Stmt)->(List Stmt)->Bool):Stmt->Bool
 |.Try a h b c _=>f a h b c
 |_=>false
theorem qXs{f:(List Stmt)->(List ExceptHandler)->(List Stmt)->(List Stmt)->Bool}(k:∀za zh zb zc zp,f za zh zb zc=true->Y (.Try za zh zb zc zp))(x:Stmt):zJe f x=true->Y x:=by
 cases x with
 |Try za zh zb zc zp=>exact k za zh zb zc zp
 |_=>exact ff
noncomputable def on1{α:Type}(f:α->Bool):List α->Bool
 |[a]=>f a
 |_=>false
theorem Vn{α:Type}{f:α->Bool}{Q:List α->Prop}(k:∀a,f a=true->Q [a]):∀l:List α,on1 f l=true->Q l
 |[],h=>ff h
 |[a],h=>k a h
 |_::_::_,h=>ff h
noncomputable def kwK(f:Str->Expr->Bool):Keyword->Bool
 |⟨some s,e,_⟩=>f s e
 |⟨none,_,_⟩=>false
theorem xQc{f:Str->Expr->Bool}{Q:Keyword->Prop}(k:∀s e p,f s e=true->Q ⟨some s,e,p⟩):∀w,kwK f w=true->Q w
 |⟨some s,e,p⟩,h=>k s e p h
 |⟨none,_,_⟩,h=>ff h
noncomputable def onG(f:Expr->Expr->List Expr->Bool):Comprehension->Bool
 |⟨t,i,l,n⟩=>decide (n=0)&&f t i l
theorem Tx{f:Expr->Expr->List Expr->Bool}{Q:Comprehension->Prop}(k:∀t i l,f t i l=true->Q ⟨t,i,l,0⟩):∀g:Comprehension,onG f g=true->Q g
 |⟨t,i,l,n⟩,h=>by
  have h:(decide (n=0)&&f t i l)=true:=h;rw[QB,decide_eq_true_eq]at h;rw[h.1];exact k t i l h.2
end
abbrev Nms:=List (Str × NameKind)
noncomputable def kB8(x:B8)(y:UInt8):Bool:=B8.rec (motive:=fun J=>Bool) (fun n=>Nat.beq n y.toNat) (fun J=>false) x
noncomputable def Q9{α β:Type}(f:α->β->Bool):List α->List β->Bool
 |[],[]=>true
 |a::r,b::t=>f a b&&Q9 f r t
 |_,_=>false
def kCst(v:HV):Const->Bool
 |.none=>v.uq false true
 |.bool b=>v.onBool false fun a=>Mm a b
 |.int j=>v.uf false fun i=>decide (i=j)
 |.str s=>v.onStr false fun k=>tx k==s
 |.bytes b=>v.onBytes false fun l=>Q9 kB8 l b
 |_=>false
noncomputable def bl1:List B8->List B8->Bool
 |[.lit a],[.lit b]=>Nat.beq a b
 |_,_=>false
def hvEq:HV->HV->Bool
 |.fn a,.fn b=>Nat.beq a b
 |.cls a,.cls b=>Nat.beq a b
 |.bi a,.bi b=>Nat.beq a b
 |.typ a,.typ b=>Nat.beq a b
 |.obj a,.obj b=>Nat.beq a b
 |.str a,.str b=>Nat.beq a b
 |.int a,.int b=>decide (a=b)
 |.bytes a,.bytes b=>bl1 a b
 |_,_=>false
variable(gT:Nat->Option HV)
noncomputable def Bo(s:Str):Bool:= !(s==("__debug__":Str))&& !(s==("__classdict__":Str))
noncomputable def isLC:Option NameKind->Bool
 |some .local=>true
 |some .cell=>true
 |_=>false
def K7(nm:Nms)(i:Nat)(s:Str):Bool:=tx i==s&&isLC (nm.lookup s)&&Bo s
noncomputable def zQ8:Option NameKind->Bool
 |some .globalImplicit=>true
 |_=>false
def xJk(nm:Nms)(i:Nat)(v:HV)(s:Str):Bool:=tx i==s&&zQ8 (nm.lookup s)&&Bo s&&(match gT i with|some u=>hvEq u v|none=>false)
noncomputable def opN(op:Nat):Operator->Bool
 |.Add=>Nat.beq op 0|.Sub=>Nat.beq op 1|.Mult=>Nat.beq op 2|.FloorDiv=>Nat.beq op 3|.Mod=>Nat.beq op 4|.Pow=>Nat.beq op 5|_=>false
noncomputable def cmN(op:Nat):CmpOp->Bool
 |.Eq=>Nat.beq op 0|.NotEq=>Nat.beq op 1|.Lt=>Nat.beq op 2|.LtE=>Nat.beq op 3|.Gt=>Nat.beq op 4|.GtE=>Nat.beq op 5|.In=>Nat.beq op 6|.NotIn=>Nat.beq op 7|.Is=>Nat.beq op 8|.IsNot=>Nat.beq op 9
noncomputable def kO{α:Type}(f:HE->α->Bool):Option HE->Option α->Bool
 |none,none=>true
 |some e,some x=>f e x
 |_,_=>false
def tgN(nm:Nms)(i:Nat):Expr->Bool
 |.Name s _=>K7 nm i s
 |_=>false
def kTg(nm:Nms)(one:Bool)(ts:List Nat):Expr->Bool
 |.Name s _=>one&&ls1 ts false fun i=>K7 nm i s
 |.Tuple l _ _=> !one&&Q9 (tgN nm) ts l
 |_=>false
noncomputable def Hq:Option NameKind->Bool
 |some .local=>true
 |_=>false
def locN(nm:Nms):Expr->Bool
 |.Name s _=>Hq (nm.lookup s)
 |_=>false
def Jo(nm:Nms):Expr->Bool
 |.Name s _=>Hq (nm.lookup s)
 |.Tuple l _ _=>l.all (locN nm)
 |_=>false
noncomputable def Hj:Expr->Bool
 |.Set .. =>false
 |_=>true
noncomputable def Zd:Expr->Bool
 |.Starred .. =>false
 |_=>true
def qQ5(w:Str)(nm:Nms)(h:List Expr->Bool)(x:Expr):Bool:=Xz (fun u l kw J=>kw.isEmpty&&(Jg (fun s J=>s==w&&zQ8 (nm.lookup s)) u&&h l)) x
@[elab_as_elim] theorem callG_k {w:Str} {nm:Nms} {h:List Expr->Bool} {X:Expr->Prop} (k:∀l p pos,zQ8 (nm.lookup w)=true->h l=true->X (.Call (.Name w p) l [] pos)) (x:Expr) (e:qQ5 w nm h x=true):X x:=by
 refine Jt (fun u l kw pos e=>?_) x e;cases kw with
 |cons _ _=>exact ff e
 |nil=>
  obtain⟨e1,e2⟩:=QA (QA e).2;refine Zh (X:=fun u=>X (.Call u l [] pos)) (fun s p e=>?_) u e1;obtain⟨e3,e4⟩:=QA e;obtain rfl:=eq_of_beq e3;exact k l p pos e4 e2
def kIt(f:HE->Expr->Bool)(nm:Nms)(k:Nat)(its:List HE)(x:Expr):Bool:=hif (Nat.beq k 0) (ls1 its false fun e=>Hj x&&f e x)<|
 hif (Nat.beq k 1) (ls1 its false fun e=>qQ5 "range" nm (fun l=>ls1 l false fun a=>Zd a&&f e a) x)<|hif (Nat.beq k 2) (ls2 its false fun d e=>qQ5 "zip" nm (fun l=>ls2 l false fun a b=>Zd a&&(Zd b&&(f d a&&f e b))) x)<|
 hif (Nat.beq k 3) (ls1 its false fun e=>qQ5 "enumerate" nm (fun l=>ls1 l false fun a=>Zd a&&f e a) x) false
noncomputable def Qp(sc:Scope)(nm:Nms):Nms:=sc.names.map fun p=>if p.2==.free&&nm.lookup p.1==some .cell then(p.1,.cell)else p
def Y0:Expr->Bool
 |.Call _ l _ _=>ls0 l true false
 |_=>true
noncomputable def cStr:Const->(Str->Bool)->Bool
 |.str s,f=>f s
 |_,_=>false
def qQm(k:Nat)(o:Option Expr):Bool:=oD o false fun e=>Hg (fun c=>cStr c fun s=>tx k==s) e
def Jq(g:HE->Expr->Bool)(cond:Option HE)(ifs:List Expr):Bool:=Option.rec (motive:=fun J=>Bool) (ls0 ifs false true) (fun c=>ls1 ifs false (g c)) cond
def Jh(sc:Scope)(nm:Nms):Bool:=(match sc.kind with|.function=>true|_=>false)&&sc.names.all (fun p=>match p.2 with
 |.local=>isLC (sc.names.lookup p.1)&&(match sc.names.lookup p.1 with|some .local=>true|_=>false)
 |.free=>(match nm.lookup p.1 with|some .cell=>true|_=>false)
 |.cell=>false
 |_=>true)
def Z9(sc:Scope)(tgt:List Nat):Bool:=sc.names.all fun p=>match p.2 with
 |.local=>tgt.any (fun i=>tx i==p.1)||p.1==(".0":Str)
 |_=>true
noncomputable def Bq:Expr->Bool
 |.Slice .. =>false
 |_=>true
noncomputable def Dt:UnaryOp->Bool
 |.Not=>true
 |_=>false
noncomputable def qZr:UnaryOp->Bool
 |.USub=>true
 |_=>false
noncomputable def qZv:BoolOp->Bool
 |.And=>true
 |.Or=>false
def Qq:Nat->Nms->HE->Expr->Bool
 |0,_,_,_=>false
 |f+1,nm,e,x=>match e with
  |.c v=>Hg (kCst v) x
  |.x i=>Jg (fun s J=>K7 nm i s) x
  |.gv i v=>Jg (fun s J=>xJk gT nm i v s) x
  |.att o i=>Bn (fun a s J=>Y0 a&&tx i==s&&Qq f nm o a) x
  |.bin op a b=>zJm (fun l o r=>opN op o&&Qq f nm a l&&Qq f nm b r) x
  |.cmp op a b=>zJl (fun l os rs=>on1 (fun o=>on1 (fun r=>Hj r&&cmN op o&&Qq f nm a l&&Qq f nm b r) rs) os) x
  |.bo isAnd l=>onBool (fun o xs=>Mm isAnd (qZv o)&&Q9 (Qq f nm) l xs) x
  |.not a=>xJe (fun o b=>Dt o&&Qq f nm a b) x
  |.neg a=>xJe (fun o b=>qZr o&&Qq f nm a b) x
  |.ite t a b=>onIf (fun t' a' b'=>Qq f nm t t'&&Qq f nm a a'&&Qq f nm b b') x
  |.lst l=>zJh (fun xs=>xs.all Zd&&Q9 (Qq f nm) l xs) x
  |.tup l=>onTup (fun xs=>xs.all Zd&&Q9 (Qq f nm) l xs) x
  |.dct ks l=>zJk (fun ks' xs=>Kw ks&&Nat.ble ks.length 15&&Q9 qQm ks ks'&&Q9 (Qq f nm) l xs) x
  |.comp elt tgt one k its cond=>xXh (fun el gs sc=>on1 (onG fun t it ifs=>Jh sc nm&&Z9 sc tgt&&Zd it&&kIt (Qq f nm) nm k its it&&kTg (Qp sc nm) one tgt t&&Jo (Qp sc nm) t&&Qq f (Qp sc nm) elt el&&Jq (Qq f (Qp sc nm)) cond ifs) gs) x
  |.call g as=>Xz (fun fn xs ks J=>ks.isEmpty&&Jg (fun s p=>xs.all Zd&&Qq f nm g (.Name s p)&&Q9 (Qq f nm) as xs) fn) x
  |.meth o i as=>Xz (fun fn xs ks p=>ks.isEmpty&&Bn (fun a s ap=>Y0 a&&tx i==s&&Nat.beq ap.endLine p.line&&Nat.ble xs.length 20&&xs.all Zd&&Qq f nm o a&&Q9 (Qq f nm) as xs) fn) x
  |.sub o i=>Nt (fun a b=>Bq b&&Qq f nm o a&&Qq f nm i b) x
  |.sl o lo hi st=>Nt (fun a b=>Hf (fun l h s=>Qq f nm o a&&kO (Qq f nm) lo l&&kO (Qq f nm) hi h&&kO (Qq f nm) st s) b) x
  |.stuck=>true
noncomputable def noC:Expr->Bool
 |.ListComp .. =>false|.SetComp .. =>false|.DictComp .. =>false|_=>true
noncomputable def qZs:HE->Bool
 |.comp .. =>true
 |_=>false
def xZh(e:HE):Expr->Bool
 |.ListComp .. =>qZs e
 |.SetComp .. =>false
 |.DictComp .. =>false
 |_=>true
noncomputable def N7:Expr->Bool
 |.ListComp .. =>false
 |.SetComp .. =>false
 |.DictComp .. =>false
 |_=>true
def N6:Expr->Bool
 |.Tuple .. =>false
 |.List .. =>false
 |a=>N7 a
noncomputable def Dv:HE->Bool
 |.c v=>(match v with|.none=>true|_=>false)
 |_=>false
def kRet(f:HE->Expr->Bool)(e:HE):Option Expr->Bool
 |some a=>f e a
 |none=>Dv e
noncomputable def on2{α:Type}(f:α->α->Bool):List α->Bool
 |[a,b]=>f a b
 |_=>false
theorem qXx{α:Type}{f:α->α->Bool}{Q:List α->Prop}(k:∀a b,f a b=true->Q [a,b]):∀l:List α,on2 f l=true->Q l
 |[],h=>ff h
 |[_],h=>ff h
 |[a,b],h=>k a b h
 |_::_::_::_,h=>ff h
theorem zQ1{f:Expr->Expr->Bool}{Q:Stmt->Prop}(k:∀t a pos,f t a=true->Q (.Assign [t] a pos))(x:Stmt):Vm (fun ts a=>on1 (fun t=>f t a) ts) x=true->Q x:=
 Nz (fun ts a pos hc=>Vn (Q:=fun ts=>Q (.Assign ts a pos)) (fun t hc=>k t a pos hc) ts hc) x
def Vf:Nat->Nms->HS->Stmt->Bool
 |0,_,_,_=>false
 |f+1,nm,st,x=>match st with
  |.ex e=>onEx (fun a=>N7 a&&Qq gT 40 nm e a) x
  |.ret e=>zJg (fun a=>kRet (Qq gT 40 nm) e a) x
  |.asN i e=>Vm (fun ts a=>on1 (fun t=>Jg (fun s J=>K7 nm i s&&xZh e a&&Qq gT 40 nm e a) t) ts) x
  |.asA o i e=>Vm (fun ts a=>on1 (fun t=>Bn (fun b s J=>tx i==s&&Qq gT 40 nm o b&&Qq gT 40 nm e a) t) ts) x
  |.asS o i e=>Vm (fun ts a=>on1 (fun t=>Nt (fun b j=>Bq j&&Qq gT 40 nm o b&&Qq gT 40 nm i j&&Qq gT 40 nm e a) t) ts) x
  |.asL o lo hi e=>Vm (fun ts a=>on1 (fun t=>Nt (fun b j=>Hf (fun l h u=>u.isNone&&Qq gT 40 nm o b&&kO (Qq gT 40 nm) lo l&&kO (Qq gT 40 nm) hi h&&Qq gT 40 nm e a) j) t) ts) x
  |.asT tl e=>Vm (fun ts a=>on1 (fun t=>onTup (fun l=>N6 a&&Q9 (tgN nm) tl l&&Qq gT 40 nm e a) t) ts) x
  |.asX tl es=>Vm (fun ts a=>on1 (fun t=>onTup (fun l=>onTup (fun r=>r.all Zd&& !(r.all (constantsAlone 8))&&Kw tl&&Nat.ble tl.length 20&&Q9 (tgN nm) tl l&&Q9 (Qq gT 40 nm) es r) a) t) ts) x
  |.ite t a b=>zJf (fun t' a' b'=>Qq gT 40 nm t t'&&Q9 (Vf f nm) a a'&&Q9 (Vf f nm) b b') x
  |.wh t b=>onWh (fun t' b' o=>o.isEmpty&&(Qq gT 40 nm t t'&&Q9 (Vf f nm) b b')) x
  |.fr tgt one k its b=>qXw (fun t it b' o=>o.isEmpty&&(Zd it&&kIt (Qq gT 40 nm) nm k its it&&kTg nm one tgt t&&Q9 (Vf f nm) b b')) x
  |.pass=>qZl true x
  |.tr b=>zJe (fun b' hs o u=> !hs.isEmpty&&(o.isEmpty&&(u.isEmpty&&Q9 (Vf f nm) b b'))) x
  |.stuck=>true
  |.asC2 i elt t1 o1 k1 i1 t2 o2 k2 i2 cond=>Vm (fun ts a=>on1 (fun t=>Jg (fun s J=>xXh (fun el gs sc=>on2 (fun g1 g2=>onG (fun ta ia l1=>l1.isEmpty&&onG (fun tb ib ifs=>K7 nm i s&&(Jh sc nm&&(Z9 sc (t1++t2)&&(kIt (Qq gT 40 nm) nm k1 i1 ia&&(kTg (Qp sc nm) o1 t1 ta&&(Jo (Qp sc nm) ta&&
     (kIt (Qq gT 40 (Qp sc nm)) (Qp sc nm) k2 i2 ib&&(kTg (Qp sc nm) o2 t2 tb&&(Jo (Qp sc nm) tb&&(Qq gT 40 (Qp sc nm) elt el&&Jq (Qq gT 40 (Qp sc nm)) cond ifs)))))))))) g2) g1) gs) a) t) ts) x
end
theorem Qb{α β:Type}{x:R α}{f:α->St->R β}{b:β}{S':St}(h:R.bind x f=.ok b S'):∃a S1,x=.ok a S1/\f a S1=.ok b S':=by
 cases x with
 |no=>cases h
 |ok a S1=>exact⟨a,S1,rfl,h⟩
theorem Q8{α:Type}{x:Option α}{S S':St}{a:α}(h:ofO x S=.ok a S'):x=some a/\S'=S:=by
 cases x with
 |none=>cases h
 |some b=>cases h;exact⟨rfl,rfl⟩
theorem X0{x:Option St}{S':St}{a:Unit}(h:ofS x=.ok a S'):x=some S':=by
 cases x with
 |none=>cases h
 |some b=>cases h;rfl
theorem Qk{α:Type}{b:Bool}{x:R α}{a:α}{S':St}(h:Za b x=.ok a S'):b=true/\x=.ok a S':=by
 cases b with
 |false=>cases h
 |true=>exact⟨rfl,h⟩
theorem Qj{α:Type}{b:Bool}{x:Option α}{a:α}(h:Qs b x=some a):b=true/\x=some a:=by
 cases b with
 |false=>cases h
 |true=>exact⟨rfl,h⟩
theorem Qn{α β:Type}{x:Option α}{f:α->Option β}{b:β}(h:ob x f=some b):∃a,x=some a/\f a=some b:=by
 cases x with
 |none=>cases h
 |some a=>exact⟨a,rfl,h⟩
theorem Pl(a b:Bool):Mm a b=(a==b):=by cases a<;>cases b<;>rfl
theorem Z5{a b:Nat}(h:Nat.beq a b=true):a=b:=QC h
structure Qm(env:Env)(nm:Nms):Prop where
 names:env.scope.names=nm
 kind:env.scope.kind=.function
 glob:env.globals=mainGlobals
 blt:env.builtins=builtinsNs
 cells:∀x,nm.lookup x=some .cell->∃c,env.cells.lookup x=some c
structure AOk(D:Nat)(A:Around):Prop where
 handled:A.handled=none
 depth:A.depth+D<900
 units:A.units+4*D<9800
theorem AOk.less{D D':Nat}{A:Around}(h:AOk D A)(l:D'<=D):AOk D' A:=⟨h.handled,by have:=h.depth;omega,by have:=h.units;omega⟩
theorem Qm.kindOf{env:Env}{nm:Nms}(h:Qm env nm)(x:Str):env.kindOf x=nm.lookup x:=by
 show env.scope.names.lookup x=_;rw[h.names]
section
variable(C:Cx)(gT:Nat->Option HV)
noncomputable abbrev Q4 (V:HV):Yt Value:=fun O n v=>VR C O n V v
def SE(ev:HE->St->R HV)(D:Nat):Prop:=∀f nm e x env A O S s V S',Qq gT f nm e x=true->Qm env nm->AOk D A->Stt C env O S s->ev e S=.ok V S'->
 Run C env .no A (eval x env) O S s S' (Q4 C V)
def ST(ts:HE->St->R Bool)(D:Nat):Prop:=∀f nm e x env A O S s b S',Qq gT f nm e x=true->Qm env nm->AOk D A->Stt C env O S s->ts e S=.ok b S'->
 Run C env .no A (isTrue x env (eval x env)) O S s S' (fun J J b'=>b'=b)
noncomputable def Jd:Fl->Yt Flow
 |.next=>fun J J f=>f=.next
 |.ret V=>fun O n f=>∃v,f=.ret v/\VR C O n V v
def SX(xs:List HS->St->R Fl)(D:Nat):Prop:=∀f nm l xl env A O S s fl S',Q9 (Vf gT f nm) l xl=true->Qm env nm->AOk D A->Stt C env O S s->xs l S=.ok fl S'->
 Run C env .all A (execs xl env) O S s S' (Jd C fl)
end
section
variable{C:Cx}{gT:Nat->Option HV}{env:Env}{nm:Nms}{A:Around}{O:Nat->Addr}{S S':St}{s:Shared}{D f:Nat}{ev:HE->St->R HV}{ts:HE->St->R Bool}{xs:List HS->St->R Fl}
theorem Jv{x:Expr}{r:List Expr}(h:Zd x=true):starEach (x::r) env=(false,eval x env)::starEach r env:=by
 cases x<;>first|rfl|cases h
theorem Kg(hE:SE C gT ev D)(ho:Qm env nm)(hA:AOk D A)(pos:Pos):∀(l:List HE) (xl:List Expr) (O:Nat->Addr) (S:St) (s:Shared) (vs:List HV) (S':St),
  Q9 (Qq gT f nm) l xl=true->xl.all Zd=true->Stt C env O S s->evs ev l S=.ok vs S'->Run C env .no A (spliced (backTo pos (starEach xl env))) O S s S' (fun O n vs'=>F2 (VR C O n) vs vs')
 |[],[],O,S,s,vs,S',_,_,Z,h=>by
  cases h;exact Run.pure Z .nil
 |e::l,x::xl,O,S,s,vs,S',hc,hs,Z,h=>by
  obtain⟨v,S1,h1,h⟩:=Qb h;obtain⟨vs',S2,h2,h⟩:=Qb h;cases h;replace hc:=QA hc;simp only[List.all_cons,QB]at hs;rw[Jv hs.1];show Run C env .no A (spliced ((false,eval x env)::backTo pos (starEach xl env))) _ _ _ _ _;unfold spliced;refine Run.bind (hE _ _ _ _ _ _ _ _ _ _ _ hc.1 ho hA Z h1) fun v' O1 sA X ZC hv=>?_;simp only[Bool.false_eq_true,if_false];refine Run.bind (Run.pure (r:=fun J J l=>l=[v']) ZC rfl) fun l' O2 s2 XD ZD e=>?_;subst e;refine Run.bind (Run.holding (Kg hE ho hA pos l xl O2 S1 s2 vs' S2 hc.2 hs.2 ZD h2)) fun vs'' O3 s3 XE ZE hvs=>Run.pure ZE ?_;exact .cons ((hv.mono XD.agree XD.n).mono XE.agree XE.n) hvs
 |[],_::_,_,_,_,_,_,hc,_,_,_=>by cases hc
 |_::_,[],_,_,_,_,_,hc,_,_,_=>by cases hc
end
section
variable{C:Cx}{env:Env}{O:Nat->Addr}{S:St}{s:Shared}
theorem Zz{S S':St}{o:HO}{V:HV}(h:S.new o=.ok V S'):S.n<=100000/\V=.obj S.n/\S'=⟨S.t.set 40 S.n o,S.n+1,S.loc⟩:=by
 obtain⟨h1,h2⟩:=Qk h;cases h2;simp only[QB]at h1;exact⟨QE h1.1,rfl,rfl⟩
theorem Zr{S S':St}{o:HO}{V:HV}(h:S.new o=.ok V S'):szO o<=1000:=by
 obtain⟨h1,h2⟩:=Qk h;simp only[QB]at h1;exact QE h1.2
theorem X7{P:Par}{S S':St}{j:Nat}{o:HO}(h:L3 P S j o=some S'):P.T0.get j=none/\szO o<=1000/\S'=S.set j o:=by
 obtain⟨h1,h2⟩:=Qj h;cases h2;simp only[QB,Option.isNone_iff_eq_none]at h1;exact⟨h1.1,QE h1.2,rfl⟩
noncomputable def qQa(O:Nat->Addr)(n:Nat)(a:Addr)(j:Nat):Addr:=if j=n then a else O j
theorem Qu{n:Nat}{a:Addr}{j:Nat}(h:j<n):qQa O n a j=O j:=if_neg (Nat.ne_of_lt h)
theorem Ql{n:Nat}{a:Addr}:qQa O n a n=a:=if_pos rfl
theorem U5{o:HO}(hn:S.n<=100000)(j:Nat):(⟨S.t.set 40 S.n o,S.n+1,S.loc⟩:St).get j=if j=S.n then some o else S.get j:=Tr.get_set o 39 S.t S.n (by omega) j
theorem Ld.grow{h h':Heap}{O':Nat->Addr}{S':St}(L:Ld C env O S h)(ha:∀j,j<S.n->O' j=O j)(hn:S.n<=S'.n)(hloc:S'.loc=S.loc)
  (hk:∀b,Wr env b->∀o,h.get? b=some o->h'.get? b=some o) (off:∀j,(S'.get j).isSome->¬Wr env (O' j)):Ld C env O' S' h' where
 above:=L.above
 off j hj e:=off j hj (.inl e)
 cell x c hc:=⟨(L.cell x c hc).1,(L.cell x c hc).2.1,fun j hj e=>off j hj (.inr ⟨x,e▸hc⟩),let⟨v,o,ho,hd⟩:=(L.cell x c hc).2.2.2;⟨v,o,hk c (.inr ⟨x,hc⟩) o ho,hd⟩⟩
 apart:=L.apart
 loc:=by
  obtain⟨m,⟨o,es,ep,ho,r⟩,hl⟩:=L.loc;refine⟨m,⟨o,es,ep,hk _ (.inl rfl) o ho,r⟩,fun i V hV=>?_⟩;rw[hloc]at hV;obtain⟨v,hv,hL⟩:=hl i V hV;refine⟨v,hv.mono ha hn,?_⟩;unfold Loc at hL⊢;split at hL
  ·exact hL
  ·obtain⟨c,hc,o,ho,hd⟩:=hL
   exact⟨c,hc,o,hk c (.inr ⟨_,hc⟩) o ho,hd⟩
  ·trivial
theorem Ld.uh{h:Heap}(L:Ld C env O S h){b:Addr}(hb:Wr env b):b<h.objs.size:=by
 rcases hb with rfl|⟨x,hx⟩
 ·obtain⟨m,hm,_⟩:=L.loc;exact hm.lt
 ·obtain⟨_,_,_,v,hv⟩:=L.cell x b hx;exact hv.lt
theorem Ld.ul{h:Heap}(L:Ld C env O S h){j:Nat}(hj:(S.get j).isSome):¬Wr env (O j):=by
 rintro(e|⟨x,hx⟩)
 ·exact L.off j hj e
 ·exact(L.cell x _ hx).2.2.1 j hj rfl
theorem Ld.uR{h:Heap}(L:Ld C env O S h){b:Addr}(hb:Wr env b):C.h0.objs.size<=b:=by
 rcases hb with rfl|⟨x,hx⟩
 ·exact L.above
 ·exact(L.cell x b hx).1
theorem Stt.push{W:Addr->Prop}(Z:Stt C env O S s){o:HO}{ob:Obj}(hf:ob.isFreed=false)(hn:S.n<=100000)(ho:OR C O S.n o ob)(tk:Nat):
  Ext C W O S s (qQa O S.n s.heap.objs.size) ⟨S.t.set 40 S.n o,S.n+1,S.loc⟩ {s with heap:=s.heap.push ob,toks:=tk}/\
  Stt C env (qQa O S.n s.heap.objs.size) ⟨S.t.set 40 S.n o,S.n+1,S.loc⟩ {s with heap:=s.heap.push ob,toks:=tk}:=by
 have hk:∀b x,s.heap.get? b=some x->(s.heap.push ob).get? b=some x:=fun b x e=>Heap.get?_push_of_some ob e;have hg:=U5 (S:=S) (o:=o) hn;have live:∀j,(S.get j).isSome->j<S.n:=fun j hj=>by
  obtain⟨x,hx⟩:=QD hj;exact(Z.hr.live j x hx).1
 have lt:∀j,(S.get j).isSome->O j<s.heap.objs.size:=fun j hj=>by
  obtain⟨x,hx⟩:=QD hj;obtain⟨_,y,hy,_⟩:=Z.hr.live j x hx;exact QH hy
 have base:C.h0.objs.size<=s.heap.objs.size:=QG Z.lr.above (Nat.le_of_lt (Z.lr.uh (.inl rfl)));refine⟨⟨fun j hj=>Qu hj,Nat.le_succ _,fun j hj=>by rw[hg,if_neg (Nat.ne_of_lt hj)],fun j hj h=>?_,
   fun a x e J J=>hk a x e,rfl,rfl⟩,⟨⟨fun j x hx=>?_,fun i j hi hj e=>?_,fun j hj h=>?_,by show S.n+1<=_;omega,fun j o hj=>by rw[hg,if_neg (Nat.ne_of_lt (live j (by rw[Z.hr.frz j o hj];rfl)))];exact Z.hr.frz j o hj,
   fun j hj=>⟨(Z.hr.fro j hj).1,(Qu (QF hj Z.hr.seven)).trans (Z.hr.froA j hj)⟩,Z.hr.uo (fun j hj=>Qu hj) fun j o J J ob e=>hk _ _ e⟩,?_,fun b x e=>hk b x (Z.old b x e)⟩⟩
 ·rw[hg]at h
  by_cases q:j=S.n
  ·rw[q,Ql]
   cases e:s.heap.get? s.heap.objs.size with
   |none=>rfl
   |some o=>exact absurd (QH e) (QM _)
  ·rw[if_neg q,Z.hr.none hj]at h;cases h
 ·rw[hg]at hx
  by_cases q:j=S.n
  ·subst q
   rw[if_pos rfl]at hx;cases hx;refine⟨QK _,ob,?_,ho.mono (fun j hj=>Qu hj) (Nat.le_succ _)⟩;rw[Ql];exact Heap.get?_push_size _ hf
  ·rw[if_neg q]at hx
   obtain⟨h1,y,hy,hr⟩:=Z.hr.live j x hx;exact⟨Nat.lt_succ_of_lt h1,y,by rw[Qu h1];exact hk _ _ hy,hr.mono (fun j hj=>Qu hj) (Nat.le_succ _)⟩
 ·rw[hg]at hi hj
  by_cases qi:i=S.n<;>by_cases qj:j=S.n
  ·rw[qi,qj]
  ·rw[if_neg qj]at hj
   rw[qi,Ql,Qu (live j hj)]at e;exact absurd (lt j hj) (by rw[<-e];exact QM _)
  ·rw[if_neg qi]at hi
   rw[qj,Ql,Qu (live i hi)]at e;exact absurd (lt i hi) (by rw[e];exact QM _)
  ·rw[if_neg qi]at hi
   rw[if_neg qj]at hj;rw[Qu (live i hi),Qu (live j hj)]at e;exact Z.hr.inj i j hi hj e
 ·rw[hg]at h
  by_cases q:j=S.n
  ·rw[q,Ql];exact .inl base
  ·rw[if_neg q]at h
   rw[Qu (live j h)];exact Z.hr.above j hj h
 ·refine Z.lr.grow (fun j hj=>Qu hj) (Nat.le_succ _) rfl (fun b J o e=>hk b o e) fun j hj=>?_
  rw[hg]at hj
  by_cases q:j=S.n
  ·rw[q,Ql];exact fun w=>absurd (Z.lr.uh w) (QM _)
  ·rw[if_neg q]at hj
   rw[Qu (live j hj)];exact Z.lr.ul hj
theorem Stt.uG(Z:Stt C env O S s){j:Nat}(hl:C.T0.get j=none)(hj:(S.get j).isSome):C.h0.get? (O j)=none:=
 (Z.hr.above j (Nat.not_lt.mp fun q=>by have:=(Z.hr.fro j q).1;rw[hl]at this;cases this) hj).elim (fun h=>Heap.get?_none_of_le h) fun q=>q.1.elim (fun h=>by rw[hl]at h;cases h) id
theorem Stt.upd{W:Addr->Prop}(Z:Stt C env O S s){j:Nat}{o0 o:HO}{ob:Obj}{h':Heap}(hj:S.get j=some o0)(hl:C.T0.get j=none)(hs:Heap.SameBut (O j) s.heap h')(ho:h'.get? (O j)=some ob)(hr:OR C O S.n o ob)(hkd:o.kd=o0.kd)(tk:Nat):
  Ext C W O S s O (S.set j o) {s with heap:=h',toks:=tk}/\Stt C env O (S.set j o) {s with heap:=h',toks:=tk}:=by
 have hjn:=(Z.hr.live j o0 hj).1;have h1:j<=100000:=by have:=Z.hr.small;omega
 have hg:=St.get_set (S:=S) h1 o;have dom:∀i,((S.set j o).get i).isSome↔(S.get i).isSome:=fun i=>by
  rw[hg]
  by_cases q:i=j
  ·rw[if_pos q,q,hj];simp
  ·rw[if_neg q]
 have hj':(S.get j).isSome:=by rw[hj];rfl
 refine⟨⟨fun J J=>rfl,QL _,fun i J=>(by rw[hg];by_cases q:i=j<;>simp[q,hj,hkd]),fun i hi h=>?_,fun a x e J hlv=>(hs.2 a (Ne.symm (hlv j hl hjn hj'))).trans e,rfl,rfl⟩,
  ⟨⟨fun i x hx=>?_,fun a b ha hb=>Z.hr.inj a b ((dom a).mp ha) ((dom b).mp hb),fun i hi h=>Z.hr.above i hi ((dom i).mp h),Z.hr.small,fun i o hi=>by rw[hg,if_neg (fun q=>by rw[q,hl]at hi;cases hi)];exact Z.hr.frz i o hi,Z.hr.fro,Z.hr.uo (fun J J=>rfl) fun i o hi hs' ob e=>(hs.2 _ (fun q=>by have:=Z.hr.inj i j hs' hj' q;rw[this,hl]at hi;cases hi)).trans e⟩,?_,fun b x e=>?_⟩⟩
 ·rw[dom,Z.hr.none hi]at h;cases h
 ·rw[hg]at hx
  by_cases q:i=j
  ·rw[if_pos q]at hx;cases hx;rw[q];exact⟨hjn,ob,ho,hr⟩
  ·rw[if_neg q]at hx
   obtain⟨a,y,hy,r⟩:=Z.hr.live i x hx;exact⟨a,y,(hs.2 _ (fun e=>q (Z.hr.inj i j (by rw[hx];rfl) hj' e))).trans hy,r⟩
 ·refine Z.lr.grow (fun J J=>rfl) (QL _) rfl (fun b w x e=>(hs.2 b (fun q=>Z.lr.ul hj' (q▸w))).trans e) fun i hi=>Z.lr.ul ((dom i).mp hi)
 ·refine(hs.2 b (fun q=>?_)).trans (Z.old b x e)
  exact absurd (q▸e) (by rw[Z.uG hl hj'];exact fun q=>by cases q)
theorem qX2(es:List (Nat × HV))(i j:Nat)(V:HV):lk (pt es i V) j=if j=i then some V else lk es j:=by
 induction es with
 |nil=>
  show(Bool.rec none (some V) (Nat.beq i j):Option HV)=_
  by_cases q:j=i
  ·subst q;rw[Nat.beq_refl,if_pos rfl]
  ·rw[if_neg q]
   cases h:Nat.beq i j with
   |false=>rfl
   |true=>exact absurd (QC h).symm q
 |cons p r ih=>
  show lk (Bool.rec (motive:=fun J=>List (Nat × HV)) (p::pt r i V) ((i,V)::r) (Nat.beq p.1 i)) j=if j=i then some V else(Bool.rec (lk r j) (some p.2) (Nat.beq p.1 j):Option HV)
  cases h:Nat.beq p.1 i with
  |true=>
   have e:=QC h;show(Bool.rec (lk r j) (some V) (Nat.beq i j):Option HV)=_
   by_cases q:j=i
   ·subst q;rw[Nat.beq_refl,if_pos rfl]
   ·have hb:Nat.beq i j=false:=by cases hb:Nat.beq i j with|false=>rfl|true=>exact absurd (QC hb).symm q
    rw[if_neg q,hb,e,hb]
  |false=>
   show(Bool.rec (lk (pt r i V) j) (some p.2) (Nat.beq p.1 j):Option HV)=_;rw[ih]
   by_cases q:j=i
   ·subst q;rw[if_pos rfl,if_pos rfl,h]
   ·rw[if_neg q,if_neg q]
theorem Stt.uP{k:Wk}(Z:Stt C env O S s){S':St}{h':Heap}(ht:S'.t=S.t)(hn:S'.n=S.n)(hk:∀b o,s.heap.get? b=some o->¬Wd env k b->h'.get? b=some o)
  (L:Ld C env O S' h') (tk:Nat):Ext C (Wd env k) O S s O S' {s with heap:=h',toks:=tk}/\Stt C env O S' {s with heap:=h',toks:=tk}:=by
 have hg:∀j,S'.get j=S.get j:=fun j=>by show S'.t.get j=S.t.get j;rw[ht]
 refine⟨⟨fun J J=>rfl,by rw[hn];exact QL _,fun j J=>by rw[hg],fun j hj h=>?_,fun a x e hW J=>hk a x e hW,rfl,rfl⟩,
  ⟨⟨fun j o hj=>?_,fun i j hi hj=>Z.hr.inj i j (by rwa [hg]at hi) (by rwa [hg]at hj),fun j hj h=>Z.hr.above j hj (by rwa [hg]at h),by rw[hn];exact Z.hr.small,fun j o hj=>by rw[hg];exact Z.hr.frz j o hj,Z.hr.fro,Z.hr.uo (fun J J=>rfl) fun j o hj hs' ob e=>hk _ _ e (fun w=>Z.lr.ul hs' (Uf w))⟩,L,fun b o e=>?_⟩⟩
 ·rw[hg,Z.hr.none hj]at h;cases h
 ·rw[hg]at hj
  obtain⟨a,ob,hob,r⟩:=Z.hr.live j o hj;rw[hn];exact⟨a,ob,hk _ _ hob (fun w=>Z.lr.ul (by rw[hj];rfl) (Uf w)),r⟩
 ·exact hk b o (Z.old b o e) fun w=>absurd (QH e) (QJ (Z.lr.uR (Uf w)))
theorem Ho{nm:Nms}{i:Nat}{x:Str}(h:K7 nm i x=true):tx i=x/\(nm.lookup x=some .local∨nm.lookup x=some .cell)/\(x==("__debug__":Str))=false/\(x==("__classdict__":Str))=false:=by
 simp only[K7,Bo,QB,beq_iff_eq,Bool.not_eq_true']at h;refine⟨h.1.1,?_,h.2.1,h.2.2⟩;have h2:=h.1.2;unfold isLC at h2;split at h2
 ·exact .inl ‹_›
 ·exact .inr ‹_›
 ·cases h2
theorem Yx{k:Wk}{nm:Nms}{A:Around}(Z:Stt C env O S s)(ho:Qm env nm){i:Nat}{x:Str}(hx:K7 nm i x=true){V:HV}{v:Value}(hv:VR C O S.n V v)(hkk:k=.all∨(k=.loc/\nm.lookup x=some .local)):
  Qt C env k A (storeName env x v) O S s (S.sto i V) (fun J J J=>True):=by
 obtain⟨ht,hk,_,_⟩:=Ho hx;intro E Q q;obtain⟨m,hm,hl⟩:=Z.lr.loc;have fin:∀(h':Heap) (tk:Nat),(∀b o,s.heap.get? b=some o->¬Wd env k b->h'.get? b=some o)->Ld C env O (S.sto i V) h'->Q () {s with heap:=h',toks:=tk}:=fun h' tk a L=>
  let Y:=Z.uP (S':=S.sto i V) rfl rfl a L tk
  q () O _ Y.1 Y.2 trivial
 rcases hk with hk|hk
 ·
  have hkl:env.kindOf x=some .local:=(ho.kindOf x).trans hk;refine wpAny_storeName_local hkl hm (fun h' hn hs=>?_) (by rw[ho.kind];rfl);have hc:∀y c,env.cells.lookup y=some c->∀w,s.heap.IsCell c w->h'.IsCell c w:=fun y c hy w hw=>hw.sameBut hs (Z.lr.cell y c hy).2.1;refine fin h' _ (fun b o e w=>(hs.2 b (fun q=>w (hkk.elim (fun e=>e▸.inl q) fun e=>e.1▸q))).trans e) ⟨Z.lr.above,Z.lr.off,fun y c hy=>?_,Z.lr.apart,⟨_,hn,fun j W hW=>?_⟩⟩
  ·obtain⟨a,b,c',w,hw⟩:=Z.lr.cell y c hy
   exact⟨a,b,c',w,hc y c hy w hw⟩
  ·have hW:lk (pt S.loc i V) j=some W:=hW
   rw[qX2]at hW
   by_cases e:j=i
   ·rw[if_pos e]at hW
    cases hW;refine⟨v,hv,?_⟩;unfold Loc;rw[e,ht,hkl];simp
   ·rw[if_neg e]at hW
    obtain⟨u,hu,hL⟩:=hl j W hW;refine⟨u,hu,?_⟩;have hne:tx j≠x:=fun q=>e (Zy (q.trans ht.symm));unfold Loc at hL⊢;split at hL
    ·rename_i h1;simp only[if_neg hne];exact hL
    ·obtain⟨c,h1,h2⟩:=hL
     exact⟨c,h1,hc _ c h1 _ h2⟩
    ·trivial
 ·have hka:k=.all:=hkk.elim id fun e=>by rw[hk]at e;exact absurd e.2 (by decide)
  subst hka;have hkk:env.kindOf x=some .cell:=(ho.kindOf x).trans hk;obtain⟨c,hc⟩:=ho.cells x hk;obtain⟨h1,h2,h3,w,hw⟩:=Z.lr.cell x c hc;refine wpAny_storeName_cell ho.kind hkk hc hw (fun h' hn hs=>?_);have hcs:∀y d,env.cells.lookup y=some d->y≠x->∀w,s.heap.IsCell d w->h'.IsCell d w:=fun y d hy hyx w hw=>hw.sameBut hs (fun e=>hyx (Z.lr.apart y x c (by rw[hy,e]) hc));refine fin h' _ (fun b o e w=>(hs.2 b (fun q=>w (.inr ⟨x,q▸hc⟩))).trans e) ⟨Z.lr.above,Z.lr.off,fun y d hy=>?_,Z.lr.apart,⟨m,hm.sameBut hs h2.symm,fun j W hW=>?_⟩⟩
  ·obtain⟨a,b,c',w,hw⟩:=Z.lr.cell y d hy
   by_cases e:y=x
   ·subst e
    rw[hc]at hy;cases hy;exact⟨a,b,c',_,hn⟩
   ·exact⟨a,b,c',w,hcs y d hy e w hw⟩
  ·have hW:lk (pt S.loc i V) j=some W:=hW
   rw[qX2]at hW
   by_cases e:j=i
   ·rw[if_pos e]at hW
    cases hW;refine⟨v,hv,?_⟩;unfold Loc;rw[e,ht,hkk];exact⟨c,hc,hn⟩
   ·rw[if_neg e]at hW
    obtain⟨u,hu,hL⟩:=hl j W hW;refine⟨u,hu,?_⟩;have hne:tx j≠x:=fun q=>e (Zy (q.trans ht.symm));unfold Loc at hL⊢;split at hL
    ·exact hL
    ·obtain⟨d,h1,h2⟩:=hL
     exact⟨d,h1,hcs _ d h1 hne _ h2⟩
    ·trivial
end
section
variable{C:Cx}{env:Env}{O O':Nat->Addr}{S S1:St}{s s':Shared}{kk:Wk}
theorem Stt.grown(Z:Stt C env O S s){h':Heap}(hk:∀b o,s.heap.get? b=some o->h'.get? b=some o)(tk:Nat):Ext C (Wd env kk) O S s O S {s with heap:=h',toks:=tk}/\Stt C env O S {s with heap:=h',toks:=tk}:=by
 refine Z.uP (S':=S) rfl rfl (fun b o e J=>hk b o e) ?_ tk;exact Z.lr.grow (fun J J=>rfl) (QL _) rfl (fun b J o e=>hk b o e) fun j hj=>Z.lr.ul hj
theorem Stt.uz{W:Addr->Prop}(X:Ext C W O S s O' S1 s')(Z:Stt C env O' S1 s'){a:Addr}{ob:Obj}{o:HO}(hf:s.heap.get? a=none)(ha:s'.heap.get? a=some ob)(hw:¬Wr env a)(hl:∀j,(S1.get j).isSome->O' j≠a)(hb:C.h0.objs.size<=a)
  (hn:S1.n<=100000) (ho:OR C O' S1.n o ob):
  Ext C W O S s (qQa O' S1.n a) ⟨S1.t.set 40 S1.n o,S1.n+1,S1.loc⟩ s'/\Stt C env (qQa O' S1.n a) ⟨S1.t.set 40 S1.n o,S1.n+1,S1.loc⟩ s':=by
 have hg:=U5 (S:=S1) (o:=o) hn;have live:∀j,(S1.get j).isSome->j<S1.n:=fun j hj=>by
  obtain⟨x,hx⟩:=QD hj;exact(Z.hr.live j x hx).1
 have hnn:=X.n;refine⟨⟨fun j hj=>(Qu (QF hj hnn)).trans (X.agree j hj),Nat.le_succ_of_le hnn,fun j hj=>by rw[hg,if_neg (Nat.ne_of_lt (QF hj hnn))];exact X.kd j hj,fun j hj h=>?_,X.keep,X.gens,X.os⟩,⟨⟨fun j x hx=>?_,fun i j hi hj e=>?_,fun j hj h=>?_,by show S1.n+1<=_;omega,fun j o hj=>by rw[hg,if_neg (Nat.ne_of_lt (live j (by rw[Z.hr.frz j o hj];rfl)))];exact Z.hr.frz j o hj,
   fun j hj=>⟨(Z.hr.fro j hj).1,(Qu (QF hj Z.hr.seven)).trans (Z.hr.froA j hj)⟩,Z.hr.uo (fun j hj=>Qu hj) fun J J J J J e=>e⟩,?_,Z.old⟩⟩
 ·rw[hg]at h
  by_cases q:j=S1.n
  ·rw[q,Ql];exact hf
  ·rw[if_neg q]at h
   rw[Qu (live j h)];exact X.new j hj h
 ·rw[hg]at hx
  by_cases q:j=S1.n
  ·subst q
   rw[if_pos rfl]at hx;cases hx;refine⟨QK _,ob,?_,ho.mono (fun j hj=>Qu hj) (Nat.le_succ _)⟩;rw[Ql];exact ha
  ·rw[if_neg q]at hx
   obtain⟨h1,y,hy,hr⟩:=Z.hr.live j x hx;exact⟨Nat.lt_succ_of_lt h1,y,by rw[Qu h1];exact hy,hr.mono (fun j hj=>Qu hj) (Nat.le_succ _)⟩
 ·rw[hg]at hi hj
  by_cases qi:i=S1.n<;>by_cases qj:j=S1.n
  ·rw[qi,qj]
  ·rw[if_neg qj]at hj
   rw[qi,Ql,Qu (live j hj)]at e;exact absurd e.symm (hl j hj)
  ·rw[if_neg qi]at hi
   rw[qj,Ql,Qu (live i hi)]at e;exact absurd e (hl i hi)
  ·rw[if_neg qi]at hi
   rw[if_neg qj]at hj;rw[Qu (live i hi),Qu (live j hj)]at e;exact Z.hr.inj i j hi hj e
 ·rw[hg]at h
  by_cases q:j=S1.n
  ·rw[q,Ql];exact .inl hb
  ·rw[if_neg q]at h
   rw[Qu (live j h)];exact Z.hr.above j hj h
 ·refine Z.lr.grow (fun j hj=>Qu hj) (Nat.le_succ _) rfl (fun b J o e=>e) fun j hj=>?_
  rw[hg]at hj
  by_cases q:j=S1.n
  ·rw[q,Ql];exact hw
  ·rw[if_neg q]at hj
   rw[Qu (live j hj)];exact Z.lr.ul hj
theorem Km{W:Addr->Prop}(X:Ext C W O S s O' S1 s')(Z:Stt C env O' S1 s'){a:Addr}{h':Heap}(hf:s.heap.get? a=none)(hs:Heap.SameBut a s'.heap h')(hw:¬Wr env a)(hl:∀j,(S1.get j).isSome->O' j≠a)(hb:C.h0.objs.size<=a)(tk:Nat):
  Ext C W O S s O' S1 {s' with heap:=h',toks:=tk}/\Stt C env O' S1 {s' with heap:=h',toks:=tk}:=by
 refine⟨⟨X.agree,X.n,X.kd,X.new,fun b o e w l=>(hs.2 b (fun q=>by rw[q,hf]at e;cases e)).trans (X.keep b o e w l),X.gens,X.os⟩,⟨⟨fun j o hj=>?_,Z.hr.inj,Z.hr.above,Z.hr.small,Z.hr.frz,Z.hr.fro,Z.hr.uo (fun J J=>rfl) fun j o hj hs' ob e=>(hs.2 _ (hl j hs')).trans e⟩,?_,fun b o e=>?_⟩⟩
 ·obtain⟨h1,y,hy,hr⟩:=Z.hr.live j o hj
  exact⟨h1,y,(hs.2 _ (hl j (by rw[hj];rfl))).trans hy,hr⟩
 ·exact Z.lr.grow (fun J J=>rfl) (QL _) rfl (fun b w o e=>(hs.2 b (fun q=>hw (q▸w))).trans e) fun j hj=>Z.lr.ul hj
 ·exact(hs.2 b (fun q=>absurd (QH e) (by rw[q];exact QJ hb))).trans (Z.old b o e)
end
def VRc(C:Cx)(V:HV)(v:Value):Prop:=∀O n,(∀j,j<7->O j=C.froA j)->7<=n->VR C O n V v
noncomputable def qZb(K:Frag)(c:Addr)(n:Str):Bool:=(match clsIn K c with|some cd=>cd.hasDict|none=>false)&&findIn K (.ref c) n==some none&&findIn K (.ref c) "__getattribute__"==some (some (.builtin "object.__getattribute__"))&&(plainOver K c&&findIn K (.ref c) "__setattr__"==some (some (.builtin "object.__setattr__")))
def IV(C:Cx):HV->Int->Prop
 |.int i,z=>i=z
 |.sint k,z=>C.iv2 k=z
 |_,_=>False
def Gq(C:Cx)(op:Nat)(x y:Int)(r:HV):Prop:=match op with
 |0=>IV C r (x+y)
 |1=>IV C r (x-y)
 |2=>IV C r (x*y)/\IntMulOk x y
 |3=>IV C r (x.fdiv y)/\y≠0/\Builtin.divisionGoesByPylong x y=false
 |4=>IV C r (x.fmod y)/\y≠0
 |5=>IV C r (x^y.toNat)/\2<=x/\x<=100000/\1<=y/\y<=50
 |9=>r=.bool (decide (x=y))
 |_=>False
structure Q6(C:Cx)(P:Par)(gT:Nat->Option HV):Prop where
 nolimit:C.h0.NoLimit
 sysM:sysModules<C.h0.objs.size
 fro7:∀j,j<7->∃l,C.T0.get j=some (.tup l)
 T0:P.T0=C.T0
 kin:C.K.In C.h0
 atts:∀c i,P.atts c i=true->qZb C.K (C.clsA c) (tx i)=true
 opq:∀k,handedIn (C.opq k)=true
 sub1:∀k c,P.sub1 k=some c->∃ch,(tx k).cps[0]? =some ch/\tx c=⟨#[ch]⟩
 low:∀k c,P.low k=some c->PySem.Txt.lower (tx k)=tx c
 cat:∀a b c,P.cat a b=some c->tx a++tx b=tx c
 nm0:∀a,P.nmv a=none->∃k,(P.cand a).any (Nat.beq k)=true/\C.nam a=tx k
 nm1:∀a k,P.nmv a=some k->C.nam a=tx k
 sop:∀op a b r x y,P.sop op a b=some r->IV C a x->IV C b y->Gq C op x y r
 glob:∃mg mb,C.h0.Ns mainGlobals mg/\C.h0.Ns builtinsNs mb/\(∀i V,gT i=some V->∃v,(mg (tx i)=some v∨(mg (tx i)=none/\mb (tx i)=some v))/\VRc C V v)/\
  (∀x∈["range","zip","enumerate"],mg (Str.ofString x)=none/\mb (Str.ofString x)=some (.type x))
section
variable{C:Cx}{P:Par}{gT:Nat->Option HV}{env:Env}{nm:Nms}{A:Around}{O:Nat->Addr}{S S':St}{s:Shared}{D:Nat}
theorem Js(Z:Stt C env O S s){t:Sem Value}{o:HO}{ob:Obj}{V:HV}(h:S.new o=.ok V S')(hf:ob.isFreed=false)(hg:o.good)(ho:OR0 C O S.n o ob)
  (hw:∀(E:Value->Shared->Prop) (Q:Value->Shared->Prop),Q (.ref s.heap.objs.size) {s with heap:=s.heap.push ob}->wpAny (model C.prog C.w) A t Q E s):Qt C env .no A t O S s S' (Q4 C V):=by
 obtain⟨hn,rfl,rfl⟩:=Zz h;intro E Q q;have P:=Z.push (W:=Wd env .no) hf hn ⟨hg,ho⟩ s.toks;exact hw E Q (q _ _ _ P.1 P.2 ⟨QK _,by rw[Ql]⟩)
theorem Lr(Z:Stt C env O S s){vs:List HV}{vl:List Value}{V:HV}(hv:F2 (VR C O S.n) vs vl)(h:S.new (.list vs)=.ok V S'):Qt C env .no A (newList vl) O S s S' (Q4 C V):=
 Js Z h rfl (Zr h) ⟨vl.toArray,0,rfl,hv⟩ fun E Q q=>wpAny_newList q (by have h1:=Zr h;have h2:=hv.length;have:vs.length<=1000:=h1;have h3:sizeLine=16777216:=rfl;omega)
theorem Nr(Z:Stt C env O S s){vs:List HV}{vl:List Value}{V:HV}(hv:F2 (VR C O S.n) vs vl)(h:S.new (.tup vs)=.ok V S'):Qt C env .no A (newTuple vl) O S s S' (Q4 C V):=
 Js Z h rfl (Zr h) ⟨vl.toArray,0,rfl,hv⟩ fun E Q q=>wpAny_newTuple q (by have h1:=Zr h;have h2:=hv.length;have:vs.length<=1000:=h1;have h3:sizeLine=16777216:=rfl;omega)
theorem Stt.list(Z:Stt C env O S s){j:Nat}{vs:List HV}(h:S.get j=some (.list vs)):∃items n,IsL s.heap (O j) items n/\F2 (VR C O S.n) vs items.toList/\vs.length=items.size/\items.size<=1000:=by
 obtain⟨_,zq⟩:=Z.hr.live j _ h;obtain⟨ob,ho,zq⟩:=zq;obtain⟨hg,zq⟩:=zq;obtain⟨xs,m,rfl,hr⟩:=zq;have:=hr.length;have hg:vs.length<=1000:=hg;exact⟨xs,m,ho,hr,by simpa using this,by simp at this;omega⟩
theorem Stt.uF(Z:Stt C env O S s){j:Nat}{vs:List HV}(h:S.get j=some (.tup vs)):∃items n,IsT s.heap (O j) items n/\F2 (VR C O S.n) vs items.toList/\vs.length=items.size/\items.size<=1000:=by
 obtain⟨_,zq⟩:=Z.hr.live j _ h;obtain⟨ob,ho,zq⟩:=zq;obtain⟨hg,zq⟩:=zq;obtain⟨xs,m,rfl,hr⟩:=zq;have:=hr.length;have hg:vs.length<=1000:=hg;exact⟨xs,m,ho,hr,by simpa using this,by simp at this;omega⟩
theorem zQz{a:Int}(h:a.natAbs<18446744073709551616):Builtin.Int.intBits a<=64:=by
 unfold Builtin.Int.intBits;split
 ·decide
 ·rename_i h0
  have:a.natAbs.log2<64:=(Nat.log2_lt (by intro e;exact h0 (by simpa using e))).mpr h;omega
def zQ5(op:Nat)(x y z:Int):Prop:=hif (Nat.beq op 0) (z=x+y) (hif (Nat.beq op 1) (z=x-y) (hif (Nat.beq op 2) (z=x*y/\IntMulOk x y) (hif (Nat.beq op 3) (z=x.fdiv y/\y≠0/\Builtin.divisionGoesByPylong x y=false) (hif (Nat.beq op 4) (z=x.fmod y/\y≠0) (hif (Nat.beq op 5) (z=x^y.toNat/\2<=x/\x<=100000/\1<=y/\y<=50) False)))))
theorem Dw{M:Model}{prog:Program}{w:World}{E:Value->Shared->Prop}{op:Nat}{o:Operator}{x y z:Int}{t u:Tok}{Q:Value->Shared->Prop}(ho:opN op o=true)
  (h:zQ5 op x y z)
  (q:∀t k,Q (.int z t) {s with toks:=k}):wpAny (model prog w) A (binaryOp o (.int x t) (.int y u)) Q E s:=by
 cases o with
 |Add=>obtain rfl:=Z5 ho;have e:z=x+y:=h;subst e;exact wpAny_add_int (q _ _)
 |Sub=>obtain rfl:=Z5 ho;have e:z=x-y:=h;subst e;exact PyProof.Rows.sub_int' (q _ _)
 |Mult=>obtain rfl:=Z5 ho;have e:z=x*y:=h.1;subst e;exact AutoIntOps.mul_0 (q _ _) h.2
 |FloorDiv=>obtain rfl:=Z5 ho;have e:z=x.fdiv y:=h.1;subst e;exact AutoIntOps.floordiv_1 (fun e=>h.2.1 (eq_of_beq e)) (by rw[h.2.2];decide) (q _ _)
 |Mod=>obtain rfl:=Z5 ho;have e:z=x.fmod y:=h.1;subst e;exact AutoIntOps.mod_1 (fun e=>h.2 (eq_of_beq e)) (q _ _)
 |Pow=>
  obtain rfl:=Z5 ho;have h:z=x^y.toNat/\2<=x/\x<=100000/\1<=y/\y<=50:=h;obtain⟨e,h1,h2,h3,h4⟩:=h
  ·subst e
   refine AutoIntOps.pow_4 (by omega) (by simp;omega) (by simp;omega) (by simp;omega) ?_ (q _ _);have hb:Builtin.Int.intBits x<=17:=by
    unfold Builtin.Int.intBits;split
    ·decide
    ·have:x.natAbs.log2<17:=(Nat.log2_lt (by omega)).mpr (by omega)
     omega
   simp only[Builtin.Int.intTooBig,decide_eq_true_eq,Int.not_lt,gt_iff_lt];have h5:((Builtin.Int.intBits x:Nat):Int)*y<=17*50:=Int.mul_le_mul (by omega) h4 (by omega) (by decide);exact Int.le_trans h5 (by decide)
 |_=>exact Qg ho
theorem qQs{op:Nat}{a b z:Int}(h:zQc op a b=some z):zQ5 op a b z:=by
 unfold zQc at h;revert h;refine Zg (fun e h=>?_) (Zg (fun e h=>?_) (Zg (fun e h=>?_) (Zg (fun e h=>?_) (Zg (fun e h=>?_) (Zg (fun e h=>?_) Qh)))))<;>subst e
 ·cases h;exact rfl
 ·cases h;exact rfl
 ·obtain⟨h1,h2⟩:=Qj h
  cases h2;exact And.intro rfl (IntMulOk.of_left (zQz (of_decide_eq_true h1)))
 ·obtain⟨h1,h2⟩:=Qj h
  cases h2;simp only[QB,Bool.not_eq_true',decide_eq_false_iff_not,decide_eq_true_eq]at h1;refine And.intro rfl (And.intro h1.1 (PyProof.noPylong_of_log2 ?_));have:b.natAbs.log2<64:=(Nat.log2_lt (by omega)).mpr h1.2;omega
 ·obtain⟨h1,h2⟩:=Qj h
  cases h2;simp only[Bool.not_eq_true',decide_eq_false_iff_not]at h1;exact And.intro rfl h1
 ·obtain⟨h1,h2⟩:=Qj h
  cases h2;simp only[QB,decide_eq_true_eq]at h1;exact And.intro rfl h1
theorem qJc{a:HV}{v:Value}{n:Nat}(h:VR C O n a v)(hi:(∃i,a=.int i)∨∃k,a=.sint k):∃x t,v=.int x t/\IV C a x:=by
 rcases hi with⟨i,rfl⟩|⟨k,rfl⟩
 ·obtain⟨t,rfl⟩:=h;exact⟨i,t,rfl,rfl⟩
 ·obtain⟨t,rfl⟩:=h;exact⟨_,t,rfl,rfl⟩
theorem VR_IV{r:HV}{z:Int}{t:Tok}{n:Nat}(h:IV C r z):VR C O n r (.int z t):=by
 cases r<;>first|exact h.elim|(have h:_=_:=h;subst h;exact⟨t,rfl⟩)
theorem G5(K:Q6 C P gT)(Z:Stt C env O S s){op:Nat}{o:Operator}{a b V:HV}{va vb:Value}(ho:opN op o=true)(ha:VR C O S.n a va)(hb:VR C O S.n b vb)(ia:(∃i,a=.int i)∨∃k,a=.sint k)(ib:(∃i,b=.int i)∨∃k,b=.sint k)
  (h:P.sop op a b=some V):Qt C env .no A (binaryOp o va vb) O S s S (Q4 C V):=by
 obtain⟨x,t,rfl,hx⟩:=qJc ha ia;obtain⟨y,u,rfl,hy⟩:=qJc hb ib;have k:=K.sop op a b V x y h hx hy;generalize hg:binaryOp o (.int x t) (.int y u)=G;have key:∃z,IV C V z/\zQ5 op x y z:=by
  generalize V=W at k;clear h hg;revert k ho
  match op with
  |0=>exact fun J k=>⟨_,k,rfl⟩
  |1=>exact fun J k=>⟨_,k,rfl⟩
  |2=>exact fun J k=>⟨_,k.1,And.intro rfl k.2⟩
  |3=>exact fun J k=>⟨_,k.1,And.intro rfl k.2⟩
  |4=>exact fun J k=>⟨_,k.1,And.intro rfl k.2⟩
  |5=>exact fun J k=>⟨_,k.1,And.intro rfl k.2⟩
  |6|7|8=>exact fun J k=>k.elim
  |9=>exact fun ho=>by cases o<;>cases ho
  |n+10=>exact fun J k=>k.elim
 obtain⟨z,hz,hc⟩:=key;subst hg;exact Qt.tok Z fun E Q q=>Dw (M:=model C.prog C.w) ho hc fun t k=>q _ _ (VR_IV hz)
theorem qZi(l:List B8):∀n,(rep l n).map (b8 C)=(List.replicate n (l.map (b8 C))).flatten
 |0=>rfl
 |n+1=>by rw[rep,List.map_append,qZi l n,List.replicate_succ,List.flatten_cons]
theorem op0{o:Operator}(ho:opN 0 o=true):o=.Add:=by cases o<;>first|rfl|cases ho
theorem op2{o:Operator}(ho:opN 2 o=true):o=.Mult:=by cases o<;>first|rfl|cases ho
theorem qJh:(Mk.all fun s=>decide (s.toList.length<=1000))=true:=by decide+kernel
theorem Ws(k:Nat):(tx k).length<=1000:=by
 unfold tx;cases h:Mk[k]? with
 |none=>show 1<=1000;decide
 |some t=>
  have:=of_decide_eq_true (QI qJh t (List.mem_of_getElem? h));show(Str.ofString t).length<=1000;rw[Str.ofString_eq_toList];show(t.toList.map Char.toNat).toArray.size<=1000;simpa using this
theorem zJc(K:Q6 C P gT)(hA:AOk D A)(Z:Stt C env O S s){op:Nat}{o:Operator}{a b V:HV}{va vb:Value}(ho:opN op o=true)(ha:VR C O S.n a va)(hb:VR C O S.n b vb)(h:xZs P S op a b=.ok V S'):
  Qt C env .no A (binaryOp o va vb) O S s S' (Q4 C V):=by
 have sl:sizeLine=16777216:=rfl;generalize hg:binaryOp o va vb=G;cases a with
 |int x=>
  revert h;refine Q5 (fun y e h=>?_) (Zk (fun y e h=>?_) Qo)<;>subst e
  ·obtain⟨t,rfl⟩:=ha
   obtain⟨u,rfl⟩:=hb;obtain⟨h1,rfl⟩:=Q8 h;obtain⟨z,h2,h3⟩:=Qn h1;cases h3;subst hg;exact Qt.tok Z fun E Q q=>Dw (M:=model C.prog C.w) ho (qQs h2) fun t k=>q _ _ ⟨_,rfl⟩
  ·obtain⟨h1,rfl⟩:=Q8 h
   subst hg;exact G5 K Z ho ha hb (.inl ⟨_,rfl⟩) (.inr ⟨_,rfl⟩) h1
 |sint x=>
  revert h;refine Q5 (fun y e h=>?_) (Zk (fun y e h=>?_) Qo)<;>subst e
  ·obtain⟨h1,rfl⟩:=Q8 h
   subst hg;exact G5 K Z ho ha hb (.inr ⟨_,rfl⟩) (.inl ⟨_,rfl⟩) h1
  ·obtain⟨h1,rfl⟩:=Q8 h
   subst hg;exact G5 K Z ho ha hb (.inr ⟨_,rfl⟩) (.inr ⟨_,rfl⟩) h1
 |bytes x=>
  revert h;refine Q0 (fun y e h=>?_) (Q5 (fun y e h=>?_) Qo)<;>subst e
  ·obtain⟨t,rfl⟩:=ha
   obtain⟨u,rfl⟩:=hb;obtain⟨h1,h2⟩:=Qk h;cases h2;simp only[QB]at h1;obtain rfl:=Z5 h1.1;obtain rfl:=op0 ho;have h2:=QE h1.2;subst hg;exact Qt.tok Z fun E Q q=>KBy.add_bytes (by simp;omega) fun t' k=>q _ _ ⟨t',by simp⟩
  ·obtain⟨t,rfl⟩:=ha
   obtain⟨u,rfl⟩:=hb;obtain⟨h1,h2⟩:=Qk h;obtain rfl:=Z5 h1;obtain rfl:=op2 ho;cases y with
   |ofNat n=>
    obtain⟨h3,h4⟩:=Qk h2;cases h4;simp only[QB,Bool.not_eq_true']at h3;obtain⟨h3,h5,h6⟩:=h3;have h3:=QE h3;have h5:=QE h5;subst hg;refine Qt.tok Z fun E Q q=>bytes_mul_any (by intro e;rw[List.map_eq_nil_iff]at e;rw[e]at h6;cases h6) (by have:(0:Int)<=Int.ofNat n:=Int.natCast_nonneg n;omega) (by have:Int.ofNat n=(n:Int):=rfl;omega) (by simpa using h5) fun t' k=>q _ _ ⟨t',?_⟩;rw[qZi];rfl
   |negSucc n=>cases h2
 |obj i=>
  revert h;refine Qv (fun j e h=>?_) Qo;subst e;obtain⟨hi,rfl⟩:=ha;obtain⟨hj,rfl⟩:=hb;obtain⟨h1,h2⟩:=Qk h;obtain rfl:=Z5 h1;obtain rfl:=op0 ho;obtain⟨x,S1,h3,h4⟩:=Qb h2;replace h3:=Q8 h3;obtain⟨h3,rfl⟩:=h3;obtain⟨y,S2,h5,h6⟩:=Qb h4;replace h5:=Q8 h5;obtain⟨h5,rfl⟩:=h5;revert h6;refine Q3 (fun l e=>Q3 (fun l' e' h6=>?_) Qo) (Zx (fun l e=>Zx (fun l' e' h6=>?_) Qo) Qo)<;>subst e e'
  ·obtain⟨xs,n,i1,r1,l1,b1⟩:=Z.list h3
   obtain⟨ys,m,i2,r2,l2,b2⟩:=Z.list h5;subst hg;exact Js Z h6 rfl (Zr h6) ⟨xs++ys,0,rfl,by rw[Array.toList_append];exact F2.append r2 r1⟩ fun E Q q=>PySem.P.add_list i1 i2 q (by omega)
  ·obtain⟨xs,n,i1,r1,l1,b1⟩:=Z.uF h3
   obtain⟨ys,m,i2,r2,l2,b2⟩:=Z.uF h5;have e1:xs.isEmpty=l.isEmpty:=by cases l<;>simp[Array.isEmpty,<-l1]
   have e2:ys.isEmpty=l'.isEmpty:=by cases l'<;>simp[Array.isEmpty,<-l2]
   cases hl:l.isEmpty with
   |true=>
    rw[hl]at h6 e1;cases h6;subst hg;exact Qt.tok Z fun E Q q=>concat_meets ⟨_,i1,rfl⟩ ⟨_,i2,rfl⟩ noFill_tuple_add seq_tuple_add PySem.F.slot_tuple_add PySem.F.entry_tuple_add (PySem.F.args_tuple_add_2 _ _)
     (tuple_addW0 _ _ xs ys n m none none #[] #[] e1) ⟨i1,i2,q _ _ ⟨hj,rfl⟩⟩
   |false=>
    rw[hl]at h6 e1;cases hl':l'.isEmpty with
    |true=>
     rw[hl']at h6 e2;cases h6;subst hg;exact Qt.tok Z fun E Q q=>concat_meets ⟨_,i1,rfl⟩ ⟨_,i2,rfl⟩ noFill_tuple_add seq_tuple_add PySem.F.slot_tuple_add PySem.F.entry_tuple_add (PySem.F.args_tuple_add_2 _ _)
      (tuple_addW1 _ _ xs ys n m none none #[] #[] (by rw[e1];decide) e2) ⟨i1,i2,q _ _ ⟨hi,rfl⟩⟩
    |false=>
     rw[hl']at h6 e2;subst hg;exact Js Z h6 rfl (Zr h6) ⟨xs++ys,0,rfl,by rw[Array.toList_append];exact F2.append r2 r1⟩ fun E Q q=>PySem.P.add_tuple i1 i2 (by rw[e1];decide) (by rw[e2];decide) q (by omega)
 |str a=>
  revert h;refine Zm (fun b e h=>?_) Qo;subst e;obtain⟨t,rfl⟩:=ha;obtain⟨u,rfl⟩:=hb;obtain⟨h1,h2⟩:=Qk h;obtain⟨h3,rfl⟩:=Q8 h2;obtain⟨c,h4,h5⟩:=Qn h3;cases h5;obtain rfl:=Z5 h1;obtain rfl:=op0 ho;have e1:=Ws a;have e2:=Ws b;subst hg;exact Qt.tok Z fun E Q q=>PyProof.Rows.add_str (fun t' k=>q _ _ ⟨t',by rw[K.cat a b c h4]⟩) (by omega)
 |_=>exact Qo h
theorem Mw{k:Nat}:(tx k).length=0↔k=0:=by
 have h0:tx 0=⟨#[]⟩:=by decide+kernel
 constructor
 ·intro h
  have:tx k=tx 0:=by
   rw[h0];have e:(tx k).cps=#[]:=Array.eq_empty_of_size_eq_zero h;cases hh:tx k with|mk c=>rw[hh]at e;simpa using e
  exact Zy this
 ·rintro rfl;rw[h0];rfl
theorem Xa(K:Q6 C P gT)(hA:AOk D A)(Z:Stt C env O S s){a:HV}{r:Bool}{va:Value}(ha:VR C O S.n a va)(h:M0 S a=some r):
  Qt C env .no A (truthy va) O S s S (fun J J b=>b=r):=by
 revert h;refine Yl (fun b e h=>?_) (Zm (fun k e h=>?_) Qh)<;>subst e
 ·cases h;obtain rfl:=ha;exact Qt.tok Z fun E Q q=>wpAny_truthy_bool (q _ s.toks rfl)
 ·cases h
  obtain⟨t,rfl⟩:=ha;have hl:=Ws k;refine Qt.tok Z fun E Q q=>PySem.P.truthy_str (by omega) (q _ _ ?_);cases hb:Nat.beq k 0 with
  |true=>rw[Z5 hb];have:=Mw.mpr (rfl:0=0);rw[this];rfl
  |false=>
   have:(tx k).length≠0:=fun q=>by have:=Mw.mp q;rw[this]at hb;cases hb
   simpa using this
theorem zJa(K:Q6 C P gT)(hA:AOk D A)(Z:Stt C env O S s){i:Int}{va:Value}(ha:VR C O S.n (.int i) va):Qt C env .no A (unaryOp .USub va) O S s S (Q4 C (.int (-i))):=by
 obtain⟨t,rfl⟩:=ha;exact Qt.tok Z fun E Q q=>PyProof.Rows.neg_int (q _ _ ⟨_,rfl⟩)
theorem zZ9(K:Q6 C P gT)(hA:AOk D A)(Z:Stt C env O S s){a:HV}{r:Bool}{va:Value}(ha:VR C O S.n a va)(h:M0 S a=some r):Qt C env .no A (unaryOp .Not va) O S s S (Q4 C (.bool (!r))):=
 fun E Q q=>PyProof.Rows.not_of ((Xa K hA Z ha h).use fun c O' s' X Z' e=>q _ O' s' X Z' (by rw[e];rfl))
end
section
open PySem.SeqAt
section
variable{C:Cx}{P:Par}{gT:Nat->Option HV}{env:Env}{nm:Nms}{A:Around}{O:Nat->Addr}{S S':St}{s:Shared}{D:Nat}
theorem Mx(a b:Nat):(tx a==tx b)=Nat.beq a b:=by
 cases h:Nat.beq a b with
 |true=>rw[Z5 h];simp
 |false=>exact beq_false_of_ne fun e=>by rw[Zy e,Nat.beq_refl]at h;cases h
theorem Na(K:Q6 C P gT){a b:Nat}{r:Bool}(h:xJa P a b=some r):(C.nam a==tx b)=r:=by
 unfold xJa at h;cases hn:P.nmv a with
 |some k=>
  rw[hn]at h;cases h;rw[K.nm1 a k hn];exact Mx k b
 |none=>
  rw[hn]at h;obtain⟨h1,h2⟩:=Qj (x:=some false) h;cases h2;obtain⟨k,hk,e⟩:=K.nm0 a hn;rw[e];refine beq_false_of_ne fun e'=>?_;have e':=Zy e';obtain⟨c,hc,e2⟩:=List.any_eq_true.mp hk;have e2:=Z5 e2;simp only[Bool.not_eq_true']at h1;have:=List.any_eq_false.mp h1 c hc;rw[<-e',e2,Nat.beq_refl]at this;exact this rfl
theorem qJq(K:Q6 C P gT){a b:Nat}{r:Bool}(h:xJ0 P a b=some r):(C.nam a==C.nam b)=r:=by
 unfold xJ0 at h;cases hb:Nat.beq a b with
 |true=>
  rw[hb]at h;cases h;rw[Z5 hb];simp
 |false=>
  rw[hb]at h;obtain⟨k,h1,h2⟩:=Qn (x:=P.nmv a) h;obtain⟨l,h3,h4⟩:=Qn h2;cases h4;rw[K.nm1 a k h1,K.nm1 b l h3];exact Mx k l
theorem xZz{a b:Nat}(ha:a<=255)(hb:b<=255):(UInt8.ofNat a==UInt8.ofNat b)=Nat.beq a b:=by
 cases h:Nat.beq a b with
 |true=>rw[Z5 h];simp
 |false=>
  refine beq_false_of_ne fun e=>?_;have e:=congrArg UInt8.toNat e;simp only[UInt8.toNat_ofNat']at e;rw[Nat.mod_eq_of_lt (by omega),Nat.mod_eq_of_lt (by omega)]at e;rw[e,Nat.beq_refl]at h;cases h
theorem Pj:∀{x y:List B8} {r:Bool},bseq x y=some r->(x.map (b8 C)==y.map (b8 C))=r
 |[],[],r,h=>by cases h;rfl
 |a::x,b::y,r,h=>by
  obtain⟨q,h1,h2⟩:=Qn (x:=b8eq a b) h;have e:(b8 C a==b8 C b)=q:=by
   cases a with
   |lit a=>
    cases b with
    |lit b=>
     obtain⟨h3,h4⟩:=Qj h1;cases h4;have h3:=QA h3;exact xZz (QE h3.1) (QE h3.2)
    |sym b=>cases h1
   |sym a=>
    cases b with
    |lit b=>cases h1
    |sym b=>
     obtain⟨h3,h4⟩:=Qj h1;cases h4;rw[Z5 h3];exact beq_self_eq_true _
  show((b8 C a::x.map (b8 C))==(b8 C b::y.map (b8 C)))=r;rw[List.cons_beq_cons,e];cases q with
  |true=>rw[Bool.true_and];exact Pj h2
  |false=>cases h2;rfl
 |[],_::_,r,h=>by cases h;rfl
 |_::_,[],r,h=>by cases h;rfl
theorem Mi{A:Around}{s:Shared}{b c:Array UInt8}{t u:Tok}:RcAt A s (.bytes b t) (.bytes c u) (b.toList==c.toList):=fun prog w E Q h=>
 richCompare_gives (typeIs_bytes s b t) (typeIs_bytes s c u) FB.slot_bytes_eq FB.entry_bytes_eq (FB.args_bytes_eq_2 _ _) (gives_bytes_eq b c t u) (fun e=>nomatch e) h
theorem Mj{A:Around}{s:Shared}{b c:Array UInt8}{t u:Tok}:EqAt A s (.bytes b t) (.bytes c u) (b.toList==c.toList):=fun prog w E Q h=>
 eqBool_bytes (by rw[show decide (b.toList=c.toList)=(b.toList==c.toList) by rw[Bool.eq_iff_iff];simp];exact h)
theorem Gs{A:Around}{s:Shared}{b c:Array UInt8}{t u:Tok}:RcNeAt A s (.bytes b t) (.bytes c u) (!(b.toList==c.toList)):=fun prog w E Q h=>ne_bytes h
theorem Wf{f:HV->HV->Option Bool}:∀{x y:List HV} {r:Bool},Pn f x y=some r->∃e:Nat->Bool,(∀j a b,x[j]? =some a->y[j]? =some b->f a b=some (e j))/\r=((List.range (min x.length y.length)).all e&&x.length==y.length)
 |[],[],r,h=>by cases h;exact⟨fun J=>true,fun j a b ha=>by simp at ha,rfl⟩
 |[],_::_,r,h=>by cases h;exact⟨fun J=>true,fun j a b ha=>by simp at ha,by simp⟩
 |_::_,[],r,h=>by cases h;exact⟨fun J=>true,fun j a b J hb=>by simp at hb,by simp⟩
 |a::x,b::y,r,h=>by
  obtain⟨p,h1,h2⟩:=Qn (x:=f a b) h;obtain⟨q,h3,h4⟩:=Qn (x:=Pn f x y) h2;cases h4;obtain⟨e,h5,h6⟩:=Wf h3;refine⟨fun j=>match j with|0=>p|j+1=>e j,fun j c d hc hd=>?_,?_⟩
  ·cases j with
   |zero=>simp only[List.getElem?_cons_zero,Option.some.injEq]at hc hd;subst hc;subst hd;exact h1
   |succ j=>simp only[List.getElem?_cons_succ]at hc hd;exact h5 j c d hc hd
  ·have e1:min (a::x).length (b::y).length=min x.length y.length+1:=by simp only[List.length_cons];omega
   have e2:((a::x).length==(b::y).length)=(x.length==y.length):=by
    rw[Bool.eq_iff_iff];simp
   rw[e1,e2,List.range_succ_eq_map,List.all_cons,List.all_map,h6,Bool.and_assoc];rfl
theorem F2.get{α β:Type}{r:α->β->Prop}{l:List α}{m:List β}{i:Nat}{b:β}(H:F2 r l m):m[i]? =some b->∃a,l[i]? =some a/\r a b:=by
 induction H generalizing i with
 |nil=>exact Qh
 |cons x y ih=>cases i with
  |zero=>exact fun e=>xJz e fun e=>⟨_,rfl,e▸x⟩
  |succ i=>exact ih
theorem Stt.dict(Z:Stt C env O S s){j:Nat}{es:List (Nat × HV)}(h:S.get j=some (.dict es)):
  ∃kvs ep,s.heap.DictAt (PySem.strKind C.prog C.w) (O j) kvs ep/\F2 (fun p kv=>kv.1=tx p.1/\VR C O S.n p.2 kv.2) es kvs/\es.length=kvs.length/\es.length<=1000:=by
 obtain⟨_,zq⟩:=Z.hr.live j _ h;obtain⟨ob,ho,zq⟩:=zq;obtain⟨hg,zq⟩:=zq;obtain⟨ens,m,rfl,hr⟩:=zq;have key:∀{es:List (Nat × HV)} {l:List DictEntry},F2 (DR C O S.n) es l->∃kvs,(∀e∈l,∃k,(PySem.strKind C.prog C.w).is k e.key=true/\e.hash=(PySem.strKind C.prog C.w).hash k)/\Pairs (PySem.strKind C.prog C.w) l kvs/\F2 (fun p kv=>kv.1=tx p.1/\VR C O S.n p.2 kv.2) es kvs:=by
  intro es l hr;induction hr with
  |nil=>exact⟨[],by simp,.nil,.nil⟩
  | @cons p e es l hp hr ih=>
   obtain⟨kvs,h1,h2,h3⟩:=ih;obtain⟨⟨t,hk⟩,hh,hv⟩:=hp;have hk':(PySem.strKind C.prog C.w).is (tx p.1) e.key=true:=by rw[hk];simp[PySem.strKind,Value.isStrOf]
   refine⟨(tx p.1,e.val)::kvs,fun e' he=>?_,.cons hk' rfl h2,.cons ⟨rfl,hv⟩ h3⟩;rcases QR he with rfl|he
   ·exact⟨tx p.1,hk',hh⟩
   ·exact h1 e' he
 obtain⟨kvs,h1,h2,h3⟩:=key hr;refine⟨kvs,m,⟨_,ens,ho,⟨rfl,rfl,rfl⟩,rfl,fun e he=>h1 e (by simpa using he),h2,?_⟩,h3,h3.length,hg.1⟩;have hnd:=hg.2;clear h1 h2 hr ho hg h Z;induction h3 with
 |nil=>exact .nil
 | @cons p kv es kvs hp h3 ih=>
  simp only[List.map_cons]at hnd⊢;obtain⟨a,b⟩:=List.nodup_cons.mp hnd;refine List.nodup_cons.mpr ⟨fun hm=>a ?_,ih b⟩;rw[hp.1]at hm;clear ih b a;clear hnd;induction h3 with
  |nil=>simp at hm
  | @cons q kw es kvs hq _ ih=>
   simp only[List.map_cons,List.mem_cons]at hm⊢;rcases hm with hm|hm
   ·exact .inl (Zy (hm.trans hq.1))
   ·exact .inr (ih hm)
theorem Stt.uw(K:Q6 C P gT)(Z:Stt C env O S s){j:Nat}{es:List (Nat × HV)}(h:S.get j=some (.dict es)):(O j==sysModules)=false:=by
 have h7:7<=j:=Nat.not_lt.mp fun q=>by
  obtain⟨l,hl⟩:=K.fro7 j q;rw[Z.hr.frz j _ hl]at h;cases h
 exact Z.hr.uw K.sysM h7 (by rw[h];rfl)
theorem P6(x y:Str):(x==y)=(y==x):=by
 rw[Bool.eq_iff_iff,beq_iff_eq,beq_iff_eq];exact eq_comm
theorem Pa(x y:Int):decide (x=y)=(x==y):=rfl
theorem Kf(K:Q6 C P gT)(Z:Stt C env O S s):∀(n:Nat) (A:Around) (a b:HV) (r:Bool) (va vb:Value),veq P S n a b=some r->VR C O S.n a va->VR C O S.n b vb->A.units+n<cLine->EqAt A s va vb r/\RcAt A s va vb r/\RcNeAt A s va vb (!r)
 |0,_,_,_,_,_,_,h,_,_,_=>by cases h
 |n+1,A,a,b,r,va,vb,h,ha,hb,hu=>by
  cases a with
  |none=>
   revert h;refine Yj (fun e h=>?_) Qh;subst e;cases h;obtain rfl:=ha;obtain rfl:=hb;exact⟨EqAt.same _,RcAt.none_none,RcNeAt.none_none⟩
  |bool x=>
   revert h;refine Yl (fun y e h=>?_) Qh;subst e;cases h;obtain rfl:=ha;obtain rfl:=hb;rw[Pl];exact⟨EqAt.bool_bool _ _,RcAt.bool_bool _ _,RcNeAt.bool_bool _ _⟩
  |int x=>
   revert h;refine Q5 (fun y e h=>?_) Qh;subst e;cases h;obtain⟨t,rfl⟩:=ha;obtain⟨u,rfl⟩:=hb;rw[Pa];exact⟨EqAt.int_int _ _ _ _,RcAt.int_int _ _ _ _,RcNeAt.int_int _ _ _ _⟩
  |sint x=>
   revert h;refine Q5 (fun y e h=>?_) Qh;subst e;obtain⟨t,rfl⟩:=ha;obtain⟨u,rfl⟩:=hb;obtain⟨z,h1,h2⟩:=Qn h;have h3:z=.bool (decide (C.iv2 x=y)):=K.sop 9 _ _ _ _ _ h1 rfl rfl;subst h3;cases h2;rw[Pa];exact⟨EqAt.int_int _ _ _ _,RcAt.int_int _ _ _ _,RcNeAt.int_int _ _ _ _⟩
  |str x=>
   revert h;refine Zm (fun y e h=>?_) (Xj (fun y e h=>?_) Qh)<;>subst e<;>obtain⟨t,rfl⟩:=ha<;>obtain⟨u,rfl⟩:=hb
   ·cases h;rw[<-Mx];exact⟨EqAt.str_str _ _ _ _,RcAt.str_str _ _ _ _,RcNeAt.str_str _ _ _ _⟩
   ·rw[<-Na K h,P6];exact⟨EqAt.str_str _ _ _ _,RcAt.str_str _ _ _ _,RcNeAt.str_str _ _ _ _⟩
  |sstr x=>
   revert h;refine Zm (fun y e h=>?_) (Xj (fun y e h=>?_) Qh)<;>subst e<;>obtain⟨t,rfl⟩:=ha<;>obtain⟨u,rfl⟩:=hb
   ·rw[<-Na K h];exact⟨EqAt.str_str _ _ _ _,RcAt.str_str _ _ _ _,RcNeAt.str_str _ _ _ _⟩
   ·rw[<-qJq K h];exact⟨EqAt.str_str _ _ _ _,RcAt.str_str _ _ _ _,RcNeAt.str_str _ _ _ _⟩
  |bytes x=>
   revert h;refine Q0 (fun y e h=>?_) Qh;subst e;obtain⟨t,rfl⟩:=ha;obtain⟨u,rfl⟩:=hb;rw[<-Pj (C:=C) h];exact⟨Mj,Mi,Gs⟩
  |obj i=>
   revert h;refine Qv (fun j e h=>?_) Qh;subst e;obtain⟨hi,rfl⟩:=ha;obtain⟨hj,rfl⟩:=hb;replace h:=Qj h;obtain⟨hne,h⟩:=h;replace h:=Qn h;obtain⟨x,h1,h⟩:=h;replace h:=Qn h;obtain⟨y,h2,h⟩:=h;have hne:O i≠O j:=fun e=>by
    have:=Z.hr.inj i j (by rw[h1];rfl) (by rw[h2];rfl) e;rw[this,Nat.beq_refl]at hne;cases hne
   have hu1:A.units<cLine:=by omega
   have hu2:A.in1.units+n<cLine:=by show A.units+1+n<cLine;omega
   suffices H:RcAt A s (.ref (O i)) (.ref (O j)) r/\RcNeAt A s (.ref (O i)) (.ref (O j)) (!r)from⟨EqAt.of_refs hne H.1,H⟩
   have el:∀{l m:List HV} {xs ys:Array Value} {e:Nat->Bool},F2 (VR C O S.n) l xs.toList->F2 (VR C O S.n) m ys.toList->(∀j a b,l[j]? =some a->m[j]? =some b->veq P S n a b=some (e j))->
     ∀j (h1:j<xs.size) (h2:j<ys.size),EqAt A.in1 s xs[j] ys[j] (e j):=by
    intro l m xs ys e r1 r2 he j h1 h2;obtain⟨a,g1,g2⟩:=r1.get (i:=j) (b:=xs[j]) (by simp[h1]);obtain⟨b,g3,g4⟩:=r2.get (i:=j) (b:=ys[j]) (by simp[h2]);exact(Kf K Z n A.in1 a b (e j) _ _ (he j a b g1 g3) g2 g4 hu2).1
   revert h;refine Q3 (fun l e=>Q3 (fun m e' h=>?_) Qh) (Zx (fun l e=>Zx (fun m e' h=>?_) Qh) (Ji (fun l e=>Ji (fun m e' h=>?_) Qh) Qh))<;>subst e e'
   ·obtain⟨xs,nx,i1,r1,l1,b1⟩:=Z.list h1
    obtain⟨ys,ny,i2,r2,l2,b2⟩:=Z.list h2;have t1:s.heap.IsList (O i) xs:=⟨_,i1,rfl,nx,rfl⟩;have t2:s.heap.IsList (O j) ys:=⟨_,i2,rfl,ny,rfl⟩;cases hb:Nat.beq l.length m.length with
    |true=>
     rw[hb]at h;have hb:=Z5 hb;obtain⟨e,h3,h4⟩:=Wf h;have hsz:xs.size=ys.size:=by omega
     have hr:r=(List.range xs.size).all e:=by
      rw[h4,hb,Nat.min_self,<-hb,l1];simp
     rw[hr];exact⟨RcAt.lists t1 t2 hsz hu1 (el r1 r2 h3),RcNeAt.lists t1 t2 hsz hu1 (el r1 r2 h3)⟩
    |false=>
     rw[hb]at h;cases h;have hsz:(xs.size != ys.size)=true:=by
      rw[<-l1,<-l2];exact bne_iff_ne.mpr fun e=>by rw[e,Nat.beq_refl]at hb;cases hb
     exact⟨RcAt.lists_lengths t1 t2 hsz hu1,RcNeAt.lists_lengths t1 t2 hsz hu1⟩
   ·obtain⟨xs,nx,i1,r1,l1,b1⟩:=Z.uF h1
    obtain⟨ys,ny,i2,r2,l2,b2⟩:=Z.uF h2;have t1:s.heap.IsTuple (O i) xs:=⟨_,i1,rfl,nx,rfl⟩;have t2:s.heap.IsTuple (O j) ys:=⟨_,i2,rfl,ny,rfl⟩;obtain⟨e,h3,h4⟩:=Wf h;rw[l1,l2]at h4;rw[h4];exact⟨RcAt.tuples t1 t2 hu1 (el r1 r2 h3),RcNeAt.tuples t1 t2 hu1 (el r1 r2 h3)⟩
   ·have n1:=Z.uw K h1
    have n2:=Z.uw K h2;cases l with
    |cons _ _=>cases h
    |nil=>
     cases m with
     |cons _ _=>cases h
     |nil=>
      cases h;obtain⟨_,zq⟩:=Z.hr.live i _ h1;obtain⟨ob,ho,zq⟩:=zq;obtain⟨hg,zq⟩:=zq;obtain⟨ens,mm,rfl,hr⟩:=zq;obtain⟨_,zq⟩:=Z.hr.live j _ h2;obtain⟨ob',ho',zq⟩:=zq;obtain⟨hg',zq⟩:=zq;obtain⟨ens',mm',rfl,hr'⟩:=zq;have e1:ens=#[]:=Array.eq_empty_of_size_eq_zero hr.length.symm;have e2:ens'=#[]:=Array.eq_empty_of_size_eq_zero hr'.length.symm;subst e1;subst e2;have d1:∀(prog:Program) (w:World),s.heap.DictOf (PySem.strKind prog w) (O i) []:=fun prog w=>⟨_,#[],mm,ho,⟨rfl,rfl,rfl⟩,rfl,fun e he=>by simp at he,.nil,.nil⟩;have d2:∀(prog:Program) (w:World),s.heap.DictOf (PySem.strKind prog w) (O j) []:=fun prog w=>⟨_,#[],mm',ho',⟨rfl,rfl,rfl⟩,rfl,fun e he=>by simp at he,.nil,.nil⟩;exact⟨fun prog w E Q q=>keq_eq n1 n2 (d1 prog w) (d2 prog w) hu1 (fun J=>.nil) q,fun prog w E Q q=>keq_ne n1 n2 (d1 prog w) (d2 prog w) hu1 (fun J=>.nil) q⟩
  |_=>exact Qh h
theorem Ty{K:Type}[DecidableEq K]{knd:PySem.KeyKind C.prog C.w K}{k:K}{key:Value}{d:Addr}{E:Value->Shared->Prop}{f}{Q:Value->Shared->Prop}(hkey:knd.is k key=true)(hd:(d==sysModules)=false)(hm:s.heap.MapOf knd d f)
  (h:Q (.bool (!(f k).isSome)) {s with toks:=s.toks+1}):wpAny (model C.prog C.w) A (compareOp .NotIn key (.ref d)) Q E s:=by
 show wpAny _ _ (do return .bool (!(<-contains (.ref d) key))) Q E s;refine QN ?_;unfold contains;try with_reducible refine wpAny_holding ?_
 refine QN (wpAny_specialOf hm.typeIs slot_dict_contains.lookup ?_);show wpAny _ _ (if(some (Value.builtin "dict.__contains__")==some Value.none)=true then _ else _) _ E s;rw[if_neg (by rw[beq_builtin_none];exact Bool.false_ne_true)];refine QN (wpAny_callSpecialUnlessNone?_slot (name:=Str.ofString "__contains__") hm.typeIs slot_dict_contains
  (wpAny_call_entry slot_dict_contains hm.typeIs entry_dict_contains ?_ (args_dict_contains _ _)))
 show wpAny _ _ (dictGet d key>>=_) _ _ s;refine QN (wpAny_dictGet_of hkey hm ?_);cases hf:f k with
 |some v=>
  rw[hf]at h;show wpAny _ _ (ret (.bool true)) _ _ _;exact QO ⟨_,rfl,wpAny_truthy_bool (QO h)⟩
 |none=>
  rw[hf]at h;show wpAny _ _ (Builtin.Dict.pendingKey? d key>>=_) _ _ _;exact QN (wpAny_pendingKey_other hd (QO ⟨_,rfl,wpAny_truthy_bool (QO h)⟩))
theorem xQq(Z:Stt C env O S s){a b:HV}{r:Bool}{va vb:Value}(ha:VR C O S.n a va)(hb:VR C O S.n b vb)(h:same S a b=some r){E:Value->Shared->Prop}{Q:Value->Shared->Prop}:
  (Q (.bool r) s->wpAny (model C.prog C.w) A (compareOp .Is va vb) Q E s)/\(Q (.bool (!r)) s->wpAny (model C.prog C.w) A (compareOp .IsNot va vb) Q E s):=by
 revert h;refine Yj (fun e=>Yj (fun e' h=>?_) Qh) (Q0 (fun i e=>Yj (fun e' h=>?_) Qh) (Qv (fun i e=>Yj (fun e' h=>?_) (Qv (fun j e' h=>?_) Qh)) Qh))<;>subst e e'
 ·cases h;obtain rfl:=ha;obtain rfl:=hb;exact⟨fun q=>is_none_none q,fun q=>isnot_none_none q⟩
 ·cases h;obtain⟨_,rfl⟩:=ha;obtain rfl:=hb;exact⟨fun q=>is_none_ne nofun q,fun q=>isnot_none_ne nofun q⟩
 ·cases h;obtain⟨_,rfl⟩:=ha;obtain rfl:=hb;exact⟨fun q=>is_none_ne nofun q,fun q=>isnot_none_ne nofun q⟩
 ·obtain⟨hi,rfl⟩:=ha
  obtain⟨hj,rfl⟩:=hb;obtain⟨x,h1,h2⟩:=Qn h;obtain⟨_,h3,h4⟩:=Qn h2;obtain⟨y,h5,h6⟩:=Qn h4;cases h6;cases hb:Nat.beq i j with
  |true=>rw[Z5 hb];exact⟨wpAny_is_ref_self,wpAny_isNot_ref_self⟩
  |false=>
   have hne:O i≠O j:=fun e=>by
    have:=Z.hr.inj i j (by rw[h1];rfl) (by rw[h5];rfl) e;rw[this,Nat.beq_refl]at hb;cases hb
   obtain⟨_,ox,g1,g2⟩:=Z.hr.live i x h1;obtain⟨_,oy,g3,_⟩:=Z.hr.live j y h5;have hnt:ox.cls≠.type "tuple":=by
    revert h3;refine Um (fun a b e J=>?_) Qh;subst e;obtain⟨_,_,sl,rfl⟩:=g2;exact nofun
   exact⟨fun q=>wpAny_is_ref_other hne g1 g3 hnt q,fun q=>wpAny_isNot_ref_other hne g1 g3 hnt q⟩
abbrev PR(C:Cx)(O:Nat->Addr)(n:Nat):Nat × HV->Str × Value->Prop:=fun p kv=>kv.1=tx p.1/\VR C O n p.2 kv.2
theorem Wp(kv:Str × Value)(kvs:List (Str × Value))(k:Str):valueAt (kv::kvs) k=if kv.1=k then some kv.2 else valueAt kvs k:=by
 unfold valueAt;rw[List.find?_cons]
 by_cases h:kv.1=k<;>simp[h]
theorem Hm(p:Nat × HV)(es:List (Nat × HV))(i:Nat):lk (p::es) i=if p.1=i then some p.2 else lk es i:=by
 show(Bool.rec (lk es i) (some p.2) (Nat.beq p.1 i):Option HV)=_;rw[PySem.W.BT.beq_eq]
 by_cases h:p.1=i<;>simp[h]
theorem F2.value{n:Nat}{es:List (Nat × HV)}{kvs:List (Str × Value)}(H:F2 (PR C O n) es kvs)(k:Nat):match lk es k with|some V=>∃v,valueAt kvs (tx k)=some v/\VR C O n V v|none=>valueAt kvs (tx k)=none:=by
 induction H with
 |nil=>rfl
 | @cons p kv es kvs x y ih=>
  rw[Hm,Wp,x.1]
  by_cases h:p.1=k
  ·subst h;rw[if_pos rfl,if_pos rfl];exact⟨_,rfl,x.2⟩
  ·rw[if_neg h,if_neg (fun e=>h (Zy e))];exact ih
theorem Xl(k:Nat)(t:Tok):(PySem.strKind C.prog C.w).is (tx k) (.str (tx k) t)=true:=by simp[PySem.strKind,Value.isStrOf]
theorem Dn(K:Q6 C P gT)(hA:AOk D A)(Z:Stt C env O S s){a b:HV}{r:Bool}{va vb:Value}(ha:VR C O S.n a va)(hb:VR C O S.n b vb)(h:xJl P S a b=some r){E:Value->Shared->Prop}{Q:Value->Shared->Prop}:
  ((∀tk,Q (.bool r) {s with toks:=tk})->wpAny (model C.prog C.w) A (compareOp .In va vb) Q E s)/\((∀tk,Q (.bool (!r)) {s with toks:=tk})->wpAny (model C.prog C.w) A (compareOp .NotIn va vb) Q E s):=by
 revert h;refine Qv (fun j e h=>?_) Qh;subst e
 ·obtain⟨hj,rfl⟩:=hb
  obtain⟨o,h1,h2⟩:=Qn h;have hu:A.in1.units+6<cLine:=by have:=hA.units;show A.units+1+6<9900;omega
  have any:∀{l:List HV} {r:Bool},Mh P S a l=some r->(∀y∈l,∃b,veq P S 6 y a=some b)/\(r=true↔∃y∈l,veq P S 6 y a=some true):=by
   intro l;induction l with
   |nil=>intro r h;cases h;simp
   |cons y l ih=>
    intro r h;obtain⟨p,g1,g2⟩:=Qn (x:=veq P S 6 y a) h;obtain⟨q,g3,g4⟩:=Qn (x:=Mh P S a l) g2;cases g4;obtain⟨i1,i2⟩:=ih g3;refine⟨fun z hz=>?_,?_⟩
    ·rcases QR hz with rfl|hz
     ·exact⟨_,g1⟩
     ·exact i1 z hz
    ·rw[Bool.or_eq_true,i2]
     simp only[List.mem_cons,exists_eq_or_imp,g1,Option.some.injEq]
  have elts:∀{l:List HV} {items:Array Value} {r:Bool},F2 (VR C O S.n) l items.toList->Mh P S a l=some r->∃e:Value->Bool,(∀y,y∈items->EqAt A.in1 s y va (e y))/\items.any e=r:=by
   intro l items r hF hr
   classical
   obtain⟨i1,i2⟩:=any hr;refine⟨fun y=>decide (∃(k:Nat) (V:HV),l[k]? =some V/\items.toList[k]? =some y/\veq P S 6 V a=some true),fun y hy=>?_,?_⟩
   ·obtain⟨k,hk,e⟩:=List.getElem_of_mem (Array.mem_toList_iff.mpr hy)
    have hk':items.toList[k]? =some y:=by rw[List.getElem?_eq_getElem hk,e]
    by_cases q:∃(k:Nat) (V:HV),l[k]? =some V/\items.toList[k]? =some y/\veq P S 6 V a=some true
    ·show EqAt A.in1 s y va (decide _)
     rw[decide_eq_true q];obtain⟨k,V,q1,q2,q3⟩:=q;obtain⟨V',g1,g2⟩:=hF.get q2;rw[q1]at g1;cases g1;exact(Kf K Z 6 A.in1 V a true y va q3 g2 ha hu).1
    ·show EqAt A.in1 s y va (decide _)
     rw[decide_eq_false q];obtain⟨V,g1,g2⟩:=hF.get hk';obtain⟨b,hb⟩:=i1 V (List.mem_of_getElem? g1);cases b with
     |true=>exact absurd ⟨k,V,g1,hk',hb⟩ q
     |false=>exact(Kf K Z 6 A.in1 V a false y va hb g2 ha hu).1
   ·rw[Bool.eq_iff_iff,i2,Array.any_eq_true']
    constructor
    ·rintro⟨y,_,hy⟩
     obtain⟨k,V,q1,_,q3⟩:=of_decide_eq_true hy;exact⟨V,List.mem_of_getElem? q1,q3⟩
    ·rintro⟨V,hV,hv⟩
     obtain⟨k,hk,e⟩:=List.getElem_of_mem hV;have hl:=hF.length;have hk':k<items.toList.length:=by omega
     refine⟨items.toList[k],by simpa using List.getElem_mem hk',decide_eq_true ⟨k,V,by rw[List.getElem?_eq_getElem hk,e],List.getElem?_eq_getElem hk',hv⟩⟩
  revert h2;refine Q3 (fun l e h2=>?_) (Zx (fun l e h2=>?_) (Ji (fun es e=>Zm (fun k e' h2=>?_) Qh) Qh))<;>subst e
  ·obtain⟨items,n,i1,r1,_,_⟩:=Z.list h1
   obtain⟨e,e1,e2⟩:=elts r1 h2;exact⟨fun q=>in_listAt e ⟨_,i1,rfl,n,rfl⟩ e1 (by rw[e2];exact q s.toks),fun q=>notIn_listAt e ⟨_,i1,rfl,n,rfl⟩ e1 (by rw[e2];exact q s.toks)⟩
  ·obtain⟨items,n,i1,r1,_,_⟩:=Z.uF h1
   obtain⟨e,e1,e2⟩:=elts r1 h2;exact⟨fun q=>in_tupleAt e ⟨_,i1,rfl,n,rfl⟩ e1 (by rw[e2];exact q s.toks),fun q=>notIn_tupleAt e ⟨_,i1,rfl,n,rfl⟩ e1 (by rw[e2];exact q s.toks)⟩
  ·clear elts any
   subst e';cases h2;obtain⟨t,rfl⟩:=ha;obtain⟨kvs,ep,d1,r1,_,_⟩:=Z.dict h1;have e:(valueAt kvs (tx k)).isSome=(Option.rec (motive:=fun J=>Bool) false (fun J=>true) (lk es k)):=by
    have:=r1.value k;cases hl:lk es k with
    |none=>rw[hl]at this;rw[this];rfl
    |some V=>rw[hl]at this;obtain⟨v,h5,_⟩:=this;rw[h5];rfl
   refine⟨fun q=>wpAny_in_of (Xl k t) (Z.uw K h1) d1.dictOf.mapOf (by rw[e];exact q _),fun q=>Ty (Xl k t) (Z.uw K h1) d1.dictOf.mapOf (by rw[e];exact q _)⟩
theorem qZk(K:Q6 C P gT)(hA:AOk D A)(Z:Stt C env O S s){op:Nat}{o:CmpOp}{a b:HV}{r:Bool}{va vb:Value}(ho:cmN op o=true)(ha:VR C O S.n a va)(hb:VR C O S.n b vb)(h:xZj P S op a b=some r):
  Qt C env .no A (compareOp o va vb) O S s S (Q4 C (.bool r)):=by
 have hu:A.units+6<cLine:=by have:=hA.units;show A.units+6<9900;omega
 cases o with
 |Eq=>
  obtain rfl:=Z5 ho;exact Qt.tok Z fun E Q q=>(Kf K Z 6 A a b r va vb h ha hb hu).2.1 C.prog C.w E Q (q _ s.toks rfl)
 |NotEq=>
  obtain rfl:=Z5 ho;obtain⟨r',h1,h2⟩:=Qn (x:=veq P S 6 a b) h;cases h2;exact Qt.tok Z fun E Q q=>(Kf K Z 6 A a b r' va vb h1 ha hb hu).2.2 C.prog C.w E Q (q _ s.toks rfl)
 |In=>
  obtain rfl:=Z5 ho;exact Qt.tok Z fun E Q q=>(Dn K hA Z ha hb h).1 fun tk=>q _ tk rfl
 |NotIn=>
  obtain rfl:=Z5 ho;obtain⟨r',h1,h2⟩:=Qn (x:=xJl P S a b) h;cases h2;exact Qt.tok Z fun E Q q=>(Dn K hA Z ha hb h1).2 fun tk=>q _ tk rfl
 |Is=>
  obtain rfl:=Z5 ho;exact Qt.tok Z fun E Q q=>(xQq Z ha hb h).1 (q _ s.toks rfl)
 |IsNot=>
  obtain rfl:=Z5 ho;obtain⟨r',h1,h2⟩:=Qn (x:=same S a b) h;cases h2;exact Qt.tok Z fun E Q q=>(xQq Z ha hb h1).2 (q _ s.toks rfl)
 |Lt=>
  obtain rfl:=Z5 ho;revert h;refine Q5 (fun x e=>Q5 (fun y e' h=>?_) Qh) Qh;subst e e';obtain⟨t,rfl⟩:=ha;obtain⟨u,rfl⟩:=hb;cases h;exact Qt.tok Z fun E Q q=>PyProof.Rows.lt_int (q _ s.toks rfl)
 |Gt=>
  obtain rfl:=Z5 ho;revert h;refine Q5 (fun x e=>Q5 (fun y e' h=>?_) Qh) Qh;subst e e';obtain⟨t,rfl⟩:=ha;obtain⟨u,rfl⟩:=hb;cases h;exact Qt.tok Z fun E Q q=>PyProof.Rows.gt_int (q _ s.toks rfl)
 |GtE=>
  obtain rfl:=Z5 ho;revert h;refine Q5 (fun x e=>Q5 (fun y e' h=>?_) Qh) Qh;subst e e';obtain⟨t,rfl⟩:=ha;obtain⟨u,rfl⟩:=hb;cases h;exact Qt.tok Z fun E Q q=>PyProof.Rows.ge_int (q _ s.toks rfl)
 |LtE=>
  obtain rfl:=Z5 ho;revert h;exact Q5 (fun x e=>Q5 (fun y e' h=>by cases h) Qh) Qh
end
end
section
variable{C:Cx}{P:Par}{gT:Nat->Option HV}{env:Env}{nm:Nms}{A:Around}{O:Nat->Addr}{S S':St}{s:Shared}{D:Nat}
theorem Q7{M:Model}{E:Value->Shared->Prop}{x:Expr}{o i:Value}{T id:String}{Q:Value->Shared->Prop}(hT:s.TypeIs o T)(hl:typeLookup (.type T) "__getitem__"=pure (some (.builtin id)))(h:wpAny M A (getItem o i) Q E s):
  wpAny M A (getitemInPython o>>=fun b=>subscripted x b o i) Q E s:=by
 refine QN ?_;rw[getitemInPython_of_ne hT.not_modules];refine QN (wpAny_specialOf hT hl ?_);have fin:wpAny M A (subscripted x false o i) Q E s:=by
  cases x with
  |Slice l u st p=>cases st<;>exact wpAny_operate' h
  |_=>exact wpAny_operate' h
 exact QO fin
theorem xZ1{n:Nat}{k:Int}{j:Nat}(h:at_ n k=some j):seqIndex? k n=some j/\j<n:=by
 cases k with
 |ofNat k=>
  obtain⟨h1,h2⟩:=Qj h;have e:=(Option.some.inj h2).symm;subst e;have:=QE h1;exact⟨seqIndex_of (Int.natCast_nonneg j) (Int.ofNat_lt.mpr this),this⟩
 |negSucc m=>
  obtain⟨h1,h2⟩:=Qj h;cases h2;have:=QE h1;refine⟨?_,Nat.sub_lt (QF (Nat.succ_pos m) this) (Nat.succ_pos m)⟩;rw[PySem.seqIndex_neg (Int.negSucc_lt_zero m) (Int.neg_le_neg (Int.ofNat_le.mpr this))];show some (Int.toNat (Int.subNatNat n (m+1)))=_;rw[Int.subNatNat_of_le this];rfl
theorem U6{E:Value->Shared->Prop}{l:Addr}{items:Array Value}{n:Nat}{i:Int}{u:Tok}{k:Nat}{y:Value}{Q:Value->Shared->Prop}(hl:IsL s.heap l items n)(hk:seqIndex? i items.size=some k)(hy:items[k]? =some y)
  (hlo: -2^63<=i) (hhi:i<2^63) (h:Q y s):wpAny (model C.prog C.w) A (getItem (.ref l) (.int i u)) Q E s:=by
 by_cases h0:0<=i
 ·have e:k=i.toNat:=by
   unfold seqIndex? at hk;simp only[if_neg (Int.not_lt.mpr h0)]at hk;split at hk
   ·cases hk;rfl
   ·cases hk
  exact wpAny_getItem_list ⟨_,hl,rfl,n,rfl⟩ h0 hhi (by rw[<-e];exact hy) h
 ·have e:k=(i+items.size).toNat/\ -(items.size:Int)<=i:=by
   unfold seqIndex? at hk;simp only[if_pos (Int.not_le.mp h0)]at hk;split at hk
   ·rename_i hc
    simp only[QB,decide_eq_true_eq]at hc;cases hk;exact⟨rfl,by omega⟩
   ·cases hk
  exact wpAny_getItem_list_neg ⟨_,hl,rfl,n,rfl⟩ (Int.not_le.mp h0) e.2 hlo (by rw[<-e.1];exact hy) h
theorem Kr{k:Int}{n j:Nat}(h:seqIndex? k n=some j)(hn:n<=1000): -2^63<=k/\k<2^63:=by
 unfold seqIndex? at h
 by_cases h0:k<0
 ·simp only[if_pos h0]at h
  split at h
  ·rename_i hc
   simp only[QB,decide_eq_true_eq]at hc;omega
  ·cases h
 ·simp only[if_neg h0]at h
  split at h
  ·rename_i hc
   simp only[QB,decide_eq_true_eq]at hc;omega
  ·cases h
theorem N2{α:Type}:∀{l:List α} {j:Nat} {a:α},nth l j=some a->l[j]? =some a
 |[],_,_,h=>by cases h
 |_::_,0,_,h=>by cases h;rfl
 |_::l,j+1,_,h=>by simpa using N2 (l:=l) h
theorem qXp(K:Q6 C P gT)(hA:AOk D A)(Z:Stt C env O S s){x:Expr}{o i V:HV}{vo vi:Value}(ho:VR C O S.n o vo)(hi:VR C O S.n i vi)(h:item P S i o=some V):
  Qt C env .no A (getitemInPython vo>>=fun b=>subscripted x b vo vi) O S s S (Q4 C V):=by
 revert h;refine Q0 (fun l e=>Q5 (fun k e' h=>?_) Qh) (Qv (fun j e h=>?_) (Zm (fun k e h=>?_) Qh))<;>subst e
 ·obtain⟨t,rfl⟩:=ho
  ·subst e'
   obtain⟨u,rfl⟩:=hi;obtain⟨h1,h2⟩:=Qj h;have h1:=QE h1;obtain⟨j,h3,h4⟩:=Qn h2;obtain⟨b,h5,h6⟩:=Qn h4;obtain⟨h7,h8⟩:=xZ1 h3;have hfit:=Kr h7 h1;cases b with
   |sym _=>cases h6
   |lit n=>
    obtain⟨h9,h10⟩:=Qj (x:=some (HV.int (.ofNat n))) h6;cases h10;have h9:=QE h9;have hs:(l.map (b8 C)).toArray.size=l.length:=by simp
    have hg:(l.map (b8 C)).toArray[j]? =some (UInt8.ofNat n):=by
     have:=N2 h5;simp[this,b8]
    refine Qt.tok Z fun E Q q=>Q7 (typeIs_bytes _ _ _) FB.slot_bytes_getitem.lookup ?_;refine getItem_gives (typeIs_bytes s _ t) (by decide) FB.slot_bytes_getitem FB.entry_bytes_getitem (FB.args_bytes_getitem_2 _ _) (gives_bytes_getitem _ k t u (UInt8.ofNat n) ?_ ?_) ?_
    ·simp only[Builtin.Bytes.fitsIndex,QB,decide_eq_true_eq];exact hfit
    ·rw[hs,h7];exact hg
    ·refine q _ _ ⟨s.toks,?_⟩
     have:(UInt8.ofNat n).toNat=n:=by simp;omega
     rw[this];rfl
 ·obtain⟨hj,rfl⟩:=ho
  obtain⟨ob,h1,h2⟩:=Qn h;have seqs:∀{l:List HV} {items:Array Value},F2 (VR C O S.n) l items.toList->l.length=items.size->items.size<=1000->qX9 l i=some V->∃k u kk y,vi=.int k u/\seqIndex? k items.size=some kk/\items[kk]? =some y/\VR C O S.n V y/\(-2^63<=k/\k<2^63):=by
   clear h2 h;intro l items hF hl hb;refine Q5 (fun k e h2=>?_) Qh
   ·subst e
    obtain⟨u,rfl⟩:=hi;obtain⟨kk,h3,h4⟩:=Qn h2;obtain⟨h5,h6⟩:=xZ1 h3;obtain⟨y,h7,h8⟩:=hF.nth h4;refine⟨k,u,kk,y,rfl,by rw[<-hl];exact h5,by simpa using h7,h8,?_⟩;exact Kr h5 (by omega)
  revert h2;refine Q3 (fun l e h2=>?_) (Zx (fun l e h2=>?_) (Ji (fun es e=>Zm (fun k e' h2=>?_) Qh) Qh))<;>subst e
  ·obtain⟨items,n,i1,r1,l1,b1⟩:=Z.list h1
   obtain⟨k,u,kk,y,zq⟩:=seqs r1 l1 b1 h2;obtain⟨rfl,e1,e2,e3,e4,e5⟩:=zq;exact Qt.tok Z fun E Q q=>Q7 ⟨_,i1,rfl⟩ PySem.F.slot_list_getitem.lookup (U6 i1 e1 e2 e4 e5 (q _ s.toks e3))
  ·obtain⟨items,n,i1,r1,l1,b1⟩:=Z.uF h1
   obtain⟨k,u,kk,y,zq⟩:=seqs r1 l1 b1 h2;obtain⟨rfl,e1,e2,e3,e4,e5⟩:=zq;exact Qt.tok Z fun E Q q=>Q7 ⟨_,i1,rfl⟩ PySem.F.slot_tuple_getitem.lookup (PySem.P.getItem_tuple i1 e4 e5 e1 e2 (q _ s.toks e3))
  ·clear seqs
   ·subst e'
    obtain⟨t,rfl⟩:=hi;obtain⟨kvs,ep,d1,r1,_,_⟩:=Z.dict h1;have:=r1.value k;rw[h2]at this;obtain⟨v,h5,h6⟩:=this;exact Qt.tok Z fun E Q q=>Q7 d1.dictOf.typeIs slot_dict_getitem.lookup (wpAny_getItem_of (Xl k t) d1.dictOf.mapOf h5 (q _ _ h6))
 ·obtain⟨t,rfl⟩:=ho
  obtain⟨h1,h2⟩:=Qj h;obtain⟨c,h3,h4⟩:=Qn h2;cases h4;revert h1;refine Kq (fun z e h1=>?_) Qg
  ·subst e
   obtain rfl:=Z5 h1;obtain⟨u,rfl⟩:=hi;obtain⟨ch,g1,g2⟩:=K.sub1 k c h3;refine Qt.tok Z fun E Q q=>Q7 (typeIs_str s _ t) PySem.F.slot_str_getitem.lookup (PySem.P.getItem_str (c:=ch) (by decide) ?_ (q _ _ ⟨_,by rw[g2]⟩));have hl:0<(tx k).length:=by
    show 0<(tx k).cps.size;exact(Array.getElem?_eq_some_iff.mp g1).1
   have e:seqIndex? (Int.ofNat 0) (tx k).length=some 0:=seqIndex_of (Int.le_refl _) (by show(0:Int)<_;omega);rw[e];exact g1
theorem F2.find{n:Nat}{es:List (Nat × HV)}{l:List DictEntry}(H:F2 (DR C O n) es l){i:Nat}{V:HV}:lk es i=some V->∃e,l.find? (·.key.isStr (tx i))=some e/\VR C O n V e.val:=by
 induction H with
 |nil=>exact Qh
 | @cons p e es l x y ih=>
  obtain⟨⟨t,hk⟩,_,hv⟩:=x;rw[Hm,List.find?_cons,hk]
  by_cases q:p.1=i
  ·rw[if_pos q]
   intro h;cases h;rw[q,show(Value.str (tx i) t).isStr (tx i)=true from beq_self_eq_true _];exact⟨e,rfl,hv⟩
  ·rw[if_neg q,show(Value.str (tx p.1) t).isStr (tx i)=false from beq_false_of_ne fun e=>q (Zy e)]
   exact ih
theorem xQ1(K:Q6 C P gT){n:Nat}{V:HV}{v:Value}(h:VR C O n V v):handedIn v=true:=by
 cases V with
 |none=>obtain rfl:=h;rfl
 |bool b=>obtain rfl:=h;rfl
 |int i=>obtain⟨_,rfl⟩:=h;rfl
 |str i=>obtain⟨_,rfl⟩:=h;rfl
 |sstr i=>obtain⟨_,rfl⟩:=h;rfl
 |bytes i=>obtain⟨_,rfl⟩:=h;rfl
 |typ k=>obtain rfl:=h;rfl
 |bi k=>
  obtain rfl:=h;have h0:handedIn (.builtin "len")=true:=by decide+kernel
  have h1:handedIn (.builtin "max")=true:=by decide+kernel
  have h2:handedIn (.builtin "isinstance")=true:=by decide+kernel
  have h3:handedIn (.builtin "sorted")=true:=by decide+kernel
  unfold biN;split<;>assumption
 |obj j=>obtain⟨_,rfl⟩:=h;rfl
 |fn g=>obtain rfl:=h;rfl
 |cls c=>obtain rfl:=h;rfl
 |opq k=>obtain rfl:=h;exact K.opq k
 |sint k=>obtain⟨_,rfl⟩:=h;rfl
theorem Stt.inst(Z:Stt C env O S s){j c d:Nat}{es:List (Nat × HV)}(h1:S.get j=some (.inst c d))(h2:S.get d=some (.ns es)):
  ∃sl ens m,s.heap.get? (O j)=some ⟨.ref (C.clsA c),some (O d),.plain,sl⟩/\s.heap.get? (O d)=some ⟨.type "dict",none,.dict ens m,#[]⟩/\F2 (DR C O S.n) es ens.toList/\
   InstAt s.heap (O j) ⟨.ref (C.clsA c),some (O d),.plain,sl⟩ (C.clsA c) (some ⟨.type "dict",none,.dict ens m,#[]⟩):=by
 obtain⟨_,ob,g1,_,_,sl,rfl⟩:=Z.hr.live j _ h1;obtain⟨_,zq⟩:=Z.hr.live d _ h2;obtain⟨ob,g2,zq⟩:=zq;obtain⟨_,zq⟩:=zq;obtain⟨ens,m,rfl,r⟩:=zq;exact⟨sl,ens,m,g1,g2,r,g1,rfl,rfl,g2⟩
theorem qXr(K:Q6 C P gT)(hA:AOk D A)(Z:Stt C env O S s){i:Nat}{a V:HV}{va:Value}(ha:VR C O S.n a va)(h:attr P S i a=some V):Qt C env .no A (getAttr va (tx i) true) O S s S (Q4 C V):=by
 revert h;refine Qv (fun j e h=>?_) Qh
 ·subst e
  obtain⟨hj,rfl⟩:=ha;obtain⟨o,h1,h2⟩:=Qn h;clear h;revert h2;refine Um (fun c d e h2=>?_) Qh
  ·subst e
   obtain⟨h3,h4⟩:=Qj h2;obtain⟨o',h5,h6⟩:=Qn h4;clear h2 h4;revert h6;refine qJf (fun es e h6=>?_) Qh
   ·subst e
    obtain⟨sl,ens,m,g1,g2,r,I⟩:=Z.inst h1 h5;have ck:=K.atts c i h3;unfold qZb at ck;simp only[QB,beq_iff_eq]at ck;obtain⟨⟨⟨c1,c2⟩,c3⟩,_⟩:=ck;obtain⟨e,f1,f2⟩:=r.find h6;cases hcl:clsIn C.K (C.clsA c)with
    |none=>rw[hcl]at c1;cases c1
    |some cd=>
     rw[hcl]at c1;have hf:findObj C.K (C.clsA c) (some ⟨.type "dict",none,.dict ens m,#[]⟩) (tx i)=some (.value e.val):=by
      have own:PySem.W.ownOf cd (some ⟨.type "dict",none,.dict ens m,#[]⟩) (tx i)=some (some e.val):=by
       unfold PySem.W.ownOf;rw[if_pos (show cd.hasDict=true from c1)];show(match ens.toList.find? (·.key.isStr (tx i))with|some e=>_|none=>_)=_;rw[f1]
      unfold findObj;rw[hcl,c2];show(PySem.W.ownOf cd _ _).bind _=_;rw[own];rfl
     exact Qt.tok Z fun E Q q=>get_value (K.kin.keeps Z.old) I c3 hf (xQ1 K f2) (q _ _ f2)
end
section
variable{C:Cx}{P:Par}{gT:Nat->Option HV}{env:Env}{nm:Nms}{A:Around}{O:Nat->Addr}{S S':St}{s:Shared}{D f:Nat}{ev:HE->St->R HV}{ts:HE->St->R Bool}{xs:List HS->St->R Fl}{V:HV}
theorem xQk{C:Cx}{l:List B8}:∀{b:List UInt8},Q9 kB8 l b=true->l.map (b8 C)=b:=by
 induction l with
 |nil=>intro b h;cases b with
  |nil=>rfl
  |cons _ _=>exact Qg h
 |cons x l ih=>intro b h;cases b with
  |nil=>exact Qg h
  |cons y t=>
   obtain⟨h1,h2⟩:=QA h;cases x with
   |sym _=>exact Qg h1
   |lit n=>
    rw[List.map_cons,ih h2,show b8 C (.lit n)=y from(congrArg UInt8.ofNat (Z5 h1)).trans UInt8.ofNat_toNat]
theorem W4(Z:Stt C env O S s){v:HV}{c:Const}{k:Nat}{pos:Pos}(h:kCst v c=true):Run C env .no A (eval (.Constant c k pos) env) O S s S (Q4 C v):=by
 rw[arm_eval_Constant];cases c with
 |none=>
  refine Yj (fun e J=>?_) Qg h;rw[e];exact Run.pure Z rfl
 |bool b=>
  refine Yl (fun a e h=>?_) Qg h;rw[Pl]at h;rw[e,eq_of_beq h];exact Run.pure Z rfl
 |int j=>
  refine Q5 (fun a e h=>?_) Qg h;rw[e,of_decide_eq_true h];exact Run.tok Z fun E Q q=>wpAny_mkInt (q _ _ ⟨_,rfl⟩)
 |str x=>
  refine Zm (fun a e h=>?_) Qg h;rw[e,<-eq_of_beq h];exact Run.tok Z fun E Q q=>wpAny_mkText (q _ _ ⟨_,rfl⟩)
 |bytes b=>
  refine Q0 (fun a e h=>?_) Qg h;rw[e];refine Run.tok Z fun E Q q=>wpAny_mkTextBytes (q _ _ ⟨s.toks,?_⟩)
  congr 2
  exact(xQk h).symm
 |_=>exact Qg h
theorem Bf(Z:Stt C env O S s)(ho:Qm env nm){i:Nat}{x:Str}{pos:Pos}(hx:K7 nm i x=true)(h:lk S.loc i=some V):Run C env .no A (eval (.Name x pos) env) O S s S (Q4 C V):=by
 obtain⟨ht,hk,hd,hd'⟩:=Ho hx;obtain⟨m,hm,hl⟩:=Z.lr.loc;obtain⟨v,hv,hL⟩:=hl i V h;rw[ht]at hL;refine Run.tok Z fun E Q q=>wpAny_Name ?_ hd;rcases hk with hk|hk
 ·have hkk:=(ho.kindOf x).trans hk
  unfold Loc at hL;rw[hkk]at hL;exact wpAny_loadName_local ho.kind hkk hm hL (q v s.toks hv)
 ·have hkk:=(ho.kindOf x).trans hk
  unfold Loc at hL;rw[hkk]at hL;obtain⟨c,h1,h2⟩:=hL;exact wpAny_loadName_cell ho.kind hkk h1 h2 (q v s.toks hv)
theorem xZr{l m:List B8}(h:bl1 l m=true):l=m:=by
 rcases l with _|⟨_|_,_|_⟩<;>first|exact Qg h|skip
 rcases m with _|⟨_|_,_|_⟩<;>first|exact Qg h|exact congrArg (fun a=>[B8.lit a]) (QC h)
theorem zQd{u v:HV}(h:hvEq u v=true):u=v:=by
 cases u<;>first|exact Qg h|skip
 all_goals cases v<;>first
  |exact Qg h
  |exact congrArg _ (QC h)
  |exact congrArg _ (of_decide_eq_true h)
  |exact congrArg _ (xZr h)
theorem Bg(K:Q6 C P gT)(Z:Stt C env O S s)(ho:Qm env nm){i:Nat}{x:Str}{pos:Pos}(hx:xJk gT nm i V x=true):Run C env .no A (eval (.Name x pos) env) O S s S (Q4 C V):=by
 simp only[xJk,Bo,QB,beq_iff_eq,Bool.not_eq_true']at hx;obtain⟨⟨⟨ht,hk⟩,hd,_⟩,hg⟩:=hx;have hk:nm.lookup x=some .globalImplicit:=by
  unfold zQ8 at hk;split at hk
  ·assumption
  ·cases hk
 cases hgT:gT i with
 |none=>rw[hgT]at hg;cases hg
 |some u=>
  rw[hgT]at hg;obtain rfl:=zQd hg;obtain⟨mg,mb,h1,h2,h3,_⟩:=K.glob;obtain⟨v,hv,hr⟩:=h3 i u hgT;rw[ht]at hv;have hR:VR C O S.n u v:=hr O S.n Z.hr.froA Z.hr.seven;refine Run.tok Z fun E Q q=>Name_function_global ho.kind ((ho.kindOf x).trans hk) ?_ hd;have g1:s.heap.Ns env.globals mg:=by rw[ho.glob];exact h1.keeps Z.old
  have g2:s.heap.Ns env.builtins mb:=by rw[ho.blt];exact h2.keeps Z.old
  rcases hv with hv|⟨hn,hv⟩
  ·exact loadGlobal_global g1 hv (q v s.toks hR)
  ·exact loadGlobal_builtin g1 hn g2 hv (q v s.toks hR)
theorem Run.operate{vs:List Value}{t:Sem Value}{r:Yt Value}(R:Run C env .no A t O S s S' r):Run C env .no A (operate vs t) O S s S' r:=fun E Q q=>Gz (R E Q q)
theorem qJ4(K:Q6 C P gT)(hE:SE C gT ev D)(hA:AOk D A)(ho:Qm env nm)(Z:Stt C env O S s){op:Nat}{a b:HE}{x y:Expr}{o:Operator}{pos:Pos}(hop:opN op o=true)(hx:Qq gT f nm a x=true)(hy:Qq gT f nm b y=true)
  (h:eBin P ev op a b S=.ok V S'):Run C env .no A (eval (.BinOp x o y pos) env) O S s S' (Q4 C V):=by
 obtain⟨va,S1,h1,h⟩:=Qb h;obtain⟨vb,S2,h2,h⟩:=Qb h;rw[arm_eval_BinOp];refine Run.bind (hE _ _ _ _ _ _ _ _ _ _ _ hx ho hA Z h1) fun v O1 sA XC ZC rA=>Run.bind (Run.holding (hE _ _ _ _ _ _ _ _ _ _ _ hy ho hA ZC h2)) fun u O2 s2 XD ZD rB=>Run.standAt (Run.operate ?_);exact Qt.c<|zJc K hA ZD hop (rA.mono XD.agree XD.n) rB h
theorem Dc{o:CmpOp}{y:Expr}{t:Sem Value}(h:Hj y=true):markedEach [o] [y] [t]=[t]:=by
 show[markedBehindIn o y t]=_;unfold markedBehindIn;have:behindInMarks o y=false:=by cases y<;>first|rfl|cases h
 rw[this]
theorem Tk(K:Q6 C P gT)(hE:SE C gT ev D)(hA:AOk D A)(ho:Qm env nm)(Z:Stt C env O S s){op:Nat}{a b:HE}{x y:Expr}{o:CmpOp}{pos:Pos}(hn:Hj y=true)(hop:cmN op o=true)(hx:Qq gT f nm a x=true)(hy:Qq gT f nm b y=true)
  (h:xZc P ev op a b S=.ok V S'):Run C env .no A (eval (.Compare x [o] [y] pos) env) O S s S' (Q4 C V):=by
 obtain⟨va,S1,h1,h0⟩:=Qb h;clear h;obtain⟨vb,S2,h2,h⟩:=Qb h0;clear h0;obtain⟨r,SC,h3,h4⟩:=Qb h;clear h;obtain⟨h3,rfl⟩:=Q8 h3;cases h4;rw[arm_eval_Compare];refine Run.bind (hE _ _ _ _ _ _ _ _ _ _ _ hx ho hA Z h1) fun v O1 sA XC ZC rA=>?_;show Run C env .no A (compareChain pos v [o] (markedEach [o] [y] [eval y env])) _ _ _ _ _;rw[Dc hn];refine Run.bind (Run.holding (hE _ _ _ _ _ _ _ _ _ _ _ hy ho hA ZC h2)) fun u O2 s2 XD ZD rB=>Run.standAt (Run.operate ?_);exact Qt.c<|qZk K hA ZD hop (rA.mono XD.agree XD.n) rB h3
theorem qJx(K:Q6 C P gT)(hE:SE C gT ev D)(hA:AOk D A)(ho:Qm env nm)(Z:Stt C env O S s){a:HE}{x:Expr}{pos:Pos}(hx:Qq gT f nm a x=true)(h:eNeg ev a S=.ok V S'):
  Run C env .no A (eval (.UnaryOp .USub x pos) env) O S s S' (Q4 C V):=by
 obtain⟨va,S1,h1,h⟩:=Qb h;cases va with
 |int i=>
  cases h;rw[arm_eval_UnaryOp];exact Run.bind (hE _ _ _ _ _ _ _ _ _ _ _ hx ho hA Z h1) fun v O1 sA XC ZC rA=>Run.standAt (Run.holding (Qt.c<|zJa K hA ZC rA))
 |_=>cases h
theorem qJw(K:Q6 C P gT)(hE:SE C gT ev D)(hA:AOk D A)(ho:Qm env nm)(Z:Stt C env O S s){a:HE}{x:Expr}{pos:Pos}(hx:Qq gT f nm a x=true)(h:eNot ev a S=.ok V S'):
  Run C env .no A (eval (.UnaryOp .Not x pos) env) O S s S' (Q4 C V):=by
 obtain⟨va,S1,h1,h0⟩:=Qb h;clear h;have h:=h0;clear h0;obtain⟨b,S2,h2,h4⟩:=Qb h;clear h;obtain⟨h2,rfl⟩:=Q8 h2;cases h4;rw[arm_eval_UnaryOp];exact Run.bind (hE _ _ _ _ _ _ _ _ _ _ _ hx ho hA Z h1) fun v O1 sA XC ZC rA=>Run.standAt (Run.holding (Qt.c<|zZ9 K hA ZC rA h2))
theorem qJ0(hE:SE C gT ev D)(hT:ST C gT ts D)(hA:AOk D A)(ho:Qm env nm)(Z:Stt C env O S s){t a b:HE}{x y z:Expr}{pos:Pos}(hx:Qq gT f nm t x=true)(hy:Qq gT f nm a y=true)(hz:Qq gT f nm b z=true)
  (h:eIte ev ts t a b S=.ok V S'):Run C env .no A (eval (.IfExp x y z pos) env) O S s S' (Q4 C V):=by
 obtain⟨c,S1,h1,h⟩:=Qb h;rw[arm_eval_IfExp];refine Run.bind (hT _ _ _ _ _ _ _ _ _ _ _ hx ho hA Z h1) fun c' O1 sA XC ZC rA=>?_;obtain rfl:=rA;cases c' with
 |true=>exact hE _ _ _ _ _ _ _ _ _ _ _ hy ho hA ZC h
 |false=>exact hE _ _ _ _ _ _ _ _ _ _ _ hz ho hA ZC h
theorem qJy(hE:SE C gT ev D)(hA:AOk D A)(ho:Qm env nm)(Z:Stt C env O S s){l:List HE}{xl:List Expr}{pos:Pos}(hn:xl.all Zd=true)(hx:Q9 (Qq gT f nm) l xl=true)(h:eLst ev l S=.ok V S'):
  Run C env .no A (eval (.List xl pos) env) O S s S' (Q4 C V):=by
 obtain⟨vs,S1,h1,h⟩:=Qb h;rw[arm_eval_List];exact Run.standAt (Run.bind (Kg hE ho hA pos l xl O S s vs S1 hx hn Z h1) fun vl O1 sA XC ZC rA=>Qt.c<|Lr ZC rA h)
theorem qJs(hE:SE C gT ev D)(hA:AOk D A)(ho:Qm env nm)(Z:Stt C env O S s){l:List HE}{xl:List Expr}{k:Nat}{pos:Pos}(hn:xl.all Zd=true)(hx:Q9 (Qq gT f nm) l xl=true)(h:eTup ev l S=.ok V S'):
  Run C env .no A (eval (.Tuple xl k pos) env) O S s S' (Q4 C V):=by
 obtain⟨vs,S1,h1,h⟩:=Qb h;rw[arm_eval_Tuple];exact Run.standAt (Run.bind (Kg hE ho hA pos l xl O S s vs S1 hx hn Z h1) fun vl O1 sA XC ZC rA=>Qt.c<|Nr ZC rA h)
end
section
variable{C:Cx}{P:Par}{gT:Nat->Option HV}{env:Env}{nm:Nms}{A:Around}{O:Nat->Addr}{S S':St}{s:Shared}{D f:Nat}{ev:HE->St->R HV}{ts:HE->St->R Bool}{xs:List HS->St->R Fl}{V:HV}
theorem Lb{a:Expr}{n:Str}{whole:Sem Value}(h:Y0 a=true):attributeBase a n env whole=whole:=by
 cases a with
 |Call f l k p=>cases l with
  |nil=>exact ff h
  |cons x l=>cases f<;>rfl
 |_=>rfl
theorem Run.letGo{kk:Wk}{β:Type}{b:Expr}{o r:Value}{t:Unit->Sem β}{r':Yt β}(R:Run C env kk A (t ()) O S s S' r'):Run C env kk A (letTemporaryGo b o r>>=t) O S s S' r':=
 fun E Q q=>Qa (Qe (wpAny_letTemporaryGo (R E Q q)))
theorem qJ5(K:Q6 C P gT)(hE:SE C gT ev D)(hA:AOk D A)(ho:Qm env nm)(Z:Stt C env O S s){o:HE}{a:Expr}{i:Nat}{n:Str}{pos:Pos}(hn:Y0 a=true)(hi:tx i=n)(hx:Qq gT f nm o a=true)(h:eAtt P ev o i S=.ok V S'):
  Run C env .no A (eval (.Attribute a n pos) env) O S s S' (Q4 C V):=by
 obtain⟨va,S1,h1,h2⟩:=Qb h;obtain⟨h3,rfl⟩:=Q8 h2;subst hi;rw[arm_eval_Attribute,Lb hn];refine Run.bind (hE _ _ _ _ _ _ _ _ _ _ _ hx ho hA Z h1) fun v O1 sA XC ZC rA=>Run.standAt (Run.bind (Run.holding (Qt.c<|qXr K hA ZC rA h3)) fun u O2 s2 XD ZD rB=>Run.letGo (Run.pure ZD rB))
theorem qJu(K:Q6 C P gT)(hE:SE C gT ev D)(hA:AOk D A)(ho:Qm env nm)(Z:Stt C env O S s){o i:HE}{a b:Expr}{pos:Pos}(hx:Qq gT f nm o a=true)(hy:Qq gT f nm i b=true)(h:eSub P ev o i S=.ok V S'):
  Run C env .no A (eval (.Subscript a b pos) env) O S s S' (Q4 C V):=by
 obtain⟨va,S1,h1,h2⟩:=Qb h;obtain⟨vb,S2,h3,h4⟩:=Qb h2;obtain⟨h5,rfl⟩:=Q8 h4;rw[arm_eval_Subscript];refine Run.bind (hE _ _ _ _ _ _ _ _ _ _ _ hx ho hA Z h1) fun v O1 sA XC ZC rA=>Run.bind (Run.holding (hE _ _ _ _ _ _ _ _ _ _ _ hy ho hA ZC h3)) fun u O2 s2 XD ZD rB=>Run.standAt ?_;have:=Qt.c<|qXp (x:=b) K hA ZD (rA.mono XD.agree XD.n) rB h5
 intro E Q q;have w':=Qa (f:=fun r=>letTemporaryGo _ v r>>=fun J=>pure r) (Qf (this E (fun a s'=>Q a s') (fun a O' s' x z y=>q a O' s' x z y)) (fun r s' hq=>Qa (Qe (wpAny_letTemporaryGo (base:=a) (o:=v) (r:=r) (Qc hq)))) fun J J e=>e);simpa only[bind_assoc]using w'
set_option tactic.hygienic true in
theorem My{x:Expr}{whole:Sem Value}(h:(match x with|.UnaryOp .Not .. =>false|.BoolOp .. =>false|.IfExp .. =>false|.Compare .. =>false|_=>true)=true):
  isTrue x env whole=(do let v <-whole;standAt x.pos;holding [v] (truthy v)):=by
 cases x<;>first|rfl|(simp at h;done)|(rename_i op _ _;cases op<;>first|rfl|(simp at h;done))
theorem W2(hT:ST C gT ts D)(hA:AOk D A)(ho:Qm env nm){isAnd:Bool}{op:BoolOp}(hop:(match op with|.And=>isAnd|.Or=> !isAnd)=true):∀(l:List HE) (xl:List Expr) (O:Nat->Addr) (S:St) (s:Shared) (b:Bool) (S':St),
  Q9 (Qq gT f nm) l xl=true->Stt C env O S s->tsts ts isAnd l S=.ok b S'->Run C env .no A (allTrue op xl env) O S s S' (fun J J b'=>b'=b)
 |[],[],O,S,s,b,S',_,Z,h=>by
  cases h;rw[arm_allTrue_nil];exact Run.pure Z (by cases op<;>cases isAnd<;>first|rfl|cases hop)
 |e::l,x::xl,O,S,s,b,S',hc,Z,h=>by
  obtain⟨c,S1,h1,h2⟩:=Qb h;replace hc:=QA hc;rw[arm_allTrue_cons];refine Run.bind (hT _ _ _ _ _ _ _ _ _ _ _ hc.1 ho hA Z h1) fun c' O1 sA XC ZC rA=>?_;obtain rfl:=rA;have ih:=W2 hT hA ho hop l xl O1 S1 sA b S' hc.2 ZC;cases op<;>cases isAnd<;>first|(cases hop;done)|skip
  ·cases c' with
   |true=>exact ih h2
   |false=>cases h2;exact Run.pure ZC rfl
  ·cases c' with
   |true=>cases h2;exact Run.pure ZC rfl
   |false=>exact ih h2
 |[],_::_,_,_,_,_,_,hc,_,_=>by cases hc
 |_::_,[],_,_,_,_,_,hc,_,_=>by cases hc
theorem Ni(K:Q6 C P gT)(hE:SE C gT ev D)(hA:AOk D A)(ho:Qm env nm)(pos:Pos){isAnd:Bool}{op:BoolOp}(hop:(match op with|.And=>isAnd|.Or=> !isAnd)=true):∀(l:List HE) (xl:List Expr) (O:Nat->Addr) (S:St) (s:Shared) (V:HV) (S':St),
  Q9 (Qq gT f nm) l xl=true->Stt C env O S s->bos ev isAnd l S=.ok V S'->Run C env .no A (boolOp pos op (evalEach xl env)) O S s S' (Q4 C V)
 |[],[],_,_,_,_,_,_,_,h=>by cases h
 |[e],[x],O,S,s,V,S',hc,Z,h=>by
  replace hc:=QA hc;exact hE _ _ _ _ _ _ _ _ _ _ _ hc.1 ho hA Z h
 |e::e'::l,x::x'::xl,O,S,s,V,S',hc,Z,h=>by
  obtain⟨va,S1,h1,h2⟩:=Qb (x:=ev e S) h;obtain⟨c,S2,h3,h4⟩:=Qb h2;obtain⟨h5,rfl⟩:=Q8 h3;have hc:(Qq gT f nm e x&&Q9 (Qq gT f nm) (e'::l) (x'::xl))=true:=hc;simp only[QB]at hc;show Run C env .no A (boolOp pos op (eval x env::eval x' env::evalEach xl env)) _ _ _ _ _;refine Run.bind (hE _ _ _ _ _ _ _ _ _ _ _ hc.1 ho hA Z h1) fun v O1 sA XC ZC rA=>Run.standAt (Run.bind (Run.holding (Qt.c<|Xa K hA ZC rA h5)) fun c' O2 s2 XD ZD rB=>?_);obtain rfl:=rB;have ih:=Ni K hE hA ho pos hop (e'::l) (x'::xl) O2 S2 s2 V S' hc.2 ZD;have hv:=rA.mono XD.agree XD.n;cases op<;>cases isAnd<;>first|(cases hop;done)|skip
  ·cases c' with
   |true=>exact ih h4
   |false=>cases h4;exact Run.pure ZD hv
  ·cases c' with
   |true=>cases h4;exact Run.pure ZD hv
   |false=>exact ih h4
 |[_],_::_::_,_,_,_,_,_,hc,_,_=>by exact Qg (QA hc).2
 |_::_::_,[_],_,_,_,_,_,hc,_,_=>by exact Qg (QA hc).2
 |[],_::_,_,_,_,_,_,hc,_,_=>by cases hc
 |_::_,[],_,_,_,_,_,hc,_,_=>by cases hc
theorem Tl(K:Q6 C P gT)(hE:SE C gT ev D)(hA:AOk D A)(ho:Qm env nm)(Z:Stt C env O S s){op:Nat}{a b:HE}{x y:Expr}{o:CmpOp}{pos:Pos}{r:Bool}{whole:Sem Value}(hn:Hj y=true)(hop:cmN op o=true)(hx:Qq gT f nm a x=true)(hy:Qq gT f nm b y=true)
  (h:xZc P ev op a b S=.ok (.bool r) S'):Run C env .no A (isTrue (.Compare x [o] [y] pos) env whole) O S s S' (fun J J b=>b=r):=by
 obtain⟨va,S1,h1,h2⟩:=Qb h;obtain⟨vb,S2,h3,h4⟩:=Qb h2;obtain⟨r',SC,h5,h6⟩:=Qb (x:=ofO _ _) h4;obtain⟨h7,rfl⟩:=Q8 h5;cases h6;rw[arm_isTrue_Compare];refine Run.bind (hE _ _ _ _ _ _ _ _ _ _ _ hx ho hA Z h1) fun v O1 sA XC ZC rA=>?_;show Run C env .no A (testChain pos v [o] (markedEach [o] [y] [eval y env])) _ _ _ _ _;rw[Dc hn];unfold testChain;refine Run.bind (Run.holding (hE _ _ _ _ _ _ _ _ _ _ _ hy ho hA ZC h3)) fun u O2 s2 XD ZD rB=>Run.standAt (Run.bind (Run.operate (Qt.c<|qZk K hA ZD hop (rA.mono XD.agree XD.n) rB h7)) fun c O3 s3 XE ZE rC=>?_);exact Run.holding (Qt.c<|Xa K hA ZE rC rfl)
theorem Stt.back{env':Env}{W':Addr->Prop}{O':Nat->Addr}{S0 S1:St}{s0 s':Shared}(Z:Stt C env O S s)(ht:S0.t=S.t)(hn:S0.n=S.n)(hk:∀b o,s.heap.get? b=some o->s0.heap.get? b=some o)(hg:s0.gens=s.gens)(hos:s0.os=s.os)
  (hW:∀b,W' b->¬b<s.heap.objs.size) (X:Ext C W' O S0 s0 O' S1 s') (Z':Stt C env' O' S1 s'):
  Ext C (Wd env .no) O S s O' (S1.back S) s'/\Stt C env O' (S1.back S) s':=by
 have hget:∀j,S0.get j=S.get j:=fun j=>by show S0.t.get j=S.t.get j;rw[ht]
 have hget':∀j,(S1.back S).get j=S1.get j:=fun J=>rfl;have keep:∀a o,s.heap.get? a=some o->¬W' a->(∀j,C.T0.get j=none->j<S.n->(S.get j).isSome->O j≠a)->s'.heap.get? a=some o:=fun a o e w l=>X.keep a o (hk a o e) w fun j hj hl h=>l j hj (hn▸hl) (by rwa [hget]at h);have new0:∀j,S0.n<=j->(S1.get j).isSome->s.heap.get? (O' j)=none:=fun j hj h=>by
  cases e:s.heap.get? (O' j)with
  |none=>rfl
  |some o=>
   have h1:=hk _ _ e;rw[X.new j hj h]at h1;cases h1
 refine⟨⟨fun j hj=>X.agree j (by rw[hn];exact hj),by have:=X.n;rw[hn]at this;exact this,fun j hj=>by rw[hget',X.kd j (by rw[hn];exact hj),hget],fun j hj h=>new0 j (by rw[hn];exact hj) h,
   fun a o e J l=>keep a o e (fun w'=>hW a w' (QH e)) l,X.gens.trans hg,X.os.trans hos⟩,⟨⟨Z'.hr.live,Z'.hr.inj,Z'.hr.above,Z'.hr.small,Z'.hr.frz,Z'.hr.fro,Z'.hr.ep⟩,?_,Z'.old⟩⟩
 refine Z.lr.grow (fun j hj=>X.agree j (by rw[hn];exact hj)) (by have:=X.n;rw[hn]at this;exact this) rfl (fun b w o e=>keep b o e (fun w'=>hW b w' (QH e)) fun j J J h q=>Z.lr.ul h (q▸w)) fun j hj w=>?_
 by_cases q:j<S0.n
 ·rw[X.agree j q]at w
  have:(S.get j).isSome:=by rw[<-hget];exact(X.dom j q).mp hj
  exact Z.lr.ul this w
 ·have h1:=new0 j (Nat.not_lt.mp q) hj
  rcases w with w|⟨x,w⟩
  ·obtain⟨m,⟨o',_,_,ho,_⟩,_⟩:=Z.lr.loc
   rw[<-w,h1]at ho;cases ho
  ·obtain⟨_,_,_,v,o',ho,_⟩:=Z.lr.cell x _ w
   rw[h1]at ho;cases ho
end
theorem Vh{k:Str->Option NameKind}:∀{r:List (Str × Value)} {m:Str->Option Value} {x:Str},x∉r.map (·.1)->bindL k r m x=m x
 |[],_,_,_=>rfl
 |(n,v)::r,m,x,h=>by
  simp only[List.map_cons,List.mem_cons,not_or]at h;unfold bindL;rw[Vh h.2];split
  ·exact if_neg h.1
  ·rfl
theorem Vi{k:Str->Option NameKind}:∀{r:List (Str × Value)} {m:Str->Option Value} {x:Str},x∉r.map (·.1)->bindC k r m x=m x
 |[],_,_,_=>rfl
 |(n,v)::r,m,x,h=>by
  simp only[List.map_cons,List.mem_cons,not_or]at h;unfold bindC;rw[Vi h.2];split
  ·rfl
  ·exact if_neg h.1
theorem Xh{α:Type}:∀(ps:List Nat) (vs:List α) (x:Str),x∈((ps.map tx).zip vs).map (·.1)->∃i∈ps,x=tx i
 |[],_,_,h=>by simp at h
 |p::ps,[],_,h=>by simp at h
 |p::ps,v::vs,x,h=>by
  simp only[List.map_cons,List.zip_cons_cons,List.mem_cons]at h;rcases h with e|h
  ·exact⟨p,by simp,e⟩
  ·obtain⟨i,hi,e⟩:=Xh ps vs x h
   exact⟨i,by simp[hi],e⟩
theorem bound{r:HV->Value->Prop}{k:Str->Option NameKind}:∀{ps:List Nat} {as:List HV} {vs:List Value} {m cm:Str->Option Value},ps.Nodup->F2 r as vs->∀{i:Nat} {V:HV},lk (ps.zip as) i=some V->
  ∃v,r V v/\(k (tx i)=some .local->bindL k ((ps.map tx).zip vs) m (tx i)=some v)/\(k (tx i)≠some .local->bindC k ((ps.map tx).zip vs) cm (tx i)=some v)
 |[],_,_,_,_,_,_,_,_,h=>by cases h
 |p::ps,_,_,_,_,_,.nil,_,_,h=>by cases h
 |p::ps,a::as,v::vs,m,cm,hn,.cons x y,i,V,h=>by
  have h:(Bool.rec (lk (ps.zip as) i) (some a) (Nat.beq p i):Option HV)=some V:=h;obtain⟨h1,h2⟩:=List.nodup_cons.mp hn;have no:∀j,j=p->tx j∉((ps.map tx).zip vs).map (·.1):=fun j hj hm=>by
   obtain⟨q,hq,e⟩:=Xh ps vs _ hm;have e:=Zy e;rw[hj]at e;exact h1 (e▸hq)
  cases hb:Nat.beq p i with
  |true=>
   rw[hb]at h;cases h;have e:=QC hb;subst e;refine⟨v,x,fun hk=>?_,fun hk=>?_⟩
   ·simp only[List.map_cons,List.zip_cons_cons,bindL]
    rw[Vh (no p rfl),if_pos hk];exact if_pos rfl
   ·simp only[List.map_cons,List.zip_cons_cons,bindC]
    rw[Vi (no p rfl),if_neg hk];exact if_pos rfl
  |false=>
   rw[hb]at h;obtain⟨u,hu,ha,hb'⟩:=bound (m:=if k (tx p)=some .local then fun y=>if y=tx p then some v else m y else m) (cm:=if k (tx p)=some .local then cm else fun y=>if y=tx p then some v else cm y) h2 y h;exact⟨u,hu,fun hk=>by simp only[List.map_cons,List.zip_cons_cons,bindL];exact ha hk,fun hk=>by simp only[List.map_cons,List.zip_cons_cons,bindC];exact hb' hk⟩
inductive FnD(C:Cx)(gT:Nat->Option HV)(a:Addr)(f:Fn)(o:Obj)(fd:FuncData)(body:List Stmt)(nmF:Nms):Prop
 |mk:C.h0.get? a=some o->o.data=.func fd->fd.body=.stmts body->fd.scope.names=nmF->Q9 (Vf gT 40 nmF) f.body body=true->fd.scope.kind=.function->fd.scope.isCoroutine=false->fd.scope.isGenerator=false->
  fd.globals=mainGlobals->fd.builtins=builtinsNs->fd.closure=[]->C.h0.CodeRec fd.code fd.qualname->
  (∀i∈f.ps,nmF.lookup (tx i)=some .local∨nmF.lookup (tx i)=some .cell)->
  (∀(s:Shared),(∀b o,C.h0.get? b=some o->s.heap.get? b=some o)->∀vals:List Value,f.ps.length-f.ds.length<=vals.length->vals.length<=f.ps.length->
   ∃dv,F2 (VRc C) (f.ds.drop (f.ds.length-(f.ps.length-vals.length))) dv/\BindsTo s fd ⟨vals,[]⟩ ((f.ps.map tx).zip (vals++dv)))->FnD C gT a f o fd body nmF
structure Py(C:Cx)(gT:Nat->Option HV)(a:Addr)(f:Fn):Prop where
 it:∃o fd body nmF,FnD C gT a f o fd body nmF
 ps:f.ps.Nodup
theorem Qx:∀(nm:Nms) (n:Nat) (acc:List (Str × Addr)) (x:Str),(nm.lookup x=some .cell∨(acc.lookup x).isSome)->((cellsFrom n nm acc).lookup x).isSome
 |[],n,acc,x,h=>h.elim (fun h=>by simp at h) id
 |(y,k)::r,n,acc,x,h=>by
  unfold cellsFrom
  by_cases e:x=y
  ·subst e
   split
   ·exact Qx r (n+1) _ x (.inr (by simp))
   ·rename_i hk
    refine Qx r n acc x (.inr ?_);rcases h with h|h
    ·simp only[List.lookup_cons,BEq.rfl]at h
     simp only[Option.some.injEq]at h;rw[h]at hk;simp at hk
    ·exact h
  ·have hb:(x==y)=false:=by simpa using e
   have h':r.lookup x=some .cell∨(acc.lookup x).isSome:=h.imp (fun h=>by rwa [List.lookup_cons,hb]at h) id;split
   ·exact Qx r (n+1) _ x (h'.imp id fun h=>by rw[List.lookup_cons,hb];exact h)
   ·exact Qx r n acc x h'
section
variable{C:Cx}{P:Par}{gT:Nat->Option HV}{env:Env}{nm:Nms}{A:Around}{O:Nat->Addr}{S S':St}{s:Shared}{D f:Nat}{ev:HE->St->R HV}{ts:HE->St->R Bool}{xs:List HS->St->R Fl}{V:HV}
theorem Run.call{fv:Value}{vals:List Value}{S':St}{r:Yt Value}
  (h:∀(E:Value->Shared->Prop) (Q:Value->Shared->Prop),(∀a O' s',Ext C (Wd env .no) O S s O' S' s'->Stt C env O' S' s'->r O' S'.n a->Q a s')->
   Q1 (model C.prog C.w) A (.call fv ⟨vals,[]⟩) (fun r s'=>match r with|.ok (.ret v)=>Q v s'|.ok _=>False|.error e=>E e s') s):Run C env .no A (call fv vals) O S s S' r:=
 fun E Q q=>Z1 (h E Q q)
theorem Je{fd:FuncData}{L a:Addr}{s sA:Shared}{m cm:Str->Option Value}(x:InCallC s (callEnvC fd L a).locals m (callEnvC fd L a).cells cm sA){b:Addr}(hb:Wr (callEnvC fd L a) b):L<=b:=by
 rcases hb with e|⟨y,hy⟩
 ·exact Nat.le_of_eq e.symm
 ·exact Nat.le_of_lt (x.above y b (mem_of_lookup hy))
def RunC(C:Cx)(env:Env)(A:Around)(fv:Value)(vals:List Value)(O:Nat->Addr)(S:St)(s:Shared)(S':St)(r:Yt Value):Prop:=
 ∀(E:Value->Shared->Prop) (Q:Value->Shared->Prop),(∀a O' s',Ext C (Wd env .no) O S s O' S' s'->Stt C env O' S' s'->r O' S'.n a->Q a s')->
   Q1 (model C.prog C.w) A (.call fv ⟨vals,[]⟩) (fun r s'=>match r with|.ok (.ret v)=>Q v s'|.ok _=>False|.error e=>E e s') s
theorem Nf(K:Q6 C P gT)(hX:SX C gT xs D)(hA:AOk (D+1) A)(Z:Stt C env O S s){a:Addr}{fn:Fn}(F:Py C gT a fn){as:List HV}{vals:List Value}(hv:F2 (VR C O S.n) as vals)
  (h:qQ6 xs fn as S=.ok V S'):RunC C env A (.ref a) vals O S s S' (Q4 C V):=by
 obtain⟨hl,h1⟩:=Qk h;obtain⟨fl,S1,h2,h3⟩:=Qb h1;have hl:=QC hl;obtain⟨o,fd,body,nmF,FD⟩:=F.it;cases FD with
 |mk ho hd hb hnm hck hk hco hgen hg hbl hcl hcr hps hbind=>
 have hlen:=hv.length;have hl':=hl;rw[List.length_append,List.length_drop]at hl';have hmin:fn.ps.length-fn.ds.length<=as.length:=Nat.sub_le_iff_le_add.mpr (QG (Nat.le_of_eq hl'.symm) (Nat.add_le_add_left (Nat.sub_le _ _) _));obtain⟨dv,hdv,hB⟩:=hbind s Z.old vals (hlen▸hmin) (hlen▸QG (Nat.le_add_right _ _) (Nat.le_of_eq hl'));clear hl';have hvals:F2 (VR C O S.n) (as++fn.ds.drop (fn.ds.length-(fn.ps.length-as.length))) (vals++dv):=F2.append (by rw[hlen];exact hdv.imp fun J J h=>h O S.n Z.hr.froA Z.hr.seven) hv;intro E Q q;refine Zl (by have:=hA.depth;show A.depth<1000;omega) (Z.old _ _ ho) hd hco hgen hb (hcr.keeps Z.old) (hB _ _ _ _ ?_);rw[hcl];have hkind:∀x∈(fn.ps.map tx).zip (vals++dv),fd.scope.names.lookup x.1=some .local∨(fd.scope.names.lookup x.1=some .cell/\((cellsFrom (s.heap.objs.size+1) fd.scope.names []).lookup x.1).isSome=true):=fun x hx=>by
  obtain⟨i,hi,e⟩:=Xh fn.ps (vals++dv) x.1 (List.mem_map_of_mem hx);rw[e,hnm];exact(hps i hi).imp id fun h=>⟨h,Qx nmF _ _ _ (.inl h)⟩
 refine wpAny_newFunctionEnv_cells hk hkind fun env' he sA x=>?_;subst he;have hlim:sA.heap.NoLimit:=(K.nolimit.keeps Z.old).keeps x.toInCall.keep;refine⟨hlim,Ko ?_⟩;obtain⟨h',tk,rfl⟩:=x.toInCall.same;have hE':Qm (callEnvC fd s.heap.objs.size a) nmF:=⟨hnm,hk,hg,hbl,fun y hy=>by
  have:=Qx nmF (s.heap.objs.size+1) [] y (.inl hy);obtain⟨c,hc⟩:=QD this;exact⟨c,by show(cellsFrom (s.heap.objs.size+1) fd.scope.names []).lookup y=_;rw[hnm];exact hc⟩⟩
 have base:C.h0.objs.size<=s.heap.objs.size:=QG Z.lr.above (Nat.le_of_lt (Z.lr.uh (.inl rfl)));have lt:∀j,(S.get j).isSome->O j<s.heap.objs.size:=fun j hj=>by
  obtain⟨y,hy⟩:=QD hj;obtain⟨_,z,hz,_⟩:=Z.hr.live j y hy;exact QH hz
 have hsz:s.heap.objs.size<=h'.objs.size:=by
  have:=x.toInCall.ns.lt;have h0:=x.toInCall.fresh;exact Nat.le_of_lt (Nat.lt_of_le_of_lt h0 this)
 have ZA:Stt C (callEnvC fd s.heap.objs.size a) O ⟨S.t,S.n,fn.ps.zip (as++fn.ds.drop (fn.ds.length-(fn.ps.length-as.length)))⟩ {s with heap:=h',toks:=tk}:=by
  refine⟨⟨fun j o hj=>?_,Z.hr.inj,Z.hr.above,Z.hr.small,Z.hr.frz,Z.hr.fro,Z.hr.uo (fun J J=>rfl) fun J J J J J e=>x.toInCall.keep _ _ e⟩,⟨base,fun j hj e=>?_,fun y c hc=>⟨?_,?_,fun j hj e=>?_,_,x.cell y c hc⟩,fun y z c hy hz=>name_of_addr x.apart (mem_of_lookup hy) (mem_of_lookup hz),_,x.toInCall.ns,fun i W hW=>?_⟩,fun b o e=>x.toInCall.keep b o (Z.old b o e)⟩
  ·obtain⟨a1,ob,a2,a3⟩:=Z.hr.live j o hj
   exact⟨a1,ob,x.toInCall.keep _ _ a2,a3⟩
  ·exact absurd (lt j hj) (by rw[e];exact QM _)
  ·exact QG base (Je x (.inr ⟨y,hc⟩))
  ·exact Nat.ne_of_gt (x.above y c (mem_of_lookup hc))
  ·exact absurd (lt j hj) (by rw[e];exact QJ (Je x (.inr ⟨y,hc⟩)))
  ·obtain⟨v,hr,ha,hb'⟩:=bound (k:=(callEnvC fd s.heap.objs.size a).kindOf) (m:=fun J=>none) (cm:=fun J=>none) F.ps hvals hW
   refine⟨v,hr,?_⟩;unfold Loc;split
   ·rename_i h1;exact ha h1
   ·rename_i h1
    obtain⟨c,hc⟩:=hE'.cells (tx i) ((hE'.kindOf _).symm.trans h1);refine⟨c,hc,?_⟩;have h3':h'.IsCell c (bindC (callEnvC fd s.heap.objs.size a).kindOf ((fn.ps.map tx).zip (vals++dv)) (fun J=>none) (tx i)):=x.cell (tx i) c hc;rw[hb' (by rw[h1];decide)]at h3';exact h3'
   ·trivial
 have hA':AOk D (A.deeper (callEnvC fd s.heap.objs.size a)):=⟨hA.handled,by have:=hA.depth;show A.depth+1+D<900;omega,by have:=hA.units;show A.units+3+4*D<9800;omega⟩;refine(hX _ _ _ _ _ _ _ _ _ _ _ hck hE' hA' ZA h2).use fun fv O' s' XC ZC hf=>?_;have B:=Z.back (S0:=⟨S.t,S.n,fn.ps.zip (as++fn.ds.drop (fn.ds.length-(fn.ps.length-as.length)))⟩) (s0:={s with heap:=h',toks:=tk}) rfl rfl x.toInCall.keep rfl rfl
  (fun b hb=>QJ (Je x hb)) XC ZC
 cases fl with
 |next=>
  obtain rfl:=hf;cases h3;exact q _ O' s' B.1 B.2 rfl
 |ret W=>
  obtain⟨v,rfl,hv⟩:=hf;cases h3;exact q _ O' s' B.1 B.2 hv
theorem zZt(K:Q6 C P gT)(hX:SX C gT xs D)(hA:AOk (D+1) A)(Z:Stt C env O S s){a:Addr}{fn:Fn}(F:Py C gT a fn){as:List HV}{vals:List Value}(hv:F2 (VR C O S.n) as vals)
  (h:qQ6 xs fn as S=.ok V S'):Run C env .no A (call (.ref a) vals) O S s S' (Q4 C V):=Run.call (Nf K hX hA Z F hv h)
end
def xJq(k m:Nat):Option String:=hif (Nat.beq k 1) (hif (Nat.beq m 1) (some "list.append")<|hif (Nat.beq m 2) (some "list.clear")<|hif (Nat.beq m 3) (some "list.extend")<|hif (Nat.beq m 4) (some "list.pop")<|hif (Nat.beq m 5) (some "list.remove") none)<|
 hif (Nat.beq k 3) (hif (Nat.beq m 6) (some "dict.get")<|hif (Nat.beq m 4) (some "dict.pop") none)<|hif (Nat.beq k 20) (hif (Nat.beq m 7) (some "bytes.join") none)<|hif (Nat.beq k 21) (hif (Nat.beq m 8) (some "str.lower") none) none
structure Pq(C:Cx)(P:Par)(b:Nat):Prop where
 it:∀g as S V S',P.isOr g=true->P.orac g as S=.ok V S'->∀env A O s vals,AOk b A->Stt C env O S s->F2 (VR C O S.n) as vals->
  Run C env .no A (call (.ref (C.fnA g)) vals) O S s S' (Q4 C V)
structure Wh(C:Cx)(P:Par):Prop where
 obj:∀g,P.isOr g=true->∃o fd,C.h0.get? (C.fnA g)=some o/\o.data=.func fd
noncomputable def qQb(K:Frag)(c:Addr)(n:Str)(f:Addr):Bool:=findIn K (.ref c) "__getattribute__"==some (some (.builtin "object.__getattribute__"))&&findIn K (.ref c) "__getattr__"==some none&&
 findIn K (.ref c) n==some (some (.ref f))&&typeIn K (.ref f)==some (.type "function")
noncomputable def Dx(K:Frag)(c f:Addr):Bool:=makesIn K c&&findIn K (.ref c) "__init__"==some (some (.ref f))&&typeIn K (.ref f)==some (.type "function")&&keepIn K (.ref c)
structure Zc(C:Cx)(gT:Nat->Option HV)(P:Par):Prop where
 fn:∀g f,P.fns g=some f->Py C gT (C.fnA g) f
 T0:P.T0=C.T0
 meth:∀c m g,P.meths c m=some g->qQb C.K (C.clsA c) (tx m) (C.fnA g)=true
 init:∀c g,P.inits c=some g->Dx C.K (C.clsA c) (C.fnA g)=true/\P.isOr g=false
section
open Builtin
open Sem (wp)
namespace Fb
theorem mro:mroOf (.type "bytearray")=pure [.type "bytearray",.type "object"]:=by rw[mroOf_type];kernel_rfl
theorem L0:typeLookup (.type "bytearray") "__new__"=pure (some (.builtin "bytearray.__new__")):=by rw[typeLookup_type,builtinLookup_eq_fast];kernel_rfl
theorem slot_init:Slot "bytearray" "__init__" "bytearray.__init__":=
 .of (owner:="bytearray") (n:="__init__") (by rw[typeLookup_type,builtinLookup_eq_fast];kernel_rfl) (by decide+kernel) (by decide+kernel) (by decide+kernel)
  (by first|exact .inl (by decide+kernel)|exact .inr (by decide+kernel)) (by rw[isSubtype_type];kernel_rfl)
theorem called:TypeCalled "bytearray" "bytearray.__new__" "bytearray.__init__":=
 ⟨by decide+kernel,by decide+kernel,⟨_,_,mro⟩,madeBy_type mro L0 (by decide+kernel),by decide+kernel,by rw[isSubtype_type];kernel_rfl,slot_init⟩
theorem typeCall(a:Value):checkTypeCall "bytearray" ⟨[a],[]⟩=pure ():=by kernel_rfl
theorem newCall(a:Value):checkBuiltinCall "bytearray.__new__" ⟨[.type "bytearray",a],[]⟩=pure ():=by kernel_rfl
theorem entry_new:entryFor table "bytearray.__new__"=some Builtin.«list.__new__»:=entryFor_alias (id':="list.__new__") (by kernel_rfl) (by decide+kernel) (by decide+kernel) (by kernel_rfl)
theorem owner:("bytearray.__new__".splitOn ".__new__").headD ""="bytearray":=by simp+decide [String.splitOn,String.splitOnAux]
theorem sub:isSubtype (.type "bytearray") (.type "bytearray")=pure true:=by rw[isSubtype_type];kernel_rfl
theorem plain_new:plainId "bytearray.__new__"=true:=by decide+kernel
theorem entry_init:entryFor table "bytearray.__init__"=some Builtin.«bytearray.__init__»:=by first|exact entryFor_of_fast (by kernel_rfl)|exact entryFor_of_tree (by kernel_rfl)
theorem args_init(a b:Value):argsOk "bytearray.__init__" ⟨[a,b],[]⟩:=by unfold argsOk;kernel_rfl
theorem bindI(v:Value):Builtin.Bytes.bindOptional "bytearray.__init__" "bytearray" ["source","encoding","errors"] [v] []=pure [some v,none,none]:=by kernel_rfl
end Fb
section
variable{M:Model}{prog:Program}{w:World}{A:Around}{E:Value->Shared->Prop}{s:Shared}
theorem xQ9(self:Value):∃g:Code × Pos->Bool,Bytes.exported self=(stack>>=fun st=>pure (st.any g))/\∀x,hlc x.1=true->g x=false:=by
 refine⟨_,rfl,?_⟩;intro x hl;cases x with
 |_ c p=>
 cases c with
 |builtin i a=>
  cases a with
  |_ l kw=>
  have hn:i∉K3:=fun hm=>by
   have hl:(!K3.contains i)=true:=hl;rw[List.contains_iff_mem.mpr hm]at hl;cases hl
  have ne:∀s,K3.contains s=true->¬i=s:=fun J hs e=>hn (e▸List.contains_iff_mem.mp hs);delta Bytes.exported.match_1 Bytes.exported._sparseCasesOn_1;dsimp only;rw[dif_neg (ne "bytearray.__contains__" (by decide+kernel)),dif_neg (ne "bytearray.__mod__" (by decide+kernel)),dif_neg (ne "bytearray.__rmod__" (by decide+kernel)),dif_neg (ne "_struct.pack_into.held" (by decide+kernel)),dif_neg (ne "bytearray.find.held" (by decide+kernel))];cases l with
  |nil=>rfl
  |cons v r=>
   show(Bytes.sameRef v self&&Bytes.decodersThatHold.contains i)=false;cases hb:Bytes.decodersThatHold.contains i with
   |false=>exact Bool.and_false _
   |true=>exact absurd (List.mem_append_right _ (List.contains_iff_mem.mp hb)) hn
 |_=>rfl
theorem D7{self:Value}{Q:Bool->Shared->Prop}(q:Q false s):wpC M A (Bytes.exported self) Q E s:=by
 intro Γ p hΓ hC;refine Exists.elim (xQ9 self) fun g hg=>?_;rw[hg.1,Sem.wp_bind'];unfold stack;rw[Sem.wp_stack];have h0:((Γ.code,p)::Γ.below).any g=false:=List.any_eq_false.mpr fun x hx=>by
  have hl:hlc x.1=true:=by
   rcases QR hx with rfl|hx
   ·exact hC.code
   ·exact hC.below x hx
  rw[hg.2 x hl];decide
 show wp M Γ (pure (((Γ.code,p)::Γ.below).any g)) (fun a x s'=>Q a s') (fun e x s'=>E e s') p s;rw[h0];exact q
theorem Hx(a:Value){Q₁:Value->Shared->Prop}
  (h:Q₁ (.ref s.heap.objs.size) {s with heap:=s.heap.push {cls:=.type "bytearray",data:=.bytearray #[]}}):
  codeAny (model prog w) A (.call (.builtin "bytearray.__new__") ⟨[.type "bytearray",a],[]⟩) (wants Q₁ E) s:=by
 refine codeAny_of_tree ?_;show wpAny _ A.in1 (do checkBuiltinCall "bytearray.__new__" ⟨[.type "bytearray",a],[]⟩;again (.builtin "bytearray.__new__" ⟨[.type "bytearray",a],[]⟩)) _ _ s;refine QN (wpAny_of_eq (Fb.newCall a) (QO ⟨plainId_quiet Fb.plain_new _,codeAny_builtin_stack Fb.entry_new rfl fun p st=>?_⟩));rw[Around.under_plainId Fb.plain_new _];have hsub:=Fb.sub;have hown:=Fb.owner;obtain⟨hp,g,d,tk,os⟩:=s;simp only[hown];wp_walk;exact h
theorem xZf{i}{a:Args}{b:Args->Sem PySem.Fin}(h:entryFor table i=some b):(model prog w).den (.builtin i a)=b a:=by
 show(match entryFor table i with|some b=>b a|none=>unsupported ((withoutEnding? i "#data").getD i))=_;rw[h]
theorem qQ7{v:Value}{Q:Value->Shared->Prop}
  (hi:wpC (model prog w) (A.in1.in1) (Builtin.«bytearray.__init__» ⟨[.ref s.heap.objs.size,v],[]⟩) (fun fin s'=>match fin with|.done f=>wants (fun r s2=>r=.none/\Q (.ref s.heap.objs.size) s2) E (.ok f) s'|.again c'=>False) (fun J J=>False) {s with heap:=s.heap.push {cls:=.type "bytearray",data:=.bytearray #[]}}):
  wpC (model prog w) A (call (.type "bytearray") [v]) Q E s:=by
 have ft:=Fb.called;obtain⟨c,tl,hmro⟩:=ft.mro;have hmade:=ft.made;have hsub:=ft.sub;refine Z1 (Qr (Qe ?_));show wpAny _ _ (callAny (.type "bytearray") _) _ _ _;refine QO ⟨Code.quiet_builtin _ (by decide+kernel),(show(!K3.contains "type.__call__")=true from by decide+kernel),Qr ?_⟩;have hden:(model prog w).den (.builtin "type.__call__" ⟨[.type "bytearray",v],[]⟩)=Builtin.«type.__call__» ⟨[.type "bytearray",v],[]⟩:=xZf F.entry_type_call;rw[hden,Around.under_plain (weight_type_call_type "bytearray" [v] []) rfl];have h1:=ft.notType;have h2:=ft.canCreate;unfold Builtin.«type.__call__»;dsimp only;rw[if_neg (by rw[h1];decide),if_neg (by rw[h2];decide)];refine Qa (Qe (wpAny_of_eq (Fb.typeCall v) ?_));refine Qa (Qe (wpAny_of_eq hmro ?_));rw[if_neg (show¬(c::tl).isEmpty=true from Bool.false_ne_true)];refine Qa (Qe (wpAny_of_eq hmade ?_));refine Qa (Qc ?_);refine Qa (Qd (Qe (wpAny_call (codeAny_mono (Hx (E:=fun J J=>False) (Q₁:=fun obj sA=>obj=.ref s.heap.objs.size/\sA={s with heap:=s.heap.push {cls:=.type "bytearray",data:=.bytearray #[]}}) v ⟨rfl,rfl⟩) fun r sA hr=>?_))));cases r with
 |error e=>exact hr.elim
 |ok fl=>
  cases fl with
  |ret obj=>
   obtain⟨rfl,rfl⟩:=hr;have hT:({s with heap:=s.heap.push {cls:=.type "bytearray",data:=.bytearray #[]}}:Shared).TypeIs (.ref s.heap.objs.size) "bytearray":=⟨_,Heap.get?_push_size _ rfl,rfl⟩;refine Qa (Qe (wpAny_isInstance hT Fb.sub ?_));rw[if_neg (by decide)];unfold callSpecial?;refine Qa (Qd (Qa (Qe (wpAny_specialOf hT Fb.slot_init.lookup (Qd (Qa (Qe (wpAny_of_eq (Fb.slot_init.bind _) ?_))))))));dsimp only;refine Qa (Z1 (Zj (show(!K3.contains "bytearray.__init__")=true from by decide+kernel) (plainId_quiet Fb.slot_init.plain _) Fb.entry_init (Fb.slot_init.check _ _ _ _ _ _ _ _ hT (Fb.args_init _ _) ?_)));rw[Around.under_plainId Fb.slot_init.plain _];refine Qf hi (fun fin s' hf=>?_) fun J J e=>e.elim;cases fin with
   |again c'=>exact hf.elim
   |done f=>
    cases f with
    |ret r=>
     obtain⟨rfl,hq⟩:=hf;refine Qc (Qc ?_);exact hq
    |_=>exact hf.elim
  |_=>exact hr.elim
namespace Fb
theorem noIdx:typeLookup (.type "bytes") "__index__"=pure none:=by rw[typeLookup_type,builtinLookup_eq_fast];kernel_rfl
theorem buf:typeLookup (.type "bytes") "__buffer__"=pure (some (.builtin "bytes.__buffer__")):=by rw[typeLookup_type,builtinLookup_eq_fast];kernel_rfl
theorem rel:typeLookup (.type "bytes") "__release_buffer__"=pure none:=by rw[typeLookup_type,builtinLookup_eq_fast];kernel_rfl
theorem relA:typeLookup (.type "bytearray") "__release_buffer__"=pure (some (.builtin "bytearray.__release_buffer__")):=by rw[typeLookup_type,builtinLookup_eq_fast];kernel_rfl
theorem bufEnd:("bytes.__buffer__".endsWith ("."++"__buffer__"))=true:=by decide+kernel
theorem bufDrop:"bytes.__buffer__".dropRight ("__buffer__".length+1)="bytes":=by decide+kernel
theorem relEnd:("bytearray.__release_buffer__".endsWith ("."++"__release_buffer__"))=true:=by decide+kernel
theorem relDrop:"bytearray.__release_buffer__".dropRight ("__release_buffer__".length+1)="bytearray":=by decide+kernel
theorem subB:isSubtype (.type "bytes") (.type "bytes")=pure true:=by rw[isSubtype_type];kernel_rfl
end Fb
theorem No{b:Array UInt8}{t:Tok}{Q:Bool->Shared->Prop}(q:Q false s):wpAny M A (Bytes.ownRelease (.bytes b t)) Q E s:=by
 unfold Bytes.ownRelease Bytes.slotIsOwn;exact QN (QN (wpAny_specialOf (typeIs_bytes _ b t) Fb.rel (QO (QO q))))
theorem Bj{a:Addr}{Q:Bool->Shared->Prop}(hT:s.TypeIs (.ref a) "bytearray")(q:Q false s):wpAny M A (Bytes.ownRelease (.ref a)) Q E s:=by
 unfold Bytes.ownRelease Bytes.slotIsOwn;refine QN (QN (wpAny_specialOf hT Fb.relA ?_));dsimp only;rw[Fb.relEnd,Fb.relDrop];exact wpAny_isInstance hT Fb.sub (QO q)
theorem Kz{i:String}{b:Array UInt8}{t:Tok}{f:Bool}{Q:Option (Array UInt8)->Shared->Prop}(q:Q (some b) s):wpAny M A (Bytes.buffer? i (.bytes b t) f) Q E s:=by
 unfold Bytes.buffer?;refine QN (wpAny_specialOf (typeIs_bytes _ b t) Fb.buf ?_);dsimp only;refine QN ?_;unfold Bytes.slotIsOwn;refine QN (wpAny_specialOf (typeIs_bytes _ b t) Fb.buf ?_);dsimp only;rw[Fb.bufEnd,Fb.bufDrop];refine wpAny_isInstance (typeIs_bytes _ b t) Fb.subB ?_;rw[if_neg (by decide)];refine QN (wpAny_specialOf (typeIs_bytes _ b t) Fb.buf ?_);refine QN (No ?_);rw[if_neg (by decide)];exact QN (wpAny_of_eq (a:=b) rfl (QO q))
noncomputable abbrev baO (c:Array UInt8) (m:Array (Option Value)):Obj:=⟨.type "bytearray",none,.bytearray c 0,m⟩
theorem Kc{a:Addr}{c:Array UInt8}{m:Array (Option Value)}{f:Array UInt8->Array UInt8}{Q:Unit->Shared->Prop}(ho:s.heap.get? a=some (baO c m))(hz:(f c).size<=sizeLine)
  (q:∀h',h'.get? a=some (baO (f c) m)->Heap.SameBut a s.heap h'->Q () {s with heap:=h'}):wpAny M A (Bytes.write (.ref a) f) Q E s:=by
 show wpAny _ _ (updateBytearray a f) _ _ _;unfold updateBytearray;refine QN (wpAny_load ho ?_);show wpAny _ _ (update a (Obj.mapBytearray f)>>=fun J=>lookBehind a) _ _ _;refine QN (wpAny_update ho ?_);have h2:(s.heap.update a (Obj.mapBytearray f)).get? a=some (baO (f c) m):=Heap.get?_update_self (Obj.mapBytearray f) ho rfl;refine wpAny_lookBehind h2 ?_ (q _ h2 (Heap.SameBut.update ..));show(if(f c).size>sizeLine then some "bytearray:memory" else none)=none;rw[if_neg (QJ hz)]
theorem zQ0{a:Addr}{b:Array UInt8}{t:Tok}{m:Array (Option Value)}{Q:PySem.Fin->Shared->Prop}(ho:s.heap.get? a=some (baO #[] m))(hz:b.size<=sizeLine)
  (q:∀h',h'.get? a=some (baO b m)->Heap.SameBut a s.heap h'->Q (.done (.ret .none)) {s with heap:=h'}):wpC M A (Builtin.«bytearray.__init__» ⟨[.ref a,.bytes b t],[]⟩) Q E s:=by
 have hT:s.TypeIs (.ref a) "bytearray":=⟨_,ho,rfl⟩;unfold Builtin.«bytearray.__init__»;dsimp only;refine Qa (Qe (Bj hT ?_));rw[if_neg (by decide)];refine Qa (Qe (wpAny_of_eq (Fb.bindI _) ?_));dsimp only;refine Qa (Qe (wpAny_of_eq (a:=()) rfl ?_));refine Qa (Qe (wpAny_of_eq (a:=()) rfl ?_));refine Qa ?_;unfold orM;refine Qa (D7 ?_);show wpC _ _ (Bytes.exportsOf (.ref a)>>=fun n=>pure (decide (n>0))) _ _ _;refine Qa (Qe ?_);unfold Bytes.exportsOf;refine QN (wpAny_load ho (QO (Qc ?_)));rw[if_neg (by decide)];refine Qa (Qe (Kc ho (by decide) fun h1 ho1 hs1=>?_));refine Qa (Qe (wpAny_of_eq (a:=none) rfl ?_));rw[if_neg (by decide)];refine Qa ?_;rw[if_neg (by decide),if_neg (by decide)];refine Qc (Qa (Qe (wpAny_specialOf (typeIs_bytes _ b t) Fb.noIdx ?_)));rw[if_neg (by decide)];refine Qa (Qe (Kz ?_));dsimp only;refine Qa (J9 (Qa (Qe (Kc ho1 hz fun h2 ho2 hs2=>?_))));exact Qc (q h2 ho2 (hs1.trans hs2))
theorem Ka{b:Array UInt8}{t:Tok}{Q:Value->Shared->Prop}(hz:b.size<=sizeLine)
  (q:∀h',h'.get? s.heap.objs.size=some (baO b #[])->(∀x o,s.heap.get? x=some o->h'.get? x=some o)->Q (.ref s.heap.objs.size) {s with heap:=h'}):wpC (model prog w) A (call (.type "bytearray") [.bytes b t]) Q E s:=
 qQ7 (zQ0 (s:={s with heap:=s.heap.push {cls:=.type "bytearray",data:=.bytearray #[]}}) (Heap.get?_push_size _ rfl) hz fun h' ho hs=>
  ⟨rfl,q h' ho fun x o e=>(hs.2 x (Nat.ne_of_lt (QH e))).trans (Heap.get?_push_of_some _ e)⟩)
end
end
section
open Builtin
open Sem (wp)
namespace Fb
theorem slot_len:Slot "bytearray" "__len__" "bytearray.__len__":=
 .of (owner:="bytearray") (n:="__len__") (by rw[typeLookup_type,builtinLookup_eq_fast];kernel_rfl) (by decide+kernel) (by decide+kernel) (by decide+kernel)
  (by first|exact .inl (by decide+kernel)|exact .inr (by decide+kernel)) (by rw[isSubtype_type];kernel_rfl)
theorem entry_len:entryFor table "bytearray.__len__"=some Builtin.«bytearray.__len__»:=by first|exact entryFor_of_fast (by kernel_rfl)|exact entryFor_of_tree (by kernel_rfl)
theorem args_len(a:Value):argsOk "bytearray.__len__" ⟨[a],[]⟩:=by unfold argsOk;kernel_rfl
theorem slot_get:Slot "bytearray" "__getitem__" "bytearray.__getitem__":=
 .of (owner:="bytearray") (n:="__getitem__") (by rw[typeLookup_type,builtinLookup_eq_fast];kernel_rfl) (by decide+kernel) (by decide+kernel) (by decide+kernel)
  (by first|exact .inl (by decide+kernel)|exact .inr (by decide+kernel)) (by rw[isSubtype_type];kernel_rfl)
theorem entry_get:entryFor table "bytearray.__getitem__"=some Builtin.«bytearray.__getitem__»:=by first|exact entryFor_of_fast (by kernel_rfl)|exact entryFor_of_tree (by kernel_rfl)
theorem args_get(a b:Value):argsOk "bytearray.__getitem__" ⟨[a,b],[]⟩:=by unfold argsOk;kernel_rfl
theorem slot_set:Slot "bytearray" "__setitem__" "bytearray.__setitem__":=
 .of (owner:="bytearray") (n:="__setitem__") (by rw[typeLookup_type,builtinLookup_eq_fast];kernel_rfl) (by decide+kernel) (by decide+kernel) (by decide+kernel)
  (by first|exact .inl (by decide+kernel)|exact .inr (by decide+kernel)) (by rw[isSubtype_type];kernel_rfl)
theorem entry_set:entryFor table "bytearray.__setitem__"=some Builtin.«bytearray.__setitem__»:=by first|exact entryFor_of_fast (by kernel_rfl)|exact entryFor_of_tree (by kernel_rfl)
theorem args_set(a b c:Value):argsOk "bytearray.__setitem__" ⟨[a,b,c],[]⟩:=by unfold argsOk;kernel_rfl
theorem bb:typeLookup (.type "bytearray") "__bytes__"=pure none:=by rw[typeLookup_type,builtinLookup_eq_fast];kernel_rfl
theorem bidx:typeLookup (.type "bytearray") "__index__"=pure none:=by rw[typeLookup_type,builtinLookup_eq_fast];kernel_rfl
theorem bbuf:typeLookup (.type "bytearray") "__buffer__"=pure (some (.builtin "bytearray.__buffer__")):=by rw[typeLookup_type,builtinLookup_eq_fast];kernel_rfl
theorem bbufEnd:("bytearray.__buffer__".endsWith ("."++"__buffer__"))=true:=by decide+kernel
theorem bbufDrop:"bytearray.__buffer__".dropRight ("__buffer__".length+1)="bytearray":=by decide+kernel
theorem ybytes:typeLookup (.type "bytes") "__bytes__"=pure (some (.builtin "bytes.__bytes__")):=by rw[typeLookup_type,builtinLookup_eq_fast];kernel_rfl
end Fb
section
variable{M:Model}{prog:Program}{w:World}{A:Around}{E:Value->Shared->Prop}{s:Shared}
theorem Jp{a:Addr}{c:Array UInt8}{m:Array (Option Value)}{Q:Array UInt8->Shared->Prop}(ho:s.heap.get? a=some (baO c m))(q:Q c s):wpAny M A (Bytes.payload (.ref a)) Q E s:=by
 unfold Bytes.payload Bytes.payload?;exact QN (QN (wpAny_load ho (QO (QO q))))
theorem jX7{a:Addr}{c:Array UInt8}{m:Array (Option Value)}(ho:s.heap.get? a=some (baO c m))(hz:c.size<=1000){Q:Value->Shared->Prop}(q:Q (.int c.size (s.toks+1)) {s with toks:=s.toks+1+1}):
  wpAny (model prog w) A (call (.builtin "len") [.ref a]) Q E s:=by
 refine PyProof.Rows.call_len_slot (n:=c.size) ⟨_,ho,rfl⟩ Fb.slot_len (fun Q' hq=>wpAny_call_entry Fb.slot_len ⟨_,ho,rfl⟩ Fb.entry_len ?_ (Fb.args_len _)) (by omega) (by omega) q;show wpAny _ _ (Bytes.payload (.ref a)>>=fun b=>retInt b.size) _ _ s;exact QN (Jp ho (QN (wpAny_mkInt (QO ⟨_,rfl,hq⟩))))
theorem Pi{i:String}{a:Addr}{c:Array UInt8}{m:Array (Option Value)}{f:Bool}{Q:Option (Array UInt8)->Shared->Prop}(ho:s.heap.get? a=some (baO c m))(q:Q (some c) s):wpAny M A (Bytes.buffer? i (.ref a) f) Q E s:=by
 have hT:s.TypeIs (.ref a) "bytearray":=⟨_,ho,rfl⟩;unfold Bytes.buffer?;refine QN (wpAny_specialOf hT Fb.bbuf ?_);dsimp only;refine QN ?_;unfold Bytes.slotIsOwn;refine QN (wpAny_specialOf hT Fb.bbuf ?_);dsimp only;rw[Fb.bbufEnd,Fb.bbufDrop];refine wpAny_isInstance hT Fb.sub ?_;rw[if_neg (by decide)];refine QN (wpAny_specialOf hT Fb.bbuf ?_);refine QN (Bj hT ?_);rw[if_neg (by decide)];exact QN (Jp ho (QO q))
theorem Hk{a:Addr}{c:Array UInt8}{m:Array (Option Value)}(ho:s.heap.get? a=some (baO c m))(hz:c.size<=sizeLine){Q:Value->Shared->Prop}(q:∀t k,Q (.bytes c t) {s with toks:=k}):
  codeAny (model prog w) A (.call (.builtin "bytes.__new__") ⟨[.type "bytes",.ref a],[]⟩) (wants Q E) s:=by
 have hT:s.TypeIs (.ref a) "bytearray":=⟨_,ho,rfl⟩;refine codeAny_of_tree ?_;show wpAny _ A.in1 (do checkBuiltinCall "bytes.__new__" ⟨[.type "bytes",.ref a],[]⟩;again (.builtin "bytes.__new__" ⟨[.type "bytes",.ref a],[]⟩)) _ _ s;refine QN (wpAny_of_eq (F.bm_newCall _) (QO ⟨plainId_quiet F.bm_plain _,codeAny_builtin F.bm_entry ?_⟩));rw[Around.under_plainId F.bm_plain _];unfold Builtin.«bytes.__new__»;refine QN (wpAny_of_eq (a:=true) rfl ?_);refine bm_if_false rfl ?_;refine QN (wpAny_of_eq F.bm_sub ?_);refine bm_if_false rfl ?_;refine QN (wpAny_of_eq (F.bm_bind _) ?_);refine QN (wpAny_of_eq (a:=()) rfl ?_);refine QN (wpAny_of_eq (a:=()) rfl ?_);refine bm_if_false rfl ?_;refine QN (wpAny_specialOf hT Fb.bb ?_);refine QN (QN ?_);show wpAny _ _ (load a>>=_) _ _ _;refine QN (wpAny_load ho (QO (QO ?_)));refine bm_if_false rfl ?_;refine QN (wpAny_specialOf hT Fb.bidx ?_);refine bm_if_true rfl ?_;first
  |show wpAny _ _ (Builtin.Bytes.buffer? "bytes.__new__" (.ref a) true>>=_) _ _ _
  |(refine QN ?_;show wpAny _ _ (Builtin.Bytes.buffer? "bytes.__new__" (.ref a) true>>=_) _ _ _)
 refine QN (Pi ho ?_);dsimp only;refine QN (wpAny_rule (QN (wpAny_mkBytes ?_ hz)));exact QO (q _ _)
theorem Wb{a:Addr}{c:Array UInt8}{m:Array (Option Value)}(ho:s.heap.get? a=some (baO c m))(hz:c.size<=sizeLine){Q:Value->Shared->Prop}(q:∀t k,Q (.bytes c t) {s with toks:=k}):
  wpAny (model prog w) A (call (.type "bytes") [.ref a]) Q E s:=by
 refine callType_codes (Q₁:=fun obj sA=>sA.TypeIs obj "bytes"/\Q obj sA) F.bm_called (F.bm_typeCall _) F.entry_object_init
  (Hk ho hz fun t k=>⟨PySem.W.typeIs_bytes _ _ _,q t k⟩) fun obj sA aH=>?_
 exact⟨aH.1,F.args_object_init_2 obj _,object_init_meets F.bm_called.init.lookup F.bm_called.made (by decide) prog w A.in1 _ sA ⟨aH.1,rfl,aH.2⟩⟩
theorem Vu{b:Array UInt8}{t:Tok}{Q:Value->Shared->Prop}(q:Q (.bytes b t) s):
  wpAny (model prog w) A (call (.type "bytes") [.bytes b t]) Q E s:=by
 have hT:=typeIs_bytes s b t;refine callType_codes (Q₁:=fun obj sA=>sA.TypeIs obj "bytes"/\Q obj sA) F.bm_called (F.bm_typeCall _) F.entry_object_init
  ?_ fun obj sA aH=>⟨aH.1,F.args_object_init_2 obj _,object_init_meets F.bm_called.init.lookup F.bm_called.made (by decide) prog w A.in1 _ sA ⟨aH.1,rfl,aH.2⟩⟩
 refine codeAny_of_tree ?_;show wpAny _ A.in1.in1 (do checkBuiltinCall "bytes.__new__" ⟨[.type "bytes",.bytes b t],[]⟩;again (.builtin "bytes.__new__" ⟨[.type "bytes",.bytes b t],[]⟩)) _ _ s;refine QN (wpAny_of_eq (F.bm_newCall _) (QO ⟨plainId_quiet F.bm_plain _,codeAny_builtin F.bm_entry ?_⟩));rw[Around.under_plainId F.bm_plain _];unfold Builtin.«bytes.__new__»;refine QN (wpAny_of_eq (a:=true) rfl ?_);refine bm_if_false rfl ?_;refine QN (wpAny_of_eq F.bm_sub ?_);refine bm_if_false rfl ?_;refine QN (wpAny_of_eq (F.bm_bind _) ?_);refine QN (wpAny_of_eq (a:=()) rfl ?_);refine QN (wpAny_of_eq (a:=()) rfl ?_);refine bm_if_false rfl ?_;refine QN (wpAny_specialOf hT Fb.ybytes ?_);refine QN (wpAny_rule ?_);refine QN (wpAny_typeOf hT ?_);refine bm_if_true rfl ?_;exact QO ⟨hT,q⟩
theorem Vo{a x:Addr}{c:Array UInt8}{m:Array (Option Value)}{l u:Value}{lo hi:Option Int}(hl:IsPart l lo)(hu:IsPart u hi):
  Meets («bytearray.__getitem__» ⟨[.ref a,.ref x],[]⟩) (fun J R s=>s.heap.get? a=some (baO c m)/\s.heap.IsSliceOf x l u .none/\(KBy.picked c lo hi).size<=sizeLine/\R (.ok (.ret (.ref s.heap.objs.size))) {s with heap:=s.heap.push {cls:=.type "bytearray",data:=.bytearray (KBy.picked c lo hi)}}):=by
 refine .of_wp fun prog w A R s hS=>?_;obtain⟨ha,⟨o,ho,hc,hd⟩,hsz,h⟩:=hS;have hT:s.TypeIs (.ref x) "slice":=⟨o,ho,hc⟩;show wpAny _ _ (Bytes.subscript? (.ref x)>>=fun r=>_) _ _ s;refine QN ?_;unfold Bytes.subscript?;refine QN (wpAny_specialOf hT slice_no_index (QO ?_));refine QN (wpAny_typeOf hT ?_);show wpAny _ _ (Bytes.sliceParts (.ref x)>>=fun r=>_) _ _ s;refine QN ?_;unfold Bytes.sliceParts;refine QN (wpAny_field (x:=.none) ho hd rfl ?_)
 kby_none
 refine wpAny_ite (KBy.ite_no (show¬((Value.none==rawInt 0)=true)from Bool.false_ne_true) ?_);refine QN (wpAny_field (x:=l) ho hd rfl ?_);have go:wpAny (model prog w) A.in1 (sliceIndices (rawPart lo) (rawPart hi) (rawPart none) c.size) (fun r s'=>r=sliceBounds lo hi none c.size/\s'=s) (fun J J=>False) s:=
  wpAny_of_eq (sliceIndices_raw lo hi none c.size (fun e=>nomatch e)) ⟨rfl,rfl⟩
 cases hl<;>cases hu<;>(first
  |(kby_none;(refine QN (wpAny_field (x:=.none) ho hd rfl ?_));kby_none)
  |(kby_none;(refine QN (wpAny_field (x:=.int _ _) ho hd rfl ?_));kby_int)
  |(kby_int;(refine QN (wpAny_field (x:=.none) ho hd rfl ?_));kby_none)
  |(kby_int;(refine QN (wpAny_field (x:=.int _ _) ho hd rfl ?_));kby_int))<;>refine QO ?_
 all_goals
  refine QN (Jp ha ?_);refine QN (wpAny_mono go (fun r s' hr=>?_) fun J J e=>e.elim);obtain⟨hr1,hr2⟩:=hr;subst hr1 hr2;refine QN ?_;unfold Bytes.newBytearray;exact wpAny_newObj_type (QO ⟨_,rfl,h⟩) hsz
end
end
section
open Builtin
open Sem (wp)
namespace Fb
theorem noInt:typeLookup (.type "bytes") "__int__"=pure none:=by rw[typeLookup_type,builtinLookup_eq_fast];kernel_rfl
theorem noFloat:typeLookup (.type "bytes") "__float__"=pure none:=by rw[typeLookup_type,builtinLookup_eq_fast];kernel_rfl
theorem subBA:isSubtype (.type "bytes") (.type "bytearray")=pure false:=by rw[isSubtype_type];kernel_rfl
theorem subBC:isSubtype (.type "bytes") (.type "complex")=pure false:=by rw[isSubtype_type];kernel_rfl
end Fb
section
variable{M:Model}{prog:Program}{w:World}{A:Around}{E:Value->Shared->Prop}{s:Shared}
theorem B9{x:Addr}{l u:Value}{lo hi:Option Int}{Q:Value × Value × Value->Shared->Prop}(hS:s.heap.IsSliceOf x l u .none)(hl:IsPart l lo)(hu:IsPart u hi)(q:Q (rawPart lo,rawPart hi,rawPart none) s):
  wpAny M A (Bytes.sliceParts (.ref x)) Q E s:=by
 obtain⟨o,ho,hc,hd⟩:=hS;unfold Bytes.sliceParts;refine QN (wpAny_field (x:=.none) ho hd rfl ?_)
 kby_none
 refine wpAny_ite (KBy.ite_no (show¬((Value.none==rawInt 0)=true)from Bool.false_ne_true) ?_);refine QN (wpAny_field (x:=l) ho hd rfl ?_);cases hl<;>cases hu<;>(first
  |(kby_none;(refine QN (wpAny_field (x:=.none) ho hd rfl ?_));kby_none)
  |(kby_none;(refine QN (wpAny_field (x:=.int _ _) ho hd rfl ?_));kby_int)
  |(kby_int;(refine QN (wpAny_field (x:=.none) ho hd rfl ?_));kby_none)
  |(kby_int;(refine QN (wpAny_field (x:=.int _ _) ho hd rfl ?_));kby_int))<;>exact QO q
theorem xZy{a x:Addr}{c b:Array UInt8}{t:Tok}{m:Array (Option Value)}{l u:Value}{lo hi:Option Int}{lo' hi':Nat}{Q:PySem.Fin->Shared->Prop}(ha:s.heap.get? a=some (baO c m))(hS:s.heap.IsSliceOf x l u .none)(hl:IsPart l lo)(hu:IsPart u hi)
  (hb:sliceBounds lo hi none c.size=((lo':Int),(hi':Int),1)) (hlh:lo'<=hi') (hz:b.size=hi'-lo') (hc:(c.extract 0 lo'++b++c.extract hi' c.size).size<=sizeLine) (hbz:b.size<=sizeLine)
  (q:∀h1 h',(∀y o,s.heap.get? y=some o->h1.get? y=some o)->Heap.SameBut a h1 h'->h'.get? a=some (baO (c.extract 0 lo'++b++c.extract hi' c.size) m)->Q (.done (.ret .none)) {s with heap:=h'}):
  wpC (model prog w) A (Builtin.«bytearray.__setitem__» ⟨[.ref a,.ref x,.bytes b t],[]⟩) Q E s:=by
 have hT:s.TypeIs (.ref a) "bytearray":=⟨_,ha,rfl⟩;have hTx:s.TypeIs (.ref x) "slice":=let⟨o,ho,hc,_⟩:=hS;⟨o,ho,hc⟩
 have hTb:=typeIs_bytes s b t;unfold Builtin.«bytearray.__setitem__»;dsimp only;rw[if_neg (by decide)];refine Qa (Qe ?_);unfold Bytes.subscript?;refine QN (wpAny_specialOf hTx slice_no_index (QO ?_));refine Qa (Qe (wpAny_typeOf hTx ?_));rw[if_neg (by decide)];refine Qa (Qe (B9 hS hl hu ?_));rw[if_neg (show¬Bytes.sameRef (.ref a) (.bytes b t)=true from Bool.false_ne_true)];refine Qa (Qe (wpAny_isInstance hTb Fb.subBA ?_));rw[if_pos (by decide)];have orF:∀{x y:Sem Bool} {Q:Bool->Shared->Prop} {E:Value->Shared->Prop},(∀Q':Bool->Shared->Prop,Q' false s->wpAny (model prog w) A x Q' E s)->wpAny (model prog w) A y Q E s->wpAny (model prog w) A (x<||>y) Q E s:=fun hx hy=>by
  unfold orM;exact QN (hx _ hy)
 refine Qa (Qe (orF (fun Q' q'=>QN (wpAny_specialOf hTb Fb.noIdx (QO q'))) (orF (fun Q' q'=>QN (wpAny_specialOf hTb Fb.noInt (QO q'))) (orF (fun Q' q'=>QN (wpAny_specialOf hTb Fb.noFloat (QO q'))) (wpAny_isInstance hTb Fb.subBC ?_)))));refine Qa (Qe (wpAny_of_eq (a:=none) rfl ?_));rw[if_neg (by decide)];refine Qa (J9 (Qa (Ka hbz fun h1 hn hk=>?_)));have ha1:=hk _ _ ha;have hS1:h1.IsSliceOf x l u .none:=let⟨o,ho,r⟩:=hS;⟨o,hk _ _ ho,r⟩
 refine Qa (Qd (Qe (B9 hS1 hl hu ?_)));refine Qa (Qe (Jp hn ?_));refine Qa (Qe (Jp ha1 ?_));refine Qa (Qe (wpAny_of_eq (sliceIndices_raw lo hi none c.size (fun e=>nomatch e)) ?_));rw[hb];dsimp only;rw[if_pos (by decide)];have hmax:max ((lo':Nat):Int) ((hi':Nat):Int)=(hi':Int):=by omega
 refine Qa (J9 ?_);rw[hmax,if_neg (by simp only[bne_iff_ne,ne_eq,Classical.not_not];omega)];refine Qa (Qe (Kc ha1 hc fun h2 ho2 hs2=>?_));exact Qc (q h1 h2 hk hs2 ho2)
theorem Mg{a x:Addr}{c b:Array UInt8}{t:Tok}{m:Array (Option Value)}{l u:Value}{lo hi:Option Int}{lo' hi':Nat}{Q:Unit->Shared->Prop}(ha:s.heap.get? a=some (baO c m))(hS:s.heap.IsSliceOf x l u .none)(hl:IsPart l lo)(hu:IsPart u hi)
  (hb:sliceBounds lo hi none c.size=((lo':Int),(hi':Int),1)) (hlh:lo'<=hi') (hz:b.size=hi'-lo') (hc:(c.extract 0 lo'++b++c.extract hi' c.size).size<=sizeLine) (hbz:b.size<=sizeLine)
  (q:∀h1 h',(∀y o,s.heap.get? y=some o->h1.get? y=some o)->Heap.SameBut a h1 h'->h'.get? a=some (baO (c.extract 0 lo'++b++c.extract hi' c.size) m)->Q () {s with heap:=h'}):
  wpC (model prog w) A (setItem (.ref a) (.ref x) (.bytes b t)) Q E s:=by
 have hT:s.TypeIs (.ref a) "bytearray":=⟨_,ha,rfl⟩;unfold setItem;refine Qd ?_;refine Qa (Qe (wpAny_sequenceKey hT (by decide) ?_));refine Qa ?_;unfold callSpecial?;refine Qa (Qe (wpAny_specialOf hT Fb.slot_set.lookup ?_));refine Qd (Qa (Qe (wpAny_of_eq (Fb.slot_set.bind _) ?_)));dsimp only;refine Qa (Z1 (Zj (show(!K3.contains "bytearray.__setitem__")=true from by decide+kernel) (plainId_quiet Fb.slot_set.plain _) Fb.entry_set (Fb.slot_set.check _ _ _ _ _ _ _ _ hT (Fb.args_set _ _ _) ?_)));rw[Around.under_plainId Fb.slot_set.plain _];exact xZy ha hS hl hu hb hlh hz hc hbz fun h1 h' k1 k2 k3=>Qc (Qc (q h1 h' k1 k2 k3))
end
end
section
open Builtin
open Sem (wp)
section
variable{M:Model}{prog:Program}{w:World}{A:Around}{E:Value->Shared->Prop}{s:Shared}
theorem Lk{d:Addr}{ep:Nat}{K:Type}[DecidableEq K]{knd:KeyKind prog w K}(lo:(d==sysModules)=false)(hh:A.handled=none)(hd:s.heap.DictAt knd d [] ep){Q:Value->Shared->Prop}
  (q:∀h' tk D e,(∀b o,s.heap.get? b=some o->h'.get? b=some o)->(∀b o,s.heap.get? b=some o->b<D)->h'.get? D=some (seqObj "list" #[] e)->Q (.ref D) {s with heap:=h',toks:=tk}):
  wpAny (model prog w) A (call (.builtin "sorted") [.ref d]) Q E s:=by
 refine call_function_entry kind_sorted plain_sorted entry_sorted (args_sorted1 _) ?_;unfold Builtin.«sorted»;refine QN (m:=checkCount "sorted" 1 1 _) (QO ?_);refine QN (kdu_collect (A:=A.in1) (kdl_dict (kvs:=[]) (ep:=ep) lo) hh hd (Nat.zero_le _) fun h' tk acc hk hacc=>?_);have hz:acc.size=0:=hacc.1;have he:acc.toList=[]:=by
  apply List.eq_nil_of_length_eq_zero;rw[Array.length_toList];exact hz
 rw[he];refine QN (wpAny_newList ?_ (Nat.zero_le _));have hoL:(h'.push (seqObj "list" ([]:List Value).toArray 0)).get? h'.objs.size=some (seqObj "list" ([]:List Value).toArray 0):=Heap.get?_push_size _ rfl;refine QN (wpAny_holding (wpAny_call_entry slot_list_sort ⟨_,hoL,rfl⟩ entry_list_sort (list_sort_tree (s:={s with heap:=h'.push (seqObj "list" ([]:List Value).toArray 0),toks:=tk}) hoL .nil (by decide) fun out ns' a1 a2 a3=>⟨_,rfl,?_⟩) (args_list_sort _)));have hout:out=#[]:=by
  have:ns'=[]:=a2.eq_nil;subst this;cases hl:out.toList with
  |nil=>exact Array.toList_eq_nil_iff.mp hl
  |cons x r=>rw[hl]at a1;cases a1
 subst hout;obtain⟨e,hat⟩:=sortedHeap_at (out:=#[]) hoL;refine QO ⟨_,rfl,q _ _ _ e (fun b o eb=>?_) (fun b o eb=>QH (hk b o eb)) hat⟩
 ·have h1:=hk b o eb
  have hlt:=QH h1;rw[sortedHeap_old (Nat.ne_of_lt hlt) (by rw[size_push'];exact Nat.lt_succ_of_lt hlt)];exact Heap.get?_push_of_some _ h1
namespace Fb
theorem xQf:builtinKind "bytes.join"=some .method:=by decide+kernel
theorem entry_join:entryFor table "bytes.join"=some Builtin.«bytes.join»:=by first|exact entryFor_of_fast (by kernel_rfl)|exact entryFor_of_tree (by kernel_rfl)
theorem slot_join:Slot "bytes" "join" "bytes.join":=
 .of (owner:="bytes") (n:="join") (by rw[typeLookup_type,builtinLookup_eq_fast];kernel_rfl) (by decide+kernel) (by decide+kernel) (by decide+kernel)
  (by first|exact .inl (by decide+kernel)|exact .inr (by decide+kernel)) (by rw[isSubtype_type];kernel_rfl)
theorem args_join(a b:Value):argsOk "bytes.join" ⟨[a,b],[]⟩:=by unfold argsOk;kernel_rfl
end Fb
noncomputable def Yh(l:List (Array UInt8 × Tok)):List Value:=l.map fun p=>.bytes p.1 p.2
theorem Dl(l:Addr)(t:Tok):Builtin.«bytes.join» ⟨[.bytes #[] t,.ref l],[]⟩=(do
 let seq <-Bytes.joinItems (.ref l)
 let some items <-seqItems? seq|unsupported s!"internal:bytes.join"
 if let#[x]:=items then
   if(<-typeOf x)==.type "bytes" then rule "bytes.join.one-item";return<-ret x
 let mut parts:Array (Array UInt8):=#[]
 let mut taken:List (Value × Option Value):=[]
 for i in[0:items.size] do
  let held:=seq::taken.flatMap fun(y,u)=>y::u.toList
  let some now <-seqItems? seq|unsupported s!"internal:bytes.join"
  let x:=now.getD i .none
  if false||taken.any (·.1.onHeap)then
   match<-specialOf x "__buffer__" with
   |none|some (.builtin _)=>pure ()
   |some _=>unsupported s!"bytes.join:buffer"
  let some (b,w)<-holding (x::held) (Bytes.takeBufferQuiet? "bytes.join" x 0)
   |rule s!"bytes.join.item-not-bytes-like"
    holding (x::held.drop 1) point
    Bytes.joinLetGo taken [x]
    raiseError "TypeError" s!"sequence item {i}: expected a bytes-like object, {← typeNameOf x} found"
  parts:=parts.push b
  taken:=taken++[(x,w)]
  let some after <-seqItems? seq|unsupported s!"internal:bytes.join"
  if after.size != items.size then
   rule s!"bytes.join.changed-size"
   Bytes.joinLetGo taken []
   raiseError "RuntimeError" "sequence changed size during iteration"
 let sep <-Bytes.payload (.bytes #[] t)
 if Bytes.tooLong (parts.foldl (· + ·.size) (sep.size*(parts.size-1)))then unsupported s!"bytes.join:memory"
 let result <-mkBytes (Bytes.joined sep parts.toList)
 holding (result::taken.flatMap fun(y,u)=>y::u.toList) point
 Bytes.joinLetGo taken [result]
 ret result):=rfl
noncomputable def Bv(seq:Value)(t:Tok)(items:Array Value):Sem PySem.Fin:=do
 let mut parts:Array (Array UInt8):=#[]
 let mut taken:List (Value × Option Value):=[]
 for i in[0:items.size] do
  let held:=seq::taken.flatMap fun(y,u)=>y::u.toList
  let some now <-seqItems? seq|unsupported s!"internal:bytes.join"
  let x:=now.getD i .none
  if false||taken.any (·.1.onHeap)then
   match<-specialOf x "__buffer__" with
   |none|some (.builtin _)=>pure ()
   |some _=>unsupported s!"bytes.join:buffer"
  let some (b,w)<-holding (x::held) (Bytes.takeBufferQuiet? "bytes.join" x 0)
   |rule s!"bytes.join.item-not-bytes-like"
    holding (x::held.drop 1) point
    Bytes.joinLetGo taken [x]
    raiseError "TypeError" s!"sequence item {i}: expected a bytes-like object, {← typeNameOf x} found"
  parts:=parts.push b
  taken:=taken++[(x,w)]
  let some after <-seqItems? seq|unsupported s!"internal:bytes.join"
  if after.size != items.size then
   rule s!"bytes.join.changed-size"
   Bytes.joinLetGo taken []
   raiseError "RuntimeError" "sequence changed size during iteration"
 let sep <-Bytes.payload (.bytes #[] t)
 if Bytes.tooLong (parts.foldl (· + ·.size) (sep.size*(parts.size-1)))then unsupported s!"bytes.join:memory"
 let result <-mkBytes (Bytes.joined sep parts.toList)
 holding (result::taken.flatMap fun(y,u)=>y::u.toList) point
 Bytes.joinLetGo taken [result]
 ret result
theorem D5{β:Type}{body:Nat->β->Sem (ForInStep β)}{Q:β->Shared->Prop}(I:Nat->β->Prop):∀(k i:Nat) (b:β),I i b->
  (∀j b,i<=j->j<i+k->I j b->∀Q':ForInStep β->Shared->Prop,(∀b',I (j+1) b'->Q' (.yield b') s)->wpAny M A (body j b) Q' E s)->(∀b,I (i+k) b->Q b s)->wpAny M A (forIn (List.range' i k) b body) Q E s
 |0,i,b,h,_,done=>by
  rw[List.range'_zero,List.forIn_nil];exact QO (done b h)
 |k+1,i,b,h,step,done=>by
  rw[List.range'_succ,List.forIn_cons];refine QN (step i b (QL _) (by omega) h _ fun b' h'=>?_);exact D5 I k (i+1) b' h' (fun j b'' h1 h2=>step j b'' (by omega) (by omega)) (fun b'' h''=>done b'' (by rw[show i+(k+1)=i+1+k by omega];exact h''))
theorem qQv{β:Type}{n:Nat}{body:Nat->β->Sem (ForInStep β)}{Q:β->Shared->Prop}{b:β}(I:Nat->β->Prop)(h:I 0 b)
  (step:∀j b,j<n->I j b->∀Q':ForInStep β->Shared->Prop,(∀b',I (j+1) b'->Q' (.yield b') s)->wpAny M A (body j b) Q' E s) (done:∀b,I n b->Q b s):wpAny M A (forIn [0:n] b body) Q E s:=by
 rw[Std.Legacy.Range.forIn_eq_forIn_range'];have e:([0:n]:Std.Legacy.Range).size=n:=by simp[Std.Legacy.Range.size]
 show wpAny M A (forIn (List.range' 0 ([0:n]:Std.Legacy.Range).size 1) b body) Q E s;rw[e];exact D5 I n 0 b h (fun j b J h2=>step j b (by omega)) (fun b h=>done b (by rwa [Nat.zero_add]at h))
theorem Li{x:Array UInt8}{t:Tok}{Q:Option (Array UInt8 × Option Value)->Shared->Prop}(q:Q (some (x,none)) s):wpAny M A (Bytes.takeBufferQuiet? "bytes.join" (.bytes x t) 0) Q E s:=by
 unfold Bytes.takeBufferQuiet?;refine QN (wpAny_attempt ?_);unfold Bytes.takeBuffer?;refine QN (wpAny_specialOf (typeIs_bytes _ x t) Fb.buf ?_);dsimp only;refine QN ?_;unfold Bytes.slotIsOwn;refine QN (wpAny_specialOf (typeIs_bytes _ x t) Fb.buf ?_);dsimp only;rw[Fb.bufEnd,Fb.bufDrop];refine wpAny_isInstance (typeIs_bytes _ x t) Fb.subB ?_;rw[if_neg (by decide)];refine QN (wpAny_specialOf (typeIs_bytes _ x t) Fb.buf ?_);refine QN (Kz ?_);exact QO (QO q)
theorem M8{l:Addr}{o:Obj}{xs:Array Value}{n:Nat}{Q:Option (Array Value)->Shared->Prop}(ho:s.heap.get? l=some o)(hd:o.data=.seq xs n)(q:Q (some xs) s):wpAny M A (seqItems? (.ref l)) Q E s:=by
 unfold seqItems?;refine QN (wpAny_load ho ?_);rw[hd];exact QO q
theorem V7:∀(l:List (Value × Option Value)) (r:Value) {Q:Unit->Shared->Prop},(∀p∈l,p.2=none)->Q () s->wpAny M A (Bytes.joinLetGo l [r]) Q E s
 |[],_,_,_,q=>by unfold Bytes.joinLetGo;exact QO q
 |(x,w)::l,r,_,h,q=>by
  obtain rfl:w=none:=h (x,w) List.mem_cons_self;unfold Bytes.joinLetGo;exact QN (wpAny_letGo (V7 l r (fun p hp=>h p (List.mem_cons_of_mem _ hp)) q))
noncomputable def zQ9(l:List (Array UInt8 × Tok)):Array UInt8:=Bytes.joined #[] (l.map (·.1))
theorem Ge:∀(l:List (Array UInt8)) (k:Nat) (acc:Array UInt8),(l.zipIdx k).foldl (fun out (p,i)=>(if i>0 then out++(#[]:Array UInt8)else out)++p) acc=acc++(l.flatMap (·.toList)).toArray
 |[],k,acc=>by simp
 |a::l,k,acc=>by
  rw[List.zipIdx_cons,List.foldl_cons,Ge l (k+1)];apply Array.toList_inj.mp;simp
theorem D1(l:List (Array UInt8 × Tok)):zQ9 l=(l.flatMap (·.1.toList)).toArray:=by
 unfold zQ9 Bytes.joined;rw[Ge,List.flatMap_map];simp
theorem qQq{l:Addr}{o:Obj}{vs:List (Array UInt8 × Tok)}{n:Nat}{t:Tok}{Q:PySem.Fin->Shared->Prop}(ho:s.heap.get? l=some o)(hc:o.cls=.type "list")(hd:o.data=.seq (Yh vs).toArray n)(h1:vs.length≠1)
  (hz:(vs.map (·.1.size)).sum<=sizeLine) (q:∀t k,Q (.done (.ret (.bytes (zQ9 vs) t))) {s with toks:=k}):wpAny M A (Builtin.«bytes.join» ⟨[.bytes #[] t,.ref l],[]⟩) Q E s:=by
 rw[Dl];refine QN ?_;unfold Bytes.joinItems;refine QN (wpAny_typeOf (T:="list") ⟨o,ho,hc⟩ ?_);rw[if_pos (by decide)];refine QO (QN (M8 ho hd ?_));have hsz:(Yh vs).toArray.size=vs.length:=by simp[Yh]
 have hat:∀i x,vs[i]? =some x->(Yh vs).toArray.getD i Value.none=.bytes x.1 x.2:=fun i x h=>by simp[Yh,h]
 generalize (Yh vs).toArray=xs at hsz hat hd⊢;have Jj:wpAny M A (Bv (.ref l) t xs) (fun fin s'=>Q fin s') E s:=?rest
 ·cases xs with|mk xl=>
  cases xl with
  |nil=>exact Jj
  |cons x xl=>cases xl with
   |nil=>exact absurd hsz.symm h1
   |cons y xl=>exact Jj
 unfold Bv;refine QN (qQv (fun i b=>b.1=((vs.take i).map (·.1)).toArray/\b.2=(vs.take i).map fun p=>(Value.bytes p.1 p.2,none)) ⟨rfl,rfl⟩ (fun j b hj hb Q' q'=>?_) fun b hb=>?_)
 ·obtain⟨h2,h3⟩:=hb
  rw[hsz]at hj;have hx:=List.getElem?_eq_getElem hj;have ht:vs.take (j+1)=vs.take j++[vs[j]]:=by rw[List.take_add_one,hx];rfl
  refine QN (M8 ho hd ?_);dsimp only;have hany:(b.2.any fun x=>x.1.onHeap)=false:=by
   rw[h3,List.any_eq_false];intro p hp;obtain⟨y,_,rfl⟩:=List.mem_map.mp hp;exact Bool.false_ne_true
  rw[hany,hat j _ hx,if_neg (by decide)];refine QN (wpAny_holding (Li ?_));dsimp only;refine QN (M8 ho hd ?_);dsimp only;rw[if_neg (by simp)];refine QO (q' _ ⟨?_,?_⟩)
  ·show b.1.push vs[j].1=_
   rw[h2,ht,List.map_append,List.push_toArray];rfl
  ·show b.2++[(Value.bytes vs[j].1 vs[j].2,none)]=_
   rw[h3,ht,List.map_append];rfl
 ·obtain⟨h2,h3⟩:=hb
  rw[hsz,List.take_length]at h2 h3;refine QN (wpAny_of_eq (a:=#[]) rfl ?_);have htot:∀(l:List (Array UInt8 × Tok)) (k:Nat),(l.map (·.1)).foldl (fun x1 x2=>x1+x2.size) k=k+(l.map (·.1.size)).sum:=fun l=>by
   induction l with
   |nil=>intro k;simp
   |cons a l ih=>intro k;rw[List.map_cons,List.foldl_cons,ih,List.map_cons,List.sum_cons];omega
  have hl:Bytes.tooLong (b.1.foldl (fun x1 x2=>x1+x2.size) ((#[]:Array UInt8).size*(b.1.size-1)))=false:=by
   rw[h2,List.foldl_toArray,htot];simp[Bytes.tooLong];omega
  rw[hl,if_neg (by decide),h2];have hg:Bytes.joined #[] (((vs.map (·.1)).toArray).toList)=zQ9 vs:=rfl;rw[hg];have hgs:(zQ9 vs).size<=sizeLine:=by
   rw[D1];simp only[List.size_toArray,List.length_flatMap];exact hz
  refine QN (wpAny_mkBytes ?_ hgs);refine QN (wpAny_holding (wpAny_point (QN (V7 _ _ (fun p hp=>?_) ?_))))
  ·rw[h3]at hp
   obtain⟨y,_,rfl⟩:=List.mem_map.mp hp;rfl
  ·exact QO (q _ _)
end
end
section
open PySem.SeqAt
open AutoSeq1 (wpAny_loadPart')
open MeetsSeq
theorem Uv(l:Addr)(items:Array Value)(n:Nat)(x:Value)(j:Nat)(hj:j<items.size)(k:Nat)(hs1:items.size<=sizeLine):
  ∀i:Nat,j-i=k->i<=j->Meets (Builtin.«list.remove.loop» ⟨[.ref l,x,rawInt i],[]⟩)
   (fun A R s=>s.heap.get? l=some {cls:=.type "list",dict:=none,data:=.seq items n,slots:=#[]}/\(∀m (hm:m<items.size),m<=j->EqAt A.in1 s items[m] x (decide (m=j)))/\R (.ok (.ret .none)) {s with heap:=s.heap.update l (Obj.mapSeq fun xs=>xs.eraseIdxIfInBounds j)}):=by
 induction k with
 |zero=>
  intro i hk hij prog w A R s h;obtain⟨hp,g,d,tk,os⟩:=s;obtain⟨hl,he,h⟩:=h;have hij':i=j:=Nat.le_antisymm hij (Nat.sub_eq_zero_iff_le.mp hk);subst hij';wp_walk using wpAny_loadPart' hl
  have hi:items[((i:Nat):Int).toNat]? =some items[i]:=by simp[hj]
  rw[hi];refine QN (he i hj (QL _) prog w _ _ ?_);rw[decide_eq_true rfl];have hz':(items.eraseIdxIfInBounds i).size<=sizeLine+1:=QG (size_erased items _) (Nat.le_succ_of_le hs1);wp_walk using(wpAny_updateSeq hl rfl (hz:=hs1) (_hz':=hz')),wpAny_loadPart' hl
  simpa using h
 |succ k ih=>
  intro i hk hij prog w A R s h;obtain⟨hp,g,d,tk,os⟩:=s;obtain⟨hl,he,h⟩:=h;have hlt:i<items.size:=Nat.lt_of_le_of_lt hij hj;have ne:¬i=j:=fun e=>Nat.succ_ne_zero k (hk.symm.trans (by rw[e,Nat.sub_self]));wp_walk using wpAny_loadPart' hl
  have hi:items[((i:Nat):Int).toNat]? =some items[i]:=by simp[hlt]
  have hc:((i:Int)+1)=((i+1:Nat):Int):=by push_cast;rfl
  rw[hi];refine QN (he i hlt hij prog w _ _ ?_);rw[decide_eq_false ne];wp_walk;rw[hc];exact⟨plainId_quiet plain_remove_loop _,codeAny_builtin entry_remove_loop (by
   rw[Around.under_plainId plain_remove_loop _];exact ih (i+1) (by rw[Nat.sub_succ,hk];rfl) (Nat.lt_of_le_of_ne hij ne) prog w A R _ ⟨hl,he,h⟩)⟩
theorem U2(l:Addr)(items:Array Value)(n:Nat)(x:Value)(j:Nat)(hj:j<items.size)(hs1:items.size<=sizeLine):
  Meets (Builtin.«list.remove» ⟨[.ref l,x],[]⟩)
   (fun A R s=>s.heap.get? l=some {cls:=.type "list",dict:=none,data:=.seq items n,slots:=#[]}/\(∀m (hm:m<items.size),m<=j->EqAt A.in1 s items[m] x (decide (m=j)))/\R (.ok (.ret .none)) {s with heap:=s.heap.update l (Obj.mapSeq fun xs=>xs.eraseIdxIfInBounds j)}):=by
 intro prog w A R s h;obtain⟨hp,g,d,tk,os⟩:=s;obtain⟨hl,he,h⟩:=h;wp_walk using wpAny_loadPart' hl
 exact⟨plainId_quiet plain_remove_loop _,codeAny_builtin entry_remove_loop (by
  rw[Around.under_plainId plain_remove_loop _];exact Uv l items n x j hj _ hs1 0 rfl (Nat.zero_le _) prog w A R _ ⟨hl,he,h⟩)⟩
section
variable{C:Cx}{P:Par}{gT:Nat->Option HV}{env:Env}{nm:Nms}{A:Around}{O:Nat->Addr}{S S':St}{s:Shared}{D:Nat}{V VA:HV}{vA:Value}{as:List HV}{vals:List Value}
theorem Xm:Slot "bytes" "join" "bytes.join":=
 .of (owner:="bytes") (n:="join") (by rw[typeLookup_type,builtinLookup_eq_fast];kernel_rfl) (by decide+kernel) (by decide+kernel) (by decide+kernel)
  (by first|exact .inl (by decide+kernel)|exact .inr (by decide+kernel)) (by rw[isSubtype_type];kernel_rfl)
theorem Xk:typeOf (.builtin "bytes.join")=pure (.type "method_descriptor"):=by show builtinType _=_;rw[builtinType_eq_fast];kernel_rfl
theorem qX6(h:kdV S V=1):∃j l,V=.obj j/\S.get j=some (.list l):=by
 revert h;refine Qv (fun j e h=>?_) (Q0 (fun J J h=>Zw h rfl) (Zm (fun J J h=>Zw h rfl) fun h=>Zw h rfl));subst e;cases e:S.get j with
 |none=>rw[e]at h;exact Zw h rfl
 |some o=>
  rw[e]at h;cases o with
  |list l=>exact⟨j,l,rfl,e⟩
  |inst c d=>exact absurd h (Nat.ne_of_gt (QF (by decide) (Nat.le_add_right 30 c)))
  |_=>exact Zw h rfl
theorem qX7(h:kdV S V=3):∃j l,V=.obj j/\S.get j=some (.dict l):=by
 revert h;refine Qv (fun j e h=>?_) (Q0 (fun J J h=>Zw h rfl) (Zm (fun J J h=>Zw h rfl) fun h=>Zw h rfl));subst e;cases e:S.get j with
 |none=>rw[e]at h;exact Zw h rfl
 |some o=>
  rw[e]at h;cases o with
  |dict l=>exact⟨j,l,rfl,e⟩
  |inst c d=>exact absurd h (Nat.ne_of_gt (QF (by decide) (Nat.le_add_right 30 c)))
  |_=>exact Zw h rfl
theorem qZp{j:Nat}{k:Nat}(h:kdV S (.obj j)=k)(hk:k=20∨k=21):False:=by
 have h:kdO (S.get j)=k:=h;cases e:S.get j with
 |none=>rw[e]at h;rcases hk with rfl|rfl<;>cases h
 |some o=>
  rw[e]at h;cases o with
  |inst c d=>have h:30+c=k:=h;omega
  |_=>rcases hk with rfl|rfl<;>cases h
theorem tx1:tx 1="append":=by decide+kernel
theorem tx2:tx 2="clear":=by decide+kernel
theorem tx3:tx 3="extend":=by decide+kernel
theorem tx4:tx 4="pop":=by decide+kernel
theorem tx5:tx 5="remove":=by decide+kernel
theorem tx6:tx 6="get":=by decide+kernel
theorem tx7:tx 7="join":=by decide+kernel
theorem tx8:tx 8="lower":=by decide+kernel
theorem J6(Z:Stt C env O S s){j:Nat}{l:List HV}(h:S.get j=some (.list l)){name:Str}{id:String}{pl:Sem Bool}(slot:Slot "list" name id)(ty:typeOf (.builtin id)=pure (.type "method_descriptor")):
  Qt C env .no A (getMethod (.ref (O j)) name pl) O S s S (fun J J r=>r=(.builtin id,[.ref (O j)])):=by
 obtain⟨items,n,i1,_⟩:=Z.list h;exact Qt.tok Z fun E Q q=>getMethod_builtin ⟨_,i1,rfl⟩ PySem.F.plainAttrs_list slot ty (fun a e=>by cases e;exact⟨_,i1,rfl⟩) (q _ s.toks rfl)
theorem Gi(Z:Stt C env O S s){j:Nat}{l:List (Nat × HV)}(h:S.get j=some (.dict l)){name:Str}{id:String}{pl:Sem Bool}(slot:Slot "dict" name id)(ty:typeOf (.builtin id)=pure (.type "method_descriptor")):
  Qt C env .no A (getMethod (.ref (O j)) name pl) O S s S (fun J J r=>r=(.builtin id,[.ref (O j)])):=by
 obtain⟨kvs,ep,d,_⟩:=Z.dict h;exact Qt.tok Z fun E Q q=>getMethod_builtin d.dictOf.typeIs PySem.F.plainAttrs_dict slot ty d.dictOf.mapOf.noDict (q _ s.toks rfl)
theorem Tv(Z:Stt C env O S s){m:Nat}{id:String}{pl:Sem Bool}(hv:VR C O S.n VA vA)(h:xJq (kdV S VA) m=some id):Qt C env .no A (getMethod vA (tx m) pl) O S s S (fun J J r=>r=(.builtin id,[vA])):=by
 generalize hg:getMethod vA (tx m) pl=G;revert h;refine Zg (fun hk h=>?_) (Zg (fun hk h=>?_) (Zg (fun hk=>Zg (fun e h=>?_) Qh) (Zg (fun hk=>Zg (fun e h=>?_) Qh) Qh)))
 ·obtain⟨j,l,rfl,e⟩:=qX6 hk
  obtain⟨_,rfl⟩:=hv;subst hg;clear hk;revert h;refine Zg (fun q h=>?_) (Zg (fun q h=>?_) (Zg (fun q h=>?_) (Zg (fun q h=>?_) (Zg (fun q h=>?_) Qh))))<;>subst q
  ·cases h;rw[tx1];exact J6 Z e PySem.F.slot_list_append PySem.F.type_list_append
  ·cases h;rw[tx2];exact J6 Z e PySem.F.slot_list_clear PySem.F.type_list_clear
  ·cases h;rw[tx3];exact J6 Z e PySem.F.slot_list_extend PySem.F.type_list_extend
  ·cases h;rw[tx4];exact J6 Z e PySem.F.slot_list_pop PySem.F.type_list_pop
  ·cases h;rw[tx5];exact J6 Z e PySem.F.slot_list_remove PySem.F.type_list_remove
 ·obtain⟨j,l,rfl,e⟩:=qX7 hk
  obtain⟨_,rfl⟩:=hv;subst hg;clear hk;revert h;refine Zg (fun q h=>?_) (Zg (fun q h=>?_) Qh)<;>subst q
  ·cases h;rw[tx6];exact Gi Z e PySem.F.slot_dict_get PySem.F.type_dict_get
  ·cases h;rw[tx4];exact Gi Z e PySem.F.slot_dict_pop PySem.F.type_dict_pop
 ·subst e
  cases VA with
  |bytes l=>
   obtain⟨t,rfl⟩:=hv;cases h;subst hg;rw[tx7];refine Qt.tok Z fun E Q q=>?_;have h:=q _ s.toks rfl
   with_reducible exact getMethod_builtin (typeIs_bytes s _ t) FB.plainAttrs_bytes Xm Xk (fun J e=>nomatch e) h
  |obj j=>exact(qZp hk (.inl rfl)).elim
  |_=>exact Zw hk rfl
 ·subst e
  cases VA with
  |str l=>
   obtain⟨t,rfl⟩:=hv;cases h;subst hg;rw[tx8];exact Qt.tok Z fun E Q q=>GM.lower (q _ s.toks rfl)
  |obj j=>exact(qZp hk (.inr rfl)).elim
  |_=>exact Zw hk rfl
theorem Uk{x:Option St}(h:unit x=.ok V S'):x=some S'/\V=.none:=by
 obtain⟨_,S1,h1,h2⟩:=Qb (x:=ofS x) h;have h1:=X0 h1;cases h2;exact⟨h1,rfl⟩
theorem Z6(FK:Zc C gT P)(Z:Stt C env O S s){j:Nat}{l l':List HV}(h1:S.get j=some (.list l))(hm:L3 P S j (.list l')=some S'){items:Array Value}{n:Nat}(i1:IsL s.heap (O j) items n)(f:Array Value->Array Value)(hF:F2 (VR C O S.n) l' (f items).toList)
  {t:Sem Value} {V:HV} {v:Value} (hv:VR C O S.n V v) (hw:∀(E:Value->Shared->Prop) (Q:Value->Shared->Prop),Q v {s with heap:=s.heap.update (O j) (Obj.mapSeq f)}->wpAny (model C.prog C.w) A t Q E s):Qt C env .no A t O S s S' (Q4 C V):=by
 obtain⟨hT,hsz,rfl⟩:=X7 hm;intro E Q q;have U:=Z.upd (W:=Wd env .no) h1 (by rw[<-FK.T0];exact hT) (Heap.SameBut.update s.heap (O j) (Obj.mapSeq f)) (PySem.IsL.update i1 f) (o:=.list l') ⟨hsz,f items,_,rfl,hF⟩ rfl s.toks;exact hw E Q (q _ O _ U.1 U.2 hv)
theorem F2.u5{α β:Type}{r:α->β->Prop}{l:List α}{m:List β}(i:Nat)(H:F2 r l m):F2 r (l.eraseIdx i) (m.eraseIdx i):=by
 induction H generalizing i with
 |nil=>exact .nil
 |cons x y ih=>cases i with
  |zero=>exact y
  |succ i=>exact .cons x (ih i)
theorem Nj{v:HV}:∀{l r:List HV},xJc P S v l=some r->∃j,j<l.length/\r=l.eraseIdx j/\∀m x,l[m]? =some x->m<=j->veq P S 6 x v=some (decide (m=j))
 |[],_,h=>by cases h
 |x::l,r,h=>by
  obtain⟨b,h1,h2⟩:=Qn (x:=veq P S 6 x v) h;cases b with
  |true=>
   cases h2;refine⟨0,by simp,rfl,fun m y hy hm=>?_⟩;obtain rfl:m=0:=by omega
   simp only[List.getElem?_cons_zero,Option.some.injEq]at hy;subst hy;exact h1
  |false=>
   obtain⟨t,h3,h4⟩:=Qn (x:=xJc P S v l) h2;cases h4;obtain⟨j,g1,g2,g3⟩:=Nj h3;refine⟨j+1,by simp;omega,by rw[g2];rfl,fun m y hy hm=>?_⟩;cases m with
   |zero=>simp only[List.getElem?_cons_zero,Option.some.injEq]at hy;subst hy;rw[decide_eq_false (by omega)];exact h1
   |succ m=>
    simp only[List.getElem?_cons_succ]at hy;rw[g3 m y hy (by omega)]
    congr 1
    by_cases q:m=j<;>simp[q]
theorem Gl{h':Heap}{d:Addr}{n:Nat}{es:List (Nat × HV)}{kvs:List (Str × Value)}(hd:h'.DictOf (PySem.strKind C.prog C.w) d kvs)(hF:F2 (PR C O n) es kvs):∃ob,h'.get? d=some ob/\OR0 C O n (.dict es) ob:=by
 obtain⟨⟨cls,dd,data,sl⟩,ens,ep,zq⟩:=hd;obtain⟨ho,⟨c1,c2,c3⟩,hdat,hk,hp,hn⟩:=zq;simp only at c1 c2 c3 hdat;subst c1 c2 c3 hdat;refine⟨_,ho,ens,ep,rfl,?_⟩;have hk':∀e∈ens.toList,∃k,(PySem.strKind C.prog C.w).is k e.key=true/\e.hash=(PySem.strKind C.prog C.w).hash k:=fun e he=>hk e (by simpa using he);clear ho hk hn;generalize ens.toList=l at hp hk';induction hp generalizing es with
 |nil=>cases hF;exact .nil
 | @cons e kv l kvs h1 h2 h3 ih=>
  cases hF with
  | @cons p _ es _ x y=>
   refine .cons ⟨?_,?_,?_⟩ (ih y fun e he=>hk' e (List.mem_cons_of_mem _ he))
   ·obtain⟨t,ht⟩:=Value.isStrOf_shape h1
    exact⟨t,by rw[ht,x.1]⟩
   ·obtain⟨k,g1,g2⟩:=hk' e List.mem_cons_self
    have:k=kv.1:=(PySem.strKind C.prog C.w).inj e.key k kv.1 g1 h1;rw[g2,this,x.1];rfl
   ·rw[h2];exact x.2
theorem F2.keys{n:Nat}{es:List (Nat × HV)}{kvs:List (Str × Value)}(H:F2 (PR C O n) es kvs)(k:Nat):tx k∈kvs.map (·.1)↔k∈es.map (·.1):=by
 induction H with
 |nil=>exact⟨nofun,nofun⟩
 | @cons p kv es kvs x y ih=>
  simp only[List.map_cons,List.mem_cons,ih,x.1];exact or_congr ⟨fun e=>Zy e,fun e=>by rw[e]⟩ Iff.rfl
noncomputable def stR(k:Str)(v:Value):List (Str × Value)->List (Str × Value)
 |[]=>[(k,v)]
 |kv::r=>if kv.1=k then(k,v)::r else kv::stR k v r
theorem Wy(k:Str)(v:Value):∀{kvs:List (Str × Value)},(kvs.map (·.1)).Nodup->PySem.stored kvs k v=stR k v kvs
 |[],_=>rfl
 |kv::kvs,hn=>by
  simp only[List.map_cons]at hn;obtain⟨h1,h2⟩:=List.nodup_cons.mp hn;have ih:=Wy k v h2;unfold PySem.stored at ih⊢;unfold stR
  by_cases q:kv.1=k
  ·rw[if_pos q,List.any_cons,decide_eq_true q,Bool.true_or,if_pos rfl,List.map_cons,if_pos q,PySem.map_store_of_not_mem kvs k v (q▸h1),q]
  ·rw[if_neg q,List.any_cons,decide_eq_false q,Bool.false_or,List.map_cons,if_neg q,<-ih]
   split<;>rfl
theorem F2.stored{n:Nat}{V:HV}{v:Value}(hv:VR C O n V v)(k:Nat){es:List (Nat × HV)}{kvs:List (Str × Value)}(H:F2 (PR C O n) es kvs):F2 (PR C O n) (pt es k V) (stR (tx k) v kvs):=by
 induction H with
 |nil=>exact .cons ⟨rfl,hv⟩ .nil
 | @cons p kv es kvs x y ih=>
  show F2 _ (Bool.rec (motive:=fun J=>List (Nat × HV)) (p::pt es k V) ((k,V)::es) (Nat.beq p.1 k)) (if kv.1=tx k then(tx k,v)::kvs else kv::stR (tx k) v kvs);cases hb:Nat.beq p.1 k with
  |true=>
   rw[if_pos (by rw[x.1,Z5 hb])];exact .cons ⟨rfl,hv⟩ y
  |false=>
   rw[if_neg (fun e=>by rw[x.1]at e;rw[Zy e,Nat.beq_refl]at hb;cases hb)];exact .cons x ih
noncomputable def wiR(k:Str):List (Str × Value)->List (Str × Value)
 |[]=>[]
 |kv::r=>if kv.1=k then r else kv::wiR k r
theorem Vv(k:Str):∀{kvs:List (Str × Value)},(kvs.map (·.1)).Nodup->PySem.without kvs k=wiR k kvs
 |[],_=>rfl
 |kv::kvs,hn=>by
  simp only[List.map_cons]at hn;obtain⟨h1,h2⟩:=List.nodup_cons.mp hn;have ih:=Vv k h2;unfold wiR
  by_cases q:kv.1=k
  ·rw[if_pos q]
   have e:=PySem.without_of_not_mem kvs k (q▸h1);unfold PySem.without at e⊢;rw[List.filter_cons,if_neg (by simp[q]),e]
  ·rw[if_neg q,<-ih]
   unfold PySem.without;rw[List.filter_cons,if_pos (by simp[q])]
theorem F2.without{n:Nat}(k:Nat){es:List (Nat × HV)}{kvs:List (Str × Value)}(H:F2 (PR C O n) es kvs):F2 (PR C O n) (rm es k) (wiR (tx k) kvs):=by
 induction H with
 |nil=>exact .nil
 | @cons p kv es kvs x y ih=>
  show F2 _ (Bool.rec (motive:=fun J=>List (Nat × HV)) (p::rm es k) es (Nat.beq p.1 k)) (if kv.1=tx k then kvs else kv::wiR (tx k) kvs);cases hb:Nat.beq p.1 k with
  |true=>
   rw[if_pos (by rw[x.1,Z5 hb])];exact y
  |false=>
   rw[if_neg (fun e=>by rw[x.1]at e;rw[Zy e,Nat.beq_refl]at hb;cases hb)];exact .cons x ih
theorem Nm(es:List (Nat × HV))(k:Nat)(V:HV)(hn:(es.map (·.1)).Nodup):((pt es k V).map (·.1)).Nodup/\∀i,i∈(pt es k V).map (·.1)->i=k∨i∈es.map (·.1):=by
 induction es with
 |nil=>exact⟨by show[k].Nodup;simp,fun i hi=>.inl (by have hi:i∈[k]:=hi;simpa using hi)⟩
 |cons p es ih=>
  simp only[List.map_cons]at hn;obtain⟨h1,h2⟩:=List.nodup_cons.mp hn;obtain⟨g1,g2⟩:=ih h2;show((Bool.rec (motive:=fun J=>List (Nat × HV)) (p::pt es k V) ((k,V)::es) (Nat.beq p.1 k)).map (·.1)).Nodup/\∀i,i∈(Bool.rec (motive:=fun J=>List (Nat × HV)) (p::pt es k V) ((k,V)::es) (Nat.beq p.1 k)).map (·.1)->_;cases hb:Nat.beq p.1 k with
  |true=>
   have e:=Z5 hb;simp only[List.map_cons];refine⟨by rw[<-e];exact hn,fun i hi=>?_⟩;rcases QR hi with hi|hi
   ·exact .inl hi
   ·exact .inr (List.mem_cons_of_mem _ hi)
  |false=>
   have ne:p.1≠k:=fun e=>by rw[e,Nat.beq_refl]at hb;cases hb
   simp only[List.map_cons];refine⟨List.nodup_cons.mpr ⟨fun hm=>?_,g1⟩,fun i hi=>?_⟩
   ·rcases g2 _ hm with h|h
    ·exact ne h
    ·exact h1 h
   ·rcases QR hi with hi|hi
    ·exact .inr (by rw[hi];exact List.mem_cons_self)
    ·rcases g2 _ hi with h|h
     ·exact .inl h
     ·exact .inr (List.mem_cons_of_mem _ h)
theorem qXd(es:List (Nat × HV))(k:Nat)(hn:(es.map (·.1)).Nodup):((rm es k).map (·.1)).Nodup/\∀i,i∈(rm es k).map (·.1)->i∈es.map (·.1):=by
 induction es with
 |nil=>exact⟨.nil,fun i hi=>hi⟩
 |cons p es ih=>
  simp only[List.map_cons]at hn;obtain⟨h1,h2⟩:=List.nodup_cons.mp hn;obtain⟨g1,g2⟩:=ih h2;show((Bool.rec (motive:=fun J=>List (Nat × HV)) (p::rm es k) es (Nat.beq p.1 k)).map (·.1)).Nodup/\∀i,i∈(Bool.rec (motive:=fun J=>List (Nat × HV)) (p::rm es k) es (Nat.beq p.1 k)).map (·.1)->_;cases hb:Nat.beq p.1 k with
  |true=>exact⟨h2,fun i hi=>List.mem_cons_of_mem _ hi⟩
  |false=>
   simp only[List.map_cons];refine⟨List.nodup_cons.mpr ⟨fun hm=>h1 (g2 _ hm),g1⟩,fun i hi=>?_⟩;rcases QR hi with hi|hi
   ·rw[hi];exact List.mem_cons_self
   ·exact List.mem_cons_of_mem _ (g2 _ hi)
theorem Stt.dnd(Z:Stt C env O S s){j:Nat}{es:List (Nat × HV)}(h:S.get j=some (.dict es)):(es.map (·.1)).Nodup:=by
 obtain⟨_,ob,ho,hg,_⟩:=Z.hr.live j _ h;exact hg.2
theorem Xo(FK:Zc C gT P)(Z:Stt C env O S s){j:Nat}{l l':List (Nat × HV)}(h1:S.get j=some (.dict l))(hm:L3 P S j (.dict l')=some S')(hn:(l'.map (·.1)).Nodup){kvs:List (Str × Value)}(hF:F2 (PR C O S.n) l' kvs)
  {α:Type} {t:Sem α} {r:Yt α} {v:α} (hv:r O S.n v) (hw:∀(E:Value->Shared->Prop) (Q:α->Shared->Prop),(∀h' tk,h'.DictOf (PySem.strKind C.prog C.w) (O j) kvs->Heap.SameBut (O j) s.heap h'->Q v {s with heap:=h',toks:=tk})->wpAny (model C.prog C.w) A t Q E s):Qt C env .no A t O S s S' r:=by
 obtain⟨hT,hsz,rfl⟩:=X7 hm;intro E Q q;refine hw E Q fun h' tk hd hs=>?_;obtain⟨ob,ho,hr⟩:=Gl hd hF;have U:=Z.upd (W:=Wd env .no) h1 (by rw[<-FK.T0];exact hT) hs ho (o:=.dict l') ⟨⟨hsz,hn⟩,hr⟩ rfl tk;exact q _ O _ U.1 U.2 hv
theorem qXo(FK:Zc C gT P)(hA:AOk D A)(Z:Stt C env O S s){j:Nat}{l:List HV}{b:List B8}{t:Tok}(h1:S.get j=some (.list l))(hne:l.length≠1)(h:Dm l=some b)(hb:b.length<=1000):Qt C env .no A (call (.builtin "bytes.join") [.bytes #[] t,.ref (O j)]) O S s S (Q4 C (.bytes b)):=by
 obtain⟨items,n,i1,r1,l1,b1⟩:=Z.list h1;have key:∀(l:List HV) (vs:List Value) (b:List B8),F2 (VR C O S.n) l vs->Dm l=some b->∃bs:List (Array UInt8 × Tok),vs=Yh bs/\bs.flatMap (·.1.toList)=b.map (b8 C):=by
  intro l;induction l with
  |nil=>intro vs b hF hj;cases hF;cases hj;exact⟨[],rfl,rfl⟩
  |cons x l ih=>
   intro vs b hF hj;cases hF with
   |cons hx hF=>
    cases x with
    |bytes y=>
     obtain⟨r,h3,h4⟩:=Qn (x:=Dm l) hj;cases h4;obtain⟨t,rfl⟩:=hx;obtain⟨bs,rfl,e⟩:=ih _ _ hF h3;exact⟨((y.map (b8 C)).toArray,t)::bs,rfl,by rw[List.flatMap_cons,e];simp⟩
    |_=>cases hj
 obtain⟨bs,e1,e2⟩:=key _ _ _ r1 h;have e3:items=(Yh bs).toArray:=by rw[<-e1]
 have e4:bs.length=l.length:=by rw[l1,e3];simp[Yh]
 have e5:zQ9 bs=(b.map (b8 C)).toArray:=by rw[D1,e2]
 have e6:(bs.map (·.1.size)).sum=b.length:=by
  have:=congrArg List.length e2;rw[List.length_flatMap,List.length_map]at this;simpa using this
 subst e3;refine Qt.tok Z fun E Q q=>wpAny_call_entry Fb.slot_join (typeIs_bytes s _ t) Fb.entry_join (qQq (o:=⟨.type "list",none,.seq (Yh bs).toArray n,#[]⟩) i1 rfl rfl (by omega) (by rw[e6];exact QG hb (by decide)) fun t' k=>⟨_,rfl,q _ _ ⟨t',by rw[e5]⟩⟩) (Fb.args_join _ _)
theorem xXf(K:Q6 C P gT)(FK:Zc C gT P)(hA:AOk D A)(Z:Stt C env O S s){m:Nat}{id:String}(hv:VR C O S.n VA vA)(hs:F2 (VR C O S.n) as vals)(hi:xJq (kdV S VA) m=some id)(h:Ph P S m as VA=.ok V S'):
  Qt C env .no A (call (.builtin id) (vA::vals)) O S s S' (Q4 C V):=by
 have sl:sizeLine=16777216:=rfl;revert h;refine Qv (fun j e h=>?_) (Q0 (fun l e=>Zg (fun q=>un1 (fun a e' h=>?_) Qo) Qo) (Zm (fun k e=>Zg (fun q=>un0 (fun e' h=>?_) Qo) Qo) Qo))<;>subst e
 ·obtain⟨hj,rfl⟩:=hv
  refine Jy h fun o h1 h2=>?_;have hk:kdV S (.obj j)=kdO (some o):=by show kdO (S.get j)=_;rw[h1]
  rw[hk]at hi;clear hk h;revert h2;refine Q3 (fun l e h2=>?_) (Ji (fun es e h2=>?_) Qo)<;>subst e
  ·obtain⟨items,n,i1,r1,l1,b1⟩:=Z.list h1
   revert h2;refine Zg (fun q=>un1 (fun a e h2=>?_) Qo) (Zg (fun q=>un0 (fun e h2=>?_) Qo) (Zg (fun q=>un1 (fun a e h2=>?_) Qo) (Zg (fun q=>un0 (fun e h2=>?_) Qo) (Zg (fun q=>un1 (fun a e h2=>?_) Qo) Qo))))<;>subst q e
   ·
    cases hi;injection hs with x y;cases y
    ··obtain⟨h3,rfl⟩:=Uk h2
      refine Z6 FK Z h1 h3 i1 (fun xs=>xs.push _) ?_ rfl fun E Q q=>call_meets PySem.F.slot_list_append ⟨_,i1,rfl⟩ PySem.F.entry_list_append (PySem.F.args_list_append_2 _ _) (PySem.list_append _ items n _ (by omega)) ⟨i1,q⟩;rw[Array.toList_push];exact r1.snoc x
   ·
    cases hi;cases hs;obtain⟨h3,rfl⟩:=Uk h2;exact Z6 FK Z h1 h3 i1 (fun J=>#[]) .nil rfl fun E Q q=>call_meets PySem.F.slot_list_clear ⟨_,i1,rfl⟩ PySem.F.entry_list_clear (PySem.F.args_list_clear_1 _) (PySem.AutoSeq1.list_clear_list_0 _ items n (by omega)) ⟨i1,q⟩
   ·
    cases hi;injection hs with x y;cases y;revert h2;refine Qv (fun k e h2=>?_) Qo;subst e
    ···obtain⟨hk,rfl⟩:=x
       refine Jy h2 fun o' h3 h4=>?_;clear h2;revert h4;refine Q3 (fun l' e h4=>?_) Qo;subst e
       ·
        obtain⟨items2,n2,i2,r2,l2,b2⟩:=Z.list h3;obtain⟨h5,rfl⟩:=Uk h4;refine Z6 FK Z h1 h5 i1 (fun xs=>xs++items2) ?_ rfl fun E Q q=>call_meets PySem.F.slot_list_extend ⟨_,i1,rfl⟩ PySem.F.entry_list_extend (PySem.F.args_list_extend_2 _ _)
         (PySem.AutoSeq1.list_extend_list_list_0 _ items n _ items2 n2 ?_ (by omega) (by omega)) ⟨i1,i2,q⟩
        ·rw[Array.toList_append];exact F2.append r2 r1
        ·have:Builtin.List.listTooLong (items.size+items2.size)=false:=decide_eq_false (by omega)
         rw[this];simp
   ·
    cases hi;cases hs;revert h2;refine unC (fun v r hr h2=>qQ9 h2 fun S2 h3 h4=>?_) Qo
    ·cases h4
     have hrev:=r1.reverse;rw[hr]at hrev;cases hrev':items.toList.reverse with
     |nil=>rw[hrev']at hrev;cases hrev
     |cons y ys=>
      rw[hrev']at hrev;injection hrev with hy hys
      ·have el:items.toList=ys.reverse++[y]:=by rw[<-List.reverse_reverse items.toList,hrev'];simp
       have hsz:items.size=ys.length+1:=by have:=congrArg List.length el;simpa using this
       have hy':items[items.size-1]? =some y:=by
        rw[<-Array.getElem?_toList,el,hsz];simp
       refine Z6 FK Z h1 h3 i1 (fun xs=>xs.eraseIdxIfInBounds (items.size-1)) ?_ hy fun E Q q=>call_meets PySem.F.slot_list_pop ⟨_,i1,rfl⟩ PySem.F.entry_list_pop (PySem.F.args_list_pop_1 _) (list_pop_last _ items n y hy' (by omega)) ⟨i1,q⟩;have e2:(items.eraseIdxIfInBounds (items.size-1)).toList=ys.reverse:=by
        unfold Array.eraseIdxIfInBounds;rw[dif_pos (by omega),Array.toList_eraseIdx,el,hsz];simp[List.eraseIdx_append_of_length_le]
       rw[e2];exact hys.reverse
   ·
    cases hi;injection hs with x y;cases y
    ··obtain⟨h3,rfl⟩:=Uk h2
      obtain⟨r,h4,h5⟩:=Qn h3;obtain⟨k,g1,g2,g3⟩:=Nj h4;refine Z6 FK Z h1 h5 i1 (fun xs=>xs.eraseIdxIfInBounds k) ?_ rfl fun E Q q=>call_meets PySem.F.slot_list_remove ⟨_,i1,rfl⟩ PySem.F.entry_list_remove (PySem.F.args_list_remove_2 _ _)
       (U2 _ items n _ k (by omega) (by omega)) ⟨i1,fun m hm hmk=>?_,q⟩
      ·have e2:(items.eraseIdxIfInBounds k).toList=items.toList.eraseIdx k:=by
        unfold Array.eraseIdxIfInBounds;rw[dif_pos (by omega),Array.toList_eraseIdx]
       rw[e2,g2];exact r1.u5 k
      ·obtain⟨a,q1,q2⟩:=r1.get (i:=m) (b:=items[m]) (by simp[hm])
       exact(Kf K Z 6 _ a _ _ _ _ (g3 m a q1 hmk) q2 x (by have:=hA.units;show A.units+1+6<9900;omega)).1
  ·obtain⟨kvs,ep,d1,r1,l1,b1⟩:=Z.dict h1
   have ns:=Z.uw K h1;revert h2;refine Zg (fun q=>un2 (fun a b e=>Zm (fun k e' h2=>?_) Qo) Qo) (Zg (fun q=>un1 (fun a e=>Zm (fun k e' h2=>?_) Qo) Qo) Qo)<;>subst q e e'
   ·
    cases hi;injection hs with x y;injection y with x' y;cases y
    ····obtain⟨t,rfl⟩:=x
        cases h2;have hval:=r1.value k;refine Qt.tok Z fun E Q q=>call_meetsIn PySem.F.slot_dict_get d1.dictOf.typeIs PySem.F.entry_dict_get (PySem.F.args_dict_get_3 _ _ _) (meets_dict_get_default _ _ (Xl k t) ns _) ⟨_,d1.dictOf.mapOf,q _ _ ?_⟩;cases hl:lk es k with
        |none=>rw[hl]at hval;rw[hval];exact x'
        |some W=>rw[hl]at hval;obtain⟨v,e1,e2⟩:=hval;rw[e1];exact e2
   ·
    cases hi;injection hs with x y;cases y
    ···obtain⟨t,rfl⟩:=x
       refine Jy h2 fun W h3 h4=>qQ9 h4 fun SC h5 h6=>?_;cases h6;have hval:=r1.value k;rw[h3]at hval;obtain⟨v,e1,e2⟩:=hval;have nd:=Z.dnd h1;refine Xo FK Z h1 h5 (qXd es k nd).1 (r1.without k) e2 fun E Q q=>call_meetsIn PySem.F.slot_dict_pop d1.dictOf.typeIs PySem.F.entry_dict_pop (PySem.F.args_dict_pop_2 _ _) (meets_dict_pop_there _ _ (Xl k t) [] (.inl rfl) rfl)
        ⟨kvs,v,d1.dictOf,by omega,e1,fun h' hmm hs=>q h' _ (by rw[<-Vv _ d1.nodup];exact hmm) hs⟩
 ·obtain⟨t,rfl⟩:=hv
  subst q e'
  ·obtain⟨h1,h2⟩:=Qk h
   obtain⟨h3,rfl⟩:=Q8 h2;cases hi;injection hs with x y;cases y;revert h3;refine Qv (fun k e h3=>?_) Qh;subst e
   ···obtain⟨hk,rfl⟩:=x
      obtain⟨o,g1,g2⟩:=Qn h3;obtain⟨b,g3,g4⟩:=Qn g2;cases g4;revert g3;refine Q3 (fun l' e g3=>?_) Qh;subst e
      ·have e:l=[]:=by cases l with|nil=>rfl|cons _ _=>cases h1
       subst e;obtain⟨g5,g6⟩:=Qj g3;obtain⟨b',g7,g8⟩:=Qn g6;obtain⟨g9,g10⟩:=Qj g8;cases g10;exact qXo FK hA Z g1 (fun e=>by rw[e]at g5;cases g5) g7 (QE g9)
 ·obtain⟨t,rfl⟩:=hv
  subst q e'
  ·obtain⟨h3,rfl⟩:=Q8 h
   obtain⟨c,g1,g2⟩:=Qn h3;cases g2;cases hi;cases hs;exact Qt.tok Z fun E Q q=>KXw.lower (K.low k c g1) (by rw[K.low k c g1];exact decide_eq_false (by have:=Ws c;omega)) fun t' tk=>q _ _ ⟨t',rfl⟩
end
end
section
variable{C:Cx}{P:Par}{gT:Nat->Option HV}{env:Env}{nm:Nms}{A:Around}{O:Nat->Addr}{S S' S1:St}{s:Shared}{D:Nat}{V VA:HV}{vA:Value}{as:List HV}{vals:List Value}
theorem Stt.barr(Z:Stt C env O S s){j:Nat}{l:List B8}(h:S.get j=some (.barr l)):∃m,s.heap.get? (O j)=some ⟨.type "bytearray",none,.bytearray (l.map (b8 C)).toArray 0,m⟩/\l.length<=1000:=by
 obtain⟨_,ob,ho,hg,m,rfl⟩:=Z.hr.live j _ h;exact⟨m,ho,hg⟩
theorem qQi(K:Q6 C P gT)(hA:AOk D A)(Z:Stt C env O S s){j:Nat}{l:List B8}(h:S.get j=some (.barr l)):Qt C env .no A (call (.builtin "len") [.ref (O j)]) O S s S (Q4 C (.int (.ofNat l.length))):=by
 obtain⟨m,ho,hz⟩:=Z.barr h;exact Qt.tok Z fun E Q q=>jX7 ho (by simpa using hz) (q _ _ ⟨s.toks+1,by simp⟩)
theorem Me(K:Q6 C P gT)(hA:AOk D A)(Z:Stt C env O S s){j:Nat}{l:List B8}(h:S.get j=some (.barr l)):Qt C env .no A (call (.type "bytes") [.ref (O j)]) O S s S (Q4 C (.bytes l)):=by
 obtain⟨m,ho,hz⟩:=Z.barr h;exact Qt.tok Z fun E Q q=>Wb ho (QG (by simpa using hz) (by decide:1000<=sizeLine)) fun t k=>q _ _ ⟨t,rfl⟩
theorem Hz(K:Q6 C P gT)(hA:AOk D A)(Z:Stt C env O S s){l:List B8}{t:Tok}:Qt C env .no A (call (.type "bytes") [.bytes (l.map (b8 C)).toArray t]) O S s S (Q4 C (.bytes l)):=
 Qt.tok Z fun E Q q=>Vu (q _ s.toks ⟨t,rfl⟩)
theorem Md(K:Q6 C P gT)(hA:AOk D A)(Z:Stt C env O S s){j:Nat}{l:List HV}{b:List B8}(h:S.get j=some (.list l))(hb:Go l=some b):Qt C env .no A (call (.type "bytes") [.ref (O j)]) O S s S (Q4 C (.bytes b)):=by
 obtain⟨items,n,i1,r1,l1,b1⟩:=Z.list h;have key:∀(l:List HV) (vs:List Value) (b:List B8),F2 (VR C O S.n) l vs->Go l=some b->∃ns:List Int,IntsAre vs ns/\(∀n∈ns,0<=n/\n<256)/\(ns.map fun n=>n.toNat.toUInt8)=b.map (b8 C):=by
  intro l;induction l with
  |nil=>intro vs b hF hj;cases hF;cases hj;exact⟨[],.nil,by simp,rfl⟩
  |cons x l ih=>
   intro vs b hF hj;injection hF with hx hF
   ·obtain⟨c,h3,h4⟩:=Qn (x:=xZq x) hj
    obtain⟨r,h5,h6⟩:=Qn (x:=Go l) h4;cases h6;revert h3;refine Kq (fun k e h3=>?_) Qh;subst e
    ·obtain⟨h7,h8⟩:=Qj h3
     cases h8;obtain⟨t,rfl⟩:=hx;obtain⟨ns,e1,e2,e3⟩:=ih _ _ hF h5;refine⟨Int.ofNat k::ns,.cons _ t e1,?_,?_⟩
     ·intro n hn
      rcases QR hn with rfl|hn
      ·have:=QE h7
       show(0:Int)<=(k:Int)/\(k:Int)<256;omega
      ·exact e2 n hn
     ·rw[List.map_cons,List.map_cons,e3];rfl
 obtain⟨ns,e1,e2,e3⟩:=key _ _ _ r1 hb;intro E Q q;refine call_bytes_ints (vs:=items.toList) ⟨_,i1,rfl,n,rfl⟩ e1 e2 (by rw[Array.length_toList];exact QG b1 (by decide)) hA.handled fun h' t k hk=>?_;have G:=Z.grown (kk:=.no) hk k;exact q _ O _ G.1 G.2 ⟨t,by unfold byteArr;rw[e3]⟩
theorem Mf(K:Q6 C P gT)(hA:AOk D A)(Z:Stt C env O S s){l:List B8}{t:Tok}(h:S.new (.barr l)=.ok V S'):Run C env .no A (call (.type "bytearray") [.bytes (l.map (b8 C)).toArray t]) O S s S' (Q4 C V):=by
 have hg:=Zr h;obtain⟨hn,rfl,rfl⟩:=Zz h;have hg:l.length<=1000:=hg;intro E Q q;refine Ka (by simp only[List.size_toArray,List.length_map];exact QG hg (by decide)) fun h' ho hk=>?_;have G:=Z.grown (kk:=.no) hk s.toks;have A1:=Stt.uz (a:=s.heap.objs.size) G.1 G.2 (by
   cases e:s.heap.get? s.heap.objs.size with
   |none=>rfl
   |some o=>exact absurd (QH e) (QM _)) ho (fun w=>absurd (Z.lr.uh w) (QM _)) (fun j hj e=>by
   obtain⟨x,hx⟩:=QD hj;obtain⟨_,y,hy,_⟩:=Z.hr.live j x hx;rw[e]at hy;exact absurd (QH hy) (QM _)) (QG Z.lr.above (Nat.le_of_lt (Z.lr.uh (.inl rfl)))) hn (o:=.barr l) ⟨hg,_,rfl⟩
 exact q _ _ _ A1.1 A1.2 ⟨QK _,by rw[Ql]⟩
theorem G4(K:Q6 C P gT)(hA:AOk D A)(Z:Stt C env O S s){j:Nat}(h:S.get j=some (.dict []))(hn:S.new (.list [])=.ok V S'):Qt C env .no A (call (.builtin "sorted") [.ref (O j)]) O S s S' (Q4 C V):=by
 have hg:=Zr hn;obtain⟨hn',rfl,rfl⟩:=Zz hn;clear hn;have hn:=hn';obtain⟨kvs,ep,d1,r1,l1,b1⟩:=Z.dict h;have hkv:kvs=[]:=by cases kvs with|nil=>rfl|cons _ _=>cases r1
 subst hkv;have h7:7<=j:=Nat.not_lt.mp fun q=>by
  obtain⟨l,hl⟩:=K.fro7 j q;rw[Z.hr.frz j _ hl]at h;cases h
 have lo:(O j==sysModules)=false:=Z.hr.uw K.sysM h7 (by rw[h];rfl);intro E Q q;refine Lk lo hA.handled d1 fun h' tk D' e hk hlt ho=>?_;have G:=Z.grown (kk:=.no) hk tk;have fresh:s.heap.get? D'=none:=by
  cases e:s.heap.get? D' with
  |none=>rfl
  |some o=>exact absurd (hlt _ _ e) (QM _)
 obtain⟨mL,⟨oL,_,_,hoL,_⟩,_⟩:=Z.lr.loc;have A1:=Stt.uz (a:=D') G.1 G.2 fresh ho (fun w=>by
   rcases w with w|⟨x,w⟩
   ·rw[w,hoL]at fresh;cases fresh
   ·obtain⟨_,_,_,v,ov,hv,_⟩:=Z.lr.cell x _ w
    rw[hv]at fresh;cases fresh) (fun i hi e=>by
   obtain⟨x,hx⟩:=QD hi;obtain⟨_,y,hy,_⟩:=Z.hr.live i x hx;rw[e]at hy;exact absurd (hlt _ _ hy) (QM _)) (QG Z.lr.above (Nat.le_of_lt (hlt _ _ hoL))) hn (o:=.list []) ⟨hg,#[],e,rfl,.nil⟩
 exact q _ _ _ A1.1 A1.2 ⟨QK _,by rw[Ql]⟩
theorem Db:∀{l:List HV} {m M:Int},xJi m l=some M->∃ns:List Int,l=ns.map HV.int/\M∈m::ns/\∀a∈m::ns,a<=M
 |[],m,M,h=>by cases h;exact⟨[],rfl,by simp,by simp⟩
 |v::l,m,M,h=>by
  cases v with
  |int i=>
   have h:xJi (hif (decide (m<i)) i m) l=some M:=h;obtain⟨ns,e,h1,h2⟩:=Db h
   by_cases q:m<i
   ·rw[decide_eq_true q]at h1 h2
    have h1:M∈i::ns:=h1;have h2:∀a∈i::ns,a<=M:=h2;refine⟨i::ns,by rw[e];rfl,List.mem_cons_of_mem _ h1,fun a ha=>?_⟩;rcases QR ha with rfl|ha
    ·have:=h2 i List.mem_cons_self;omega
    ·exact h2 a ha
   ·rw[decide_eq_false q]at h1 h2
    have h1:M∈m::ns:=h1;have h2:∀a∈m::ns,a<=M:=h2;refine⟨i::ns,by rw[e];rfl,?_,fun a ha=>?_⟩
    ·rcases QR h1 with e|h
     ·rw[e];exact List.mem_cons_self
     ·exact List.mem_cons_of_mem _ (List.mem_cons_of_mem _ h)
    ·rcases QR ha with rfl|ha
     ·exact h2 a List.mem_cons_self
     ·rcases QR ha with rfl|ha
      ·have:=h2 m List.mem_cons_self;omega
      ·exact h2 a (List.mem_cons_of_mem _ ha)
  |_=>cases h
theorem zQb{ns:List Int}:∀{vs:List Value},F2 (VR C O S.n) (ns.map HV.int) vs->IntsAre vs ns:=by
 induction ns with
 |nil=>intro vs h;cases h;exact .nil
 |cons n ns ih=>
  intro vs h;injection h with x y;obtain⟨t,rfl⟩:=x;exact .cons n t (ih y)
theorem qQd(hA:AOk D A)(Z:Stt C env O S s){l:Addr}{vs:List Value}{ns:List Int}{M:Int}(hl:s.heap.IsList l vs.toArray)(hi:IntsAre vs ns)(h1:M∈ns)(h2:∀a∈ns,a<=M):Qt C env .no A (call (.builtin "max") [.ref l]) O S s S (Q4 C (.int M)):=by
 intro E Q q;obtain⟨xs,e⟩:=hi.allInts.items;have hns:ns=xs.toList.map (·.1):=by
  rw[<-hi.numsOf,<-nums_intItems,<-e]
 have hsz:0<xs.size:=by
  have h3:=List.length_pos_of_mem h1;rw[hns,List.length_map,Array.length_toList]at h3;exact h3
 rw[e]at hl;refine max_intList hA.handled hl hsz fun v h' tk hv hk=>?_;obtain⟨t,rfl⟩:=intItems_at hv;obtain⟨g1,g2⟩:=argBest_gt (numAt xs) (xs.size-1);have eM:numAt xs (argBest (fun i j=>decide (numAt xs i>numAt xs j)) (xs.size-1))=M:=by
  apply Int.le_antisymm
  ·apply h2
   rw[hns,numAt_eq];exact getD_mem (by rw[List.length_map,Array.length_toList];exact Nat.lt_of_le_of_lt g1 (Nat.sub_lt hsz Nat.one_pos))
  ·rw[hns]at h1
   obtain⟨j,hj,rfl⟩:=mem_getD h1;rw[List.length_map,Array.length_toList]at hj;rw[<-numAt_eq];exact g2 j (Nat.le_sub_one_of_lt hj)
 have G:=Z.grown (kk:=.no) hk tk;exact q _ O _ G.1 G.2 ⟨t,by rw[<-eM]⟩
theorem xXg(K:Q6 C P gT)(FK:Zc C gT P)(hA:AOk D A)(Z:Stt C env O S s){k:Nat}(hs:F2 (VR C O S.n) as vals)(h:qZ6 S k as=.ok V S'):Qt C env .no A (call (.builtin (biN k)) vals) O S s S' (Q4 C V):=by
 revert h;refine Zg (fun q=>un1 (fun v e h=>?_) Qo) (Zg (fun q=>un1 (fun v e h=>?_) (un2 (fun a b e h=>?_) Qo)) (Zg (fun q=>un2 (fun v w e h=>?_) Qo) (Zg (fun q=>un1 (fun v e h=>?_) Qo) Qo)))<;>subst q e
 ·refine F2.k1 hs fun b e x=>?_
  subst e;obtain⟨h1,rfl⟩:=Q8 h;clear h hs;revert h1;refine Q0 (fun l e h1=>?_) (Qv (fun j e h1=>?_) Qh)<;>subst e
  ·obtain⟨t,rfl⟩:=x
   obtain⟨h2,h3⟩:=Qj h1;cases h3;have:=QE h2;exact Qt.tok Z fun E Q q=>len_bytes (by simp;omega) (q _ _ ⟨s.toks+1,by simp⟩)
  ·obtain⟨hj,rfl⟩:=x
   obtain⟨o,h2,h3⟩:=Qn h1;clear h1;revert h3;refine Q3 (fun l e h3=>?_) (Zx (fun l e h3=>?_) (Un (fun l e h3=>?_) Qh))<;>subst e<;>cases h3
   ·obtain⟨items,n,i1,r1,l1,b1⟩:=Z.list h2
    exact Qt.tok Z fun E Q q=>call_len_list ⟨_,i1,rfl,n,rfl⟩ (by omega) (q _ _ ⟨_,by rw[<-l1];rfl⟩)
   ·obtain⟨items,n,i1,r1,l1,b1⟩:=Z.uF h2
    exact Qt.tok Z fun E Q q=>PySem.P.len_tuple i1 (by omega) (q _ _ ⟨_,by rw[<-l1];rfl⟩)
   ·exact qQi K hA Z h2
 ·refine F2.k1 hs fun b e x=>?_
  subst e;obtain⟨h1,rfl⟩:=Q8 h;clear h hs;revert h1;refine Qv (fun j e h1=>?_) Qh;subst e;obtain⟨hj,rfl⟩:=x;obtain⟨o,h2,h3⟩:=Qn h1;clear h1;revert h3;refine Q3 (fun l e=>unC (fun v r e'=>Q5 (fun i e'' h3=>?_) Qh) Qh) Qh;subst e e' e'';obtain⟨M,h4,h5⟩:=Qn h3;cases h5;obtain⟨ns,rfl,g1,g2⟩:=Db h4;obtain⟨items,n,i1,r1,l1,b1⟩:=Z.list h2;have hi:IntsAre items.toList (i::ns):=zQb (ns:=i::ns) r1;exact qQd hA Z ⟨_,i1,rfl,n,rfl⟩ hi g1 g2
 ·refine F2.k2 hs fun v w e x x'=>?_
  subst e;obtain⟨h1,rfl⟩:=Q8 h;clear h hs;revert h1;refine Q5 (fun a e=>Q5 (fun b e' h1=>?_) Qh) Qh;subst e e';obtain⟨t,rfl⟩:=x;obtain⟨u,rfl⟩:=x';cases h1;intro E Q q;refine max_two_ints hA.handled fun h' tk hk=>?_;have G:=Z.grown (kk:=.no) hk tk
  by_cases c:b>a
  ·rw[if_pos c]
   refine q _ O _ G.1 G.2 ⟨u,?_⟩;rw[decide_eq_true (show a<b from c)];rfl
  ·rw[if_neg c]
   refine q _ O _ G.1 G.2 ⟨t,?_⟩;rw[decide_eq_false (show¬a<b from c)];rfl
 ·refine F2.k2 hs fun v' w' e x x'=>?_
  subst e;obtain⟨h1,rfl⟩:=Q8 h;clear h hs;revert h1;refine zZi (fun k e h1=>?_) Qh;obtain⟨h4,h1⟩:=Qj h1;obtain rfl:=Z5 h4;revert h1;refine Qv (fun j e' h1=>?_) Qh;subst e e';obtain rfl:=x';obtain⟨hj,rfl⟩:=x;obtain⟨o,h2,h3⟩:=Qn h1;revert h3;refine Zx (fun l e h3=>?_) Qh;subst e;cases h3;obtain⟨items,n,i1,r1,l1,b1⟩:=Z.uF h2;exact Qt.tok Z fun E Q q=>PySem.IsiPair.tuple_str i1 rfl (q _ _ rfl)
 ·refine F2.k1 hs fun b e x=>?_
  subst e;revert h;refine Qv (fun j e h=>?_) Qo;subst e;obtain⟨hj,rfl⟩:=x;refine Jy h fun o h1 h2=>?_;obtain⟨h3,h4⟩:=Qk h2;clear h h2;revert h3;refine Ji (fun l e=>un0 (fun e' J=>?_) Qg) Qg;subst e e';exact G4 K hA Z h1 h4
theorem xXe(K:Q6 C P gT)(FK:Zc C gT P)(hA:AOk D A)(Z:Stt C env O S s){k:Nat}(hs:F2 (VR C O S.n) as vals)(h:qZ5 S k as=.ok V S'):Run C env .no A (call (.type (tyN k)) vals) O S s S' (Q4 C V):=by
 revert h;refine Zg (fun q=>un1 (fun v e h=>?_) Qo) (Zg (fun q=>un1 (fun v e h=>?_) Qo) (Zg (fun q=>un1 (fun v e h=>?_) Qo) (Zg (fun q=>un1 (fun v e h=>?_) Qo) Qo)))<;>subst q e<;>refine F2.k1 hs fun b e x=>?_<;>subst e<;>clear hs
 ·obtain⟨h1,rfl⟩:=Q8 h
  clear h;revert h1;refine Q0 (fun l e h1=>?_) (Qv (fun j e h1=>?_) Qh)<;>subst e
  ·obtain⟨t,rfl⟩:=x
   cases h1;exact(Hz K hA Z).c
  ·obtain⟨hj,rfl⟩:=x
   obtain⟨o,h2,h3⟩:=Qn h1;clear h1;revert h3;refine Un (fun l e h3=>?_) (Q3 (fun l e h3=>?_) Qh)<;>subst e
   ·cases h3
    exact(Me K hA Z h2).c
   ·obtain⟨_,g1⟩:=Qj h3
    obtain⟨b',g2,g3⟩:=Qn g1;cases g3;exact(Md K hA Z h2 g2).c
 ·revert h
  refine Q0 (fun l e h=>?_) Qo;subst e;obtain⟨t,rfl⟩:=x;exact Mf K hA Z h
 ·revert h
  refine Qv (fun j e h=>?_) Qo;subst e;obtain⟨hj,rfl⟩:=x;refine Jy h fun o h1 h2=>?_;clear h;revert h2;refine Q3 (fun l e h2=>?_) Qo;subst e;obtain⟨items,n,i1,r1,l1,b1⟩:=Z.list h1;have hg:=Zr h2;obtain⟨hn,rfl,rfl⟩:=Zz h2;refine Qt.c ?_;intro E Q q;refine call_list_seq _ (.inl rfl) i1 rfl rfl (fun h' c' hk hD=>?_) (by have:sizeLine=16777216:=rfl;omega);have G:=Z.grown (kk:=.no) hk s.toks;have A1:=Stt.uz (a:=s.heap.objs.size) G.1 G.2 (by
    cases e:s.heap.get? s.heap.objs.size with
    |none=>rfl
    |some o=>exact absurd (QH e) (QM _)) hD (fun w=>absurd (Z.lr.uh w) (QM _)) (fun j hj e=>by
    obtain⟨x,hx⟩:=QD hj;obtain⟨_,y,hy,_⟩:=Z.hr.live j x hx;rw[e]at hy;exact absurd (QH hy) (QM _)) (QG Z.lr.above (Nat.le_of_lt (Z.lr.uh (.inl rfl)))) hn (o:=.list _) ⟨hg,items,c',rfl,r1⟩
  exact q _ _ _ A1.1 A1.2 ⟨QK _,by rw[Ql]⟩
 ·revert h
  refine Q5 (fun i e h=>?_) (Zk (fun i e h=>?_) Qo)<;>subst e<;>obtain⟨t,rfl⟩:=x<;>cases h<;>exact(Qt.tok Z fun E Q q=>call_int_int (q _ s.toks ⟨t,rfl⟩)).c
end
section
variable{C:Cx}{P:Par}{gT:Nat->Option HV}{env:Env}{nm:Nms}{A:Around}{O:Nat->Addr}{S S' S1:St}{s:Shared}{D:Nat}{V VA:HV}{vA:Value}{as:List HV}{vals:List Value}
theorem F2.find_none{n:Nat}{es:List (Nat × HV)}{l:List DictEntry}(H:F2 (DR C O n) es l){i:Nat}:lk es i=none->l.find? (·.key.isStr (tx i))=none/\l.any (·.refKey)=false:=by
 induction H with
 |nil=>exact fun J=>⟨rfl,rfl⟩
 | @cons p e es l x y ih=>
  obtain⟨⟨t,hk⟩,_⟩:=x;intro h;rw[Hm]at h
  by_cases q:p.1=i
  ·rw[if_pos q]at h;cases h
  ·rw[if_neg q]at h
   rw[List.find?_cons,List.any_cons,(ih h).2,show e.refKey=false by unfold DictEntry.refKey;rw[hk],show e.key.isStr (tx i)=false by rw[hk];exact beq_false_of_ne fun e=>q (Zy e)];exact⟨(ih h).1,rfl⟩
theorem qXq(K:Q6 C P gT)(FK:Zc C gT P)(Z:Stt C env O S s){m g:Nat}{pl:Sem Bool}(hv:VR C O S.n VA vA)(h:clsV P S m VA=some g):Qt C env .no A (getMethod vA (tx m) pl) O S s S (fun J J r=>r=(.ref (C.fnA g),[vA])):=by
 revert h;refine Qv (fun j e h=>?_) Qh
 ·subst e
  obtain⟨hj,rfl⟩:=hv;obtain⟨o,h1,h2⟩:=Qn h;clear h;revert h2;refine Um (fun c d e h2=>?_) Qh
  ·subst e
   obtain⟨o',h3,h4⟩:=Qn h2;obtain⟨h5,h6⟩:=Qj h4;clear h2 h4;revert h5;refine qJf (fun es e h5=>?_) Qg
   ·subst e
    obtain⟨sl,ens,mm,g1,g2,r,I⟩:=Z.inst h1 h3;have ck:=FK.meth c m g h6;unfold qQb at ck;simp only[QB,beq_iff_eq]at ck;obtain⟨⟨⟨c1,c2⟩,c3⟩,c4⟩:=ck;have hn:lk es m=none:=by simpa using h5
    obtain⟨f1,f2⟩:=r.find_none hn;have hs:shadowIn (some ⟨.type "dict",none,.dict ens mm,#[]⟩) (tx m)=some false:=by
     unfold shadowIn lookIn;simp only;rw[f1,f2];rfl
    exact Qt.tok Z fun E Q q=>method_fn (K.kin.keeps Z.old) I c1 c2 c3 c4 hs (q _ s.toks rfl)
theorem qXn(K:Q6 C P gT)(FK:Zc C gT P)(hA:AOk D A)(Z:Stt C env O S s){c g:Nat}(hi:P.inits c=some g){S2:St}{d:Nat}{dv:HV}{S1:St}(h1:S.new (.ns [])=.ok dv S1)(hd:dv=.obj d)(h2:S1.new (.inst c d)=.ok V S2){E:Value->Shared->Prop}{Q:Value->Shared->Prop}
  (hq:∀O2 s2 x A',Ext C (Wd env .no) O S s O2 S2 s2->Stt C env O2 S2 s2->VR C O2 S2.n V x->(AOk D A->∀D',D'+2<=D->AOk D' A')->
   Q1 (model C.prog C.w) A' (.call (.ref (C.fnA g)) ⟨x::vals,[]⟩) (fun r s'=>match r with|.ok (.ret v)=>v=.none/\Q x s'|.ok _=>False|.error e=>E e s') s2):
  wpC (model C.prog C.w) A (call (.ref (C.clsA c)) vals) Q E s:=by
 have ck:=(FK.init c g hi).1;unfold Dx at ck;simp only[QB,beq_iff_eq]at ck;obtain⟨⟨⟨c1,c2⟩,c3⟩,c4⟩:=ck;obtain⟨hn1,rfl,rfl⟩:=Zz h1;cases hd;obtain⟨hn2,rfl,rfl⟩:=Zz h2;have X:=K.kin.keeps Z.old;have P1:=Z.push (W:=Wd env .no) (o:=.ns []) (ob:=emptyDict) rfl hn1 ⟨⟨Nat.zero_le _,.nil⟩,#[],0,rfl,.nil⟩ s.toks;have P2:=P1.2.push (W:=Wd env .no) (o:=.inst c S.n) (ob:=instObj (C.clsA c) s.heap.objs.size) rfl hn2 ⟨trivial,QK _,#[],by rw[Ql]⟩ s.toks;refine Z1 ?_;refine Ly (makes_of X c1) (looks_findIn X c2) (fun self=>bind_fn X self c3) (.inl rfl) ?_;have hsz:(s.heap.push emptyDict).objs.size=s.heap.objs.size+1:=Heap.size_push ..;have:=hq _ _ (.ref (s.heap.objs.size+1)) (A.under (.builtin "type.__call__" ⟨.ref (C.clsA c)::vals,[]⟩)) (P1.1.trans P1.2 P2.1) P2.2 ⟨QK _,by rw[Ql,hsz]⟩ (fun hA D' hD'=>⟨hA.handled,by have:=hA.depth;show A.depth+1+D'<900;omega,by have:=hA.units;show A.units+1+4*D'<9800;omega⟩);refine Yd this fun r s' z=>?_;rcases r with e|(v|_|_|_)<;>first|exact z|exact z.elim
theorem Tu(K:Q6 C P gT){c g:Nat}(hi:P.inits c=some g)(FK:Zc C gT P)(h:Heap)(X:∀b o,C.h0.get? b=some o->h.get? b=some o):
  ∃k,(k=Keeper.frame∨k=Keeper.machine∨k=Keeper.boundFrame)/\Looks (model C.prog C.w) h (keeperOf (.ref (C.clsA c))) k:=by
 have ck:=(FK.init c g hi).1;unfold Dx at ck;simp only[QB,beq_iff_eq]at ck;exact keeps_K ck.2 h (K.kin.keeps X)
end
section
variable{C:Cx}{P:Par}{gT:Nat->Option HV}{env:Env}{nm:Nms}{A:Around}{O:Nat->Addr}{S S' S1:St}{s:Shared}{D f:Nat}{ev:HE->St->R HV}{ts:HE->St->R Bool}{xs:List HS->St->R Fl}{V:HV}
theorem qJj{pos:Pos}:∀{xl:List Expr},xl.all Zd=true->(backTo pos (starEach xl env)).any (·.1)=false
 |[],_=>rfl
 |x::xl,h=>by
  simp only[List.all_cons,QB]at h;rw[Jv h.1];show(false||(backTo pos (starEach xl env)).any (·.1))=false;rw[qJj h.2];rfl
theorem W0{pos:Pos}{xl:List Expr}(hn:xl.all Zd=true):backTo pos (starEach xl env)=[]∨∃x r,backTo pos (starEach xl env)=(false,x)::r:=by
 cases xl with
 |nil=>exact .inl rfl
 |cons x xl=>
  simp only[List.all_cons,QB]at hn;rw[Jv hn.1];exact .inr ⟨_,_,rfl⟩
theorem J1{pos pos':Pos}{fv:Value}{first:List Value}{xl:List Expr}{as:List HV}{S2:St}{r:Yt Value}(hE:SE C gT ev D)(hA:AOk D A)(ho:Qm env nm)(Z:Stt C env O S s){l:List HE}
  (hn:xl.all Zd=true) (hx:Q9 (Qq gT f nm) l xl=true) (h:evs ev l S=.ok as S1)
  (hk:∀h:Heap,(∀b o,C.h0.get? b=some o->h.get? b=some o)->∃k,(k=Keeper.frame∨k=Keeper.machine∨k=Keeper.boundFrame)/\Looks (model C.prog C.w) h (keeperOf fv) k)
  (hc:∀O1 sA vals,Ext C (Wd env .no) O S s O1 S1 sA->Stt C env O1 S1 sA->F2 (VR C O1 S1.n) as vals->Run C env .no A (call fv (first++vals)) O1 S1 sA S2 r):
  Run C env .no A (callWith pos fv first (backTo pos' (starEach xl env)) []) O S s S2 r:=fun E Q q=>
 Vg (P:=fun h=>∀b o,C.h0.get? b=some o->h.get? b=some o) (qJj hn) hk (Vb (W0 hn) ((Kg hE ho hA pos' l xl O S s as S1 hx hn Z h).use fun vs O1 sA XC ZC hv=>⟨ZC.old,(hc O1 sA vs XC ZC hv).use fun a O' s' X' Z' h'=>q a O' s' (XC.trans ZC X') Z' h'⟩))
theorem X4{a:Addr}(h:∃o fd,C.h0.get? a=some o/\o.data=.func fd)(h':Heap)(X:∀b o,C.h0.get? b=some o->h'.get? b=some o):
  ∃k,(k=Keeper.frame∨k=Keeper.machine∨k=Keeper.boundFrame)/\Looks (model C.prog C.w) h' (keeperOf (.ref a)) k:=by
 obtain⟨o,fd,ho,hd⟩:=h;refine⟨.frame,.inl rfl,fun A Q E s k q=>?_⟩;unfold keeperOf;refine QN (wpAny_load (k _ _ (X _ _ ho)) ?_);rw[hd];exact QO q
theorem Hn{M:Model}{id:String}(h':Heap):∃k,(k=Keeper.frame∨k=Keeper.machine∨k=Keeper.boundFrame)/\Looks M h' (keeperOf (.builtin id)) k:=⟨.machine,.inr (.inl rfl),Looks.of_pure rfl⟩
theorem Dk{M:Model}{id:String}(h':Heap):∃k,(k=Keeper.frame∨k=Keeper.machine∨k=Keeper.boundFrame)/\Looks M h' (keeperOf (.type id)) k:=⟨.machine,.inr (.inl rfl),Looks.of_pure rfl⟩
theorem Y8{g:Nat}{as:List HV}(h:Zn P xs g as S=.ok V S'):(P.isOr g=true/\P.orac g as S=.ok V S')∨(P.isOr g=false/\∃fn,P.fns g=some fn/\qQ6 xs fn as S=.ok V S'):=by
 unfold Zn at h;cases hb:P.isOr g with
 |true=>rw[hb]at h;exact .inl ⟨rfl,h⟩
 |false=>
  rw[hb]at h;obtain⟨fn,S1,h1,h2⟩:=Qb (x:=ofO (P.fns g) S) h;obtain⟨h3,rfl⟩:=Q8 h1;exact .inr ⟨rfl,fn,h3,h2⟩
theorem B2{a:Addr}{fn:Fn}(F:Py C gT a fn):∃o fd,C.h0.get? a=some o/\o.data=.func fd:=F.it.elim fun o h=>h.elim fun fd h=>h.elim fun J h=>h.elim fun J h=>by cases h with|mk h1 h2=>exact⟨o,fd,h1,h2⟩
theorem Z4(K:Q6 C P gT)(FK:Zc C gT P){bo:Nat}(OK:Pq C P bo)(hX:SX C gT xs D)(hD:bo<=D)(hA:AOk (D+1) A)(Z:Stt C env O S s){g:Nat}{as:List HV}{vals:List Value}(hv:F2 (VR C O S.n) as vals)(h:Zn P xs g as S=.ok V S'):
  Run C env .no A (call (.ref (C.fnA g)) vals) O S s S' (Q4 C V):=by
 rcases Y8 h with⟨h1,h2⟩|⟨_,fn,h1,h2⟩
 ·exact OK.it g as S V S' h1 h2 env A O s vals (hA.less (by omega)) Z hv
 ·exact zZt K hX hA Z (FK.fn g fn h1) hv h2
theorem qJ3(K:Q6 C P gT)(FK:Zc C gT P){bo:Nat}(OK:Pq C P bo)(hX:SX C gT xs D)(hD:bo<=D)(hA:AOk (D+3) A)(Z:Stt C env O S s){c:Nat}{as:List HV}{vals:List Value}(hv:F2 (VR C O S.n) as vals)(h:xZn P xs c as S=.ok V S'):
  Run C env .no A (call (.ref (C.clsA c)) vals) O S s S' (Q4 C V):=by
 obtain⟨dv,S1,h1,h2⟩:=Qb h;obtain⟨_,hd,aB⟩:=Zz h1;rw[hd]at h2;obtain⟨ov,S2,h3,h4⟩:=Qb (x:=S1.new (.inst c S.n)) h2;obtain⟨g,SC,h5,h6⟩:=Qb (x:=ofO (P.inits c) S2) h4;obtain⟨h7,rfl⟩:=Q8 h5;obtain⟨w,SD,h8,h9⟩:=Qb h6;obtain⟨h10,h11⟩:=Qk h9;cases h11;intro E Q q;refine qXn K FK hA Z h7 h1 hd h3 fun O2 s2 x A' XD ZD hx hA'=>?_;have hv':F2 (VR C O2 SC.n) as vals:=hv.imp fun J J h=>h.mono XD.agree XD.n;rcases Y8 h8 with⟨g1,_⟩|⟨_,fn,g1,g2⟩
 ·rw[(FK.init c g h7).2]at g1;cases g1
 refine Nf K hX (hA' hA (D+1) (by omega)) ZD (FK.fn g fn g1) (.cons hx hv') g2 _ _ fun r O' s' X' Z' hr=>⟨?_,q x O' s' (XD.trans ZD X') Z' (hx.mono X'.agree X'.n)⟩;cases w<;>first|exact hr|cases h10
theorem Nh(K:Q6 C P gT)(FK:Zc C gT P){bo:Nat}(OK:Pq C P bo)(hX:SX C gT xs D)(hD:bo<=D)(hA:AOk (D+3) A)(Z:Stt C env O S s){as:List HV}{vals:List Value}{fV:HV}{fv:Value}(hf:VR C O S.n fV fv)(hv:F2 (VR C O S.n) as vals)(h:zQy P xs as S fV=.ok V S'):
  Run C env .no A (call fv vals) O S s S' (Q4 C V):=by
 cases fV with
 |fn g=>obtain rfl:=hf;exact Z4 K FK OK hX hD (hA.less (by omega)) Z hv h
 |cls c=>obtain rfl:=hf;exact qJ3 K FK OK hX hD hA Z hv h
 |bi k=>obtain rfl:=hf;exact Qt.c<|xXg K FK hA Z hv h
 |typ k=>obtain rfl:=hf;exact xXe K FK hA Z hv h
 |_=>cases h
theorem Mc(K:Q6 C P gT)(FK:Zc C gT P)(OO:Wh C P){as:List HV}{fV:HV}{fv:Value}{n:Nat}(hf:VR C O n fV fv)(h:zQy P xs as S fV=.ok V S')(h':Heap)(X:∀b o,C.h0.get? b=some o->h'.get? b=some o):
  ∃k,(k=Keeper.frame∨k=Keeper.machine∨k=Keeper.boundFrame)/\Looks (model C.prog C.w) h' (keeperOf fv) k:=by
 cases fV with
 |fn g=>
  obtain rfl:=hf;rcases Y8 h with⟨h1,h2⟩|⟨_,fn,h1,h2⟩
  ·exact X4 (OO.obj g h1) h' X
  ·exact X4 (B2 (FK.fn g fn h1)) h' X
 |cls c=>
  obtain rfl:=hf;obtain⟨dv,S1,h1,h2⟩:=Qb (x:=S.new (.ns [])) h;obtain⟨_,hd,aB⟩:=Zz h1;rw[hd]at h2;obtain⟨ov,S2,h3,h4⟩:=Qb (x:=S1.new (.inst c S.n)) h2;obtain⟨g,SC,h5,h6⟩:=Qb (x:=ofO (P.inits c) S2) h4;obtain⟨h7,rfl⟩:=Q8 h5;exact Tu K h7 FK h' X
 |bi k=>obtain rfl:=hf;exact Hn h'
 |typ k=>obtain rfl:=hf;exact Dk h'
 |_=>cases h
theorem Tm(K:Q6 C P gT)(FK:Zc C gT P){bo:Nat}(OK:Pq C P bo)(OO:Wh C P)(hE:SE C gT ev D)(hX:SX C gT xs D)(hD:bo<=D)(hA:AOk (D+3) A)(ho:Qm env nm)(Z:Stt C env O S s){g:HE}{l:List HE}{x:Str}{p pos:Pos}{xl:List Expr}
  (hn:xl.all Zd=true) (hg:Qq gT f nm g (.Name x p)=true) (hx:Q9 (Qq gT f nm) l xl=true) (h:xZd P ev xs g l S=.ok V S'):Run C env .no A (eval (.Call (.Name x p) xl [] pos) env) O S s S' (Q4 C V):=by
 obtain⟨fV,S1,h1,h2⟩:=Qb h;obtain⟨as,S2,h3,h4⟩:=Qb h2;rw[arm_eval_Call_Name'];refine Run.bind (hE _ _ _ _ _ _ _ _ _ _ _ hg ho (hA.less (by omega)) Z h1) fun fv O1 sA XC ZC hf=>?_;show Run C env .no A (callWith pos fv [] (backTo pos (starEach xl env)) []) _ _ _ _ _;exact J1 hE (hA.less (by omega)) ho ZC hn hx h3 (Mc K FK OO hf h4) fun O2 s2 vals XD ZD hv=>Nh K FK OK hX hD hA ZD (hf.mono XD.agree XD.n) hv h4
theorem Wz{pos:Pos}:∀{xl:List Expr},xl.all Zd=true->(backTo pos (starEach xl env)).all (fun x=> !x.1)=true
 |[],_=>rfl
 |x::xl,h=>by
  simp only[List.all_cons,QB]at h;rw[Jv h.1];show(true&&(backTo pos (starEach xl env)).all (fun x=> !x.1))=true;rw[Wz h.2];rfl
theorem few{pos:Pos}{xl:List Expr}(hn:xl.all Zd=true)(hl:xl.length<=20):methodCallForm (xl.length+0) (backTo pos (starEach xl env)) []=true:=by
 unfold methodCallForm;rw[Wz hn];simp;omega
theorem bm_id{m:Nat}{as:List HV}{VA:HV}(h:Ph P S m as VA=.ok V S'):∃id,xJq (kdV S VA) m=some id:=by
 revert h;refine Qv (fun j e h=>Jy h fun o h1=>?_) (Q0 (fun l e=>Zg (fun q J=>?_) Qo) (Zm (fun k e=>Zg (fun q J=>?_) Qo) Qo))<;>subst e
 ·have hk:kdV S (.obj j)=kdO (some o):=congrArg kdO h1
  rw[hk];refine Q3 (fun l e=>?_) (Ji (fun l e=>?_) Qo)<;>subst e
  ·refine Zg (fun q J=>?_) (Zg (fun q J=>?_) (Zg (fun q J=>?_) (Zg (fun q J=>?_) (Zg (fun q J=>?_) Qo))))<;>subst q<;>exact⟨_,rfl⟩
  ·refine Zg (fun q J=>?_) (Zg (fun q J=>?_) Qo)<;>subst q<;>exact⟨_,rfl⟩
 ·subst q;exact⟨_,rfl⟩
 ·subst q;exact⟨_,rfl⟩
theorem Tg(K:Q6 C P gT)(FK:Zc C gT P){bo:Nat}(OK:Pq C P bo)(OO:Wh C P)(hE:SE C gT ev D)(hX:SX C gT xs D)(hD:bo<=D)(hA:AOk (D+3) A)(ho:Qm env nm)(Z:Stt C env O S s){o:HE}{m:Nat}{l:List HE}{a:Expr}{x:Str}{ap pos:Pos}{xl:List Expr}
  (hb:Y0 a=true) (hm:tx m=x) (hp:Nat.beq ap.endLine pos.line=true) (hl:Nat.ble xl.length 20=true) (hn:xl.all Zd=true) (hg:Qq gT f nm o a=true) (hx:Q9 (Qq gT f nm) l xl=true) (h:xZb P ev xs o m l S=.ok V S'):
  Run C env .no A (eval (.Call (.Attribute a x ap) xl [] pos) env) O S s S' (Q4 C V):=by
 obtain⟨VA,S1,h1,h2⟩:=Qb h;subst hm;rw[arm_eval_Call,Lb hb];refine Run.bind (hE _ _ _ _ _ _ _ _ _ _ _ hg ho (hA.less (by omega)) Z h1) fun vA O1 sA XC ZC hv=>Run.standAt ?_;show Run C env .no A (methodCall a (tx m) ap pos env vA (xl.length+0) (backTo pos (starEach xl env)) []) _ _ _ _ _;unfold methodCall;rw[few hn (QE hl)];have xQ0:(ap.endLine==pos.line)=true:=by rw[Z5 hp];simp
 have posn:methodCallPos true a env ap pos=pure pos:=by unfold methodCallPos;rw[xQ0];rfl
 have after:∀(fv:Value) (first:List Value),Run C env .no A (callWith pos fv first (backTo pos (starEach xl env)) []) O1 S1 sA S' (Q4 C V)->
   Run C env .no A (methodCallPos true a env ap pos>>=fun cp=>callWith cp fv first (backTo pos (starEach xl env)) []) O1 S1 sA S' (Q4 C V):=fun fv first R=>by rw[posn];exact R
 cases hc:clsV P S1 m VA with
 |some g=>
  rw[hc]at h2;obtain⟨as,S2,h3,h4⟩:=Qb (x:=evs ev l S1) h2;refine Run.bind (Run.holding (Qt.c<|qXq K FK ZC hv hc)) fun r O2 s2 XD ZD hr=>?_;subst hr;have hk:∀h:Heap,(∀b o,C.h0.get? b=some o->h.get? b=some o)->∃k,(k=Keeper.frame∨k=Keeper.machine∨k=Keeper.boundFrame)/\Looks (model C.prog C.w) h (keeperOf (.ref (C.fnA g))) k:=by
   rcases Y8 h4 with⟨h5,_⟩|⟨_,fn,h5,_⟩
   ·exact X4 (OO.obj g h5)
   ·exact X4 (B2 (FK.fn g fn h5))
  dsimp only;rw[posn];show Run C env .no A (callWith pos _ _ _ _) _ _ _ _ _;exact J1 hE (hA.less (by omega)) ho ZD hn hx h3 hk fun O3 s3 vals XE ZE hvs=>Z4 K FK OK hX hD (hA.less (by omega)) ZE (.cons ((hv.mono XD.agree XD.n).mono XE.agree XE.n) hvs) h4
 |none=>
  rw[hc]at h2;obtain⟨as,S2,h3,h4⟩:=Qb (x:=evs ev l S1) h2;obtain⟨hk1,h5⟩:=Qk h4;obtain⟨id,hid⟩:=bm_id h5;have hid':xJq (kdV S1 VA) m=some id:=by rw[Z5 hk1];exact hid
  refine Run.bind (Run.holding (Qt.c<|Tv ZC hv hid')) fun r O2 s2 XD ZD hr=>?_;subst hr;dsimp only;rw[posn];show Run C env .no A (callWith pos _ _ _ _) _ _ _ _ _;exact J1 hE (hA.less (by omega)) ho ZD hn hx h3 (fun h J=>Hn h) fun O3 s3 vals XE ZE hvs=>Qt.c<|xXf K FK hA ZE ((hv.mono XD.agree XD.n).mono XE.agree XE.n) hvs hid h5
end
section
set_option genInjectivity false
set_option genSizeOf false
set_option genCtorIdx false
def TV(C:Cx)(O:Nat->Addr)(n:Nat)(xs:List HV)(v:Value)(h:Heap):Prop:=match xs with
 |[x]=>VR C O n x v
 |[x,y]=>∃a vx vy,v=.ref a/\IsTup h a #[vx,vy]/\VR C O n x vx/\VR C O n y vy
 |_=>False
def Hid(hid:List Addr)(env:Env)(O:Nat->Addr)(S:St)(h:Heap):Prop:=∀a∈hid,(∃o,h.get? a=some o)/\¬Wr env a/\∀j,(S.get j).isSome->O j≠a
structure Px(hid:List Addr)(s s':Shared):Prop where
 keep:∀a o,a∉hid->s.heap.get? a=some o->s'.heap.get? a=some o
 gens:s'.gens=s.gens
 os:s'.os=s.os
theorem Px.trans{hid:List Addr}{s s' s'':Shared}(x:Px hid s s')(y:Px hid s' s''):Px hid s s'':=⟨fun a o n e=>y.keep a o n (x.keep a o n e),y.gens.trans x.gens,y.os.trans x.os⟩
def qZj(k:Nat)(tgt:Expr):Prop:=k=2∨k=3->∃l c p,tgt=.Tuple l c p
structure Itr(C:Cx)(k:Nat)(vs:List HV)(n0:Nat)(it:Value)where
 hid:List Addr
 B:Nat->(Nat->Addr)->Nat->Heap->Prop
 bst:∀{i O n h O' n' h'},B i O n h->(∀a∈hid,h'.get? a=h.get? a)->(∀j,j<n->O' j=O j)->n<=n'->B i O' n' h'
 self:∀{i O S s A env} {E:Value->Shared->Prop} {Q:Value->Shared->Prop},Hid hid env O S s.heap->B i O S.n s.heap->Stt C env O S s->Q it s->wpAny (model C.prog C.w) A (pyIter it) Q E s
 stop:∀{i O S s D A env} {E:Value->Shared->Prop} {Q:Option Value->Shared->Prop},Hid hid env O S s.heap->B i O S.n s.heap->Stt C env O S s->AOk D A->Yg S k vs n0 i=some none->
  (∀s',Px hid s s'->Q none s')->wpAny (model C.prog C.w) A (pyNext it) Q E s
 item:∀{i O S s D A env xs} {E:Value->Shared->Prop} {Q:Option Value->Shared->Prop},Hid hid env O S s.heap->B i O S.n s.heap->Stt C env O S s->AOk D A->Yg S k vs n0 i=some (some xs)->
  (∀v s',Px hid s s'->
   (∀(tgt:Expr) (E':Value->Shared->Prop) (Q':Unit->Shared->Prop),qZj k tgt->(∀s'',Px hid s' s''->TV C O S.n xs v s''.heap->(∀a∈hid,∃o,s''.heap.get? a=some o)->B (i+1) O S.n s''.heap->Q' () s'')->wpAny (model C.prog C.w) A (letOwnedTupleGo tgt it v) Q' E' s')->
   Q (some v) s')->wpAny (model C.prog C.w) A (pyNext it) Q E s
section
variable{C:Cx}{P:Par}{gT:Nat->Option HV}{env:Env}{nm:Nms}{A:Around}{O O':Nat->Addr}{S S' S1:St}{s s':Shared}{D f:Nat}{ev:HE->St->R HV}{ts:HE->St->R Bool}{xs:List HS->St->R Fl}{V:HV}{kk:Wk}
theorem Hid.same{hid:List Addr}(H:Hid hid env O S s.heap)(X:Ext C (Wd env kk) O S s O' S' s'):∀a∈hid,s'.heap.get? a=s.heap.get? a:=fun a ha=>by
 obtain⟨⟨o,ho⟩,hw,hl⟩:=H a ha;rw[ho];exact X.keep a o ho (fun w=>hw (Uf w)) fun j J J h=>hl j h
theorem Hid.ext{hid:List Addr}(H:Hid hid env O S s.heap)(X:Ext C (Wd env kk) O S s O' S' s'):Hid hid env O' S' s'.heap:=fun a ha=>by
 obtain⟨⟨o,ho⟩,hw,hl⟩:=H a ha;refine⟨⟨o,by rw[H.same X a ha];exact ho⟩,hw,fun j hj e=>?_⟩
 by_cases q:j<S.n
 ·rw[X.agree j q]at e;exact hl j ((X.dom j q).mp hj) e
 ·have:=X.new j (Nat.not_lt.mp q) hj
  rw[e,ho]at this;cases this
theorem Ext.hidden{W:Addr->Prop}{hid:List Addr}{OA:Nat->Addr}{S0:St}{s0:Shared}(X:Ext C W OA S0 s0 O S s)(hf:∀a∈hid,s0.heap.get? a=none)(k:Px hid s s'):Ext C W OA S0 s0 O S s':=
 ⟨X.agree,X.n,X.kd,X.new,fun a o e w l=>k.keep a o (fun h=>by rw[hf a h]at e;cases e) (X.keep a o e w l),k.gens.trans X.gens,k.os.trans X.os⟩
theorem Stt.hidden{hid:List Addr}(Z:Stt C env O S s)(H:Hid hid env O S s.heap)(k:Px hid s s')(h0:∀a∈hid,C.h0.get? a=none):Stt C env O S s':=by
 have live:∀j,(S.get j).isSome->O j∉hid:=fun j hj hm=>(H _ hm).2.2 j hj rfl;refine⟨⟨fun j o hj=>?_,Z.hr.inj,Z.hr.above,Z.hr.small,Z.hr.frz,Z.hr.fro,Z.hr.uo (fun J J=>rfl) fun j o J hs ob e=>k.keep _ _ (live j hs) e⟩,?_,fun b o e=>?_⟩
 ·obtain⟨h1,y,hy,hr⟩:=Z.hr.live j o hj
  exact⟨h1,y,k.keep _ _ (live j (by rw[hj];rfl)) hy,hr⟩
 ·exact Z.lr.grow (fun J J=>rfl) (QL _) rfl (fun b w o e=>k.keep b o (fun hm=>(H b hm).2.1 w) e) fun j hj=>Z.lr.ul hj
 ·exact k.keep b o (fun hm=>by rw[h0 b hm]at e;cases e) (Z.old b o e)
theorem Hid.kept{hid:List Addr}(H:Hid hid env O S s.heap)(h:∀a∈hid,∃o,s'.heap.get? a=some o):Hid hid env O S s'.heap:=fun a ha=>⟨h a ha,(H a ha).2⟩
theorem Xc{hid:List Addr}(Z:Stt C env O S s)(hf:∀a∈hid,s.heap.get? a=none):∀a∈hid,C.h0.get? a=none:=fun a ha=>by
 cases e:C.h0.get? a with
 |none=>rfl
 |some o=>rw[<-hf a ha,Z.old a o e]
theorem Uo{x y:Option HV}{ys:List HV}(h:xZ7 x y=some ys):∃a b,x=some a/\y=some b/\ys=[a,b]:=by
 cases x with
 |none=>cases h
 |some a=>cases y with
  |none=>cases h
  |some b=>cases h;exact⟨a,b,rfl,rfl,rfl⟩
theorem Hc{k n0 i:Nat}{vs xs:List HV}{tgt:List Nat}{one:Bool}{e:Expr}(ht:Yg S k vs n0 i=some (some xs))(hb:Wc S tgt one xs=some S')(hk:kTg nm one tgt e=true):qZj k e:=by
 intro hk23;have h2:∃a b,xs=[a,b]:=by
  revert ht;refine Zg (fun e=>?_) (Zg (fun e=>?_) (Zg (fun J=>un2 (fun a b J h=>?_) Qh) (Zg (fun J=>un1 (fun a J h=>?_) Qh) Qh)))
  ·subst e;exact absurd hk23 (by decide)
  ·subst e;exact absurd hk23 (by decide)
  ·obtain⟨x,_,h1⟩:=Qn h
   obtain⟨y,_,h2⟩:=Qn h1;obtain⟨a,b,_,_,e⟩:=Uo (Option.some.inj h2);exact⟨a,b,e⟩
  ·obtain⟨x,_,h1⟩:=Qn h
   obtain⟨a,b,_,_,e⟩:=Uo (Option.some.inj h1);exact⟨a,b,e⟩
 obtain⟨a,b,rfl⟩:=h2;cases e with
 |Tuple l c p=>exact⟨l,c,p,rfl⟩
 |Name s p=>
  obtain⟨rfl,hk⟩:=QA hk;have hb:Vy S tgt [a,b]=some S':=hb;refine un1 (fun i e J=>?_) Qg hk;subst e;exact Qh hb
 |_=>exact Qg hk
theorem TV.ext{xs:List HV}{v:Value}(h:TV C O S.n xs v s.heap)(X:Ext C (Wd env kk) O S s O' S' s')(hk:∀b o,s.heap.get? b=some o->s'.heap.get? b=some o):TV C O' S'.n xs v s'.heap:=by
 cases xs with
 |nil=>exact h.elim
 |cons x r=>cases r with
  |nil=>exact VR.mono X.agree X.n h
  |cons y r=>cases r with
   |nil=>
    obtain⟨a,vx,vy,e,⟨o,ho,r⟩,h1,h2⟩:=h;exact⟨a,vx,vy,e,⟨o,hk _ _ ho,r⟩,VR.mono X.agree X.n h1,VR.mono X.agree X.n h2⟩
   |cons _ _=>exact h.elim
theorem Di{o:Option NameKind}(h:Hq o=true):o=some .local:=by
 cases o with
 |none=>cases h
 |some k=>cases k<;>first|rfl|cases h
def KOk(k:Wk)(nm:Nms)(l:List Expr):Prop:=k=.all∨(k=.loc/\l.all (locN nm)=true)
set_option tactic.hygienic true in
theorem Lm(ho:Qm env nm):∀(ts:List Nat) (l:List Expr) (vs:List HV) (vals:List Value) (O:Nat->Addr) (S:St) (s:Shared) (S':St),Q9 (tgN nm) ts l=true->KOk kk nm l->F2 (VR C O S.n) vs vals->Vy S ts vs=some S'->Stt C env O S s->
  Qt C env kk A (assignInOrder ((assignEach l env).map (·.2)) vals) O S s S' (fun J J J=>True):=by
 intro ts;induction ts with
 |nil=>
  intro l vs vals O S s S' hc hko hv h Z;cases l with
  |cons _ _=>exact Qg hc
  |nil=>
   cases vs with
   |cons _ _=>exact Qh h
   |nil=>
    cases hv;cases h;exact Qt.pure Z trivial
 |cons i ts ih=>
  intro l vs vals O S s S' hc hko hv h Z;cases l with
  |nil=>exact Qg hc
  |cons x l=>
   cases vs with
   |nil=>exact Qh h
   |cons V vs=>
    cases hv with
    |cons hv hvs=>
     rename_i v vals
     replace hc:=QA hc;cases x with
     |Name y p=>
      have hx:K7 nm i y=true:=hc.1;show Qt C env kk A (assignInOrder (assign (.Name y p) env::(assignEach l env).map (·.2)) (v::vals)) _ _ _ _ _;refine Qt.bind (Qt.holding (Qt.standAt (f:=fun J=>bindName env y v) (S':=S.sto i V) (r:=fun J J J=>True) ?_)) fun J O1 sA XC ZC J=>ih l vs vals O1 (S.sto i V) sA S' hc.2 (hko.imp id fun e=>⟨e.1,(QA e.2).2⟩) (hvs.imp fun J J h=>h.mono XC.agree XC.n) h ZC;have:=Yx (k:=kk) (A:=A) Z ho hx hv (hko.imp id fun e=>⟨e.1,Di (QA e.2).1⟩);intro E Q q;exact wpAny_bindName (this.use fun a O' s' X' Z' h'=>q a O' s' X' Z' h')
     |_=>exact Qg hc.1
theorem B4:∀(l:List Expr) (ts:List Nat),Q9 (tgN nm) ts l=true->(assignEach l env).length=ts.length/\(assignEach l env).findIdx? (·.1)=none
 |[],[],_=>⟨rfl,rfl⟩
 |x::l,i::ts,h=>by
  replace h:=QA h;obtain⟨h1,h2⟩:=B4 l ts h.2;cases x with
  |Name y p=>
   show((false,assign (.Name y p) env)::assignEach l env).length=_/\_;refine⟨by simp[h1],?_⟩;show((false,assign (.Name y p) env)::assignEach l env).findIdx? (·.1)=none;rw[List.findIdx?_cons];simp[h2]
  |_=>exact Qg h.1
 |[],_::_,h=>by exact Qg h
 |_::_,[],h=>by exact Qg h
theorem V8{h h':Heap}(x:Heap.ExtBut h.objs.size h h'):∀b o,h.get? b=some o->h'.get? b=some o:=fun b o e=>x b o (Nat.ne_of_lt (QH e)) e
theorem Yv:∀(ts:List Nat) (vs:List HV) (S S':St),Vy S ts vs=some S'->ts.length=vs.length
 |[],[],_,_,_=>rfl
 |_::ts,V::vs,S,S',h=>by exact congrArg (· +1) (Yv ts vs _ S' h)
 |[],_::_,_,_,h=>by exact Qh h
 |_::_,[],_,_,h=>by exact Qh h
theorem Yb(ho:Qm env nm)(hA:AOk D A)(Z:Stt C env O S s){ts:List Nat}{l:List Expr}{vs:List HV}{a:Addr}{items:Array Value}{k:Nat}{pos:Pos}(hc:Q9 (tgN nm) ts l=true)(hko:KOk kk nm l)(hv:F2 (VR C O S.n) vs items.toList)(ht:IsTup s.heap a items)(h:Vy S ts vs=some S'):
  Qt C env kk A (assign (.Tuple l k pos) env (.ref a)) O S s S' (fun J J J=>True):=by
 have hl:=Yv ts vs S S' h;obtain⟨h1,h2⟩:=B4 (env:=env) l ts hc;intro E Q q;refine assign_Tuple_tuple hA.handled ht (by rw[h1,hl,hv.length];simp) h2 fun h' he=>?_;have G:=Z.grown (kk:=kk) (V8 he) s.toks;exact(Lm ho ts l vs items.toList O S {s with heap:=h'} S' hc hko hv h G.2).use fun a O' s' X Z' J=>q a O' s' (G.1.trans G.2 X) Z' trivial
theorem qZg{v:HV}{vs:List HV}(h:unp S v=some vs):∃j,v=.obj j/\S.get j=some (.tup vs):=by
 refine Qv (fun j e h=>?_) Qh h;obtain⟨o,h1,h2⟩:=Qn h;refine Zx (fun l e' h2=>?_) Qh h2;rw[e',Option.some.inj h2]at h1;exact⟨j,e,h1⟩
theorem Stt.tup(Z:Stt C env O S s){j:Nat}{vs:List HV}(h:S.get j=some (.tup vs)):∃items,IsTup s.heap (O j) items/\F2 (VR C O S.n) vs items.toList:=by
 obtain⟨_,zq⟩:=Z.hr.live j _ h;obtain⟨ob,ho,zq⟩:=zq;obtain⟨_,zq⟩:=zq;obtain⟨xs,m,rfl,hr⟩:=zq;exact⟨xs,⟨_,ho,rfl,m,rfl⟩,hr⟩
theorem G8(ho:Qm env nm)(hA:AOk D A)(Z:Stt C env O S s){tgt:List Nat}{one:Bool}{e:Expr}{xs:List HV}{v:Value}(hc:kTg nm one tgt e=true)(hko:kk=.all∨(kk=.loc/\Jo nm e=true))(hv:TV C O S.n xs v s.heap)(h:Wc S tgt one xs=some S'):
  Qt C env kk A (assign e env v) O S s S' (fun J J J=>True):=by
 cases e with
 |Name y p=>
  obtain⟨rfl,hc⟩:=QA hc;have h:Vy S tgt xs=some S':=h;revert hc;refine un1 (fun i e hc=>?_) Qg;subst e
  ··have hl:=Yv _ _ _ _ h
    cases xs with
    |nil=>simp at hl
    |cons x r=>cases r with
     |cons _ _=>simp at hl
     |nil=>
      obtain rfl:=Option.some.inj h;rw[arm_assign_Name];have:=Yx (k:=kk) (A:=A) Z ho hc hv (hko.imp id fun e=>⟨e.1,Di e.2⟩);exact Qt.standAt (f:=fun J=>bindName env y v) fun E Q q=>wpAny_bindName (this.use fun a O' s' X' Z' h'=>q a O' s' X' Z' h')
 |Tuple l k p=>
  obtain⟨h1,hc⟩:=QA hc;cases one with
  |true=>exact Qg h1
  |false=>
  have h:xZt S tgt xs=some S':=h;cases xs with
  |nil=>exact hv.elim
  |cons x r=>cases r with
   |nil=>
    have h:ob (unp S x) (Vy S tgt)=some S':=h;obtain⟨vs,h1,h2⟩:=Qn h;obtain⟨j,rfl,h3⟩:=qZg h1;obtain⟨items,ht,hr⟩:=Z.tup h3;obtain⟨_,rfl⟩:=hv;exact Yb ho hA Z hc hko hr ht h2
   |cons y r=>cases r with
    |cons _ _=>exact hv.elim
    |nil=>
     obtain⟨a,vx,vy,rfl,ht,h1,h2⟩:=hv;have h:Vy S tgt [x,y]=some S':=h;exact Yb ho hA Z hc hko (.cons h1 (.cons h2 .nil)) ht h
 |_=>exact Qg hc
theorem X8{α:Type}{go:St->R Fl}{fl fl':Fl}(h:zQg go fl S=.ok fl' S'):(fl=.next/\go S=.ok fl' S')∨∃V,fl=.ret V/\fl'=.ret V/\S'=S:=by
 cases fl with
 |next=>exact .inl ⟨rfl,h⟩
 |ret V=>cases h;exact .inr ⟨V,rfl,rfl,rfl⟩
theorem Nd(hA:AOk D A)(ho:Qm env nm){k n0:Nat}{vs:List HV}{it:Value}(T:Itr C k vs n0 it){tgt:List Nat}{one:Bool}{e:Expr}{b:List HS}{body:List Stmt}(ht:kTg nm one tgt e=true)(hXb:∀O S s fl S',Stt C env O S s->xs b S=.ok fl S'->Run C env .all A (execs body env) O S s S' (Jd C fl)){fl:Fl}
  {OB:Nat->Addr} {SB:St} {sB:Shared} (hf:∀a∈T.hid,sB.heap.get? a=none) (h0:∀a∈T.hid,C.h0.get? a=none)
  {R':Result->Shared->Prop} (hR:∀fv O' s',Ext C (Wd env .all) OB SB sB O' S' s'->Stt C env O' S' s'->Jd C fl O' S'.n fv->R' (.ok fv) s') (fu i:Nat) (h:xJn xs tgt one b k vs n0 fu i S=.ok fl S')
  (hH:Hid T.hid env O S s.heap) (hB:T.B i O S.n s.heap) (Z:Stt C env O S s) (hXB:Ext C (Wd env .all) OB SB sB O S s):Q1 (model C.prog C.w) A (.forLoop e it body [] env) R' s:=by
 refine U8 (fun n sA=>∃i O1 S1,xJn xs tgt one b k vs n0 n i S1=.ok fl S'/\Hid T.hid env O1 S1 sA.heap/\T.B i O1 S1.n sA.heap/\Stt C env O1 S1 sA/\Ext C (Wd env .all) OB SB sB O1 S1 sA) ?_ fu
  ⟨i,O,S,h,hH,hB,Z,hXB⟩
 rintro n sA ⟨i,O1,S1,h,hH,hB,ZC,XC⟩;cases n with
 |zero=>cases h
 |succ n=>
  obtain⟨t,S2,h1,h2⟩:=Qb (x:=ofO (Yg S1 k vs n0 i) S1) h;obtain⟨h3,rfl⟩:=Q8 h1;cases t with
  |none=>
   cases h2;refine Qe<|T.stop hH hB ZC hA h3 fun s2 kB=>?_
   exact(hR _ O1 s2 (XC.hidden hf kB) (ZC.hidden hH kB h0) rfl)
  |some ys=>
   have h2:forB xs tgt one b (xJn xs tgt one b k vs n0 n (i+1)) ys S2=.ok fl S':=h2;obtain⟨_,SC,h4,h5⟩:=Qb (x:=ofS (Wc S2 tgt one ys)) h2;have h4:=X0 h4;obtain⟨fA,SD,h6,h7⟩:=Qb (x:=xs b SC) h5;refine Qe<|T.item hH hB ZC hA h3 fun v s2 kB hown=>?_
   refine Qe<|hown e _ _ (Hc h3 h4 ht) fun s3 kC hv3 hex hB3=>?_
   have k:=kB.trans kC;have ZE:=ZC.hidden hH k h0;have hH3:=hH.kept hex;refine(G8 (kk:=.all) ho hA ZE ht (.inl rfl) hv3 h4).c.use fun J O4 s4 XF ZF J=>?_;refine(hXb _ _ _ _ _ ZF h6).use fun fv O5 s5 XH ZG hf'=>?_;have X45:=XF.trans ZF XH;have X15:=(XC.hidden hf k).trans ZE X45;rcases X8 (α:=Unit) h7 with⟨rfl,h8⟩|⟨V,rfl,rfl,rfl⟩
   ·obtain rfl:=hf'
    refine⟨n,QK _,i+1,O5,SD,h8,hH3.ext X45,T.bst hB3 (hH3.same X45) X45.agree X45.n,ZG,X15⟩
   ·obtain⟨v',rfl,hv'⟩:=hf'
    exact hR _ O5 s5 X15 ZG ⟨v',rfl,hv'⟩
end
end
theorem qJg:(Mk.all fun s=>s != ".0")=true:=by decide+kernel
theorem zZj(i:Nat):tx i≠(".0":Str):=by
 unfold tx;cases h:Mk[i]? with
 |none=>intro e;exact Yn ".0" i e.symm
 |some s=>
  intro e;have e:=Kv e;have:=QI qJg s (List.mem_of_getElem? h);rw[e]at this;simp at this
theorem V6(t:List Nat):∀(es:List (Nat × HV)) (i:Nat) (V:HV),lk (without es t) i=some V->lk es i=some V/\i∉t
 |[],_,_,h=>by cases h
 |p::r,i,V,h=>by
  unfold without at h;rw[List.filter_cons]at h;have ih:=V6 t r i V;unfold without at ih;show(Bool.rec (lk r i) (some p.2) (Nat.beq p.1 i):Option HV)=some V/\_;split at h
  ·rename_i hp
   have h:(Bool.rec (lk (r.filter fun p=> !t.any (Nat.beq p.1)) i) (some p.2) (Nat.beq p.1 i):Option HV)=some V:=h;cases hb:Nat.beq p.1 i with
   |true=>
    rw[hb]at h;have e:=QC hb;refine⟨h,fun hm=>?_⟩;simp only[Bool.not_eq_true']at hp;have:=List.any_eq_false.mp hp i hm;rw[e]at this;simp at this
   |false=>rw[hb]at h;exact ih h
  ·rename_i hp
   have:=ih h;refine⟨?_,this.2⟩;cases hb:Nat.beq p.1 i with
   |false=>exact this.1
   |true=>
    exfalso;have e:=QC hb;simp only[Bool.not_eq_true',Bool.not_eq_false]at hp;obtain⟨q,hq,hqe⟩:=List.any_eq_true.mp hp;have e2:=QC hqe;exact this.2 (by rw[<-e,e2];exact hq)
noncomputable def Zp(cs:List (Str × Addr)):Nms->List (Str × Addr)->List (Str × Addr)
 |[],acc=>acc
 |(n,k)::r,acc=>if k==.free then(match cs.lookup n with|some c=>Zp cs r ((n,c)::acc)|none=>Zp cs r acc)else Zp cs r acc
theorem Pc{env:Env}:∀(l:Nms) (acc:List (Str × Addr)),(∀p∈l,p.2=.free->∃c,env.cells.lookup p.1=some c)->
  (forIn l acc fun p r=>do if p.2==.free then pure (ForInStep.yield ((p.1,<-cellOf env p.1)::r))else pure (ForInStep.yield r):Sem (List (Str × Addr)))=pure (Zp env.cells l acc)
 |[],_,_=>rfl
 |(n,k)::r,acc,h=>by
  rw[List.forIn_cons];have ih:=fun acc=>Pc r acc fun p hp=>h p (List.mem_cons_of_mem _ hp);unfold Zp;cases hk:k==NameKind.free with
  |false=>simp only[hk,Bool.false_eq_true,if_false];exact ih acc
  |true=>
   obtain⟨c,hc⟩:=h (n,k) List.mem_cons_self (eq_of_beq hk);simp only[hk,if_true];have:cellOf env n=pure c:=by unfold cellOf;rw[show env.cells.lookup n=some c from hc]
   rw[this,show env.cells.lookup n=some c from hc];exact ih _
theorem Jx{env:Env}{sc:Scope}(h:∀p∈sc.names,p.2=.free->∃c,env.cells.lookup p.1=some c):closureFor sc env=pure (Zp env.cells sc.names []):=by
 unfold closureFor;have:=Pc (env:=env) sc.names [] h;rw[<-this];refine(bind_pure _).trans ?_
 congr 1
theorem Jc(cs:List (Str × Addr)):∀(l:Nms) (acc:List (Str × Addr)),(∀x c,acc.lookup x=some c->cs.lookup x=some c)->∀x c,(Zp cs l acc).lookup x=some c->cs.lookup x=some c
 |[],acc,h,x,c,e=>h x c e
 |(n,k)::r,acc,h,x,c,e=>by
  unfold Zp at e;split at e
  ·cases hn:cs.lookup n with
   |none=>rw[hn]at e;exact Jc cs r acc h x c e
   |some d=>
    rw[hn]at e;refine Jc cs r ((n,d)::acc) (fun y b hy=>?_) x c e;rw[List.lookup_cons]at hy;cases hb:y==n with
    |true=>rw[hb]at hy;cases hy;rw[eq_of_beq hb];exact hn
    |false=>rw[hb]at hy;exact h y b hy
  ·exact Jc cs r acc h x c e
theorem J7(cs:List (Str × Addr)):∀(l:Nms) (acc:List (Str × Addr)) (x:Str),((acc.lookup x).isSome∨(x,NameKind.free)∈l/\(cs.lookup x).isSome)->((Zp cs l acc).lookup x).isSome
 |[],acc,x,h=>h.elim id fun h=>by simp at h
 |(n,k)::r,acc,x,h=>by
  unfold Zp;split
  ·rename_i hk
   cases hn:cs.lookup n with
   |none=>
    refine J7 cs r acc x (h.imp id fun h=>⟨?_,h.2⟩);rcases QR h.1 with e|e
    ·cases e;rw[hn]at h;simp at h
    ·exact e
   |some d=>
    refine J7 cs r ((n,d)::acc) x ?_;rw[List.lookup_cons];cases hb:x==n with
    |true=>exact .inl rfl
    |false=>
     refine h.imp id fun h=>⟨?_,h.2⟩;rcases QR h.1 with e|e
     ·cases e;simp at hb
     ·exact e
  ·rename_i hk
   refine J7 cs r acc x (h.imp id fun h=>⟨?_,h.2⟩);rcases QR h.1 with e|e
   ·cases e;simp at hk
   ·exact e
section
variable{C:Cx}{P:Par}{gT:Nat->Option HV}{env cenv:Env}{nm:Nms}{A:Around}{O O':Nat->Addr}{S S' S1:St}{s s':Shared}{D f:Nat}{ev:HE->St->R HV}{ts:HE->St->R Bool}{xs:List HS->St->R Fl}{V:HV}{kk:Wk}
end
section
variable{A:Around}{s:Shared}{prog:Program}{w:World}{elt t1 i1 t2 i2:Expr}{ifs:List Expr}{scope:Scope}{pos:Pos}
def Lg(prog:Program)(w:World)(A:Around)(elt target:Expr)(ifs:List Expr)(it acc:Value)(env:Env)(R':Result->Shared->Prop)(I:Nat->Shared->Prop):Prop:=
 ∀n s,I n s->wpC (model prog w) A (pyNext it) (fun r sA=>match r with
   |none=>R' (.ok .next) sA
   |some v=>wpC (model prog w) A (letOwnedTupleGo target it v) (fun J s1'=>wpC (model prog w) A (assign target env v) (fun J s2=>
     wpC (model prog w) A (forIn ifs true fun c r=>if r=true then do let ok <-isTrue c env (eval c env);pure (ForInStep.yield ok)else pure (ForInStep.yield r)) (fun ok s3=>
      if ok=true then wpC (model prog w) A (eval elt env) (fun x s4=>
       wpC (model prog w) A (call (.builtin "list.append") [acc,x]) (fun J s5=>∃m,m<n/\I m s5) (fun J J=>False) s4) (fun J J=>False) s3
      else∃m,m<n/\I m s3) (fun J J=>False) s2) (fun J J=>False) s1') (fun J J=>False) sA) (fun J J=>False) s
theorem Hw(it acc:Value)(env:Env):
  compTurn (.ListComp elt [⟨t1,i1,[],0⟩,⟨t2,i2,ifs,0⟩] scope pos) 1 it acc env=(do
   standAt i2.pos
   match<-pyNext it with
   |none=>pure (.done .next)
   |some v=>
    letOwnedTupleGo t2 it v
    assign t2 env v
    let mut ok:=true
    for c in ifs do
     if ok then ok <-isTrue c env (eval c env)
    if ok then
     (do let _ <-call (.builtin "list.append") [acc,<-eval elt env])
    again (.compLoop (.ListComp elt [⟨t1,i1,[],0⟩,⟨t2,i2,ifs,0⟩] scope pos) 1 it acc env)):=by rfl
theorem Gn{R':Result->Shared->Prop}{it acc:Value}{env:Env}(I:Nat->Shared->Prop)(turn:Lg prog w A elt t2 ifs it acc env R' I)(n:Nat)(s:Shared)(h:I n s):
  Q1 (model prog w) A (.compLoop (.ListComp elt [⟨t1,i1,[],0⟩,⟨t2,i2,ifs,0⟩] scope pos) 1 it acc env) R' s:=by
 refine Jr rfl rfl I (fun n s hI=>?_) n h;show wpC _ A ((compTurn (.ListComp elt [⟨t1,i1,[],0⟩,⟨t2,i2,ifs,0⟩] scope pos) 1 it acc env).onRaise (fun x=>do noteFrame x env;theTreesLotGoes x)) _ _ s;refine Qy ?_;rw[Hw];refine Qa (Qi (Qa (Qf (turn n s hI) (fun r sA aH=>?_) fun J J h'=>h')));cases r with
 |none=>exact Qc aH
 |some v=>
  refine Qa (Qf aH (fun J s1' aI=>?_) fun J J h'=>h');refine Qa (Qf aI (fun J s2 aJ=>Qa (Qf aJ (fun ok s3 aL=>?_) fun J J h'=>h')) fun J J h'=>h');cases ok with
  |false=>exact Qc (.inl ⟨rfl,aL⟩)
  |true=>
   exact Qa (Qa (Qf aL (fun x s4 aM=>Qa (Qf aM (fun J s5 aN=>Qc (Qc (.inl ⟨rfl,aN⟩))) fun J J h'=>h')) fun J J h'=>h'))
theorem Gm(it acc:Value)(env:Env):
  compTurn (.ListComp elt [⟨t1,i1,[],0⟩,⟨t2,i2,ifs,0⟩] scope pos) 0 it acc env=(do
   standAt i1.pos
   match<-pyNext it with
   |none=>pure (.done .next)
   |some v=>
    letOwnedTupleGo t1 it v
    assign t1 env v
    let x <-eval i2 env
    standAt i2.pos
    let x <-foldedSetIterable i2 env x
    let _ <-runOwn (.compStart (.ListComp elt [⟨t1,i1,[],0⟩,⟨t2,i2,ifs,0⟩] scope pos) 1 (<-holding [x] (pyIter x)) acc env) env
    again (.compLoop (.ListComp elt [⟨t1,i1,[],0⟩,⟨t2,i2,ifs,0⟩] scope pos) 0 it acc env)):=by rfl
theorem Wa{R':Result->Shared->Prop}{it acc:Value}{env:Env}(hs:∀x,foldedSetIterable i2 env x=pure x)(I:Nat->Shared->Prop)
  (turn:∀n s,I n s->wpC (model prog w) A (pyNext it) (fun r sA=>match r with
   |none=>R' (.ok .next) sA
   |some v=>wpC (model prog w) A (letOwnedTupleGo t1 it v) (fun J s1'=>wpC (model prog w) A (assign t1 env v) (fun J s2=>
     wpC (model prog w) A (eval i2 env) (fun x s3=>wpC (model prog w) A (pyIter x) (fun it' s4=>
      Q1 (model prog w) A (.compStart (.ListComp elt [⟨t1,i1,[],0⟩,⟨t2,i2,ifs,0⟩] scope pos) 1 it' acc env) (fun r s5=>match r with|.ok _=>∃m,m<n/\I m s5|.error _=>False) s4) (fun J J=>False) s3) (fun J J=>False) s2) (fun J J=>False) s1') (fun J J=>False) sA) (fun J J=>False) s)
  (n:Nat) (s:Shared) (h:I n s):
  Q1 (model prog w) A (.compLoop (.ListComp elt [⟨t1,i1,[],0⟩,⟨t2,i2,ifs,0⟩] scope pos) 0 it acc env) R' s:=by
 refine Jr rfl rfl I (fun n s hI=>?_) n h;show wpC _ A ((compTurn (.ListComp elt [⟨t1,i1,[],0⟩,⟨t2,i2,ifs,0⟩] scope pos) 0 it acc env).onRaise (fun x=>do noteFrame x env;theTreesLotGoes x)) _ _ s;refine Qy ?_;rw[Gm];refine Qa (Qi (Qa (Qf (turn n s hI) (fun r sA aH=>?_) fun J J h'=>h')));cases r with
 |none=>exact Qc aH
 |some v=>
  refine Qa (Qf aH (fun J s1' aI=>?_) fun J J h'=>h');refine Qa (Qf aI (fun J s2 aJ=>Qa (Qf aJ (fun x s3 aL=>Qa (Qi (Qa ?_))) fun J J h'=>h')) fun J J h'=>h');rw[hs x];refine Qc (Qa (Qd (Qf aL (fun it' s4 aM=>?_) fun J J h'=>h')));refine Qa (Kd rfl (Yd aM fun r s5 aN=>?_));cases r with
  |ok f=>exact Qc (.inl ⟨rfl,aN⟩)
  |error e=>exact aN.elim
theorem Y6{R:Result->Shared->Prop}{it acc:Value}{env:Env}
  (h0:Q1 (model prog w) A (.compLoop (.ListComp elt [⟨t1,i1,[],0⟩,⟨t2,i2,ifs,0⟩] scope pos) 1 it acc env) R s)
  (h:wpAny (model prog w) A (pyIter it) (fun it' s'=>Q1 (model prog w) A (.compLoop (.ListComp elt [⟨t1,i1,[],0⟩,⟨t2,i2,ifs,0⟩] scope pos) 1 it' acc env) R s') (fun J J=>False) s):
  Q1 (model prog w) A (.compStart (.ListComp elt [⟨t1,i1,[],0⟩,⟨t2,i2,ifs,0⟩] scope pos) 1 it acc env) R s:=by
 refine Qr ?_;show wpC _ _ ((compStart (.ListComp elt [⟨t1,i1,[],0⟩,⟨t2,i2,ifs,0⟩] scope pos) 1 it acc env).onRaise (fun x=>do noteFrame x env;standAt theWindowsPlace)) _ _ s;refine Qy (Qe ?_);unfold compStart;show wpAny _ _ (ask>>=_) _ _ s;refine QN (wpAny_askSetting (wpAny_ite ?_));split
 ·first
   |exact QN (QO (QO ⟨rfl,rfl,h0⟩))
   |exact QO ⟨rfl,rfl,h0⟩
 ·first
   |exact QN (wpAny_rule (QN (wpAny_standAt (QN (wpAny_mono h (fun it' s' h'=>QO ⟨rfl,rfl,h'⟩) fun J J x=>x.elim)))))
   |(refine QN (wpAny_rule ?_);show wpAny _ _ (standAt i2.pos>>=_) _ _ s;exact QN (wpAny_standAt (QN (wpAny_mono h (fun it' s' h'=>QO ⟨rfl,rfl,h'⟩) fun J J x=>x.elim))))
end
section
variable{C:Cx}{P:Par}{gT:Nat->Option HV}{env cenv:Env}{nm:Nms}{A:Around}{O O':Nat->Addr}{S S' S1:St}{s s':Shared}{D f:Nat}{ev:HE->St->R HV}{ts:HE->St->R Bool}{xs:List HS->St->R Fl}{V:HV}{kk:Wk}
theorem Ti(hT:ST C gT ts D)(hA:AOk D A)(ho:Qm env nm)(Z:Stt C env O S s){cond:Option HE}{ifs:List Expr}(hc:Jq (Qq gT f nm) cond ifs=true){b:Bool}(h:qQ0 ts cond S=.ok b S'):
  Run C env .no A (forIn ifs true fun c r=>if r=true then do let ok <-isTrue c env (eval c env);pure (ForInStep.yield ok)else pure (ForInStep.yield r)) O S s S' (fun J J b'=>b'=b):=by
 cases cond with
 |none=>
  refine un0 (fun e J=>?_) Qg hc;subst e;cases h;exact Run.pure Z rfl
 |some c=>
  refine un1 (fun i e hc=>?_) Qg hc;subst e;exact fun E Q q=>Ug ((hT _ _ _ _ _ _ _ _ _ _ _ hc ho hA Z h).use q)
theorem Kt(hE:SE C gT ev D)(hT:ST C gT ts D)(hA:AOk D A)(ho:Qm cenv nm){k n0:Nat}{vs:List HV}{it:Value}(T:Itr C k vs n0 it){Da:Addr}{tgt:List Nat}{one:Bool}{e elt':Expr}{elt:HE}{cond:Option HE}{ifs:List Expr}
  (ht:kTg nm one tgt e=true) (hl:Jo nm e=true) (he:Qq gT f nm elt elt'=true) (hc:Jq (Qq gT f nm) cond ifs=true)
  {c:Code} (hr:∀(R':Result->Shared->Prop) (I:Nat->Shared->Prop),Lg C.prog C.w A elt' e ifs it (.ref Da) cenv R' I->∀n s,I n s->Q1 (model C.prog C.w) A c R' s)
  {R':Result->Shared->Prop} {l:List HV} {SB:St} {sB:Shared} (hDf:sB.heap.get? Da=none) (hDb:C.h0.objs.size<=Da) (hDT:Da∉T.hid) (hf:∀a∈T.hid,sB.heap.get? a=none) (h0:∀a∈T.hid,C.h0.get? a=none) {prot:List Addr} {H0:Addr->Option Obj} {ni:Nat} {Oi:Nat->Addr} (hpT:∀a∈prot,a∉T.hid/\a≠Da)
  (hR:∀O' s' ys,Ext C (Wd cenv .loc) O SB sB O' S' s'->Stt C cenv O' S' s'->s'.heap.PlainList Da ys->F2 (VR C O' S'.n) l ys.toList->Hid [Da] cenv O' S' s'.heap->Hid prot cenv O' S' s'.heap->(∀a∈prot,s'.heap.get? a=H0 a)->(∀j,j<ni->O' j=Oi j)->ni<=S'.n->R' (.ok .next) s')
  (fu i:Nat) (pre l':List HV) (hpl:pre++l'=l) (hsz:pre.length+fu<=10000) {O1:Nat->Addr} {sA:Shared} (h:Vs ev ts elt tgt one cond k vs n0 fu i S1=.ok l' S')
  (hX:Ext C (Wd cenv .loc) O SB sB O1 S1 sA) (hZ:Stt C cenv O1 S1 sA) (hH:Hid T.hid cenv O1 S1 sA.heap) (hB:T.B i O1 S1.n sA.heap) (hD:Hid [Da] cenv O1 S1 sA.heap) {ys:Array Value} (hP:sA.heap.PlainList Da ys) (hF:F2 (VR C O1 S1.n) pre ys.toList) (hp:Hid prot cenv O1 S1 sA.heap) (hp0:∀a∈prot,sA.heap.get? a=H0 a) (hag:∀j,j<ni->O1 j=Oi j) (hni:ni<=S1.n):
  Q1 (model C.prog C.w) A c R' sA:=by
 refine hr _ (fun n sA=>∀G:Prop,(∀i pre l' O1 S1 ys,pre++l'=l->pre.length+n<=10000->Vs ev ts elt tgt one cond k vs n0 n i S1=.ok l' S'->Ext C (Wd cenv .loc) O SB sB O1 S1 sA->Stt C cenv O1 S1 sA->Hid T.hid cenv O1 S1 sA.heap->T.B i O1 S1.n sA.heap->
  Hid [Da] cenv O1 S1 sA.heap->sA.heap.PlainList Da ys->F2 (VR C O1 S1.n) pre ys.toList->Hid prot cenv O1 S1 sA.heap->(∀a∈prot,sA.heap.get? a=H0 a)->(∀j,j<ni->O1 j=Oi j)->ni<=S1.n->G)->G) ?_ fu sA fun G kG=>kG i pre l' O1 S1 ys hpl hsz h hX hZ hH hB hD hP hF hp hp0 hag hni
 clear h hX hZ hH hB hD hP hF hp hp0 hag hni hpl hsz;refine fun n sA H=>H _ fun i pre l' O1 S1 ys hpl hsz h hX ZC hH hB hD hP hF hp hp0 hag hni=>?_;clear H;cases n with
 |zero=>cases h
 |succ n=>
  refine Jy (x:=Yg S1 k vs n0 i) h fun t h3 h2=>?_;clear h;cases t with
  |none=>
   cases h2;refine Qe<|T.stop hH hB ZC hA h3 fun s2 kB=>?_
   rw[List.append_nil]at hpl;subst hpl;exact hR O1 s2 ys (hX.hidden hf kB) (ZC.hidden hH kB h0) (hP.at fun o e=>kB.keep _ _ hDT e) hF (hD.kept (fc ((hD _ in0).1.imp fun J e=>kB.keep _ _ hDT e) fn0)) (hp.kept fun a ha=>by
    obtain⟨⟨o,ho'⟩,_⟩:=hp a ha;exact⟨o,kB.keep _ _ (hpT a ha).1 ho'⟩) (fun a ha=>by
    obtain⟨⟨o,ho'⟩,_⟩:=hp a ha;rw[<-hp0 a ha,ho',kB.keep _ _ (hpT a ha).1 ho'])
    hag hni
  |some zs=>
   have h2:zQw ev ts elt tgt one cond (Vs ev ts elt tgt one cond k vs n0 n (i+1)) zs S1=.ok l' S':=h2;refine qQ9 (x:=Wc S1 tgt one zs) h2 fun SC h4 h5=>?_;clear h2;obtain⟨b,SD,h6,h7⟩:=Qb (x:=qQ0 ts cond SC) h5;refine Qe<|T.item hH hB ZC hA h3 fun v s2 kB hown=>?_
   refine Qe<|hown e _ _ (Hc h3 h4 ht) fun s3 kC hv3 hex hB3=>?_
   have kk23:=kB.trans kC;have ZE:=ZC.hidden hH kk23 h0;have hH3:=hH.kept hex;have hD3:Hid [Da] cenv O1 S1 s3.heap:=hD.kept (fc ((hD _ in0).1.imp fun J e=>kk23.keep _ _ hDT e) fn0);have hp3:Hid prot cenv O1 S1 s3.heap:=hp.kept fun a ha=>by
    obtain⟨⟨o,ho'⟩,_⟩:=hp a ha;exact⟨o,kk23.keep _ _ (hpT a ha).1 ho'⟩
   have hp03:∀a∈prot,s3.heap.get? a=H0 a:=fun a ha=>by
    obtain⟨⟨o,ho'⟩,_⟩:=hp a ha;rw[<-hp0 a ha,ho',kk23.keep _ _ (hpT a ha).1 ho']
   refine(G8 (kk:=.loc) ho hA ZE ht (.inr ⟨rfl,hl⟩) hv3 h4).c.use fun J O4 s4 XF ZF J=>?_;refine(Ti hT hA ho ZF hc h6).use fun b' O5 s5 XH ZG hb=>?_;obtain rfl:=hb;have X35:Ext C (Wd cenv .loc) O1 S1 s3 O5 SD s5:=XF.trans ZF (XH.wide fun J h=>h.elim);have hH5:=hH3.ext X35;have hB5:=T.bst hB3 (hH3.same X35) X35.agree X35.n;have hD5:=hD3.ext X35;have hP5:s5.heap.PlainList Da ys:=hP.at fun o e=>by rw[hD3.same X35 Da (by simp)];exact kk23.keep _ _ hDT e
   have hF5:F2 (VR C O5 SD.n) pre ys.toList:=hF.imp fun J J h=>h.mono X35.agree X35.n;have XB:=(hX.hidden hf kk23).trans ZE X35;have hp5:=hp3.ext X35;have hag5:∀j,j<ni->O5 j=Oi j:=fun j hj=>(X35.agree j (QF hj hni)).trans (hag j hj);have hni5:ni<=SD.n:=QG hni X35.n;have hp05:∀a∈prot,s5.heap.get? a=H0 a:=fun a ha=>(hp3.same X35 a ha).trans (hp03 a ha);cases b' with
   |false=>
    rw[if_neg (by decide)];exact⟨n,QK _,fun G kG=>kG (i+1) pre l' O5 SD ys hpl (Nat.le_of_succ_le hsz) h7 XB ZG hH5 hB5 hD5 hP5 hF5 hp5 hp05 hag5 hni5⟩
   |true=>
    rw[if_pos rfl];have h7:((ev elt SD).bind fun v S=>(Vs ev ts elt tgt one cond k vs n0 n (i+1) S).bind fun l S=>.ok (v::l) S)=.ok l' S':=h7;obtain⟨W,S5,h8,h9⟩:=Qb h7;obtain⟨lA,S6,h10,h11⟩:=Qb h9;cases h11;refine(hE _ _ _ _ _ _ _ _ _ _ _ he ho hA ZG h8).use fun x O6 s6 XI ZH hx=>?_;have X6:Ext C (Wd cenv .loc) O5 SD s5 O6 S5 s6:=XI.wide fun J h=>h.elim;have hD6:=hD5.ext X6;have hP6:s6.heap.PlainList Da ys:=hP5.at fun o e=>by rw[hD5.same X6 Da (by simp)];exact e
    have hF6:=hF5.imp (fun J J h=>VR.mono X6.agree X6.n h);have hlen:=hF6.length;obtain⟨⟨oD,hoD⟩,hwD,hlD⟩:=hD6 Da (by simp);refine Qe (wpAny_list_append_plain hP6 (fun h' hP' hs'=>?_) (QG (m:=10000) (by simp only[Array.length_toList]at hlen;omega) (by decide)));have G:=Km (XB.trans ZG X6) ZH hDf hs' hwD hlD hDb s6.toks;refine⟨n,QK _,fun J kG=>kG (i+1) (pre++[W]) lA O6 S5 (ys.push x) ?_ ?_ h10 G.1 G.2 ?_ ?_ ?_ hP' ?_ ?_ ?_ (fun j hj=>(X6.agree j (QF hj hni5)).trans (hag5 j hj)) (QG hni5 X6.n)⟩
    ·rw[<-hpl];exact List.append_assoc _ _ _
    ·rw[List.length_append];exact QG (Nat.le_of_eq (Nat.add_right_comm _ 1 n)) hsz
    ·intro a ha
     obtain⟨⟨o,ho'⟩,h1',h2'⟩:=(hH5.ext X6) a ha;exact⟨⟨o,(hs'.2 a (fun q=>hDT (q▸ha))).trans ho'⟩,h1',h2'⟩
    ·exact T.bst (T.bst hB5 (hH5.same X6) X6.agree X6.n) (fun a ha=>hs'.2 a (fun q=>hDT (q▸ha))) (fun J J=>rfl) (QL _)
    ·exact fc (hP'.elim fun n' hn'=>⟨⟨_,hn'⟩,hwD,hlD⟩) fn0
    ·rw[Array.toList_push];exact hF6.snoc hx
    ·intro a ha
     obtain⟨⟨o,ho'⟩,h1',h2'⟩:=(hp5.ext X6) a ha;exact⟨⟨o,(hs'.2 a (hpT a ha).2).trans ho'⟩,h1',h2'⟩
    ·intro a ha
     exact(hs'.2 a (hpT a ha).2).trans ((hp5.same X6 a ha).trans (hp05 a ha))
end
section
open Builtin
open Sem (wp)
noncomputable def sqT(b:Bool):String:=match b with|true=>"tuple"|false=>"list"
noncomputable def siT(b:Bool):String:=match b with|true=>"tuple_iterator"|false=>"list_iterator"
def Sq(b:Bool)(h:Heap)(l:Addr)(items:Array Value):Prop:=∃o,h.get? l=some o/\o.cls=.type (sqT b)/\∃n,o.data=.seq items n
def SIt(b:Bool)(h:Heap)(it l:Addr)(i:Nat):Prop:=∃o,h.get? it=some o/\o.cls=.type (siT b)/\o.data=.fields #[.ref l,.int i 0]
theorem Sq.at{b:Bool}{h h':Heap}{l:Addr}{items:Array Value}(x:Sq b h l items)(e:∀o,h.get? l=some o->h'.get? l=some o):Sq b h' l items:=let⟨o,ho,r⟩:=x;⟨o,e _ ho,r⟩
theorem SIt.at{b:Bool}{h h':Heap}{it l:Addr}{i:Nat}(x:SIt b h it l i)(e:∀o,h.get? it=some o->h'.get? it=some o):SIt b h' it l i:=let⟨o,ho,r⟩:=x;⟨o,e _ ho,r⟩
theorem Sq.extBut{b:Bool}{h h':Heap}{a l:Addr}{items:Array Value}(x:Sq b h l items)(hs:Heap.ExtBut a h h')(n:l≠a):Sq b h' l items:=x.at fun o e=>hs l o n e
theorem SIt.extBut{b:Bool}{h h':Heap}{a it l:Addr}{i:Nat}(x:SIt b h it l i)(hs:Heap.ExtBut a h h')(n:it≠a):SIt b h' it l i:=x.at fun o e=>hs it o n e
theorem Sq.lt{b:Bool}{h:Heap}{l:Addr}{items:Array Value}(x:Sq b h l items):l<h.objs.size:=let⟨_,ho,_⟩:=x;QH ho
theorem SIt.lt{b:Bool}{h:Heap}{it l:Addr}{i:Nat}(x:SIt b h it l i):it<h.objs.size:=let⟨_,ho,_⟩:=x;QH ho
section
variable{M:Model}{prog:Program}{w:World}{A:Around}{E:Value->Shared->Prop}{s:Shared}
theorem Xs{b:Bool}{l:Addr}{items:Array Value}{Q:Value->Shared->Prop}(hl:Sq b s.heap l items)
  (hQ:Q (.ref s.heap.objs.size) {s with heap:=s.heap.push {cls:=.type (siT b),data:=.fields #[.ref l,.int 0 0]}}):wpAny (model prog w) A (pyIter (.ref l)) Q E s:=by
 cases b
 ·exact wpAny_pyIter_list hl hQ
 ·exact wpAny_pyIter_tuple hl hQ
theorem Vl{b:Bool}{it l:Addr}{i:Nat}{items:Array Value}{x:Value}{Q:Option Value->Shared->Prop}(hit:SIt b s.heap it l i)(hl:Sq b s.heap l items)(hx:items[i]? =some x)
  (hQ:∀h',SIt b h' it l (i+1)->Heap.SameBut it s.heap h'->Q (some x) {s with heap:=h'}):wpAny (model prog w) A (pyNext (.ref it)) Q E s:=by
 cases b
 ·exact wpAny_pyNext_list_item hit hl hx hQ
 ·exact wpAny_pyNext_tuple_item hit hl hx hQ
theorem Ux{b:Bool}{it l:Addr}{i:Nat}{items:Array Value}{Q:Option Value->Shared->Prop}(hh:A.handled=none)(hit:SIt b s.heap it l i)(hl:Sq b s.heap l items)(hx:items[i]? =none)
  (hQ:∀h',Heap.ExtBut it s.heap h'->Q none {s with heap:=h'}):wpAny (model prog w) A (pyNext (.ref it)) Q E s:=by
 cases b
 ·exact wpAny_pyNext_list_end hh hit hl hx hQ
 ·exact wpAny_pyNext_tuple_end hh hit hl hx hQ
theorem Hb{b:Bool}{it l:Addr}{i:Nat}{Q:Value->Shared->Prop}(hit:SIt b s.heap it l i)(h:Q (.ref it) s):wpAny (model prog w) A (pyIter (.ref it)) Q E s:=by
 cases b
 ·exact wpAny_pyIter_listiter hit h
 ·exact wpAny_pyIter_tupleiter hit h
theorem qQh{b:Bool}{target:Expr}{it l:Addr}{i:Nat}{v:Value}{Q:Unit->Shared->Prop}(hit:SIt b s.heap it l i)(h:Q () s):wpAny (model prog w) A (letOwnedTupleGo target (.ref it) v) Q E s:=by
 cases b
 ·exact letGo_listiter hit h
 ·exact letGo_tupleiter hit h
theorem J3{it l:Addr}{i:Nat}{items:Array Value}{x:Value}{Q:Value->Shared->Prop}(hit:s.heap.IsTupleIter it l i)
  (hl:s.heap.IsTuple l items) (hx:items[i]? =some x)
  (hQ:∀h',h'.IsTupleIter it l (i+1)->Heap.SameBut it s.heap h'->Q x {s with heap:=h'}):
  wpAny (model prog w) A (Builtin.SmallTypes.nextOf (.ref it)) Q E s:=by
 obtain⟨o,ho,hc,hd⟩:=id hit;obtain⟨ol,hol,_,nl,hdl⟩:=hl;unfold Builtin.SmallTypes.nextOf;refine QN (wpAny_callSpecial?_slot (name:=Str.ofString "__next__") hit.typeIs F.slot_tuple_iterator_next
  (wpAny_call_entry F.slot_tuple_iterator_next hit.typeIs F.entry_tuple_iterator_next ?_ (F.args_tuple_iterator_next_1 _)))
 show wpAny _ _ (field (.ref it) 0>>=_) _ _ s;refine QN (wpAny_field ho hd (x:=.ref l) rfl ?_);show wpAny _ _ (if(Value.ref l==Value.none)=true then _ else _) _ _ s;rw[if_neg (show¬((Value.ref l==Value.none)=true)from Bool.false_ne_true)];show wpAny _ _ (field (.ref it) 1>>=_) _ _ s;refine QN (wpAny_field ho hd (x:=.int i 0) rfl ?_);show wpAny _ _ (seqItems? (.ref l)>>=_) _ _ s;refine QN (wpAny_seqItems hol hdl ?_);simp only[Int.toNat_natCast,hx];refine QN (wpAny_setField ho hd (by simp) (QO ⟨x,rfl,QO (hQ _ ?_ (Heap.SameBut.update ..))⟩));exact⟨_,Heap.get?_update_self _ ho (Obj.isFreed_of_fields (Obj.data_mapFields hd _)),(Obj.cls_mapFields ..).trans hc,by
  rw[Obj.data_mapFields hd];simp[rawInt]⟩
theorem Jk{it l:Addr}{i:Nat}{items:Array Value}{Q:Value->Shared->Prop}(hh:A.handled=none)
  (hit:s.heap.IsTupleIter it l i) (hl:s.heap.IsTuple l items) (hx:items[i]? =none)
  (hE:∀h' e,Heap.ExtBut it s.heap h'->(∃o,h'.get? e=some o/\o.cls=.type "StopIteration")->E (.ref e) {s with heap:=h'}):
  wpAny (model prog w) A (Builtin.SmallTypes.nextOf (.ref it)) Q E s:=by
 obtain⟨o,ho,hc,hd⟩:=id hit;obtain⟨ol,hol,_,nl,hdl⟩:=hl;unfold Builtin.SmallTypes.nextOf;refine QN (wpAny_callSpecial?_slot (name:=Str.ofString "__next__") hit.typeIs F.slot_tuple_iterator_next
  (wpAny_call_entry F.slot_tuple_iterator_next hit.typeIs F.entry_tuple_iterator_next ?_ (F.args_tuple_iterator_next_1 _)))
 show wpAny _ _ (field (.ref it) 0>>=_) _ _ s;refine QN (wpAny_field ho hd (x:=.ref l) rfl ?_);show wpAny _ _ (if(Value.ref l==Value.none)=true then _ else _) _ _ s;rw[if_neg (show¬((Value.ref l==Value.none)=true)from Bool.false_ne_true)];show wpAny _ _ (field (.ref it) 1>>=_) _ _ s;refine QN (wpAny_field ho hd (x:=.int i 0) rfl ?_);show wpAny _ _ (seqItems? (.ref l)>>=_) _ _ s;refine QN (wpAny_seqItems hol hdl ?_);simp only[Int.toNat_natCast,hx];refine QN (wpAny_rule (QN (wpAny_setField ho hd (by simp) ?_)));show wpAny _ _ (newExc (.type "StopIteration") []>>=_) _ _ _;refine QN ?_;simp only[newExc,newTuple];refine QN (wpAny_newObj_type ?_ (by size_fits));refine QN (m:=firstArgMember _ _) (wpAny_of_eq (a:=Value.none) (by first|rfl|(simp only[firstArgMember];rfl)) ?_);refine wpAny_newObj_type ?_ (by size_fits);simp only[raiseNew];refine QN (wpAny_handled ?_);first|rw[show A.in1.handled=none from hh]|rw[hh]
 refine QN (QO (wpAny_throw ?_));exact hE _ _ (((Heap.SameBut.update ..).extBut.push _).push _) ⟨_,Heap.get?_push_size _ rfl,rfl⟩
theorem Jl{b:Bool}{it l:Addr}{i:Nat}{items:Array Value}{x:Value}{Q:Value->Shared->Prop}(hit:SIt b s.heap it l i)(hl:Sq b s.heap l items)(hx:items[i]? =some x)
  (hQ:∀h',SIt b h' it l (i+1)->Heap.SameBut it s.heap h'->Q x {s with heap:=h'}):wpAny (model prog w) A (Builtin.SmallTypes.nextOf (.ref it)) Q E s:=by
 cases b
 ·exact wpAny_nextOf_list_item hit hl hx hQ
 ·exact J3 hit hl hx hQ
theorem Y1{b:Bool}{it l:Addr}{i:Nat}{items:Array Value}{Q:Value->Shared->Prop}(hh:A.handled=none)(hit:SIt b s.heap it l i)(hl:Sq b s.heap l items)(hx:items[i]? =none)
  (hE:∀h' e,Heap.ExtBut it s.heap h'->(∃o,h'.get? e=some o/\o.cls=.type "StopIteration")->E (.ref e) {s with heap:=h'}):wpAny (model prog w) A (Builtin.SmallTypes.nextOf (.ref it)) Q E s:=by
 cases b
 ·exact wpAny_nextOf_list_end hh hit hl hx hE
 ·exact Jk hh hit hl hx hE
theorem Mo{b1 b2:Bool}{z TI TO i1 i2 l1 l2:Addr}{k1 k2:Nat}{xs ys:Array Value}{x y a b:Value}{Q:Value->Shared->Prop}(D:ZipApart z TI TO i1 i2 l1 l2)
  (hz:IsZip s.heap z TI TO .none) (hTI:IsPair s.heap TI (.ref i1) (.ref i2)) (hTO:IsPair s.heap TO a b)
  (h1:SIt b1 s.heap i1 l1 k1) (h2:SIt b2 s.heap i2 l2 k2) (hl1:Sq b1 s.heap l1 xs) (hl2:Sq b2 s.heap l2 ys) (hx:xs[k1]? =some x) (hy:ys[k2]? =some y)
  (hQ:∀h',IsZip h' z TI TO (rawInt s.heap.objs.size)->IsPair h' TO x y->SIt b1 h' i1 l1 (k1+1)->SIt b2 h' i2 l2 (k2+1)->IsPair h' s.heap.objs.size x y->
   (∀c o,c≠z->c≠TO->c≠i1->c≠i2->s.heap.get? c=some o->h'.get? c=some o)->Q (.ref s.heap.objs.size) {s with heap:=h'}):
  wpAny (model prog w) A (Builtin.«zip.__next__» ⟨[.ref z],[]⟩) (fun fin s'=>∃v,fin=.done (.ret v)/\Q v s') E s:=by
 show wpAny _ _ (field (.ref z) 2>>=_) _ _ _;refine QN (wpAny_field hz rfl (x:=.bool false) rfl ?_);show wpAny _ _ (field (.ref z) 3>>=_) _ _ _;refine QN (wpAny_field hz rfl (x:=.ref TI) rfl ?_);refine QN (wpAny_seqItems hTI rfl ?_);show wpAny _ _ (Builtin.SmallTypes.ownedTupleIsFree (.ref z)>>=_) _ _ _;refine QN ?_;unfold Builtin.SmallTypes.ownedTupleIsFree;refine QN (wpAny_field hz rfl (x:=.none) rfl (QO ?_));simp only[if_true];refine QN (wpAny_rule ?_);refine QN (wpAny_field hz rfl (x:=.ref TO) rfl ?_);refine QN (wpAny_setField_rec hz (by simp) fun aH hz1 aD=>?_);replace hz1:IsZip aH z TI TO .ellipsis:=hz1;refine QN ?_;simp only[List.zipIdx_cons,List.zipIdx_nil,List.forIn_cons,List.forIn_nil];refine QN (QN (wpAny_onRaise ?_));show wpAny _ _ (Builtin.SmallTypes.nextOf (.ref i1)>>=_) _ _ _;refine QN (Jl (h1.extBut aD.extBut D.i1z) (hl1.extBut aD.extBut D.l1z) hx fun aJ hG aE=>QO ?_);have hTO2:IsPair aJ TO a b:=aE.extBut _ _ D.TOi1 (aD.extBut _ _ D.TOz hTO);refine QN (wpAny_seqItems hTO2 rfl ?_);refine QN (wpAny_updateSeq_pair hTO2 fun aL hTO3 hs3=>?_);replace hTO3:IsPair aL TO x b:=hTO3;refine QN (wpAny_letGo (QO ?_));refine QN (QN (wpAny_onRaise ?_));show wpAny _ _ (Builtin.SmallTypes.nextOf (.ref i2)>>=_) _ _ _;refine QN (Jl (((h2.extBut aD.extBut D.i2z).extBut aE.extBut D.i12.symm).extBut hs3.extBut D.TOi2.symm)
  (((hl2.extBut aD.extBut D.l2z).extBut aE.extBut D.l2i1).extBut hs3.extBut D.l2TO) hy fun aM h24 hs4=>QO ?_)
 have hTO4:IsPair aM TO x b:=hs4.extBut _ _ D.TOi2 hTO3;refine QN (wpAny_seqItems hTO4 rfl ?_);refine QN (wpAny_updateSeq_pair hTO4 fun aN hTO5 hs5=>?_);replace hTO5:IsPair aN TO x y:=hTO5;refine QN (wpAny_letGo (QO (QO ?_)));refine QN (wpAny_seqItems hTO5 rfl ?_);refine QN (wpAny_newTuple ?_);have hsz:aN.objs.size=s.heap.objs.size:=by rw[hs5.1,hs4.1,hs3.1,aE.1,aD.1]
 have hz5:IsZip aN z TI TO .ellipsis:=hs5.extBut _ _ D.TOz.symm (hs4.extBut _ _ D.i2z.symm (hs3.extBut _ _ D.TOz.symm (aE.extBut _ _ D.i1z.symm hz1)));have hk5:∀c o,c≠z->c≠TO->c≠i1->c≠i2->s.heap.get? c=some o->aN.get? c=some o:=fun c o c1 c2 c3 c4 e=>
  hs5.extBut _ _ c2 (hs4.extBut _ _ c4 (hs3.extBut _ _ c2 (aE.extBut _ _ c3 (aD.extBut _ _ c1 e))))
 have hM:SIt b1 aN i1 l1 (k1+1):=((hG.extBut hs3.extBut D.TOi1.symm).extBut hs4.extBut D.i12).extBut hs5.extBut D.TOi1.symm;have h25:SIt b2 aN i2 l2 (k2+1):=h24.extBut hs5.extBut D.TOi2.symm;have hzlt:z<aN.objs.size:=QH hz5;show wpAny _ _ (Builtin.SmallTypes.ownedTupleHandOut (.ref z) (.ref aN.objs.size)>>=_) _ _ _;refine QN ?_;unfold Builtin.SmallTypes.ownedTupleHandOut;have hz6:IsZip (aN.push {cls:=.type "tuple",data:=.seq #[x,y]}) z TI TO .ellipsis:=Heap.get?_push_of_some _ hz5;refine QN (wpAny_setField_rec hz6 (by simp) fun aO hz7 hs7=>?_);replace hz7:IsZip aO z TI TO (rawInt aN.objs.size):=hz7;refine wpAny_setField_rec hz7 (by simp) fun aP hz8 hs8=>?_;replace hz8:IsZip aP z TI TO (rawInt aN.objs.size):=hz8;have up:∀c o,c≠z->aN.get? c=some o->aP.get? c=some o:=fun c o c1 e=>hs8.extBut _ _ c1 (hs7.extBut _ _ c1 (Heap.get?_push_of_some _ e));have hT8:IsPair aP aN.objs.size x y:=hs8.extBut _ _ (Nat.ne_of_gt hzlt) (hs7.extBut _ _ (Nat.ne_of_gt hzlt) (Heap.get?_push_size _ rfl));rw[hsz]at hz8 hT8;refine QO ⟨_,rfl,?_⟩;show Q (.ref aN.objs.size) _;rw[hsz];exact hQ aP hz8 (up _ _ D.TOz hTO5) (hM.at fun o e=>up _ o D.i1z e) (h25.at fun o e=>up _ o D.i2z e) hT8 fun c o c1 c2 c3 c4 e=>up c o c1 (hk5 c o c1 c2 c3 c4 e)
theorem Pz{b1 b2:Bool}{z TI TO i1 i2 l1 l2:Addr}{k1 k2:Nat}{xs ys:Array Value}{a b:Value}{Q:PySem.Fin->Shared->Prop}(hh:A.handled=none)(D:ZipApart z TI TO i1 i2 l1 l2)
  (hz:IsZip s.heap z TI TO .none) (hTI:IsPair s.heap TI (.ref i1) (.ref i2)) (hTO:IsPair s.heap TO a b)
  (h1:SIt b1 s.heap i1 l1 k1) (h2:SIt b2 s.heap i2 l2 k2) (hl1:Sq b1 s.heap l1 xs) (hl2:Sq b2 s.heap l2 ys) (hend:xs[k1]? =none∨ys[k2]? =none)
  (hE:∀h' e,(∀c o,c≠z->c≠TO->c≠i1->c≠i2->s.heap.get? c=some o->h'.get? c=some o)->(∃o,h'.get? e=some o/\o.cls=.type "StopIteration")->E (.ref e) {s with heap:=h'}):
  wpAny (model prog w) A (Builtin.«zip.__next__» ⟨[.ref z],[]⟩) Q E s:=by
 show wpAny _ _ (field (.ref z) 2>>=_) _ _ _;refine QN (wpAny_field hz rfl (x:=.bool false) rfl ?_);show wpAny _ _ (field (.ref z) 3>>=_) _ _ _;refine QN (wpAny_field hz rfl (x:=.ref TI) rfl ?_);refine QN (wpAny_seqItems hTI rfl ?_);show wpAny _ _ (Builtin.SmallTypes.ownedTupleIsFree (.ref z)>>=_) _ _ _;refine QN ?_;unfold Builtin.SmallTypes.ownedTupleIsFree;refine QN (wpAny_field hz rfl (x:=.none) rfl (QO ?_));simp only[if_true];refine QN (wpAny_rule ?_);refine QN (wpAny_field hz rfl (x:=.ref TO) rfl ?_);refine QN (wpAny_setField_rec hz (by simp) fun aH hz1 aD=>?_);replace hz1:IsZip aH z TI TO .ellipsis:=hz1;refine QN ?_;simp only[List.zipIdx_cons,List.zipIdx_nil,List.forIn_cons,List.forIn_nil];refine QN (QN (wpAny_onRaise ?_));show wpAny _ _ (Builtin.SmallTypes.nextOf (.ref i1)>>=_) _ _ _;cases hx:xs[k1]? with
 |none=>
  refine QN (Y1 hh (h1.extBut aD.extBut D.i1z) (hl1.extBut aD.extBut D.l1z) hx fun aJ e aE he=>?_);obtain⟨oe,hoe,hce⟩:=he;have hz2:IsZip aJ z TI TO .ellipsis:=aE _ _ D.i1z.symm hz1;have hez:e≠z:=fun x=>by subst x;rw[hz2]at hoe;cases hoe;simp at hce
  refine wpAny_setField_rec hz2 (by simp) fun aL J hs3=>hE aL e (fun c o c1 J c3 J x=>hs3.extBut _ _ c1 (aE _ _ c3 (aD.extBut _ _ c1 x))) ⟨oe,hs3.extBut _ _ hez hoe,hce⟩
 |some x=>
  have hy:ys[k2]? =none:=by rcases hend with h|h;rw[hx]at h;cases h;exact h
  refine QN (Jl (h1.extBut aD.extBut D.i1z) (hl1.extBut aD.extBut D.l1z) hx fun aJ hG aE=>QO ?_);have hTO2:IsPair aJ TO a b:=aE.extBut _ _ D.TOi1 (aD.extBut _ _ D.TOz hTO);refine QN (wpAny_seqItems hTO2 rfl ?_);refine QN (wpAny_updateSeq_pair hTO2 fun aL hTO3 hs3=>?_);refine QN (wpAny_letGo (QO ?_));refine QN (QN (wpAny_onRaise ?_));show wpAny _ _ (Builtin.SmallTypes.nextOf (.ref i2)>>=_) _ _ _;refine QN (Y1 hh (((h2.extBut aD.extBut D.i2z).extBut aE.extBut D.i12.symm).extBut hs3.extBut D.TOi2.symm)
   (((hl2.extBut aD.extBut D.l2z).extBut aE.extBut D.l2i1).extBut hs3.extBut D.l2TO) hy fun aM e hs4 he=>?_)
  obtain⟨oe,hoe,hce⟩:=he;have hz4:IsZip aM z TI TO .ellipsis:=hs4 _ _ D.i2z.symm (hs3.extBut _ _ D.TOz.symm (aE.extBut _ _ D.i1z.symm hz1));have hez:e≠z:=fun x=>by subst x;rw[hz4]at hoe;cases hoe;simp at hce
  refine wpAny_setField_rec hz4 (by simp) fun aN J hs5=>hE aN e (fun c o c1 c2 c3 c4 x=>hs5.extBut _ _ c1 (hs4 _ _ c4 (hs3.extBut _ _ c2 (aE.extBut _ _ c3 (aD.extBut _ _ c1 x))))) ⟨oe,hs5.extBut _ _ hez hoe,hce⟩
theorem K5{b1 b2:Bool}{z TI TO i1 i2 l1 l2:Addr}{k1 k2:Nat}{xs ys:Array Value}{x y a b:Value}{Q:Option Value->Shared->Prop}(D:ZipApart z TI TO i1 i2 l1 l2)
  (hz:IsZip s.heap z TI TO .none) (hTI:IsPair s.heap TI (.ref i1) (.ref i2)) (hTO:IsPair s.heap TO a b)
  (h1:SIt b1 s.heap i1 l1 k1) (h2:SIt b2 s.heap i2 l2 k2) (hl1:Sq b1 s.heap l1 xs) (hl2:Sq b2 s.heap l2 ys) (hx:xs[k1]? =some x) (hy:ys[k2]? =some y)
  (hQ:∀h',IsZip h' z TI TO (rawInt s.heap.objs.size)->IsPair h' TO x y->SIt b1 h' i1 l1 (k1+1)->SIt b2 h' i2 l2 (k2+1)->IsPair h' s.heap.objs.size x y->
   (∀c o,c≠z->c≠TO->c≠i1->c≠i2->s.heap.get? c=some o->h'.get? c=some o)->Q (some (.ref s.heap.objs.size)) {s with heap:=h'}):
  wpAny (model prog w) A (pyNext (.ref z)) Q E s:=by
 have hT:s.TypeIs (.ref z) "zip":=⟨_,hz,rfl⟩;unfold pyNext;exact QN (wpAny_attempt (wpAny_callSpecial?_slot (name:=Str.ofString "__next__") hT F.slot_zip_next
  (wpAny_call_entry F.slot_zip_next hT F.entry_zip_next
   (Mo D hz hTI hTO h1 h2 hl1 hl2 hx hy fun h' a1 a2 a3 a4 a5 a6=>QO (hQ h' a1 a2 a3 a4 a5 a6)) (F.args_zip_next_1 _))))
theorem Xr{b1 b2:Bool}{z TI TO i1 i2 l1 l2:Addr}{k1 k2:Nat}{xs ys:Array Value}{a b:Value}{Q:Option Value->Shared->Prop}(hh:A.handled=none)(D:ZipApart z TI TO i1 i2 l1 l2)
  (hz:IsZip s.heap z TI TO .none) (hTI:IsPair s.heap TI (.ref i1) (.ref i2)) (hTO:IsPair s.heap TO a b)
  (h1:SIt b1 s.heap i1 l1 k1) (h2:SIt b2 s.heap i2 l2 k2) (hl1:Sq b1 s.heap l1 xs) (hl2:Sq b2 s.heap l2 ys) (hend:xs[k1]? =none∨ys[k2]? =none)
  (hQ:∀h',(∀c o,c≠z->c≠TO->c≠i1->c≠i2->s.heap.get? c=some o->h'.get? c=some o)->Q none {s with heap:=h'}):wpAny (model prog w) A (pyNext (.ref z)) Q E s:=by
 have hT:s.TypeIs (.ref z) "zip":=⟨_,hz,rfl⟩;unfold pyNext;refine QN (wpAny_attempt (wpAny_callSpecial?_slot (name:=Str.ofString "__next__") hT F.slot_zip_next
  (wpAny_call_entry F.slot_zip_next hT F.entry_zip_next (Pz hh D hz hTI hTO h1 h2 hl1 hl2 hend fun h' e hk he=>?_) (F.args_zip_next_1 _))))
 obtain⟨o,ho,hc⟩:=he;refine QN (wpAny_isInstance (T:="StopIteration") (b:=true) ⟨o,ho,hc⟩ isSubtype_stop ?_);exact QO (hQ _ hk)
abbrev zH1(b1:Bool)(h:Heap)(l1:Addr):Heap:=h.push {cls:=.type (siT b1),data:=.fields #[.ref l1,.int 0 0]}
abbrev zH2(b1 b2:Bool)(h:Heap)(l1 l2:Addr):Heap:=(zH1 b1 h l1).push {cls:=.type (siT b2),data:=.fields #[.ref l2,.int 0 0]}
abbrev zH3(b1 b2:Bool)(h:Heap)(l1 l2:Addr):Heap:=(zH2 b1 b2 h l1 l2).push {cls:=.type "tuple",data:=.seq #[.ref h.objs.size,.ref (zH1 b1 h l1).objs.size]}
abbrev zH4(b1 b2:Bool)(h:Heap)(l1 l2:Addr):Heap:=(zH3 b1 b2 h l1 l2).push {cls:=.type "tuple",data:=.seq #[.none,.none]}
abbrev zH5(b1 b2:Bool)(h:Heap)(l1 l2:Addr):Heap:=(zH4 b1 b2 h l1 l2).push {cls:=.type "zip",data:=.fields #[.none,.bool false,.bool false,.ref (zH2 b1 b2 h l1 l2).objs.size,.ref (zH3 b1 b2 h l1 l2).objs.size]}
theorem Lx{b1 b2:Bool}(l1 l2:Addr)(xs ys:Array Value):
  Meets (Builtin.«zip.__new__» ⟨[.type "zip",.ref l1,.ref l2],[]⟩) (fun J R s=>Sq b1 s.heap l1 xs/\Sq b2 s.heap l2 ys/\
   R (.ok (.ret (.ref (zH4 b1 b2 s.heap l1 l2).objs.size))) {s with heap:=zH5 b1 b2 s.heap l1 l2}):=
 .of_wp fun prog w A R s h=>by
  obtain⟨hp,g,d,tk,os⟩:=s;obtain⟨hl1,hl2,h⟩:=h;have hsub:=sub_zip;have hL1:Sq b1 (Shared.heap ⟨hp,g,d,tk,os⟩) l1 xs:=hl1;have hL2:Sq b2 (Shared.heap ⟨hp.push {cls:=.type (siT b1),data:=.fields #[.ref l1,.int 0 0]},g,d,tk,os⟩) l2 ys:=hl2.at fun o e=>Heap.get?_push_of_some _ e;wp_walk using Xs hL1,Xs hL2
  exact⟨_,rfl,h⟩
theorem Pf{b1 b2:Bool}{l1 l2:Addr}{xs ys:Array Value}{Q:Value->Shared->Prop}(hl1:Sq b1 s.heap l1 xs)(hl2:Sq b2 s.heap l2 ys)
  (h:∀h',IsZip h' (s.heap.objs.size+4) (s.heap.objs.size+2) (s.heap.objs.size+3) .none->IsPair h' (s.heap.objs.size+2) (.ref s.heap.objs.size) (.ref (s.heap.objs.size+1))->
   IsPair h' (s.heap.objs.size+3) .none .none->SIt b1 h' s.heap.objs.size l1 0->SIt b2 h' (s.heap.objs.size+1) l2 0->
   (∀c o,s.heap.get? c=some o->h'.get? c=some o)->Q (.ref (s.heap.objs.size+4)) {s with heap:=h'}):
  wpAny (model prog w) A (call (.type "zip") [.ref l1,.ref l2]) Q E s:=by
 refine callType_new F.called_zip (by decide) (F.typeCall_zip_2 _ _) (F.newCall_zip_2 _ _) (fun obj=>F.args_object_init_3 obj _ _) F.entry_zip_new
  (Lx (b1:=b1) (b2:=b2) l1 l2 xs ys) ⟨hl1,hl2,?_⟩
 have z1:(zH1 b1 s.heap l1).objs.size=s.heap.objs.size+1:=Heap.size_push ..;have z2:(zH2 b1 b2 s.heap l1 l2).objs.size=s.heap.objs.size+2:=by rw[Heap.size_push,z1]
 have z3:(zH3 b1 b2 s.heap l1 l2).objs.size=s.heap.objs.size+3:=by rw[Heap.size_push,z2]
 have z4:(zH4 b1 b2 s.heap l1 l2).objs.size=s.heap.objs.size+4:=by rw[Heap.size_push,z3]
 have g5:(zH5 b1 b2 s.heap l1 l2).get? (zH4 b1 b2 s.heap l1 l2).objs.size=some _:=Heap.get?_push_size _ rfl;have g4:(zH5 b1 b2 s.heap l1 l2).get? (zH3 b1 b2 s.heap l1 l2).objs.size=some _:=Heap.get?_push_of_some _ (Heap.get?_push_size _ rfl);have g3:(zH5 b1 b2 s.heap l1 l2).get? (zH2 b1 b2 s.heap l1 l2).objs.size=some _:=Heap.get?_push_of_some _ (Heap.get?_push_of_some _ (Heap.get?_push_size _ rfl));have g2:(zH5 b1 b2 s.heap l1 l2).get? (zH1 b1 s.heap l1).objs.size=some _:=Heap.get?_push_of_some _ (Heap.get?_push_of_some _ (Heap.get?_push_of_some _ (Heap.get?_push_size _ rfl)));have g1:(zH5 b1 b2 s.heap l1 l2).get? s.heap.objs.size=some _:=Heap.get?_push_of_some _ (Heap.get?_push_of_some _ (Heap.get?_push_of_some _ (Heap.get?_push_of_some _ (Heap.get?_push_size _ rfl))));show _/\_;rw[z2,z3,z4]at g5;rw[z1,z2]at g3;rw[z3]at g4;rw[z1]at g2;rw[z4];exact⟨⟨_,g5,rfl⟩,h _ g5 g3 g4 ⟨_,g1,rfl,rfl⟩ ⟨_,g2,rfl,rfl⟩ fun c o x=>
  Heap.get?_push_of_some _ (Heap.get?_push_of_some _ (Heap.get?_push_of_some _ (Heap.get?_push_of_some _ (Heap.get?_push_of_some _ x))))⟩
theorem Draws.tup(hh:A.handled=none)(it l:Addr)(hne:l≠it)(items:Array Value):
  Draws prog w A it [it,l] items.size (fun i v=>items[i]? =some v) (fun i h=>h.IsTupleIter it l i/\h.IsTuple l items)where
 live:=fun J J st=>let⟨o,ho,_⟩:=st.1;⟨o,ho⟩
 frame:=fun J J J st hk=>⟨st.1.at fun o e=>hk it (by simp) o e,st.2.at fun o e=>hk l (by simp) o e⟩
 item:=fun i s Q E hi st hQ=>by
  refine J3 st.1 st.2 (x:=items[i]) (by simp[hi]) fun h' hit' hs'=>?_;exact hQ _ h' s.toks (by simp[hi]) ⟨hit',st.2.extBut hs'.extBut hne⟩ hs'
 done:=fun s Q E st hE=>Jk hh st.1 st.2 (by simp) hE
set_option tactic.hygienic true in
theorem Hl(l:Addr)(items:Array Value)(n:Nat):
  Meets (Builtin.«enumerate.__new__» ⟨[.type "enumerate",.ref l],[]⟩) (fun J R s=>s.heap.get? l=some {cls:=.type "tuple",dict:=none,data:=.seq items n,slots:=#[]}/\
   R (.ok (.ret (.ref (s.heap.push {cls:=.type "tuple_iterator",data:=.fields #[.ref l,.int 0 0]}).objs.size)))
    {s with heap:=(s.heap.push {cls:=.type "tuple_iterator",data:=.fields #[.ref l,.int 0 0]}).push {cls:=.type "enumerate",data:=.fields #[.none,.bool false,.ref s.heap.objs.size,rawInt 0,.none,.none]}}):=
 .of_wp fun prog w A R s h=>by
  obtain⟨hp,g,d,tk,os⟩:=s;obtain⟨hl,h⟩:=h;have hsub:=sub_enumerate;have hL:Heap.IsTuple (Shared.heap ⟨hp,g,d,tk,os⟩) l items:=⟨_,hl,rfl,n,rfl⟩;wp_walk using AutoSeq1.wpAny_loadPart' hl
  refine wpAny_stack_any fun st=>QO ?_;split
  ·rename_i c _ _ _ _ _
   cases (c==Value.type "enumerate")
   ·wp_walk using AutoSeq1.wpAny_loadPart' hl,wpAny_pyIter_tuple hL
    exact⟨_,rfl,h⟩
   ·wp_walk using AutoSeq1.wpAny_loadPart' hl,wpAny_pyIter_tuple hL
    exact⟨_,rfl,h⟩
  ·wp_walk using AutoSeq1.wpAny_loadPart' hl,wpAny_pyIter_tuple hL
   exact⟨_,rfl,h⟩
theorem Ma{l:Addr}{items:Array Value}{n:Nat}{Q:Value->Shared->Prop}
  (hl:s.heap.get? l=some {cls:=.type "tuple",dict:=none,data:=.seq items n,slots:=#[]})
  (h:∀h',IsEnum h' (s.heap.objs.size+1) s.heap.objs.size 0 .none->h'.IsTupleIter s.heap.objs.size l 0->
   (∀b o,s.heap.get? b=some o->h'.get? b=some o)->Q (.ref (s.heap.objs.size+1)) {s with heap:=h'}):
  wpAny (model prog w) A (call (.type "enumerate") [.ref l]) Q E s:=by
 refine callType_new F.called_enumerate (by decide) (F.typeCall_enumerate_1 _) (F.newCall_enumerate_1 _) (fun obj=>F.args_object_init_2 obj _) F.entry_enumerate_new
  (Hl l items n) ⟨hl,?_⟩
 have hz:(s.heap.push {cls:=.type "tuple_iterator",data:=.fields #[.ref l,.int 0 0]}).objs.size=s.heap.objs.size+1:=Heap.size_push ..;show _/\_;rw[hz];have he:IsEnum ((s.heap.push {cls:=.type "tuple_iterator",data:=.fields #[.ref l,.int 0 0]}).push
   {cls:=.type "enumerate",data:=.fields #[.none,.bool false,.ref s.heap.objs.size,rawInt 0,.none,.none]}) (s.heap.objs.size+1) s.heap.objs.size 0 .none:=by
  have:=Heap.get?_push_size (s.heap.push {cls:=.type "tuple_iterator",data:=.fields #[.ref l,.int 0 0]})
   (o:={cls:=.type "enumerate",data:=.fields #[.none,.bool false,.ref s.heap.objs.size,rawInt 0,.none,.none]}) rfl
  rw[hz]at this;exact this
 refine⟨⟨_,he,rfl⟩,h _ he ⟨_,Heap.get?_push_of_some _ (Heap.get?_push_size _ rfl),rfl,rfl⟩ fun b o x=>Heap.get?_push_of_some _ (Heap.get?_push_of_some _ x)⟩
theorem U3{target:Expr}{it:Addr}{x L1 step:Int}{v:Value}{Q:Unit->Shared->Prop}(hit:IsRangeIter s.heap it x L1 step)(h:Q () s):wpAny M A (letOwnedTupleGo target (.ref it) v) Q E s:=by
 unfold letOwnedTupleGo;cases target<;>first
  |exact QO h
  |(cases v<;>first
    |exact QO h
    |(refine QN (wpAny_load hit ?_);exact QO h))
theorem Ut{l:Addr}{items:Array Value}{n:Nat}{k:Int}{t:Tok}{v:Value}{Q:Unit->Shared->Prop}(hl:IsL s.heap l items n)
  (h0:0<=k) (hfit:k<2^63) (hn:k<items.size) (hQ:Q () {s with heap:=s.heap.update l (Obj.mapSeq (·.setIfInBounds k.toNat v))}):wpAny (model prog w) A (setItem (.ref l) (.int k t) v) Q E s:=by
 have hL:s.heap.IsList l items:=⟨_,hl,rfl,n,rfl⟩;unfold setItem;try with_reducible refine wpAny_holding ?_
 first|refine QN (QO ?_)|skip
 refine QN (wpAny_sequenceKey hL.typeIs (by decide) ?_);refine QN (wpAny_callSpecial?_slot (name:=Str.ofString "__setitem__") hL.typeIs slot_list_setitem
  (wpAny_call_entry slot_list_setitem hL.typeIs entry_list_setitem ?_ (args_list_setitem _ _ _)))
 show wpAny _ _ (Builtin.List.listSubscript? (.int k t)>>=_) _ _ s;refine QN (wpAny_listSubscript_int (fitsIndex_of h0 hfit) ?_);clear hfit;obtain⟨j,rfl⟩:=Int.eq_ofNat_of_zero_le h0;have hj:j<items.size:=by omega
 have hx':items[j]? =some items[j]:=Array.getElem?_eq_getElem hj;show wpAny _ _ ((seqItemAt l j>>=fun r=>pure (r.map (j,·)))>>=_) _ _ s;refine QN (QN (wpAny_seqItemAt hl rfl (QO ?_)));rw[hx'];show wpAny _ _ (setSeqItemAt l j v>>=_) _ _ s;refine QN (wpAny_setSeqItemAt hl rfl ?_);first
  |exact QN (QO (QO ⟨.none,rfl,QO hQ⟩))
  |exact QO ⟨.none,rfl,QO hQ⟩
end
end
section
variable{C:Cx}{P:Par}{gT:Nat->Option HV}{env:Env}{nm:Nms}{A:Around}{O:Nat->Addr}{S S' S1:St}{s:Shared}{D f:Nat}{ev:HE->St->R HV}
noncomputable def kb(b:Bool):Nat:=match b with|true=>1|false=>0
noncomputable def sqO(b:Bool)(l:List HV):HO:=match b with|true=>.tup l|false=>.list l
theorem Stt.sq(Z:Stt C env O S s){b:Bool}{j:Nat}{l:List HV}(h:S.get j=some (sqO b l)):∃items,Sq b s.heap (O j) items/\F2 (VR C O S.n) l items.toList:=by
 cases b with
 |true=>obtain⟨items,n,h1,h2,_,_⟩:=Z.uF h;exact⟨items,⟨_,h1,rfl,n,rfl⟩,h2⟩
 |false=>obtain⟨items,n,h1,h2,_,_⟩:=Z.list h;exact⟨items,⟨_,h1,rfl,n,rfl⟩,h2⟩
theorem Jf{b:Bool}{i j:Nat}{x:Option HV}(h:Ll S (kb b) i (.obj j)=some x):∃l,S.get j=some (sqO b l)/\x=nth l i:=by
 obtain⟨o,h1,h2⟩:=Qn h;revert h2;refine Q3 (fun l e h2=>?_) (Zx (fun l e h2=>?_) (Ji (fun l e h2=>?_) Qh))<;>subst e<;>obtain⟨h3,h4⟩:=Qj h2
 ·cases b
  ·exact⟨l,h1,(Option.some.inj h4).symm⟩
  ·exact Zw (Z5 h3) rfl
 ·cases b
  ·exact Zw (Z5 h3) rfl
  ·exact⟨l,h1,(Option.some.inj h4).symm⟩
 ·cases b<;>exact Zw (Z5 h3) rfl
theorem Vz{i j:Nat}{x:Option HV}(h:Ll S 2 i (.obj j)=some x):∃es,S.get j=some (.dict es)/\x=xQi es i:=by
 obtain⟨o,h1,h2⟩:=Qn h;revert h2;refine Q3 (fun l e h2=>Qh h2) (Zx (fun l e h2=>Qh h2) (Ji (fun l e h2=>?_) Qh));subst e;exact⟨l,h1,(Option.some.inj (Qj h2).2).symm⟩
theorem nth_none{l:List HV}{items:Array Value}{i n:Nat}(h:F2 (VR C O n) l items.toList)(e:nth l i=none):items[i]? =none:=by
 have:=h.nth_none e;exact Array.getElem?_eq_none (by simpa using this)
theorem Uz{x:Option HV}{y:Option (List HV)}(h:one1 x=y):(x=none/\y=none)∨∃v,x=some v/\y=some [v]:=by
 cases x with
 |none=>exact .inl ⟨rfl,h.symm⟩
 |some v=>exact .inr ⟨v,rfl,h.symm⟩
theorem Kl{a:Addr}{s:Shared}{h':Heap}(x:Heap.ExtBut a s.heap h')(tk:Nat):Px [a] s {s with heap:=h',toks:=tk}:=⟨fun b o n e=>x b o (nin n in0) e,rfl,rfl⟩
noncomputable def zZq(C:Cx)(b:Bool)(j:Nat)(a:Addr):Itr C 0 [.obj j] (kb b) (.ref a)where
 hid:=[a]
 B i O n h:=SIt b h a (O j) i/\j<n
 bst:=fun⟨h1,h2⟩ hh aF hn=>⟨by rw[aF j h2];exact h1.at fun o e=>by rw[hh a in0];exact e,QF h2 hn⟩
 self:=fun J hB J q=>Hb hB.1 q
 stop:=fun{i O S s D A env E Q} H hB Z hA ht q=>by
  obtain⟨x,h1,h2⟩:=Qn ht;injection h2 with h2;obtain⟨l,h3,rfl⟩:=Jf h1;rcases Uz h2 with⟨h4,_⟩|⟨v,_,h5⟩
  ·obtain⟨items,h6,h7⟩:=Z.sq h3
   exact Ux hA.handled hB.1 h6 (nth_none h7 h4) fun h' x=>q _ (Kl x s.toks)
  ·cases h5
 item:=fun{i O S s D A env xs E Q} H hB Z hA ht q=>by
  obtain⟨x,h1,h2⟩:=Qn ht;injection h2 with h2;obtain⟨l,h3,rfl⟩:=Jf h1;rcases Uz h2 with⟨_,h4⟩|⟨v,h4,h5⟩
  ·cases h4
  ·cases h5
   obtain⟨items,h6,h7⟩:=Z.sq h3;obtain⟨v',h8,h9⟩:=h7.nth h4;refine Vl hB.1 h6 (by simpa using h8) fun h' hit hs=>q v' _ (Kl hs.extBut s.toks) fun tgt E' Q' J k=>qQh hit (k _ ⟨fun J J J e=>e,rfl,rfl⟩ h9 (fc (Exists.imp (fun J h=>h.1) hit) fn0) ⟨hit,hB.2⟩)
theorem Stt.dictAt(Z:Stt C env O S s){j:Nat}{es:List (Nat × HV)}(h:C.T0.get j=some (.dict es)):
  ∃kvs,s.heap.DictAt (PySem.strKind C.prog C.w) (O j) kvs (C.epA j)/\F2 (fun p kv=>kv.1=tx p.1/\VR C O S.n p.2 kv.2) es kvs:=by
 obtain⟨kvs,ep,h1,h2,_,_⟩:=Z.dict (Z.hr.frz j _ h);obtain⟨ens,he⟩:=Z.hr.ep j _ h;obtain⟨o,es',ho,hx,hd,r⟩:=h1;rw[he]at ho;cases ho;have hd':Data.dict ens (C.epA j)=Data.dict es' ep:=hd;injection hd' with e1 e2;subst e1 e2;exact⟨kvs,⟨_,_,he,hx,rfl,r⟩,h2⟩
noncomputable def zQs(C:Cx)(j:Nat)(es:List (Nat × HV))(hj:C.T0.get j=some (.dict es))(a:Addr):Itr C 0 [.obj j] 2 (.ref a)where
 hid:=[a]
 B i O n h:=h.IsKeyIter a (O j) i es.length (C.epA j)/\j<n
 bst:=fun⟨h1,h2⟩ hh aF hn=>⟨by rw[aF j h2];exact h1.at fun o e=>by rw[hh a in0];exact e,QF h2 hn⟩
 self:=fun J hB J q=>wpAny_pyIter_keyiter hB.1 q
 stop:=fun{i O S s D A env E Q} H hB Z hA ht q=>by
  obtain⟨x,h1,h2⟩:=Qn ht;injection h2 with h2;obtain⟨es',h3,rfl⟩:=Vz h1;have h4:=Z.hr.frz j _ hj;rw[h3]at h4;cases h4;rcases Uz h2 with⟨h4,_⟩|⟨v,_,h5⟩
  ·obtain⟨kvs,h6,h7⟩:=Z.dictAt hj
   have hl:=h7.length;have hit:=hB.1;rw[hl]at hit;have hn:nth es i=none:=by
    cases hq:nth es i with
    |none=>rfl
    |some p=>
     have h4:ob (nth es i) (fun p=>some (HV.str p.1))=none:=h4;rw[hq]at h4;cases h4
   exact wpAny_pyNext_dict_end hA.handled hit h6 (List.getElem?_eq_none (h7.nth_none hn)) fun h' x=>q _ (Kl x s.toks)
  ·cases h5
 item:=fun{i O S s D A env xs E Q} H hB Z hA ht q=>by
  obtain⟨x,h1,h2⟩:=Qn ht;injection h2 with h2;obtain⟨es',h3,rfl⟩:=Vz h1;have h4:=Z.hr.frz j _ hj;rw[h3]at h4;cases h4;rcases Uz h2 with⟨_,h4⟩|⟨v,h4,h5⟩
  ·cases h4
  ·cases h5
   obtain⟨kvs,h6,h7⟩:=Z.dictAt hj;have hl:=h7.length;have hit:=hB.1;rw[hl]at hit;obtain⟨p,hp,he⟩:=Qn h4;cases he;obtain⟨kv,h8,h9,_⟩:=h7.nth hp;refine wpAny_pyNext_dict_item (k:=kv.1) (v:=kv.2) hit h6 (by simpa using h8) fun key h' hkey hit' hs=>q key _ (Kl hs.extBut s.toks) fun tgt E' Q' J k=>letGo_keyiter hit' (k _ ⟨fun J J J e=>e,rfl,rfl⟩ ?_ (fc (Exists.imp (fun J h=>h.1) hit') fn0) ⟨by rw[hl];exact hit',hB.2⟩)
   ·obtain⟨t,ht'⟩:=Value.isStrOf_shape hkey
    exact⟨t,by rw[ht',h9]⟩
noncomputable def zZw(C:Cx)(n:Nat)(hn:n<=1000)(n0:Nat)(a:Addr):Itr C 1 [.int (.ofNat n)] n0 (.ref a)where
 hid:=[a]
 B i _ _ h:=i<=n/\IsRangeIter h a (i:Int) ((n:Int)-(i:Int)) 1
 bst:=fun h1 hh J J=>⟨h1.1,by have:=h1.2;unfold IsRangeIter at this⊢;rw[hh a in0];exact this⟩
 self:=fun J hB J q=>wpAny_pyIter_rangeiter hB.2 q
 stop:=fun{i O S s D A env E Q} H hB Z hA ht q=>by
  have ht:some (Qs (Nat.ble (i+1) n) (some [HV.int (.ofNat i)]))=some none:=ht;have hle:¬i+1<=n:=fun h=>by rw[Nat.ble_eq_true_of_le h]at ht;cases ht
  exact wpAny_pyNext_range_end hA.handled hB.2 (by omega) fun h' x=>q _ (Kl x s.toks)
 item:=fun{i O S s D A env xs E Q} H hB Z hA ht q=>by
  have ht:some (Qs (Nat.ble (i+1) n) (some [HV.int (.ofNat i)]))=some (some xs):=ht;injection ht with ht;obtain⟨h1,h2⟩:=Qj ht;cases h2;have hle:=QE h1;refine wpAny_pyNext_range_item hB.2 (by omega) fun h' hit hs=>q _ _ (Kl hs.extBut _) fun tgt E' Q' J k=>U3 hit (k _ ⟨fun J J J e=>e,rfl,rfl⟩ ⟨_,rfl⟩ (fc ⟨_,hit⟩ fn0) ⟨hle,?_⟩)
  ·have e1:(((i+1:Nat)):Int)=(i:Int)+1:=by push_cast;rfl
   have e2:(n:Int)-((i+1:Nat):Int)=(n:Int)-(i:Int)-1:=by push_cast;omega
   rw[e1,<-e1,e2,e1];exact hit
theorem Lc{m l1 l2:Addr}(h1:l1∉[m+4,m+2,m+3,m,m+1])(h2:l2∉[m+4,m+2,m+3,m,m+1]):ZipApart (m+4) (m+2) (m+3) m (m+1) l1 l2:=by
 have ne:∀{x y:Nat},x≠y->m+x≠m+y:=fun h e=>h (Nat.add_left_cancel e);have ne0:∀{x:Nat},x≠0->m+x≠m:=fun h e=>h (Nat.add_left_cancel (n:=m) e);exact⟨ne (by decide),ne (by decide),(ne0 (by decide)).symm,ne (by decide),ne (by decide),ne0 (by decide),ne (by decide),ne0 (by decide),ne (by decide),(ne0 (by decide)).symm,nin h1 in0,nin h1 in2,nin h1 in3,nin h1 in4,nin h2 in0,nin h2 in2,nin h2 in3,nin h2 in4⟩
theorem Wt{x y:Option HV}(h:xZ7 x y=none):x=none∨y=none:=by
 cases x with
 |none=>exact .inl rfl
 |some a=>cases y with
  |none=>exact .inr rfl
  |some b=>cases h
theorem kb4(b c:Bool):(kb b*4+kb c)/4=kb b/\(kb b*4+kb c)%4=kb c:=by cases b<;>cases c<;>exact⟨rfl,rfl⟩
noncomputable def zZc(C:Cx)(b c:Bool)(j k:Nat)(m:Addr):Itr C 2 [.obj j,.obj k] (kb b*4+kb c) (.ref (m+4))where
 hid:=[m+4,m+2,m+3,m,m+1]
 B i O n h:=IsZip h (m+4) (m+2) (m+3) .none/\IsPair h (m+2) (.ref m) (.ref (m+1))/\(∃x y,IsPair h (m+3) x y)/\SIt b h m (O j) i/\SIt c h (m+1) (O k) i/\j<n/\k<n
 bst:=fun⟨h1,h2,⟨x,y,h3⟩,h4,h5,h6,h7⟩ hh aF hn=>by
  refine⟨?_,?_,⟨x,y,?_⟩,?_,?_,QF h6 hn,QF h7 hn⟩
  ·exact(hh _ in0).trans h1
  ·exact(hh _ in1).trans h2
  ·exact(hh _ in2).trans h3
  ·rw[aF j h6];exact h4.at fun o e=>(hh _ in3).trans e
  ·rw[aF k h7];exact h5.at fun o e=>(hh _ in4).trans e
 self:=fun J hB J q=>wpAny_pyIter_zip hB.1 q
 stop:=fun{i O S s D A env E Q} H hB Z hA ht q=>by
  obtain⟨x,h1,ht⟩:=Qn ht;obtain⟨y,h2,ht⟩:=Qn ht;injection ht with ht;rw[(kb4 b c).1]at h1;rw[(kb4 b c).2]at h2;obtain⟨l,h3,rfl⟩:=Jf h1;obtain⟨l',h3',rfl⟩:=Jf h2;obtain⟨items,h6,h7⟩:=Z.sq h3;obtain⟨items',h6',h7'⟩:=Z.sq h3';obtain⟨z1,z2,⟨x,y,z3⟩,z4,z5,_,_⟩:=hB;have D:=Lc (m:=m) (fun hm=>(H _ hm).2.2 j (by rw[h3];rfl) rfl) (fun hm=>(H _ hm).2.2 k (by rw[h3'];rfl) rfl);refine Xr hA.handled D z1 z2 z3 z4 z5 h6 h6' ((Wt ht).imp (nth_none h7) (nth_none h7')) fun h' x=>q _ ⟨fun a o n e=>?_,rfl,rfl⟩;exact x a o (nin n in0) (nin n in2) (nin n in3) (nin n in4) e
 item:=fun{i O S s D A env xs E Q} H hB Z hA ht q=>by
  obtain⟨x,h1,ht⟩:=Qn ht;obtain⟨y,h2,ht⟩:=Qn ht;injection ht with ht;rw[(kb4 b c).1]at h1;rw[(kb4 b c).2]at h2;obtain⟨l,h3,rfl⟩:=Jf h1;obtain⟨l',h3',rfl⟩:=Jf h2;obtain⟨items,h6,h7⟩:=Z.sq h3;obtain⟨items',h6',h7'⟩:=Z.sq h3';obtain⟨z1,z2,⟨u,w,z3⟩,z4,z5,z6,z7⟩:=hB;have hO1:O j∉[m+4,m+2,m+3,m,m+1]:=fun hm=>(H _ hm).2.2 j (by rw[h3];rfl) rfl;have hO2:O k∉[m+4,m+2,m+3,m,m+1]:=fun hm=>(H _ hm).2.2 k (by rw[h3'];rfl) rfl;have D:=Lc hO1 hO2;obtain⟨a,e,hx,hy,rfl⟩:=Uo ht;obtain⟨va,h8,h9⟩:=h7.nth hx;obtain⟨vb,h8',h9'⟩:=h7'.nth hy;have lt:∀{c o},s.heap.get? c=some o->s.heap.objs.size≠c:=fun e=>Nat.ne_of_gt (QH e);refine K5 D z1 z2 z3 z4 z5 h6 h6' (by simpa using h8) (by simpa using h8') fun h' y1 y2 y3 y4 y5 y6=>q _ _ ⟨fun a o n e=>?_,rfl,rfl⟩ fun tgt E' Q' hp kk=>?_
  ·exact y6 a o (nin n in0) (nin n in2) (nin n in3) (nin n in4) e
  ·obtain⟨el,c',p,rfl⟩:=hp (.inl rfl)
   refine wpAny_letOwnedTupleGo_zip y1 fun h'' hz' hs'=>?_;have zt:s.heap.objs.size≠m+4:=lt z1;have hTI:IsPair h' (m+2) (.ref m) (.ref (m+1)):=y6 _ _ D.TIz D.TITO D.TIi1 D.TIi2 z2;have hTI':IsPair h'' (m+2) (.ref m) (.ref (m+1)):=hs'.extBut _ _ D.TIz hTI;have hTO':IsPair h'' (m+3) va vb:=hs'.extBut _ _ D.TOz y2;have hi1:SIt b h'' m (O j) (i+1):=y3.extBut hs'.extBut D.i1z;have hi2:SIt c h'' (m+1) (O k) (i+1):=y4.extBut hs'.extBut D.i2z;refine kk _ ⟨fun a o n e=>(hs'.2 a (nin n in0)).trans e,rfl,rfl⟩ ⟨_,va,vb,rfl,⟨_,hs'.extBut _ _ zt y5,rfl,_,rfl⟩,h9,h9'⟩ (fc ⟨_,hz'⟩ (fc ⟨_,hTI'⟩ (fc ⟨_,hTO'⟩ (fc (Exists.imp (fun J h=>h.1) hi1) (fc (Exists.imp (fun J h=>h.1) hi2) fn0))))) ⟨hz',hTI',⟨_,_,hTO'⟩,hi1,hi2,z6,z7⟩
noncomputable def zQq(C:Cx)(j:Nat)(m:Addr):Itr C 3 [.obj j] 1 (.ref (m+1))where
 hid:=[m+1,m]
 B i O n h:=(∃old,IsEnum h (m+1) m i old)/\h.IsTupleIter m (O j) i/\j<n
 bst:=fun⟨⟨x,h1⟩,h2,h3⟩ hh aF hn=>by
  refine⟨⟨x,?_⟩,?_,QF h3 hn⟩
  ·exact(hh _ in0).trans h1
  ·rw[aF j h3];obtain⟨o,ho,r⟩:=h2;exact⟨o,(hh _ in1).trans ho,r⟩
 self:=fun J hB J q=>wpAny_pyIter_enum hB.1.choose_spec q
 stop:=fun{i O S s D A env E Q} H hB Z hA ht q=>by
  obtain⟨x,h1,ht⟩:=Qn ht;injection ht with ht;obtain⟨l,h3,rfl⟩:=Jf (b:=true) h1;obtain⟨items,h6,h7⟩:=Z.sq h3;obtain⟨⟨old,z1⟩,z2,_⟩:=hB;have hn:nth l i=none:=(Wt ht).elim (fun e=>by cases e) id;have hne:O j≠m:=fun e=>(H m in1).2.2 j (by rw[h3];rfl) e;have hle:=h7.nth_none hn;have hi:items[i]? =none:=nth_none h7 hn;have D':Draws C.prog C.w A.in1 m [m,O j] i (fun J J=>True) (fun i' h=>i'=i/\h.IsTupleIter m (O j) i'/\h.IsTuple (O j) items):=
   ⟨fun J J st=>let⟨o,ho,_⟩:=st.2.1;⟨o,ho⟩,fun J J J st hk=>⟨st.1,(let⟨o,ho,r⟩:=st.2.1;⟨o,hk m in0 o ho,r⟩),(let⟨o,ho,r⟩:=st.2.2;⟨o,hk (O j) in1 o ho,r⟩)⟩,
    fun i' s' Q' E' hi' st' k=>absurd hi' (by rw[st'.1];exact QM _),fun s' Q' E' st' k=>Jk hA.handled st'.2.1 st'.2.2 hi k⟩
  exact wpAny_pyNext_enum_endD D' z1 ⟨rfl,z2,h6⟩ fun h' x=>q _ ⟨fun a o n e=>x a o (nin n in1) e,rfl,rfl⟩
 item:=fun{i O S s D A env xs E Q} H hB Z hA ht q=>by
  obtain⟨x,h1,ht⟩:=Qn ht;injection ht with ht;obtain⟨l,h3,rfl⟩:=Jf (b:=true) h1;obtain⟨items,h6,h7⟩:=Z.sq h3;obtain⟨⟨old,z1⟩,z2,z3⟩:=hB;obtain⟨a,e,hx,hy,rfl⟩:=Uo ht;cases hx;obtain⟨va,h8,h9⟩:=h7.nth hy;have hne:O j≠m:=fun e=>(H m in1).2.2 j (by rw[h3];rfl) e;have hne1:O j≠m+1:=fun e=>(H (m+1) in0).2.2 j (by rw[h3];rfl) e;have h8':items[i]? =some va:=by simpa using h8
  have hlt:i<items.size:=(Array.getElem?_eq_some_iff.mp h8').1;have D:=Draws.tup (prog:=C.prog) (w:=C.w) (A:=A.in1) hA.handled m (O j) hne items;refine wpAny_pyNext_enum_itemD D z1 ⟨z2,h6⟩ hlt (Nat.succ_ne_self m) (fun h=>(QR h).elim (Nat.succ_ne_self m) fun h=>hne1.symm (List.mem_singleton.mp h)) fun x h' tk y1 y2 y3 y4 y5 y6=>q _ _ ⟨fun a o n e=>?_,rfl,rfl⟩ fun tgt E' Q' hp kk=>?_
  ·exact y6 a o (nin n in0) (nin n in1) e
  ·obtain⟨el,c',p,rfl⟩:=hp (.inr rfl)
   have hx:x=va:=by have y1:items[i]? =some x:=y1;rw[h8']at y1;injection y1 with y1;exact y1.symm
   subst hx;refine wpAny_letOwnedTupleGo_enum y2 fun h'' hz' hs'=>?_;have ht':h''.IsTupleIter m (O j) (i+1):=by obtain⟨o,ho,r⟩:=y3.1;exact⟨o,(hs'.2 _ (Nat.succ_ne_self m).symm).trans ho,r⟩
   have zt:s.heap.objs.size≠m+1:=Nat.ne_of_gt (QH z1);refine kk _ ⟨fun a o n e=>(hs'.2 a (nin n in0)).trans e,rfl,rfl⟩ ⟨_,.int i tk,x,rfl,⟨_,(hs'.2 _ zt).trans y4,rfl,_,rfl⟩,⟨tk,rfl⟩,h9⟩ (fc ⟨_,hz'⟩ (fc (Exists.imp (fun J h=>h.1) ht') fn0)) ⟨⟨_,by have:=hz';simpa using this⟩,ht',z3⟩
theorem X5{x:String}(hx:x∈["range","zip","enumerate"])(K:Q6 C P gT)(hE:SE C gT ev D)(hA:AOk D A)(ho:Qm env nm)(Z:Stt C env O S s){l:List HE}{xl:List Expr}{p pos:Pos}{vs:List HV}
  (hg:zQ8 (nm.lookup (Str.ofString x))=true) (hn:xl.all Zd=true) (hl:Q9 (Qq gT f nm) l xl=true) (h:evs ev l S=.ok vs S1) {E:Value->Shared->Prop} {Q:Value->Shared->Prop}
  (hc:∀O1 sA vals,Ext C (Wd env .no) O S s O1 S1 sA->Stt C env O1 S1 sA->F2 (VR C O1 S1.n) vs vals->wpC (model C.prog C.w) A (call (.type x) vals) Q E sA):
  wpC (model C.prog C.w) A (eval (.Call (.Name (Str.ofString x) p) xl [] pos) env) Q E s:=by
 obtain⟨mg,mb,h1,h2,_,h3⟩:=K.glob;obtain⟨h4,h5⟩:=h3 x hx;have hk:nm.lookup (Str.ofString x)=some .globalImplicit:=by
  unfold zQ8 at hg;split at hg
  ·assumption
  ·cases hg
 have hd:(Str.ofString x==("__debug__":Str))=false:=by
  simp only[List.mem_cons,List.not_mem_nil,or_false]at hx;rcases hx with rfl|rfl|rfl<;>decide
 have g1:s.heap.Ns env.globals mg:=by rw[ho.glob];exact h1.keeps Z.old
 have g2:s.heap.Ns env.builtins mb:=by rw[ho.blt];exact h2.keeps Z.old
 rw[arm_eval_Call_Name'];refine Qa (Qe (Name_function_global ho.kind ((ho.kindOf _).trans hk) (loadGlobal_builtin g1 h4 g2 h5 ?_) hd));show wpC _ _ (callWith pos (.type x) [] (backTo pos (starEach xl env)) []) _ _ _;exact Vg (P:=fun h=>∀b o,C.h0.get? b=some o->h.get? b=some o) (qJj hn) (fun h' J=>Dk h') (Vb (W0 hn) ((Kg hE ho hA pos l xl O S s vs S1 hl hn Z h).use fun us O1 sA XC ZC hv=>⟨ZC.old,hc O1 sA us XC ZC hv⟩))
theorem optO{x:Option HO}{g:HO->Bool}(h:Option.rec (motive:=fun J=>Bool) false g x=true):∃o,x=some o/\g o=true:=by
 cases x with
 |none=>exact Qg h
 |some o=>exact⟨o,rfl,h⟩
theorem Ds{g:HO->Bool}{v:HV}:isO g S v=true->∃j o,v=.obj j/\S.get j=some o/\g o=true:=Qv (fun j e h=>let⟨o,h1,h2⟩:=optO h;⟨j,o,e,h1,h2⟩) Qg
theorem xQv{v:HV}:isK P S v=true->∃j o,v=.obj j/\S.get j=some o/\seqK (P.T0.get j).isSome o=true:=Qv (fun j e h=>let⟨o,h1,h2⟩:=optO h;⟨j,o,e,h1,h2⟩) Qg
theorem M9{o:HO}:zZp o=true->∃b l,o=sqO b l:=Q3 (fun l e J=>⟨false,l,e⟩) (Zx (fun l e J=>⟨true,l,e⟩) Qg)
theorem qQo{b:Bool}{j:Nat}{l:List HV}(h:S.get j=some (sqO b l)):kcV S (.obj j)=kb b:=by
 show Option.rec (motive:=fun J=>Nat) 3 kcO (S.get j)=_;rw[h];cases b<;>rfl
theorem qX8{j:Nat}{l:List (Nat × HV)}(h:S.get j=some (.dict l)):kcV S (.obj j)=2:=by
 show Option.rec (motive:=fun J=>Nat) 3 kcO (S.get j)=_;rw[h];rfl
theorem zQe{hid:List Addr}{h':Heap}(Z:Stt C env O S s)(hf:∀a∈hid,s.heap.get? a=none)(he:∀a∈hid,∃o,h'.get? a=some o):Hid hid env O S h':=fun a ha=>by
 refine⟨he a ha,fun w=>?_,fun j hj e=>?_⟩
 ·rcases w with w|⟨x,w⟩
  ·obtain⟨m,⟨o,_,_,ho,_⟩,_⟩:=Z.lr.loc
   rw[<-w,hf a ha]at ho;cases ho
  ·obtain⟨_,_,_,v,ov,hv,_⟩:=Z.lr.cell x _ w
   rw[hf a ha]at hv;cases hv
 ·obtain⟨o,ho⟩:=QD hj
  obtain⟨_,y,hy,_⟩:=Z.hr.live j o ho;rw[e,hf a ha]at hy;cases hy
theorem Bz{a:Addr}(h:s.heap.objs.size<=a):s.heap.get? a=none:=by
 cases e:s.heap.get? a with
 |none=>rfl
 |some o=>exact absurd (QH e) (QJ h)
theorem U7{e:HE}{S S':St}{vs:List HV}(h:evs ev [e] S=.ok vs S'):∃v,ev e S=.ok v S'/\vs=[v]:=by
 obtain⟨v,S1,h1,h2⟩:=Qb (x:=ev e S) h;obtain⟨vs',S2,h3,h4⟩:=Qb h2;cases h3;cases h4;exact⟨v,h1,rfl⟩
theorem zQo{d e:HE}{S S':St}{vs:List HV}(h:evs ev [d,e] S=.ok vs S'):∃v w,vs=[v,w]:=by
 obtain⟨v,S1,h1,h2⟩:=Qb (x:=ev d S) h;obtain⟨vs',S2,h3,h4⟩:=Qb h2;obtain⟨w,_,rfl⟩:=U7 h3;cases h4;exact⟨v,w,rfl⟩
theorem xQt{v:HV}:isN v=true->∃n:Nat,v=.int (.ofNat n)/\n<=1000:=Kq (fun n e h=>⟨n,e,QE h⟩) Qg
theorem Uy(K:Q6 C P gT)(hE:SE C gT ev D)(hA:AOk (D+3) A)(ho:Qm env nm)(Z:Stt C env O S s){k:Nat}{its:List HE}{x:Expr}{vs:List HV}(hk:kIt (Qq gT f nm) nm k its x=true)(h:evs ev its S=.ok vs S1)(hs:Ym P S1 k vs=true){E:Value->Shared->Prop}{Q:Value->Shared->Prop}
  (hq:∀it (T:Itr C k vs (Zs S1 vs) it) O1 s0 sA,Ext C (Wd env .no) O S s O1 S1 s0->Stt C env O1 S1 s0->(∀b o,s0.heap.get? b=some o->sA.heap.get? b=some o)->s0.heap.objs.size<=sA.heap.objs.size->sA.gens=s0.gens->sA.os=s0.os->
   (∀a∈T.hid,s0.heap.get? a=none)->Stt C env O1 S1 sA->Hid T.hid env O1 S1 sA.heap->T.B 0 O1 S1.n sA.heap->Q it sA):
  wpC (model C.prog C.w) A (eval x env) (fun xv s'=>wpC (model C.prog C.w) A (pyIter xv) Q E s') E s:=by
 have fin:∀it (T:Itr C k vs (Zs S1 vs) it) O1 s0 h' tk,Ext C (Wd env .no) O S s O1 S1 s0->Stt C env O1 S1 s0->(∀b o,s0.heap.get? b=some o->h'.get? b=some o)->s0.heap.objs.size<=h'.objs.size->(∀a∈T.hid,s0.heap.objs.size<=a)->
   (∀a∈T.hid,∃o,h'.get? a=some o)->T.B 0 O1 S1.n h'->Q it {s0 with heap:=h',toks:=tk}:=fun it T O1 s0 h' tk XC ZC hk hsz hf he hB=>
  hq it T O1 s0 _ XC ZC hk hsz rfl rfl (fun a ha=>Bz (hf a ha)) (ZC.grown (kk:=.no) hk tk).2 (zQe ZC (fun a ha=>Bz (hf a ha)) he) hB
 revert hk;refine Zg (fun q=>un1 (fun e q' hk=>?_) Qg) (Zg (fun q=>un1 (fun e q' hk=>?_) Qg) (Zg (fun q=>un2 (fun d e q' hk=>?_) Qg) (Zg (fun q=>un1 (fun e q' hk=>?_) Qg) Qg)))<;>subst q q'
 ·have hk:=QA hk
  obtain⟨v,h1,rfl⟩:=U7 h;obtain⟨j,o,rfl,h2,h3⟩:=xQv (P:=P) (v:=v) hs;refine(hE _ _ _ _ _ _ _ _ _ _ _ hk.2 ho (hA.less (by omega)) Z h1).use fun xv O1 sA XC ZC hv=>?_;obtain⟨hj,rfl⟩:=hv;have seqs:∀b l,o=sqO b l->wpC (model C.prog C.w) A (pyIter (.ref (O1 j))) Q E sA:=fun b l e=>by
   subst e;have hsz:Zs S1 [.obj j]=kb b:=qQo h2;rw[hsz]at fin;obtain⟨items,h4,_⟩:=ZC.sq h2;refine Qe (Xs h4 ?_);have hi:SIt b (sA.heap.push {cls:=.type (siT b),data:=.fields #[.ref (O1 j),.int 0 0]}) sA.heap.objs.size (O1 j) 0:=⟨_,Heap.get?_push_size _ rfl,rfl,rfl⟩;refine fin _ (zZq C b j sA.heap.objs.size) O1 sA _ sA.toks XC ZC (fun J J e=>Heap.get?_push_of_some _ e) (by rw[Heap.size_push];exact Nat.le_succ _) (fc (QL _) fn0) (fc (Exists.imp (fun J h=>h.1) hi) fn0) ⟨hi,hj⟩
  cases o with
  |list l=>exact seqs false l rfl
  |tup l=>exact seqs true l rfl
  |dict es=>
   have hsz:Zs S1 [.obj j]=2:=qX8 h2;rw[hsz]at fin;have h3:(P.T0.get j).isSome=true:=h3;obtain⟨o',ho'⟩:=QD h3;rw[K.T0]at ho';have h4:=ZC.hr.frz j _ ho';rw[h2]at h4;cases h4;obtain⟨kvs,h5,h6⟩:=ZC.dictAt ho';have h7:7<=j:=Nat.not_lt.mp fun q=>by
    obtain⟨l,hl⟩:=K.fro7 j q;rw[hl]at ho';cases ho'
   have lo:(O1 j==sysModules)=false:=ZC.hr.uw K.sysM h7 (by rw[h2];rfl);refine Qe (wpAny_pyIter_dict lo h5 ?_);have hi:(sA.heap.push {cls:=.type "dict_keyiterator",data:=.fields #[.ref (O1 j),.int 0 0,.int kvs.length 0,.int (C.epA j) 0]}).IsKeyIter sA.heap.objs.size (O1 j) 0 es.length (C.epA j):=by
    rw[h6.length];exact⟨_,Heap.get?_push_size _ rfl,rfl,rfl⟩
   refine fin _ (zQs C j es ho' sA.heap.objs.size) O1 sA _ sA.toks XC ZC (fun J J e=>Heap.get?_push_of_some _ e) (by rw[Heap.size_push];exact Nat.le_succ _) (fc (QL _) fn0) (fc (Exists.imp (fun J h=>h.1) hi) fn0) ⟨hi,hj⟩
  |_=>cases h3
 ·refine callG_k (fun xl p pos hg hk=>?_) x hk
  ·revert hk
   refine un1 (fun a q hk=>?_) Qg;subst q;obtain⟨hn,hc⟩:=QA hk;obtain⟨v,h1,rfl⟩:=U7 h;obtain⟨n,rfl,hs'⟩:=xQt (v:=v) hs
   ·refine X5 (f:=f) (x:="range") in0 K hE (hA.less (by omega)) ho Z (l:=[e]) hg (by simp[hn]) (by simp[Q9,hc]) h fun O1 sA vals XC ZC hv=>?_
    refine F2.k1 hv fun v q hw=>?_;subst q
    ·obtain⟨t,rfl⟩:=hw
     refine Qe (call_range_1 (Qe (wpAny_pyIter_range (IsRange.new ..) (small_one (by omega) (by omega) (by simp only[Int.ofNat_eq_natCast];omega) (by simp only[Int.ofNat_eq_natCast];omega)) ?_)));have e1:Builtin.Range.rangeSize 0 (Int.ofNat n) 1=(n:Int)-((0:Nat):Int):=by
      rw[rangeSize_one];simp only[Int.ofNat_eq_natCast];split<;>omega
     rw[e1];dsimp only;generalize hH:sA.heap.push {cls:=.type "range",data:=.fields #[.int 0 sA.toks,.int (Int.ofNat n) t,.int 1 (sA.toks+1)]}=H;have hHs:H.objs.size=sA.heap.objs.size+1:=by rw[<-hH,Heap.size_push]
     have hi:IsRangeIter (H.push {cls:=.type "range_iterator",data:=.fields #[rawInt 0,rawInt ((n:Int)-((0:Nat):Int)),rawInt 1]}) H.objs.size ((0:Nat):Int) ((n:Int)-((0:Nat):Int)) 1:=Heap.get?_push_size _ rfl;refine fin _ (zZw C n hs' (Zs S1 [.int (.ofNat n)]) H.objs.size) O1 sA _ _ XC ZC (fun b o e=>Heap.get?_push_of_some _ (hH▸Heap.get?_push_of_some _ e)) (by rw[Heap.size_push,hHs];omega) (fc (by rw[hHs];exact Nat.le_succ _) fn0) (fc ⟨_,hi⟩ fn0) ⟨Nat.zero_le _,hi⟩
 ·refine callG_k (fun xl p pos hg hk=>?_) x hk
  ·revert hk
   refine un2 (fun a b q hk=>?_) Qg;subst q;obtain⟨hn,hk⟩:=QA hk;obtain⟨hn',hk⟩:=QA hk;obtain⟨hc,hc'⟩:=QA hk;obtain⟨v,w,rfl⟩:=zQo h;have hs:=QA (show(isO zZp S1 v&&isO zZp S1 w)=true from hs);obtain⟨j,o,rfl,h2,h3⟩:=Ds hs.1;obtain⟨j',o',rfl,h2',h3'⟩:=Ds hs.2;obtain⟨b1,l1,rfl⟩:=M9 h3;obtain⟨b2,l2,rfl⟩:=M9 h3';have hsz:Zs S1 [.obj j,.obj j']=kb b1*4+kb b2:=by show kcV S1 (.obj j)*4+kcV S1 (.obj j')=_;rw[qQo h2,qQo h2']
   rw[hsz]at fin;refine X5 (f:=f) (x:="zip") in1 K hE (hA.less (by omega)) ho Z (l:=[d,e]) hg (by simp[hn,hn']) (by simp[Q9,hc,hc']) h fun O1 sA vals XC ZC hv=>?_;refine F2.k2 hv fun v w q hw hw'=>?_;subst q
   ··obtain⟨hj,rfl⟩:=hw
     obtain⟨hj',rfl⟩:=hw';obtain⟨items,h4,_⟩:=ZC.sq h2;obtain⟨items',h4',_⟩:=ZC.sq h2';refine Qe (Pf h4 h4' fun h' z1 z2 z3 z4 z5 z6=>Qe (wpAny_pyIter_zip z1 ?_));refine fin _ (zZc C b1 b2 j j' sA.heap.objs.size) O1 sA h' sA.toks XC ZC z6 (Nat.le_of_lt z4.lt) (fc (Nat.le_add_right _ _) (fc (Nat.le_add_right _ _) (fc (Nat.le_add_right _ _) (fc (QL _) (fc (Nat.le_add_right _ _) fn0))))) (fc ⟨_,z1⟩ (fc ⟨_,z2⟩ (fc ⟨_,z3⟩ (fc (Exists.imp (fun J h=>h.1) z4) (fc (Exists.imp (fun J h=>h.1) z5) fn0))))) ⟨z1,z2,⟨_,_,z3⟩,z4,z5,hj,hj'⟩
 ·refine callG_k (fun xl p pos hg hk=>?_) x hk
  ·revert hk
   refine un1 (fun a q hk=>?_) Qg;subst q;obtain⟨hn,hc⟩:=QA hk;obtain⟨v,h1,rfl⟩:=U7 h;obtain⟨j,o,rfl,h2,h3⟩:=Ds (g:=seqT) (v:=v) hs;revert h3;refine Zx (fun l q J=>?_) Qg;subst q
   ·have hsz:Zs S1 [.obj j]=1:=qQo (b:=true) h2
    rw[hsz]at fin;refine X5 (f:=f) (x:="enumerate") in2 K hE (hA.less (by omega)) ho Z (l:=[e]) hg (by simp[hn]) (by simp[Q9,hc]) h fun O1 sA vals XC ZC hv=>?_;refine F2.k1 hv fun v q hw=>?_;subst q
    ·obtain⟨hj,rfl⟩:=hw
     obtain⟨items,n,h4,_⟩:=ZC.uF h2;refine Qe (Ma h4 fun h' z1 z2 z3=>Qe (wpAny_pyIter_enum z1 ?_));refine fin _ (zQq C j sA.heap.objs.size) O1 sA h' sA.toks XC ZC z3 (Nat.le_of_lt (SIt.lt (b:=true) z2)) (fc (Nat.le_add_right _ _) (fc (QL _) fn0)) (fc ⟨_,z1⟩ (fc (Exists.imp (fun J h=>h.1) z2) fn0)) ⟨⟨_,z1⟩,z2,hj⟩
end
section
variable{C:Cx}{P:Par}{gT:Nat->Option HV}{env cenv:Env}{nm:Nms}{A:Around}{O O':Nat->Addr}{S S' S1:St}{s s':Shared}{D f:Nat}{ev:HE->St->R HV}{ts:HE->St->R Bool}{xs:List HS->St->R Fl}{V:HV}{kk:Wk}
theorem Yz{sc:Scope}(h:Jh sc nm=true):sc.kind=.function/\(∀x∈sc.names,x.2=.local->sc.names.lookup x.1=some .local)/\(∀x∈sc.names,x.2≠.cell)/\∀x∈sc.names,x.2=.free->nm.lookup x.1=some .cell:=by
 simp only[Jh,QB,List.all_eq_true]at h;obtain⟨h1,h2⟩:=h;refine⟨by revert h1;cases sc.kind<;>simp,fun x hx e=>?_,fun x hx e=>?_,fun x hx e=>?_⟩
 ·have:=h2 x hx
  rw[e]at this;simp only[QB]at this;exact Di this.2
 ·have:=h2 x hx
  rw[e]at this;cases this
 ·have:=h2 x hx
  rw[e]at this;revert this;cases nm.lookup x.1 with
  |none=>simp
  |some k=>cases k<;>simp
theorem Uw{sc:Scope}(ho:Qm env nm):(relabel sc env).names=Qp sc nm:=by
 unfold relabel Qp;simp only;refine List.map_congr_left fun p J=>?_;obtain⟨n,k⟩:=p;rw[ho.kind,ho.kindOf];simp only[beq_self_eq_true,Bool.and_true]
theorem V0{sc:Scope}(hok:Jh sc nm=true){x:Str}(h:(Qp sc nm).lookup x=some .cell):(x,NameKind.free)∈sc.names/\nm.lookup x=some .cell:=by
 obtain⟨_,_,hc,hf⟩:=Yz hok;have hm:=mem_of_lookup h;unfold Qp at hm;obtain⟨p,hp,e⟩:=List.mem_map.mp hm;split at e
 ·rename_i hq
  simp only[QB,beq_iff_eq]at hq;obtain⟨n,k⟩:=p;simp only[Prod.mk.injEq]at e;obtain⟨rfl,_⟩:=e;simp only at hq;obtain⟨rfl,h2⟩:=hq;exact⟨hp,h2⟩
 ·subst e
  exact absurd rfl (hc _ hp)
theorem Ha{sc:Scope}{x:Str}(h:(Qp sc nm).lookup x=some .local):(x,NameKind.local)∈sc.names:=by
 have hm:=mem_of_lookup h;unfold Qp at hm;obtain⟨p,hp,e⟩:=List.mem_map.mp hm;split at e
 ·simp at e
 ·subst e;exact hp
theorem Ua(ho:Qm env nm)(Z:Stt C env O S s){sc:Scope}{tgt:List Nat}(hok:Jh sc nm=true)(hlo:Z9 sc tgt=true){Cc:Addr}{h':Heap}{tk:Nat}(hCc:Cc=s.heap.objs.size+1)(hk:∀b o,s.heap.get? b=some o->h'.get? b=some o)(hn:h'.Ns Cc fun J=>none):
  Qm (compEnvC sc (Zp env.cells sc.names []) Cc env) (Qp sc nm)/\Stt C (compEnvC sc (Zp env.cells sc.names []) Cc env) O ⟨S.t,S.n,without S.loc tgt⟩ {s with heap:=h',toks:=tk}/\
   ∀W,Ext C W O ⟨S.t,S.n,without S.loc tgt⟩ s O ⟨S.t,S.n,without S.loc tgt⟩ {s with heap:=h',toks:=tk}:=by
 obtain⟨hki,hlk,hc,hf⟩:=Yz hok;have hsub:=Jc env.cells sc.names [] (fun x c e=>by cases e);have hE':Qm (compEnvC sc (Zp env.cells sc.names []) Cc env) (Qp sc nm):=by
  refine⟨Uw ho,hki,ho.glob,ho.blt,fun x hx=>?_⟩;obtain⟨h1,h2⟩:=V0 hok hx;obtain⟨c,hcc⟩:=ho.cells x h2;have:=J7 env.cells sc.names [] x (.inr ⟨h1,by rw[hcc];rfl⟩);obtain⟨d,hd⟩:=QD this;exact⟨d,hd⟩
 have lt:∀j,(S.get j).isSome->O j<s.heap.objs.size:=fun j hj=>by
  obtain⟨y,hy⟩:=QD hj;obtain⟨_,z,hz,_⟩:=Z.hr.live j y hy;exact QH hz
 have base:C.h0.objs.size<=s.heap.objs.size:=QG Z.lr.above (Nat.le_of_lt (Z.lr.uh (.inl rfl)));have hget:∀j,(⟨S.t,S.n,without S.loc tgt⟩:St).get j=S.get j:=fun J=>rfl;refine⟨hE',⟨⟨fun j o hj=>?_,Z.hr.inj,Z.hr.above,Z.hr.small,Z.hr.frz,Z.hr.fro,Z.hr.uo (fun J J=>rfl) fun J J J J J e=>hk _ _ e⟩,⟨?_,fun j hj e=>?_,fun x c hx=>?_,fun x y c hx hy=>Z.lr.apart x y c (hsub x c hx) (hsub y c hy),_,hn,fun i V hV=>?_⟩,fun b o e=>hk b o (Z.old b o e)⟩,
  fun W=>⟨fun J J=>rfl,QL _,fun J J=>rfl,fun j hj h=>?_,fun a o e J J=>hk a o e,rfl,rfl⟩⟩
 ·obtain⟨a1,ob,a2,a3⟩:=Z.hr.live j o hj
  exact⟨a1,ob,hk _ _ a2,a3⟩
 ·show C.h0.objs.size<=Cc
  rw[hCc];exact Nat.le_succ_of_le base
 ·have:=lt j hj
  rw[e]at this;have this:Cc<s.heap.objs.size:=this;rw[hCc]at this;exact absurd this (QJ (Nat.le_succ _))
 ·obtain⟨h1,h2,h3,v,hv⟩:=Z.lr.cell x c (hsub x c hx)
  refine⟨h1,?_,h3,v,hv.keeps hk⟩;show c≠Cc;have:=hv.lt;rw[hCc];exact Nat.ne_of_lt (Nat.lt_succ_of_lt this)
 ·obtain⟨hV1,hV2⟩:=V6 tgt S.loc i V hV
  obtain⟨m,hm,hl⟩:=Z.lr.loc;obtain⟨v,hv,hL⟩:=hl i V hV1;refine⟨v,hv,?_⟩;unfold Loc;rw[hE'.kindOf];cases hq:(Qp sc nm).lookup (tx i)with
  |none=>trivial
  |some kd=>
   cases kd with
   |«local»=>
    exfalso;have:=QI hlo _ (Ha hq);simp only[Bool.or_eq_true,beq_iff_eq]at this;rcases this with h|h
    ·obtain⟨j,hj,e⟩:=List.any_eq_true.mp h
     exact hV2 (Zy (eq_of_beq e)▸hj)
    ·exact zZj i h
   |cell=>
    obtain⟨h1,h2⟩:=V0 hok hq;unfold Loc at hL;rw[ho.kindOf,h2]at hL;obtain⟨c,hc1,hc2⟩:=hL;obtain⟨d,hd⟩:=hE'.cells (tx i) hq;have:=hsub (tx i) d hd;rw[hc1]at this;cases this;exact⟨c,hd,hc2.keeps hk⟩
   |_=>trivial
 ·exfalso
  have h:(S.get j).isSome:=h;rw[Z.hr.none hj]at h;cases h
theorem Br{x:Expr}(h:Hj x=true)(v:Value):foldedSetIterable x env v=pure v:=by
 cases x<;>first|rfl|exact ff h
theorem Y3{g:HE->Expr->Bool}{k:Nat}{its:List HE}{x:Expr}:kIt g nm k its x=true->Hj x=true:=
 Zg (fun J=>un1 (fun J J h=>(QA h).1) Qg) (Zg (fun J=>un1 (fun J J=>callG_k (fun J J J J J=>rfl) x) Qg) (Zg (fun J=>un2 (fun J J J=>callG_k (fun J J J J J=>rfl) x) Qg) (Zg (fun J=>un1 (fun J J=>callG_k (fun J J J J J=>rfl) x) Qg) Qg)))
theorem Ku(K:Q6 C P gT)(hE:SE C gT ev D)(hT:ST C gT ts D)(hA:AOk (D+3) A)(ho:Qm env nm)(Z:Stt C env O S s){its:List HE}{k:Nat}{tgt:List Nat}{one:Bool}{elt:HE}{cond:Option HE}{t it elt':Expr}{ifs:List Expr}{sc:Scope}{pos p0:Pos}
  (hok:Jh sc nm=true) (hlo:Z9 sc tgt=true) (hki:kIt (Qq gT f nm) nm k its it=true) (htg:kTg (Qp sc nm) one tgt t=true) (htl:Jo (Qp sc nm) t=true) (hel:Qq gT f (Qp sc nm) elt elt'=true)
  (hco:Jq (Qq gT f (Qp sc nm)) cond ifs=true) {vs l:List HV} {S2:St}
  (h1:evs ev its S=.ok vs S1) (h2:Ym P S1 k vs=true) (h3:Vs ev ts elt tgt one cond k vs (Zs S1 vs) 64 0 ⟨S1.t,S1.n,without S1.loc tgt⟩=.ok l S2) (hn:S2.n<=100000) (hsz:l.length<=1000)
  {use:Option (Value->Sem Unit)} {E:Value->Shared->Prop} {Q:Value->Shared->Prop}
  (hq:∀Da Cc m O' s',Ext C (Wd env .no) O S s O' ⟨S2.t.set 40 S2.n (.list l),S2.n+1,S1.loc⟩ s'->Stt C env O' ⟨S2.t.set 40 S2.n (.list l),S2.n+1,S1.loc⟩ s'->VR C O' (S2.n+1) (.obj S2.n) (.ref Da)->
   Hid [Cc] env O' ⟨S2.t.set 40 S2.n (.list l),S2.n+1,S1.loc⟩ s'.heap->s'.heap.Ns Cc m->s.heap.get? Cc=none->C.h0.objs.size<=Cc->Jb (model C.prog C.w) A E use Q (.ref Da) Cc (.ok .next) s'):
  wpC (model C.prog C.w) A (comprehension (.ListComp elt' [⟨t,it,ifs,0⟩] sc pos) sc env p0 (newList []) false (eval it env) use) Q E s:=by
 obtain⟨hkind,hlk,hcl,hfr⟩:=Yz hok;have hclos:=Jx (env:=env) (sc:=sc) fun p hp e=>ho.cells p.1 (hfr p hp e);refine Jn (g:=⟨t,it,ifs,0⟩) (gs:=[]) rfl (fun v=>Br (Y3 hki) v) hclos hkind hlk ?_;refine Uy K hE hA ho Z hki h1 h2 fun itv T O1 s0 sA XC Z00 k01 hsz01 hg01 hos01 hf ZC hH1 hB1=>?_;refine Qe<|wpAny_newObj_type (Qe<|wpAny_newFunctionEnv hcl (by intro y hy;simp at hy) (fun aH hns hsb=>?_) hkind)
 dsimp only at hns hsb⊢;generalize hH2:sA.heap.push {cls:=.type "list",dict:=none,data:=.seq ([]:List Value).toArray}=H2 at hns hsb⊢;have hC:H2.objs.size=sA.heap.objs.size+1:=by rw[<-hH2,Heap.size_push]
 have hsbE:∀b o,b≠H2.objs.size->H2.get? b=some o->aH.get? b=some o:=fun b o hb e=>hsb.extBut b o hb (Heap.get?_push_of_some _ e);have keep:∀b o,sA.heap.get? b=some o->aH.get? b=some o:=fun b o e=>hsbE b o (by have:=QH e;rw[hC];exact Nat.ne_of_lt (Nat.lt_succ_of_lt this)) (hH2▸Heap.get?_push_of_some _ e);have hacc:aH.PlainList sA.heap.objs.size #[]:=⟨0,hsbE _ _ (by rw[hC];exact Nat.ne_of_lt (QK _)) (hH2▸Heap.get?_push_size _ rfl)⟩;have fresh:∀a,sA.heap.objs.size<=a->sA.heap.get? a=none:=fun a ha=>by
  cases e:sA.heap.get? a with
  |none=>rfl
  |some o'=>exact absurd (QH e) (QJ ha)
 have fresh0:∀a,sA.heap.objs.size<=a->s0.heap.get? a=none:=fun a ha=>by
  cases e:s0.heap.get? a with
  |none=>rfl
  |some o'=>exact absurd (QH (k01 a o' e)) (QJ ha)
 have base:C.h0.objs.size<=sA.heap.objs.size:=QG ZC.lr.above (Nat.le_of_lt (ZC.lr.uh (.inl rfl)));have lt:∀j,(S1.get j).isSome->O1 j<sA.heap.objs.size:=fun j hj=>by
  obtain⟨y,hy⟩:=QD hj;obtain⟨_,z,hz,_⟩:=ZC.hr.live j y hy;exact QH hz
 obtain⟨hE',ZA,XA⟩:=Ua (tk:=sA.toks+([]:List (Str × Value)).length) ho ZC hok hlo hC keep hns;have XG:Ext C (Wd (compEnvC sc (Zp env.cells sc.names []) H2.objs.size env) .loc) O1 ⟨S1.t,S1.n,without S1.loc tgt⟩ s0 O1 ⟨S1.t,S1.n,without S1.loc tgt⟩ {sA with heap:=aH,toks:=sA.toks+([]:List (Str × Value)).length}:=
  ⟨fun J J=>rfl,QL _,fun J J=>rfl,fun j hj h=>(by have h':(S1.get j).isSome:=h;rw[ZC.hr.none hj]at h';cases h'),fun a o e J J=>keep a o (k01 a o e),hg01,hos01⟩
 show Q1 (model C.prog C.w) A (.compStart _ 0 itv (.ref sA.heap.objs.size) (compEnvC sc (Zp env.cells sc.names []) H2.objs.size env)) (Jb _ _ _ _ _ (.ref sA.heap.objs.size) H2.objs.size) _;have hsub:=Jc env.cells sc.names [] (fun x c e=>by cases e);have wrc:∀a,Wr (compEnvC sc (Zp env.cells sc.names []) H2.objs.size env) a->a=H2.objs.size∨∃x,env.cells.lookup x=some a:=fun a w=>w.imp id fun⟨x,hx⟩=>⟨x,hsub x a hx⟩;have hH0:Hid T.hid (compEnvC sc (Zp env.cells sc.names []) H2.objs.size env) O1 ⟨S1.t,S1.n,without S1.loc tgt⟩ aH:=fun a ha=>by
  obtain⟨⟨o,e⟩,hw,hl⟩:=hH1 a ha;refine⟨⟨o,keep a o e⟩,fun w=>?_,hl⟩;rcases wrc a w with q|⟨x,q⟩
  ·have:=QH e
   rw[q,hC]at this;exact absurd this (QJ (Nat.le_succ _))
  ·exact hw (.inr ⟨x,q⟩)
 have hB0:T.B 0 O1 S1.n aH:=T.bst hB1 (fun a ha=>by obtain⟨⟨o,e⟩,_⟩:=hH1 a ha;rw[e,keep a o e]) (fun J J=>rfl) (QL _);have wDa:∀w:Wr (compEnvC sc (Zp env.cells sc.names []) H2.objs.size env) sA.heap.objs.size,False:=fun w=>by
  rcases wrc _ w with q|⟨x,q⟩
  ·rw[hC]at q;exact absurd q (Nat.ne_of_lt (QK _))
  ·obtain⟨_,_,_,v,hv⟩:=ZC.lr.cell x _ q
   exact absurd hv.lt (QM _)
 have aA:Hid [sA.heap.objs.size] (compEnvC sc (Zp env.cells sc.names []) H2.objs.size env) O1 ⟨S1.t,S1.n,without S1.loc tgt⟩ aH:=fc (hacc.elim fun n hn'=>⟨⟨_,hn'⟩,wDa,fun j hj e=>absurd (lt j hj) (by rw[e];exact QM _)⟩) fn0;have loop:Q1 (model C.prog C.w) A (.compLoop (.ListComp elt' [⟨t,it,ifs,0⟩] sc pos) 0 itv (.ref sA.heap.objs.size) (compEnvC sc (Zp env.cells sc.names []) H2.objs.size env))
   (Jb (model C.prog C.w) A E use Q (.ref sA.heap.objs.size) H2.objs.size) {sA with heap:=aH,toks:=sA.toks+([]:List (Str × Value)).length}:=by
  refine Kt (prot:=[]) (H0:=fun J=>none) (hr:=fun R' I t n s h=>U9 I t n s h) (hpT:=fun a ha=>by cases ha) hE hT (hA.less (by omega)) hE' T htg htl hel hco (SB:=⟨S1.t,S1.n,without S1.loc tgt⟩) (sB:=s0) (fresh0 _ (QL _)) base (fun hm=>by obtain⟨⟨o,e⟩,_⟩:=hH1 _ hm;exact absurd (QH e) (QM _)) hf (Xc Z00 hf)
   (ni:=0) (Oi:=O1) (hR:=fun O' s' ys XB ZB hP hF hDh J J J J=>?_) (fu:=64) (i:=0) (pre:=[]) (l':=l) (hpl:=rfl) (hsz:=by simp) (h:=h3) (hX:=XG) (hZ:=ZA) (hH:=hH0) (hB:=hB0) (hD:=aA) (hP:=hacc) (hF:=.nil) (hp:=fun a ha=>by cases ha) (hp0:=fun a ha=>by cases ha) (hag:=fun J J=>rfl) (hni:=Nat.zero_le _)
  have B:=Z00.back (S0:=⟨S1.t,S1.n,without S1.loc tgt⟩) (s0:=s0) rfl rfl (fun J J e=>e) rfl rfl (fun b hb=>by
   have hb:b=H2.objs.size:=hb;rw[hb,hC];exact QJ (Nat.le_succ_of_le hsz01)) XB ZB
  obtain⟨n',hn'⟩:=hP;have hDa:=hDh sA.heap.objs.size (by simp);have envDa:¬Wr env sA.heap.objs.size:=fun w=>absurd (ZC.lr.uh w) (QM _);have envC:¬Wr env H2.objs.size:=fun w=>absurd (ZC.lr.uh w) (by rw[hC];exact QJ (Nat.le_succ _));have hlen:l.length<=l.length:=QL _;have A':=Stt.uz (o:=.list l) B.1 B.2 (fresh0 _ (QL _)) hn' envDa (fun j hj=>hDa.2.2 j hj) base hn ⟨hsz,ys,n',rfl,hF⟩;obtain⟨m,hm,_⟩:=ZB.lr.loc;have hsn:S1.n<=S2.n:=XB.n;refine hq sA.heap.objs.size H2.objs.size m (qQa O' S2.n sA.heap.objs.size) s' (XC.trans Z00 A'.1) A'.2 ⟨QK _,by rw[Ql]⟩ (fc ?_ fn0) hm ?_ (QG base (by rw[hC];exact Nat.le_succ _))
  ·obtain⟨oc,_,_,hoc,_⟩:=hm
   refine⟨⟨oc,hoc⟩,envC,fun j hj e=>?_⟩;have hg:=U5 (S:=S2.back S1) (o:=.list l) hn j;have h5:=congrArg Option.isSome hg;have hj':((if j=S2.n then some (HO.list l)else S2.get j)).isSome=true:=h5.symm.trans hj
   by_cases q:j=S2.n
   ·rw[q,Ql]at e
    rw[hC]at e;exact absurd e (Nat.ne_of_lt (QK _))
   ·rw[if_neg q]at hj'
    have hjn:j<S2.n:=by
     obtain⟨y,hy⟩:=QD hj';exact(ZB.hr.live j y hy).1
    rw[Qu hjn]at e;exact ZB.lr.ul hj' (.inl e)
  ·cases e:s.heap.get? H2.objs.size with
   |none=>rfl
   |some o=>
    have:=XC.keep _ o e (fun h=>h.elim) (fun j J hjn hj q=>?_)
    ·rw[fresh0 _ (by rw[hC];exact Nat.le_succ _)]at this;cases this
    ·have h1':=lt j ((XC.dom j hjn).mpr hj)
     rw[XC.agree j hjn,q,hC]at h1';exact absurd h1' (QJ (Nat.le_succ _))
 exact Z0 loop (T.self hH0 hB0 ZA loop)
theorem Tj(K:Q6 C P gT)(hE:SE C gT ev D)(hT:ST C gT ts D)(hA:AOk (D+3) A)(ho:Qm env nm)(Z:Stt C env O S s){its:List HE}{k:Nat}{tgt:List Nat}{one:Bool}{elt:HE}{cond:Option HE}{t it elt':Expr}{ifs:List Expr}{sc:Scope}{pos:Pos}
  (hok:Jh sc nm=true) (hlo:Z9 sc tgt=true) (hki:kIt (Qq gT f nm) nm k its it=true) (htg:kTg (Qp sc nm) one tgt t=true) (htl:Jo (Qp sc nm) t=true) (hel:Qq gT f (Qp sc nm) elt elt'=true)
  (hco:Jq (Qq gT f (Qp sc nm)) cond ifs=true) (h:zQr P ev ts elt tgt one k its cond S=.ok V S'):
  Run C env .no A (eval (.ListComp elt' [⟨t,it,ifs,0⟩] sc pos) env) O S s S' (Q4 C V):=by
 obtain⟨vs,S1,h1,h2⟩:=Qb h;obtain⟨h3,h4⟩:=Qk h2;obtain⟨l,S2,h5,h6⟩:=Qb h4;have h6':=h6;obtain⟨hn,rfl,rfl⟩:=Zz h6;intro E Q q;rw[eval_ListComp];refine Ku (use:=none) K hE hT hA ho Z hok hlo hki htg htl hel hco h1 h3 h5 hn (Zr h6') fun Da Cc m O' s' X Zf hv hC hns hf hb=>⟨m,hns,fun h' hs'=>?_⟩;have G:=Km X Zf hf hs' (hC Cc (by simp)).2.1 (hC Cc (by simp)).2.2 hb s'.toks;exact q _ O' _ G.1 G.2 hv
theorem G9(K:Q6 C P gT)(hE:SE C gT ev D)(hT:ST C gT ts D)(hA:AOk (D+3) A)(ho:Qm env nm)(Z:Stt C env O S s){its:List HE}{k:Nat}{tgt:List Nat}{one:Bool}{elt:HE}{cond:Option HE}{t it elt':Expr}{ifs:List Expr}{sc:Scope}{pos p0:Pos}
  (hok:Jh sc nm=true) (hlo:Z9 sc tgt=true) (hki:kIt (Qq gT f nm) nm k its it=true) (htg:kTg (Qp sc nm) one tgt t=true) (htl:Jo (Qp sc nm) t=true) (hel:Qq gT f (Qp sc nm) elt elt'=true)
  (hco:Jq (Qq gT f (Qp sc nm)) cond ifs=true) (h:zQr P ev ts elt tgt one k its cond S=.ok V S') {u:Value->Sem Unit} {SC:St}
  (hu:∀v O' s',Stt C env O' S' s'->VR C O' S'.n V v->Run C env .all A (u v) O' S' s' SC (fun J J J=>True)):
  Run C env .all A (comprehension (.ListComp elt' [⟨t,it,ifs,0⟩] sc pos) sc env p0 (newList []) false (eval it env) (some u)) O S s SC (fun J J J=>True):=by
 obtain⟨vs,S1,h1,h2⟩:=Qb h;obtain⟨h3,h4⟩:=Qk h2;obtain⟨l,S2,h5,h6⟩:=Qb h4;have h6':=h6;obtain⟨hn,rfl,rfl⟩:=Zz h6;intro E Q q;refine Ku (use:=some u) K hE hT hA ho Z hok hlo hki htg htl hel hco h1 h3 h5 hn (Zr h6') fun Da Cc m O' s' X Zf hv hC hns hf hb=>?_;show wpC _ _ _ _ _ _;refine(hu _ O' s' Zf hv).use fun J O2 s2 XD ZD J=>?_;have hC2:=hC.ext XD;obtain⟨oc,es,ep,hoc,r⟩:=hns;refine⟨m,⟨oc,es,ep,by rw[hC.same XD Cc (by simp)];exact hoc,r⟩,fun h' hs'=>?_⟩;have XX:=(X.wide (W':=Wd env .all) fun J h=>h.elim).trans Zf XD;have G:=Km XX ZD hf hs' (hC2 Cc (by simp)).2.1 (hC2 Cc (by simp)).2.2 hb s2.toks;exact q _ O2 _ G.1 G.2 trivial
end
section
variable{C:Cx}{P:Par}{gT:Nat->Option HV}{env:Env}{nm:Nms}{A:Around}{O:Nat->Addr}{S S' S1:St}{s:Shared}{D f:Nat}{ev:HE->St->R HV}{V W:HV}
def OV(C:Cx)(O:Nat->Addr)(n:Nat):Option HV->Value->Prop
 |none,v=>v=.none
 |some V,v=>VR C O n V v
theorem zQv{N a:Nat}{V:HV}:cutV N V=some a->∃k:Nat,V=.int (.ofNat k)/\a=hif (Nat.ble k N) k N:=Kq (fun k e h=>⟨k,e,(Option.some.inj h).symm⟩) Qh
theorem B6{n N d a:Nat}{o:Option HV}{v:Value}(hv:OV C O n o v)(h:cut N d o=some a):∃p,IsPart v p/\p.elim d (clipAt N)=a:=by
 cases o with
 |none=>
  cases h;obtain rfl:=hv;exact⟨none,.none,rfl⟩
 |some V=>
  have h:cutV N V=some a:=h;obtain⟨k,rfl,rfl⟩:=zQv h;obtain⟨t,rfl⟩:=hv;refine⟨some (Int.ofNat k),.int _ _,?_⟩;show clipAt N ((k:Nat):Int)=_;rw[clipAt_nat];unfold hif;cases hb:Nat.ble k N with
  |true=>exact Nat.min_eq_left (QE hb)
  |false=>exact Nat.min_eq_right (Nat.le_of_not_le fun q=>by rw[Nat.ble_eq_true_of_le q]at hb;cases hb)
theorem Hv{α:Type}{n:Nat}{l x:List α}{lo hi st:Option HV}{vl vu vs:Value}(h1:OV C O n lo vl)(h2:OV C O n hi vu)(h3:OV C O n st vs)(h:zZa l lo hi st=some x):
  vs=.none/\∃p q,IsPart vl p/\IsPart vu q/\x=(l.drop (p.elim 0 (clipAt l.length))).take (q.elim l.length (clipAt l.length)-p.elim 0 (clipAt l.length)):=by
 unfold zZa at h;obtain⟨g1,h⟩:=Qj h;obtain⟨a,g2,h⟩:=Qn h;obtain⟨b,g3,h⟩:=Qn h;cases h;cases st with
 |some _=>cases g1
 |none=>
  obtain⟨p,p1,p2⟩:=B6 h1 g2;obtain⟨q,q1,q2⟩:=B6 h2 g3;exact⟨h3,p,q,p1,q1,by rw[p2,q2];rfl⟩
theorem W7{l x:List B8}{p q:Option Int}(h:x=(l.drop (p.elim 0 (clipAt l.length))).take (q.elim l.length (clipAt l.length)-p.elim 0 (clipAt l.length))):
  KBy.picked (l.map (b8 C)).toArray p q=(x.map (b8 C)).toArray:=by
 rw[KBc.picked_eq];have hs:(l.map (b8 C)).toArray.size=l.length:=by simp
 rw[hs,h,List.map_take,List.map_drop]
theorem qJi{x:Str}{ch:Nat}{c:Str}{t:Tok}{u:Tok}(hx:x.cps[0]? =some ch)(hc:c=⟨#[ch]⟩)(hz:x.length<=sizeLine){Q:Value->Shared->Prop}(q:∀t k,Q (.str c t) {s with toks:=k}):
  (sliceMade x t none (some (1,u)) none).post Q s:=by
 subst hc;have hl:0<x.length:=(Array.getElem?_eq_some_iff.mp hx).1;have e:slicePicked x none (some (1,u)) none=[0]:=by
  unfold slicePicked Builtin.Str.strSliceIndices;simp only[Option.map_none,Option.map_some,Option.getD_none];have:max (0:Int) (min (if(1:Int)<0 then 1+(x.length:Int)else 1) x.length)=1:=by
   rw[if_neg (by decide)];omega
  simp only[show((1:Int)>0)=True from by decide,if_true,this];decide
 unfold sliceMade;rw[e]
 by_cases h:((Option.map (fun x:Int × Tok=>x.1) none).getD 1==1&&[0].length==x.length)=true
 ·rw[if_pos h]
  have hl1:x.length=1:=by
   simp only[QB,beq_iff_eq]at h;exact h.2.symm
  have hxc:x=⟨#[ch]⟩:=by
   obtain⟨cps⟩:=x
   congr 1
   have h1:cps.size=1:=hl1;apply Array.ext
   ·simp[h1]
   ·intro i hi1 hi2
    have:i=0:=by simp at hi2;omega
    subst this;have:=(Array.getElem?_eq_some_iff.mp hx).2;simpa using this
  rw[hxc];exact q t s.toks
 ·rw[if_neg h]
  have hm:(([0]:List Nat).filterMap (x.cps[·]?))=[ch]:=by simp[hx]
  rw[hm];refine⟨by show 1<=sizeLine;decide,?_⟩;exact q s.toks (s.toks+1)
theorem F2.uX{α β:Type}{r:α->β->Prop}(k:Nat){l:List α}{m:List β}(H:F2 r l m):F2 r (l.drop k) (m.drop k):=by
 induction H generalizing k with
 |nil=>rw[List.drop_nil,List.drop_nil];exact .nil
 |cons x y ih=>cases k with
  |zero=>exact .cons x y
  |succ k=>exact ih k
theorem F2.u0{α β:Type}{r:α->β->Prop}(k:Nat){l:List α}{m:List β}(H:F2 r l m):F2 r (l.take k) (m.take k):=by
 induction H generalizing k with
 |nil=>rw[List.take_nil,List.take_nil];exact .nil
 |cons x y ih=>cases k with
  |zero=>exact .nil
  |succ k=>exact .cons x (ih k)
theorem xQy{v:Option HV}(h:is1 v=true):v=some (.int (.ofNat 1)):=by
 cases v with
 |none=>exact Qg h
 |some v=>exact Kq (fun a e h=>by rw[e,<-Z5 h]) Qg h
theorem zQa{v:Option HV}(h:isM1 v=true):v=some (.int (-1)):=by
 cases v with
 |none=>exact Qg h
 |some v=>exact Q5 (fun a e h=>by rw[e,of_decide_eq_true h]) Qg h
theorem Tt(K:Q6 C P gT)(hA:AOk D A)(Z:Stt C env O S s){x:Expr}{o:HV}{a b c:Option HV}{vo va vb vc:Value}{sl:Addr}(ho:VR C O S.n o vo)(ha:OV C O S.n a va)(hb:OV C O S.n b vb)(hc:OV C O S.n c vc)
  (hs:s.heap.get? sl=some {cls:=.type "slice",data:=.fields #[va,vb,vc]}) (h:Ur P S a b c o=.ok V S'):Qt C env .no A (getitemInPython vo>>=fun b=>subscripted x b vo (.ref sl)) O S s S' (Q4 C V):=by
 revert h;refine Q0 (fun l e h=>?_) (Zm (fun k e h=>?_) (Qv (fun j e h=>?_) Qo))<;>subst e
 ·obtain⟨t,rfl⟩:=ho
  obtain⟨hz,h⟩:=Qk h;have hz:=QE hz;refine Jy h fun y h1' h2=>?_;cases h2;obtain⟨rfl,p,q,p1,q1,e⟩:=Hv ha hb hc h1';have hp:=W7 (C:=C) e;refine Qt.tok Z fun E Q qq=>Q7 (typeIs_bytes _ _ _) FB.slot_bytes_getitem.lookup ?_;refine getItem_meets (typeIs_bytes _ _ _) (by decide) FB.slot_bytes_getitem FB.entry_bytes_getitem (FB.args_bytes_getitem_2 _ _) (KBc.meets_slice2 _ t sl p1 q1) ⟨⟨_,hs,rfl,rfl⟩,?_,fun t' k=>?_⟩
  ·refine QG (KBc.size_picked_le _ p q) ?_
   simp only[List.size_toArray,List.length_map];exact QG hz (by decide)
  ·rw[hp]
   exact qq _ _ ⟨t',rfl⟩
 ·obtain⟨t,rfl⟩:=ho
  obtain⟨g,h⟩:=Qk h;obtain⟨h1,rfl⟩:=Q8 h;obtain⟨c',h3,h4⟩:=Qn h1;cases h4;obtain⟨g12,g3⟩:=QA g;obtain⟨g1,g2⟩:=QA g12;cases c with
  |some _=>cases g1
  |none=>
  cases a with
  |some _=>cases g2
  |none=>
  obtain rfl:=hc;obtain rfl:=ha;obtain rfl:=xQy g3
  ·obtain⟨u,rfl⟩:=hb
   obtain⟨ch,e1,e2⟩:=K.sub1 k c' h3;refine Qt.tok Z fun E Q qq=>Q7 (typeIs_str _ _ _) PySem.F.slot_str_getitem.lookup ?_;refine wpAny_getItem_str_slice (l:=none) (u:=some (1,u)) (st:=none) ⟨_,hs,rfl,rfl⟩ rfl ?_
   by_cases hz:(tx k).length<=sizeLine
   ·exact qJi e1 e2 hz fun t' k'=>qq _ _ ⟨t',rfl⟩
   ·exact absurd (QG (Ws k) (by decide)) hz
 ·obtain⟨hj,rfl⟩:=ho
  refine Jy h fun o h1 h2=>?_;clear h;revert h2;refine Un (fun l e h2=>?_) (Q3 (fun l e h2=>?_) Qo)<;>subst e
  ·refine Jy h2 fun y h3' h4=>?_
   obtain⟨rfl,p,q,p1,q1,e⟩:=Hv ha hb hc h3';have hp:=W7 (C:=C) e;obtain⟨m,hm,hlen⟩:=Z.barr h1;have hg:=Zr h4;have hg:y.length<=1000:=hg;refine Js Z h4 rfl hg ⟨#[],rfl⟩ fun E Q qq=>Q7 ⟨_,hm,rfl⟩ Fb.slot_get.lookup ?_;refine getItem_meets ⟨_,hm,rfl⟩ (by decide) Fb.slot_get Fb.entry_get (Fb.args_get _ _) (Vo p1 q1) ⟨hm,⟨_,hs,rfl,rfl⟩,?_,?_⟩
   ·rw[hp]
    simp only[List.size_toArray,List.length_map];exact QG hg (by decide)
   ·rw[hp]
    exact qq
  ·cases g1:isM1 c with
   |true=>
    rw[g1]at h2;obtain⟨g,h4⟩:=Qk h2;obtain⟨g2,g3⟩:=QA g;cases a with
    |some _=>cases g2
    |none=>
    cases b with
    |some _=>cases g3
    |none=>
    obtain rfl:=ha;obtain rfl:=hb;obtain⟨items,n,i1,r1,l1,b1⟩:=Z.list h1;have hst:IsPart vc (some (-1)):=by
     obtain rfl:=zQa g1;obtain⟨t,rfl⟩:=hc;exact .int _ _
    refine Js Z h4 rfl (Zr h4) ⟨items.toList.reverse.toArray,0,rfl,r1.reverse⟩ fun E Q qq=>Q7 ⟨_,i1,rfl⟩ PySem.F.slot_list_getitem.lookup ?_;refine wpAny_getItem_list_slice ⟨_,i1,rfl,n,rfl⟩ ⟨_,hs,rfl,rfl⟩ .none .none hst (by decide) ?_ (QG b1 (by decide));rw[krv_pick];exact qq
   |false=>
    rw[g1]at h2;refine Jy (x:=zZa l a b c) h2 fun y h3' h4=>?_;obtain⟨rfl,p,q,p1,q1,e⟩:=Hv ha hb hc h3';obtain⟨items,n,i1,r1,l1,b1⟩:=Z.list h1;have hF:F2 (VR C O S.n) y (slicePick items p q none).toList:=by
     rw[slicePick_plain,e,l1];exact F2.u0 _ (F2.uX _ r1)
    refine Js Z h4 rfl (Zr h4) ⟨slicePick items p q none,0,rfl,hF⟩ fun E Q qq=>Q7 ⟨_,i1,rfl⟩ PySem.F.slot_list_getitem.lookup ?_;exact wpAny_getItem_list_slice ⟨_,i1,rfl,n,rfl⟩ ⟨_,hs,rfl,rfl⟩ p1 q1 .none (by decide) qq (QG b1 (by decide))
theorem He(K:Q6 C P gT)(hA:AOk D A)(Z:Stt C env O S s){o x:HV}{a b:Option HV}{vo vx va vb:Value}{sl:Addr}(ho:VR C O S.n o vo)(ha:OV C O S.n a va)(hb:OV C O S.n b vb)(hx:VR C O S.n x vx)
  (hs:s.heap.get? sl=some {cls:=.type "slice",data:=.fields #[va,vb,.none]}) (h:Us P S a b o x=some S'):Run C env .no A (setItem vo (.ref sl) vx) O S s S' (fun J J J=>True):=by
 revert h;refine Qv (fun j e=>Q0 (fun y e' h=>?_) Qh) Qh
 ·subst e e'
  obtain⟨hj,rfl⟩:=ho;obtain⟨t,rfl⟩:=hx;obtain⟨ob,h1,h2⟩:=Qn h;clear h;revert h2;refine Un (fun l e h2=>?_) Qh
  ·subst e
   obtain⟨lo,h3,h4⟩:=Qn h2;obtain⟨hi,h5,h6⟩:=Qn h4;unfold W1 at h6;obtain⟨g,h7⟩:=Qj h6;obtain⟨g1,g2⟩:=QA g;have g2:=Z5 g2;have g1:=QE g1;obtain⟨m,hm,hlen⟩:=Z.barr h1;obtain⟨p,p1,p2⟩:=B6 ha h3;obtain⟨q,q1,q2⟩:=B6 hb h5;have hsz:(l.map (b8 C)).toArray.size=l.length:=by simp
   have hbd:sliceBounds p q none (l.map (b8 C)).toArray.size=((lo:Int),(hi:Int),1):=by
    rw[sliceBounds_plain,hsz,<-p2,<-q2]
   have hlol:lo<=l.length:=by
    rw[<-p2];cases p with
    |none=>exact Nat.zero_le _
    |some i=>show clipAt l.length i<=l.length;unfold clipAt;split<;>omega
   have hhil:hi<=l.length:=by
    rw[<-q2];cases q with
    |none=>exact QL _
    |some i=>show clipAt l.length i<=l.length;unfold clipAt;split<;>omega
   have hnew:((l.map (b8 C)).toArray.extract 0 lo++(y.map (b8 C)).toArray++(l.map (b8 C)).toArray.extract hi (l.map (b8 C)).toArray.size)=((l.take lo++(y++l.drop hi)).map (b8 C)).toArray:=by
    apply Array.toList_inj.mp;simp[List.take_of_length_le]
   obtain⟨h8,h9,rfl⟩:=X7 h7;have h9:(l.take lo++(y++l.drop hi)).length<=1000:=h9;have hyl:y.length<=1000:=by simp only[List.length_append]at h9;omega
   intro E Q qq;refine Mg (a:=O j) hm ⟨_,hs,rfl,rfl⟩ p1 q1 hbd g1 (by simp[g2]) ?_ (by simp only[List.size_toArray,List.length_map];exact QG hyl (by decide)) fun h1' h' k1 k2 k3=>?_
   ·rw[hnew]
    simp only[List.size_toArray,List.length_map];exact QG h9 (by decide)
   ·rw[hnew]at k3
    have G:=Z.grown (kk:=.no) k1 s.toks;have U:=G.2.upd (W:=Wd env .no) h1 (by rw[<-K.T0];exact h8) k2 k3 (o:=.barr (l.take lo++(y++l.drop hi))) ⟨h9,_,rfl⟩ rfl s.toks;exact qq () O _ (G.1.trans G.2 U.1) U.2 trivial
end
section
variable{C:Cx}{P:Par}{gT:Nat->Option HV}{env:Env}{nm:Nms}{A:Around}{O:Nat->Addr}{S S' S1:St}{s:Shared}{D f:Nat}{ev:HE->St->R HV}{V W:HV}
set_option tactic.hygienic true in
theorem Tf{prog:Program}{w:World}{K:Frag}{x cl dx:Addr}{ox:Obj}{name:Str}{tk:Tok}{v:Value}{es:List DictEntry}{n:Nat}{R:Result->Shared->Prop}(X:K.In s.heap)
  (I:InstAt s.heap x ox cl (some (dictOf es n))) (hd:ox.dict=some dx) (hp:plainOver K cl=true) (ht:takerIn K cl name=some none) (hh:(clsIn K cl).any (·.hasDict)=true)
  (hl:(getL name es).isSome=true) (hz:(putL name (PyData.keyHash w.params name) (.str name s.toks) v es).length<=1000)
  (h:R (.ok (.ret .none)) {s with heap:=s.heap.update dx (Obj.putName name (PyData.keyHash w.params name) (.str name s.toks) v),toks:=s.toks+1}):
  codeAny (model prog w) A (.call (.builtin "object.__setattr__") ⟨[.ref x,.str name tk,v],[]⟩) R s:=by
 refine osa_open X I hp ht fun b=>?_;obtain⟨cd,hc,hd'⟩:=any_some hh;obtain⟨hx,hcl,hn,hdx⟩:=I;obtain⟨oc,odi,oda,osl⟩:=ox;dsimp only at hcl hd hdx;subst hcl hd;dsimp only at hdx;have D':(s.heap.update dx (Obj.putName name (PyData.keyHash w.params name) (.str name s.toks) v)).get? dx=some (dictOf (putL name (PyData.keyHash w.params name) (.str name s.toks) v es) (putN name es n)):=by
  have:=Heap.get?_update_self (Obj.putName name (PyData.keyHash w.params name) (.str name s.toks) v) hdx (by rw[putName_dict];rfl);rw[putName_dict]at this;exact this
 refine QN (QO (QN (QN (wpAny_loadPart hx (QN ((looks_clsIn X hc).here ?_))))));rw[hd'];refine QO (a:=some dx) (QN (QO (QN ?_)));unfold nsSet;refine QN (QN (wpAny_askSetting (QO (QN (wpAny_mkText (QN (wpAny_loadPart hdx ?_)))))));show wpAny _ _ _ _ _ _;have c:(!es.toArray.any (·.key.isStr name)&&es.toArray.any (·.refKey))=false:=by
  rw[<-Array.any_toList,<-Array.any_toList];unfold getL at hl;split at hl
  ·rename_i en he
   rw[List.any_eq_true.mpr ⟨en,List.mem_of_find?_eq_some he,List.find?_some he⟩];rfl
  ·split at hl
   ·cases hl
   ·rename_i z;rw[Bool.not_eq_true]at z;rw[z,Bool.and_false]
 dsimp only[dictOf];rw[aRefKeyMayBeTheName_at,c];refine wpAny_updatePart hdx ?_;refine QN (wpAny_lookBehind D' (pastItsLine_dict (by rw[List.size_toArray,sizeLine_eq];omega)) ?_);exact QO h
theorem F2.put{n:Nat}{k:Nat}{V:HV}{v:Value}{t:Tok}(hv:VR C O n V v){es:List (Nat × HV)}{l:List DictEntry}(H:F2 (DR C O n) es l):F2 (DR C O n) (pt es k V) (putL (tx k) (PyData.keyHash C.w.params (tx k)) (.str (tx k) t) v l):=by
 induction H with
 |nil=>exact .cons ⟨⟨t,rfl⟩,rfl,hv⟩ .nil
 | @cons p e es l x y ih=>
  show F2 _ (Bool.rec (motive:=fun J=>List (Nat × HV)) (p::pt es k V) ((k,V)::es) (Nat.beq p.1 k)) (if e.key.isStr (tx k)=true then⟨e.hash,e.key,v⟩::l else e::putL (tx k) _ _ v l);obtain⟨⟨u,hk⟩,hh,hw⟩:=x;cases hb:Nat.beq p.1 k with
  |true=>
   have e1:=Z5 hb;rw[if_pos (by rw[hk,e1];exact beq_self_eq_true _)];exact .cons ⟨⟨u,by rw[hk,e1]⟩,by rw[hh,e1],hv⟩ y
  |false=>
   rw[if_neg (by rw[hk];intro e;have:=Zy (eq_of_beq e);rw[this,Nat.beq_refl]at hb;cases hb)];exact .cons ⟨⟨u,hk⟩,hh,hw⟩ ih
theorem Lq(K:Q6 C P gT)(FK:Zc C gT P)(hA:AOk D A)(Z:Stt C env O S s){i:Nat}{o x:HV}{vo vx:Value}(ho:VR C O S.n o vo)(hx:VR C O S.n x vx)(h:G7 P S i x o=some S'):Qt C env .no A (setAttr vo (tx i) vx) O S s S' (fun J J J=>True):=by
 revert h;refine Qv (fun j e h=>?_) Qh
 ·subst e
  obtain⟨hj,rfl⟩:=ho;obtain⟨o,h1,h2⟩:=Qn h;clear h;revert h2;refine Um (fun c d e h2=>?_) Qh
  ·subst e
   obtain⟨h3,h4⟩:=Qj h2;obtain⟨o',h5,h6⟩:=Qn h4;clear h2 h4;revert h6;refine qJf (fun es e h6=>?_) Qh
   ·subst e
    obtain⟨sl,ens,m,g1,g2,r,I⟩:=Z.inst h1 h5;obtain⟨hT,hsz,rfl⟩:=X7 h6;have ck:=K.atts c i h3;unfold qZb at ck;simp only[QB,beq_iff_eq]at ck;obtain⟨⟨⟨c1,c2⟩,c3⟩,c4,c5⟩:=ck;have X:=K.kin.keeps Z.old;have hnd:(es.map (·.1)).Nodup:=by obtain⟨_,ob,_,hg,_⟩:=Z.hr.live d _ h5;exact hg.2
    have I':InstAt s.heap (O j) ⟨.ref (C.clsA c),some (O d),.plain,sl⟩ (C.clsA c) (some (dictOf ens.toList m)):=I;have g2':s.heap.get? (O d)=some (dictOf ens.toList m):=g2;have r2:=r.put (k:=i) (t:=s.toks+1) hx;have hh:(clsIn C.K (C.clsA c)).any (·.hasDict)=true:=by
     cases hc:clsIn C.K (C.clsA c)with
     |none=>rw[hc]at c1;cases c1
     |some cd=>rw[hc]at c1;exact c1
    have ht:takerIn C.K (C.clsA c) (tx i)=some none:=by unfold takerIn;rw[c2];rfl
    have hl:(getL (tx i) ens.toList).isSome=true:=by
     unfold getL;cases hk:lk es i with
     |some V=>obtain⟨e,e1,_⟩:=r.find hk;rw[e1];rfl
     |none=>obtain⟨e1,e2⟩:=r.find_none hk;rw[e1,e2];rfl
    have hz:(putL (tx i) (PyData.keyHash C.w.params (tx i)) (.str (tx i) (s.toks+1)) vx ens.toList).length<=1000:=by
     rw[<-r2.length];exact hsz
    intro E Q q;refine set_plain X I c5 (Tf (s:={s with toks:=s.toks+1}) X I' rfl c4 ht hh hl hz ?_);have hs:Heap.SameBut (O d) s.heap (s.heap.update (O d) (Obj.putName (tx i) (PyData.keyHash C.w.params (tx i)) (.str (tx i) (s.toks+1)) vx)):=Heap.SameBut.update ..;have D':(s.heap.update (O d) (Obj.putName (tx i) (PyData.keyHash C.w.params (tx i)) (.str (tx i) (s.toks+1)) vx)).get? (O d)=some (dictOf (putL (tx i) (PyData.keyHash C.w.params (tx i)) (.str (tx i) (s.toks+1)) vx ens.toList) (putN (tx i) ens.toList m)):=by
     have:=Heap.get?_update_self (Obj.putName (tx i) (PyData.keyHash C.w.params (tx i)) (.str (tx i) (s.toks+1)) vx) g2' (by rw[putName_dict];rfl);rw[putName_dict]at this;exact this
    have U:=Z.upd (W:=Wd env .no) h5 (by rw[<-K.T0];exact hT) hs D' (o:=.ns (pt es i x)) ⟨⟨hsz,(Nm es i x hnd).1⟩,_,_,rfl,r2⟩ rfl (s.toks+2);exact q () O _ U.1 U.2 trivial
theorem F2.setNth{r:HV->Value->Prop}{x:HV}{y:Value}(hx:r x y){l:List HV}{m:List Value}(k:Nat)(H:F2 r l m):k<l.length->F2 r (Mine.setNth l k x) (m.set k y):=by
 induction H generalizing k with
 |nil=>exact fun h=>absurd h (Nat.not_lt_zero _)
 |cons a b ih=>cases k with
  |zero=>exact fun J=>.cons hx b
  |succ k=>exact fun h=>.cons a (ih k (Nat.lt_of_succ_lt_succ h))
theorem Lp(K:Q6 C P gT)(FK:Zc C gT P)(hA:AOk D A)(Z:Stt C env O S s){o i x:HV}{vo vi vx:Value}(ho:VR C O S.n o vo)(hi:VR C O S.n i vi)(hx:VR C O S.n x vx)(h:G6 P S i x o=some S'):Qt C env .no A (setItem vo vi vx) O S s S' (fun J J J=>True):=by
 revert h;refine Qv (fun j e h=>?_) Qh
 ·subst e
  obtain⟨hj,rfl⟩:=ho;obtain⟨o,h1,h2⟩:=Qn h;clear h;revert h2;refine Ji (fun es e=>Zm (fun k e' h2=>?_) Qh) (Q3 (fun l e=>Kq (fun k e' h2=>?_) Qh) Qh)<;>subst e e'
  ··obtain⟨t,rfl⟩:=hi
    obtain⟨kvs,ep,d1,r1,l1,b1⟩:=Z.dict h1;have nd:=Z.dnd h1;exact Xo FK Z h1 h2 (Nm es k x nd).1 (r1.stored hx k) (r:=fun J J J=>True) (v:=()) trivial fun E Q q=>wpAny_setItem_pairs (Xl k t) d1.dictOf (fun h' hd hs=>q h' _ (by rw[<-Wy _ _ d1.nodup];exact hd) hs) (by have:sizeLine=16777216:=rfl;omega)
  ··obtain⟨u,rfl⟩:=hi
    obtain⟨h3,h4⟩:=Qj h2;have h3:=QE h3;obtain⟨hT,hsz,rfl⟩:=X7 h4;obtain⟨items,n,i1,r1,l1,b1⟩:=Z.list h1;intro E Q q;have hF:F2 (VR C O S.n) (setNth l k x) (items.setIfInBounds k vx).toList:=by rw[Array.toList_setIfInBounds];exact F2.setNth hx k r1 (by omega)
    have U:=Z.upd (W:=Wd env .no) h1 (by rw[<-K.T0];exact hT) (Heap.SameBut.update s.heap (O j) (Obj.mapSeq (·.setIfInBounds k vx))) (PySem.IsL.update i1 (·.setIfInBounds k vx)) (o:=.list (setNth l k x)) ⟨hsz,_,_,rfl,hF⟩ rfl s.toks;exact Ut i1 (Int.natCast_nonneg k) (by show(k:Int)<_;omega) (by show(k:Int)<_;omega) (q () O _ U.1 U.2 trivial)
theorem Bu{k:Nat}{x:Option Expr}(h:qQm k x=true):∃kk p,x=some (.Constant (.str (tx k)) kk p):=by
 refine G1 (fun e q h=>?_) Qg h;rw[q];refine Xy (X:=fun e=>∃kk p,some e=some (Expr.Constant (.str (tx k)) kk p)) (fun c kk p h=>?_) e h;cases c with
 |str x=>exact⟨kk,p,by rw[eq_of_beq h]⟩
 |_=>exact Qg h
theorem W3(hE:SE C gT ev D)(hA:AOk D A)(ho:Qm env nm)(pos:Pos):∀(ks:List Nat) (l:List HE) (ks':List (Option Expr)) (xs:List Expr) (O:Nat->Addr) (S:St) (s:Shared) (vs:List HV) (S':St),Q9 qQm ks ks'=true->Q9 (Qq gT f nm) l xs=true->ks.length=vs.length->Stt C env O S s->evs ev l S=.ok vs S'->
  Run C env .no A (evalPairs (pairTrees ks' xs env pos)) O S s S' (fun O n pairs=>F2 (fun(p:Nat × HV) (q:Value × Value)=>(∃t,q.1=.str (tx p.1) t)/\VR C O n p.2 q.2) (ks.zip vs) pairs)
 |[],l,[],xs,O,S,s,vs,S',_,hx,hlen,Z,h=>by
  have hv:vs=[]:=by cases vs with|nil=>rfl|cons _ _=>simp at hlen
  subst hv;cases l with
  |nil=>
   cases xs with
   |nil=>cases h;exact Run.pure Z .nil
   |cons _ _=>cases hx
  |cons e l=>
   obtain⟨v,S1,h1,h⟩:=Qb h;obtain⟨vs',S2,h2,h⟩:=Qb h;cases h
 |k::ks,l,x'::ks',xs,O,S,s,vs,S',hk,hx,hlen,Z,h=>by
  cases l with
  |nil=>cases h;simp at hlen
  |cons e l=>
   cases xs with
   |nil=>cases hx
   |cons x xs=>
    obtain⟨v,S1,h1,h⟩:=Qb h;obtain⟨vs',S2,h2,h⟩:=Qb h;cases h;replace hk:=QA hk;replace hx:=QA hx;obtain⟨kk,p,rfl⟩:=Bu hk.1;intro E Q q;show wpC _ _ (evalPairs ((eval (.Constant (.str (tx k)) kk p) env,do let x <-eval x env;standAt pos;pure x)::pairTrees ks' xs env pos)) Q E s;refine L7 ?_;have R1:=W4 (A:=A) (k:=kk) (pos:=p) Z (v:=.str k) (c:=.str (tx k)) (beq_self_eq_true (tx k));refine R1.use fun kv O1 sA XC ZC hkv=>Qa ((hE _ _ _ _ _ _ _ _ _ _ _ hx.1 ho hA ZC h1).use fun v' O2 s2 XD ZD hv=>Qa (Qi (Qc ?_)));refine(W3 hE hA ho pos ks l ks' xs O2 S1 s2 vs' _ hk.2 hx.2 (by simpa using hlen) ZD h2).use fun ps O3 s3 XE ZE hps=>?_;exact q _ O3 s3 ((XC.trans ZC XD).trans ZD XE) ZE (.cons ⟨hkv,hv.mono XE.agree XE.n⟩ hps)
 |[],_,_::_,_,_,_,_,_,_,hk,_,_,_,_=>by cases hk
 |_::_,_,[],_,_,_,_,_,_,hk,_,_,_,_=>by cases hk
theorem Ye{α β:Type}{g:α->β->Bool}:∀{l:List α} {m:List β},Q9 g l m=true->l.length=m.length
 |[],[],_=>rfl
 |_::l,_::m,h=>by replace h:=QA h;exact congrArg (· +1) (Ye h.2)
 |[],_::_,h=>by cases h
 |_::_,[],h=>by cases h
theorem Hs:∀{l:List HE} {S S':St} {vs:List HV},evs ev l S=.ok vs S'->l.length=vs.length
 |[],_,_,_,h=>by cases h;rfl
 |e::l,_,_,_,h=>by
  obtain⟨v,S1,h1,h⟩:=Qb h;obtain⟨vs',S2,h2,h⟩:=Qb h;cases h;exact congrArg (· +1) (Hs h2)
theorem xQd{n:Nat}{es:List (Nat × HV)}{pairs:List (Value × Value)}(H:F2 (fun(p:Nat × HV) (q:Value × Value)=>(∃t,q.1=.str (tx p.1) t)/\VR C O n p.2 q.2) es pairs):∃kvs,Carries (PySem.strKind C.prog C.w) pairs kvs/\F2 (PR C O n) es kvs:=by
 induction H with
 |nil=>exact⟨[],trivial,.nil⟩
 | @cons p q es pairs x y ih=>
  obtain⟨⟨t,hk⟩,hv⟩:=x;obtain⟨kvs,h1,h2⟩:=ih;refine⟨(tx p.1,q.2)::kvs,?_,.cons ⟨rfl,hv⟩ h2⟩;obtain⟨q1,q2⟩:=q;have hk:q1=_:=hk;subst hk;exact⟨Xl p.1 t,rfl,h1⟩
theorem H6:∀{ks:List Nat} {vs:List HV},ks.length=vs.length->(ks.zip vs).map (·.1)=ks
 |[],[],_=>rfl
 |k::ks,v::vs,h=>by simp only[List.zip_cons_cons,List.map_cons];rw[H6 (by simpa using h)]
 |[],_::_,h=>by simp at h
 |_::_,[],h=>by simp at h
theorem F2.keys_nodup{n:Nat}{es:List (Nat × HV)}{kvs:List (Str × Value)}(H:F2 (PR C O n) es kvs):(es.map (·.1)).Nodup->(kvs.map (·.1)).Nodup:=by
 induction H with
 |nil=>exact fun J=>.nil
 | @cons p kv es kvs x y ih=>
  intro h;obtain⟨h1,h2⟩:=List.nodup_cons.mp h;exact List.nodup_cons.mpr ⟨fun hm=>h1 ((F2.keys y p.1).mp (by rw[<-x.1];exact hm)),ih h2⟩
theorem zJb(K:Q6 C P gT)(hE:SE C gT ev D)(hA:AOk D A)(ho:Qm env nm)(Z:Stt C env O S s){ks:List Nat}{l:List HE}{ks':List (Option Expr)}{xs:List Expr}{pos:Pos}(hnd:Kw ks=true)(h15:Nat.ble ks.length 15=true)(hk:Q9 qQm ks ks'=true)(hx:Q9 (Qq gT f nm) l xs=true)(h:eDct ev ks l S=.ok V S'):
  Run C env .no A (eval (.Dict ks' xs pos) env) O S s S' (Q4 C V):=by
 obtain⟨vs,S1,h1,h2⟩:=Qb h;obtain⟨h3,h4⟩:=Qk h2;have h3:=Z5 h3;have hnew:=Zr h4;obtain⟨hn,rfl,rfl⟩:=Zz h4;have hD0:s.heap.get? s.heap.objs.size=none:=by
  cases e:s.heap.get? s.heap.objs.size with
  |none=>rfl
  |some o=>exact absurd (QH e) (QM _)
 have wD:¬Wr env s.heap.objs.size:=fun w=>absurd (Z.lr.uh w) (QM _);have base:C.h0.objs.size<=s.heap.objs.size:=QG Z.lr.above (Nat.le_of_lt (Z.lr.uh (.inl rfl)));have lD:∀j,(S.get j).isSome->O j≠s.heap.objs.size:=fun j hj e=>by
  obtain⟨x,hx⟩:=QD hj;obtain⟨_,y,hy,_⟩:=Z.hr.live j x hx;rw[e,hD0]at hy;cases hy
 intro E Q q;cases ks with
 |nil=>
  cases ks' with
  |cons _ _=>cases hk
  |nil=>
   have hv:vs=[]:=by cases vs with|nil=>rfl|cons _ _=>simp at h3
   subst hv;have hl:=Hs h1;have hxs:=Ye hx;have e1:l=[]:=by cases l with|nil=>rfl|cons _ _=>simp at hl
   subst e1;have e2:xs=[]:=by cases xs with|nil=>rfl|cons _ _=>simp at hxs
   subst e2;cases h1;have P1:=Z.push (W:=Wd env .no) (o:=.dict []) (ob:=emptyDict) rfl hn ⟨⟨Nat.zero_le _,.nil⟩,#[],0,rfl,.nil⟩ s.toks;exact Qe<|wpAny_Dict_empty (q _ _ _ P1.1 P1.2 ⟨QK _,by rw[Ql]⟩)
 |cons k ks=>
  have hkl:=Ye hk;have hxl:=Ye hx;have hel:=Hs h1;refine Ui (knd:=PySem.strKind C.prog C.w) ?_ (by omega) (by intro e;rw[e]at hkl;simp at hkl) (by have:=QE h15;omega) ?_
  ·clear h1 h2 h3 h4 hnew q hn hel h15 hnd hkl h
   generalize k::ks=ks at hk;induction ks generalizing ks' with
   |nil=>cases ks' with
    |nil=>rfl
    |cons _ _=>cases hk
   |cons k ks ih=>cases ks' with
    |nil=>cases hk
    |cons x ks'=>
     replace hk:=QA hk;obtain⟨_,_,rfl⟩:=Bu hk.1;simp only[List.all_cons,Option.isSome_some,Bool.true_and];exact ih hk.2
  ·have G:=Z.grown (kk:=.no) (h':=s.heap.push {cls:=.type "dict",data:=.dict #[]}) (fun b o e=>Heap.get?_push_of_some _ e) s.toks
   refine(W3 hE hA ho pos (k::ks) l ks' xs O S _ vs S1 hk hx h3 G.2 h1).use fun pairs O1 sA XC ZC hps=>?_;obtain⟨kvs,hc,hF⟩:=xQd hps;have hkeys:((k::ks).zip vs).map (·.1)=k::ks:=H6 h3;have hnd':(((k::ks).zip vs).map (·.1)).Nodup:=by rw[hkeys];exact Yc hnd
   have hdk:=hF.keys_nodup hnd';have hDat:sA.heap.get? s.heap.objs.size=some {cls:=.type "dict",data:=.dict #[]}:=XC.keep _ _ (Heap.get?_push_size _ rfl) (fun h=>h.elim) fun j J J hj=>lD j hj;have lD1:∀j,(S1.get j).isSome->O1 j≠s.heap.objs.size:=fun j hj e=>by
    by_cases q:j<S.n
    ·rw[XC.agree j q]at e;exact lD j ((XC.dom j q).mp hj) e
    ·have:=XC.new j (Nat.not_lt.mp q) hj
     rw[e,show({s with heap:=s.heap.push {cls:=.type "dict",data:=.dict #[]}}:Shared).heap.get? s.heap.objs.size=some {cls:=.type "dict",data:=.dict #[]}from Heap.get?_push_size _ rfl]at this;cases this
   refine⟨kvs,hc,⟨_,#[],0,hDat,⟨rfl,rfl,rfl⟩,rfl,fun e he=>by simp at he,.nil,.nil⟩,fun h' hm hs=>?_⟩;rw[merged_nil_of_nodup _ hdk]at hm;obtain⟨ob,hob,hr⟩:=Gl hm hF;have XX:=G.1.trans G.2 XC;have U:=Km (env:=env) XX ZC hD0 hs wD lD1 base (sA.toks+pairs.length);have A1:=Stt.uz (a:=s.heap.objs.size) U.1 U.2 hD0 hob wD lD1 base hn (o:=.dict ((k::ks).zip vs)) ⟨⟨hnew,hnd'⟩,hr⟩;exact q _ _ _ A1.1 A1.2 ⟨QK _,by rw[Ql]⟩
end
section
variable{C:Cx}{P:Par}{gT:Nat->Option HV}{env:Env}{nm:Nms}{A:Around}{O O':Nat->Addr}{S S' S1:St}{s s':Shared}{D f:Nat}{ev:HE->St->R HV}{ts:HE->St->R Bool}{xs:List HS->St->R Fl}{V:HV}{kk:Wk}
theorem OV.mono{O':Nat->Addr}{n n':Nat}(ha:∀j,j<n->O' j=O j)(hn:n<=n'):∀{o:Option HV} {v:Value},OV C O n o v->OV C O' n' o v
 |none,_,h=>h
 |some _,_,h=>VR.mono ha hn h
theorem Xn(hE:SE C gT ev D)(hA:AOk D A)(ho:Qm env nm)(Z:Stt C env O S s){o:Option HE}{x:Option Expr}{ov:Option HV}(hc:kO (Qq gT f nm) o x=true)(h:evo ev o S=.ok ov S'):Run C env .no A (valueOrNone (evalOpt x env)) O S s S' (fun O n v=>OV C O n ov v):=by
 cases o with
 |none=>
  cases x with
  |none=>cases h;exact Run.pure Z rfl
  |some _=>cases hc
 |some e=>
  cases x with
  |none=>cases hc
  |some x=>
   have h:((ev e S).bind fun v S=>.ok (some v) S)=.ok ov S':=h;obtain⟨V,S1,h1,h2⟩:=Qb h;cases h2;exact(hE _ _ _ _ _ _ _ _ _ _ _ hc ho hA Z h1).of fun J J h=>h
theorem Ks{v1 v2 v3:Value}(Z:Stt C env O S s){r:Yt Value}(hr:∀sl,r O S.n (.ref sl)){E:Value->Shared->Prop}{Q:Value->Shared->Prop}
  (hq:∀sl s',Ext C (Wd env .no) O S s O S s'->Stt C env O S s'->s'.heap.get? sl=some {cls:=.type "slice",data:=.fields #[v1,v2,v3]}->Q (.ref sl) s'):wpAny (model C.prog C.w) A (newFields "slice" [v1,v2,v3]) Q E s:=by
 unfold newFields;refine wpAny_newObj_type ?_;have G:=Z.grown (kk:=.no) (h':=s.heap.push {cls:=.type "slice",dict:=none,data:=.fields [v1,v2,v3].toArray}) (fun b o e=>Heap.get?_push_of_some _ e) s.toks;exact hq _ _ G.1 G.2 (Heap.get?_push_size _ rfl)
theorem zZr(K:Q6 C P gT)(FK:Zc C gT P)(hE:SE C gT ev D)(hA:AOk D A)(ho:Qm env nm)(Z:Stt C env O S s){o:HE}{lo hi st:Option HE}{a:Expr}{l h' t:Option Expr}{p pos:Pos}(hc:Qq gT f nm o a=true)(h1:kO (Qq gT f nm) lo l=true)(h2:kO (Qq gT f nm) hi h'=true)(h3:kO (Qq gT f nm) st t=true)
  (h:eSl P ev o lo hi st S=.ok V S'):Run C env .no A (eval (.Subscript a (.Slice l h' t p) pos) env) O S s S' (Q4 C V):=by
 obtain⟨vo,S1,e1,h⟩:=Qb h;obtain⟨va,S2,e2,h⟩:=Qb h;obtain⟨vb,SC,e3,h⟩:=Qb h;obtain⟨vc,SD,e4,h⟩:=Qb h;intro E Q q;rw[arm_eval_Subscript,arm_eval_Slice];refine Qa ((hE _ _ _ _ _ _ _ _ _ _ _ hc ho hA Z e1).use fun o' O1 sA XC ZC rA=>Qa (Qd ?_));refine Qa ((Xn hE hA ho ZC h1 e2).use fun a' O2 s2 XD ZD rB=>Qa (Qd ((Xn hE hA ho ZD h2 e3).use fun b' O3 s3 XE ZE rC=>Qa (Qd ((Xn hE hA ho ZE h3 e4).use fun c' O4 s4 XF ZF rD=>?_)))));refine Qe<|Ks (r:=fun J J J=>True) ZF (fun J=>trivial) fun sl s5 XH ZG hsl=>Qa (Qi ?_)
 have r1:=((rA.mono XD.agree XD.n).mono XE.agree XE.n).mono XF.agree XF.n;have R:=Qt.c<|Tt (x:=.Slice l h' t p) K hA ZG r1 ((rB.mono XE.agree XE.n).mono XF.agree XF.n) (rC.mono XF.agree XF.n) rD hsl h
 have XX:=((((XC.trans ZC XD).trans ZD XE).trans ZE XF).trans ZF XH);have w':=Qa (f:=fun r=>letTemporaryGo a o' r>>=fun J=>pure r) (Qf (R E (fun v s'=>Q v s') (fun v O' s' x z y=>q v O' s' (XX.trans ZG x) z y)) (fun r s' hq=>Qa (Qe (wpAny_letTemporaryGo (base:=a) (o:=o') (r:=r) (Qc hq)))) fun J J e=>e);simpa only[bind_assoc]using w'
theorem Be{t v:Expr}{line:Nat}(h:noC v=true):swapsWith v (some t) line env=pure false:=by
 cases v<;>first|rfl|cases h
theorem M1{v:Expr}{line:Nat}(h:noC v=true):swapsWith v none line env=pure false:=by
 cases v<;>first|rfl|cases h
theorem qQt(ho:Qm env nm):interactive env=false:=by
 unfold interactive;rw[ho.kind];rfl
theorem zZu(hE:SE C gT ev D)(hA:AOk D A)(ho:Qm env nm)(Z:Stt C env O S s){e:HE}{a:Expr}{pos:Pos}(hn:N7 a=true)(hc:Qq gT f nm e a=true){fl:Fl}(h:sEx ev e S=.ok fl S'):
  Run C env .all A (exec (.Expr a pos) env) O S s S' (Jd C fl):=by
 obtain⟨V,S1,h1,h2⟩:=Qb h;cases h2;intro E Q q;rw[arm_exec_Expr,qQt ho,M1 hn];refine Qa (Qi ?_);rw[if_neg (by decide)];refine Qa (Qc ?_);rw[if_neg (by decide)];exact Qa ((hE _ _ _ _ _ _ _ _ _ _ _ hc ho hA Z h1).use fun v O1 sA XC ZC J=>Qe<|wpAny_dropValue (q _ O1 sA (XC.wide fun J h=>h.elim) ZC rfl))
theorem qJv(hE:SE C gT ev D)(hA:AOk D A)(ho:Qm env nm)(Z:Stt C env O S s){e:HE}{a:Expr}{pos:Pos}(hc:Qq gT f nm e a=true){fl:Fl}(h:sRet ev e S=.ok fl S'):Run C env .all A (exec (.Return (some a) pos) env) O S s S' (Jd C fl):=by
 obtain⟨V,S1,h1,h2⟩:=Qb h;cases h2;intro E Q q;exact Lh ((hE _ _ _ _ _ _ _ _ _ _ _ hc ho hA Z h1).use fun v O1 sA XC ZC hv=>q _ O1 sA (XC.wide fun J h=>h.elim) ZC ⟨v,rfl,hv⟩)
theorem Xp(hE:SE C gT ev D)(hA:AOk D A)(ho:Qm env nm)(Z:Stt C env O S s){e:HE}{t a:Expr}{pos:Pos}(hn:swapsWith a (some t) pos.line env=pure false)(hsw:swappedStores [t] a env=pure none)(hstar:∀r,assignEach (t::r) env=(false,assign t env)::assignEach r env)(hc:Qq gT f nm e a=true)(h1:ev e S=.ok V S1)
  (hk:∀v O1 sA,Stt C env O1 S1 sA->VR C O1 S1.n V v->Run C env .all A (assign t env v) O1 S1 sA S' (fun J J J=>True)):Run C env .all A (exec (.Assign [t] a pos) env) O S s S' (Jd C .next):=by
 intro E Q q;rw[arm_exec_Assign];refine Qa (Qi ?_);show wpC _ _ (swapsWith a (some t) pos.line env>>=_) _ _ _;rw[hn];refine Qa (Qc ?_);rw[if_neg (by decide)];refine Qa ((hE _ _ _ _ _ _ _ _ _ _ _ hc ho hA Z h1).use fun v O1 sA XC ZC hv=>?_);rw[hsw];refine Qa (Qc ?_);rw[hstar];show wpC _ _ (assign t env v>>=fun J=>pure Flow.next) _ _ _;exact Qa ((hk v O1 sA ZC hv).use fun J O2 s2 XD ZD J=>Qc (q _ O2 s2 ((XC.wide fun J h=>h.elim).trans ZC XD) ZD rfl))
theorem qXa(K:Q6 C P gT)(FK:Zc C gT P)(hE:SE C gT ev D)(hA:AOk D A)(ho:Qm env nm)(Z:Stt C env O S s){o:HE}{b:Expr}{i:Nat}{pos:Pos}{V:HV}{v:Value}(hc:Qq gT f nm o b=true)(hv:VR C O S.n V v)
  (h:((ev o S).bind fun w S=>next (ofS (G7 P S i V w)))=.ok .next S'):Run C env .all A (assign (.Attribute b (tx i) pos) env v) O S s S' (fun J J J=>True):=by
 obtain⟨w,S1,h1,h2⟩:=Qb h;obtain⟨_,S2,h3,h4⟩:=Qb (x:=ofS _) h2;cases h4;have h3:=X0 h3;intro E Q q;rw[arm_assign_Attribute];refine Qa (Qd ((hE _ _ _ _ _ _ _ _ _ _ _ hc ho hA Z h1).use fun o' O1 sA XC ZC rA=>Qa (Qi (Qa (Qd ((Qt.c<|Lq K FK hA ZC rA (hv.mono XC.agree XC.n) h3).use fun J O2 s2 XD ZD J=>Qe<|wpAny_release ?_))))));exact q _ O2 s2 ((XC.trans ZC XD).wide fun J h=>h.elim) ZD trivial
theorem qJ8(K:Q6 C P gT)(FK:Zc C gT P)(hE:SE C gT ev D)(hA:AOk D A)(ho:Qm env nm)(Z:Stt C env O S s){o i:HE}{b j:Expr}{pos:Pos}{V:HV}{v:Value}(hc:Qq gT f nm o b=true)(hi:Qq gT f nm i j=true)(hv:VR C O S.n V v)
  (h:((ev o S).bind fun w S=>(ev i S).bind fun k S=>next (ofS (G6 P S k V w)))=.ok .next S'):Run C env .all A (assign (.Subscript b j pos) env v) O S s S' (fun J J J=>True):=by
 obtain⟨w,S1,h1,h2⟩:=Qb h;obtain⟨k,S2,h3,h4⟩:=Qb h2;obtain⟨_,SC,h5,h6⟩:=Qb (x:=ofS _) h4;cases h6;have h5:=X0 h5;intro E Q q;rw[arm_assign_Subscript];refine Qa (Qd ((hE _ _ _ _ _ _ _ _ _ _ _ hc ho hA Z h1).use fun o' O1 sA XC ZC rA=>Qa (Qd ((hE _ _ _ _ _ _ _ _ _ _ _ hi ho hA ZC h3).use fun i' O2 s2 XD ZD rB=>Qa (Qi (Qa (Qd
  ((Qt.c<|Lp K FK hA ZD (rA.mono XD.agree XD.n) rB ((hv.mono XC.agree XC.n).mono XD.agree XD.n) h5).use fun J O3 s3 XE ZE J=>Qe<|wpAny_release ?_))))))))
 exact q _ O3 s3 (((XC.trans ZC XD).trans ZD XE).wide fun J h=>h.elim) ZE trivial
theorem qJ9(K:Q6 C P gT)(FK:Zc C gT P)(hE:SE C gT ev D)(hA:AOk D A)(ho:Qm env nm)(Z:Stt C env O S s){o:HE}{lo hi:Option HE}{b:Expr}{l h':Option Expr}{p pos:Pos}{V:HV}{v:Value}(hc:Qq gT f nm o b=true)(hl:kO (Qq gT f nm) lo l=true)(hh:kO (Qq gT f nm) hi h'=true)(hv:VR C O S.n V v)
  (h:((ev o S).bind fun w S=>(evo ev lo S).bind fun a S=>(evo ev hi S).bind fun b S=>next (ofS (Us P S a b w V)))=.ok .next S'):Run C env .all A (assign (.Subscript b (.Slice l h' none p) pos) env v) O S s S' (fun J J J=>True):=by
 obtain⟨w,S1,h1,h2⟩:=Qb h;obtain⟨a,S2,h3,h4⟩:=Qb h2;obtain⟨c,SC,h5,h6⟩:=Qb h4;obtain⟨_,SD,h7,h8⟩:=Qb (x:=ofS _) h6;cases h8;have h7:=X0 h7;intro E Q q;rw[arm_assign_Subscript,arm_eval_Slice];refine Qa (Qd ((hE _ _ _ _ _ _ _ _ _ _ _ hc ho hA Z h1).use fun o' O1 sA XC ZC rA=>Qa (Qd (Qa ((Xn hE hA ho ZC hl h3).use fun a' O2 s2 XD ZD rB=>Qa (Qd ((Xn hE hA ho ZD hh h5).use fun b' O3 s3 XE ZE rC=>
  Qa (Qd (Qc ?_)))))))))
 refine Qe<|Ks (r:=fun J J J=>True) ZE (fun J=>trivial) fun sl s5 XH ZG hsl=>Qa (Qi (Qa (Qd ?_)))
 have XX:=(((XC.trans ZC XD).trans ZD XE).trans ZE XH);exact(He K hA ZG ((rA.mono XD.agree XD.n).mono XE.agree XE.n) (rB.mono XE.agree XE.n) rC (((hv.mono XC.agree XC.n).mono XD.agree XD.n).mono XE.agree XE.n) hsl h7).use fun J O6 s6 XI ZH J=>Qe<|wpAny_release (q _ O6 s6 ((XX.trans ZG XI).wide fun J h=>h.elim) ZH trivial)
theorem qJ7(hA:AOk D A)(ho:Qm env nm)(Z:Stt C env O S s){tgt:List Nat}{l:List Expr}{k:Nat}{pos:Pos}{V:HV}{v:Value}(hc:Q9 (tgN nm) tgt l=true)(hv:VR C O S.n V v)(h:next (ofS (ob (unp S V) (Vy S tgt)))=.ok .next S'):
  Run C env .all A (assign (.Tuple l k pos) env v) O S s S' (fun J J J=>True):=by
 obtain⟨_,S1,h1,h2⟩:=Qb (x:=ofS _) h;cases h2;have h1:=X0 h1;obtain⟨vs,h3,h4⟩:=Qn h1;obtain⟨j,rfl,h5⟩:=qZg h3;obtain⟨items,ht,hr⟩:=Z.tup h5;obtain⟨_,rfl⟩:=hv;exact(Yb ho hA Z hc (.inl rfl) hr ht h4).c
theorem Xq(ho:Qm env nm)(Z:Stt C env O S s){i:Nat}{x:Str}{pos:Pos}{v:Value}(hx:K7 nm i x=true)(hv:VR C O S.n V v):Run C env .all A (assign (.Name x pos) env v) O S s (S.sto i V) (fun J J J=>True):=by
 rw[arm_assign_Name];exact(Qt.standAt (f:=fun J=>bindName env x v) fun E Q q=>wpAny_bindName ((Yx (k:=.all) (A:=A) Z ho hx hv (.inl rfl)).use fun a O' s' X' Z' h'=>q a O' s' X' Z' h')).c
theorem zZs(hT:ST C gT ts D)(hX:SX C gT xs D)(hA:AOk D A)(ho:Qm env nm)(Z:Stt C env O S s){t:HE}{a b:List HS}{x:Expr}{y z:List Stmt}{pos:Pos}(hc:Qq gT 40 nm t x=true)(ha:Q9 (Vf gT f nm) a y=true)(hb:Q9 (Vf gT f nm) b z=true){fl:Fl}(h:sIte ts xs t a b S=.ok fl S'):
  Run C env .all A (exec (.If x y z pos) env) O S s S' (Jd C fl):=by
 obtain⟨c,S1,h1,h2⟩:=Qb h;intro E Q q;rw[arm_exec_If];refine Qa (Qi (Qa ((hT _ _ _ _ _ _ _ _ _ _ _ hc ho hA Z h1).use fun c' O1 sA XC ZC rA=>?_)));obtain rfl:=rA;have XW:Ext C (Wd env .all) O S s O1 S1 sA:=XC.wide fun J h=>h.elim;cases c' with
 |true=>exact(hX _ _ _ _ _ _ _ _ _ _ _ ha ho hA ZC h2).use fun fv O2 s2 XD ZD hf=>q fv O2 s2 (XW.trans ZC XD) ZD hf
 |false=>exact(hX _ _ _ _ _ _ _ _ _ _ _ hb ho hA ZC h2).use fun fv O2 s2 XD ZD hf=>q fv O2 s2 (XW.trans ZC XD) ZD hf
theorem Nc(hT:ST C gT ts D)(hX:SX C gT xs D)(hA:AOk D A)(ho:Qm env nm)(Z:Stt C env O S s){t:HE}{b:List HS}{x:Expr}{y:List Stmt}{pos:Pos}(hc:Qq gT 40 nm t x=true)(hb:Q9 (Vf gT f nm) b y=true){fl:Fl}(fu:Nat)(h:whL ts xs t b fu S=.ok fl S'):
  Run C env .all A (exec (.While x y [] pos) env) O S s S' (Jd C fl):=by
 intro E Q q;refine Mq (Vd (fun n sA=>∃O1 S1,whL ts xs t b n S1=.ok fl S'/\Stt C env O1 S1 sA/\Ext C (Wd env .all) O S s O1 S1 sA) ?_ fu ⟨O,S,h,Z,(by have:=Ext.refl (W:=Wd env .all) (s:=s) Z.hr s.toks;exact this)⟩);rintro n sA ⟨O1,S1,h,ZC,XC⟩;cases n with
 |zero=>cases h
 |succ n=>
  obtain⟨c,S2,h1,h2⟩:=Qb (x:=ts t S1) h;refine(hT _ _ _ _ _ _ _ _ _ _ _ hc ho hA ZC h1).use fun c' O2 s2 XD ZD rB=>?_;obtain rfl:=rB;have XB:=XC.trans ZC (XD.wide (W':=Wd env .all) fun J h=>h.elim);cases c' with
  |false=>
   cases h2;exact(q _ O2 s2 XB ZD rfl)
  |true=>
   have h2:((xs b S2).bind (zQg (whL ts xs t b n)))=.ok fl S':=h2;obtain⟨fA,SC,h3,h4⟩:=Qb h2;refine(hX _ _ _ _ _ _ _ _ _ _ _ hb ho hA ZD h3).use fun fv O3 s3 XE ZE hf=>?_;rcases X8 (α:=Unit) h4 with⟨rfl,h8⟩|⟨V,rfl,rfl,rfl⟩
   ·obtain rfl:=hf
    exact⟨n,QK _,O3,SC,h8,ZE,XB.trans ZD XE⟩
   ·obtain⟨v',rfl,hv'⟩:=hf
    exact q _ O3 s3 (XB.trans ZD XE) ZE ⟨v',rfl,hv'⟩
theorem Bh(K:Q6 C P gT)(hE:SE C gT ev D)(hA:AOk (D+3) A)(ho:Qm env nm)(Z:Stt C env O S s){tgt:List Nat}{one:Bool}{k:Nat}{its:List HE}{b:List HS}{t x:Expr}{y:List Stmt}{pos:Pos}(hki:kIt (Qq gT 40 nm) nm k its x=true)(htg:kTg nm one tgt t=true)
  (hXb:∀O S s fl S',Stt C env O S s->xs b S=.ok fl S'->Run C env .all A (execs y env) O S s S' (Jd C fl)) {fl:Fl} (h:xJb P ev xs tgt one k its b S=.ok fl S'):Run C env .all A (exec (.For t x y [] pos) env) O S s S' (Jd C fl):=by
 obtain⟨vs,S1,h1,h2⟩:=Qb h;obtain⟨h3,h4⟩:=Qk h2;intro E Q q;rw[arm_exec_For];refine Qa (Qi (Qa (Qf (Uy (Q:=fun it sA=>wpC (model C.prog C.w) A (runOwn (.forLoop t it y [] env) env) Q E sA) K hE hA ho Z hki h1 h3 fun it T O1 s0 sA XC ZA k01 hsz01 hg01 hos01 hf ZC hH hB=>?_) (fun xv s' hx=>?_) fun J J e=>e)))
 ·refine Kd rfl (Nd (hA.less (by omega):AOk D A) ho T htg hXb hf (Xc ZA hf) (fun fv O' s' X' Z' hf'=>?_) 64 0 h4 hH hB ZC ⟨fun J J=>rfl,QL _,fun J J=>rfl,fun j hj h=>(by rw[ZC.hr.none hj]at h;cases h),fun a o e J J=>k01 a o e,hg01,hos01⟩)
  exact q fv O' s' ((XC.wide fun J h=>h.elim).trans ZA X') Z' hf'
 ·rw[Br (Y3 hki)]
  exact Qa (Qc (Qa (Qi (Qa (Qd hx)))))
theorem qJ1(K:Q6 C P gT)(hE:SE C gT ev D)(hX:SX C gT xs D)(hA:AOk (D+3) A)(ho:Qm env nm)(Z:Stt C env O S s){tgt:List Nat}{one:Bool}{k:Nat}{its:List HE}{b:List HS}{t x:Expr}{y:List Stmt}{pos:Pos}(hki:kIt (Qq gT 40 nm) nm k its x=true)(htg:kTg nm one tgt t=true)
  (hb:Q9 (Vf gT f nm) b y=true) {fl:Fl} (h:xJb P ev xs tgt one k its b S=.ok fl S'):Run C env .all A (exec (.For t x y [] pos) env) O S s S' (Jd C fl):=
 Bh K hE hA ho Z hki htg (fun O S s fl S' Z h=>hX f nm b y env A O S s fl S' hb ho (hA.less (by omega)) Z h) h
theorem qJt(hX:SX C gT xs D)(hA:AOk D A)(ho:Qm env nm)(Z:Stt C env O S s){b:List HS}{y:List Stmt}{aG:ExceptHandler}{hs:List ExceptHandler}{pos:Pos}(hb:Q9 (Vf gT f nm) b y=true){fl:Fl}(h:xs b S=.ok fl S'):
  Run C env .all A (exec (.Try y (aG::hs) [] [] pos) env) O S s S' (Jd C fl):=by
 intro E Q q;rw[arm_exec_Try];refine Qa (Qi (Gx ((hX _ _ _ _ _ _ _ _ _ _ _ hb ho hA Z h).use fun fv O1 sA XC ZC hf=>?_)));cases fl with
 |next=>obtain rfl:=hf;exact Uh (q _ O1 sA XC ZC rfl)
 |ret V=>obtain⟨v,rfl,hv⟩:=hf;exact q _ O1 sA XC ZC ⟨v,rfl,hv⟩
end
section
variable{C:Cx}{P:Par}{gT:Nat->Option HV}{env:Env}{nm:Nms}{A:Around}{O:Nat->Addr}{S S' S1:St}{s:Shared}{D f:Nat}{ev:HE->St->R HV}{ts:HE->St->R Bool}{xs:List HS->St->R Fl}{V:HV}
theorem Stt.uN(Z:Stt C env O S s)(ht:S1.t=S.t)(hn:S1.n=S.n)(hl:∀i,lk S1.loc i=lk S.loc i):Stt C env O S1 s:=by
 have hg:∀j,S1.get j=S.get j:=fun j=>by show S1.t.get j=S.t.get j;rw[ht]
 refine⟨⟨fun j o h=>by rw[hn];exact Z.hr.live j o (by rwa [hg]at h),fun i j a b=>Z.hr.inj i j (by rwa [hg]at a) (by rwa [hg]at b),fun j h a=>Z.hr.above j h (by rwa [hg]at a),by rw[hn];exact Z.hr.small,fun j o h=>by rw[hg];exact Z.hr.frz j o h,Z.hr.fro,Z.hr.ep⟩,
  ⟨Z.lr.above,fun j h=>Z.lr.off j (by rwa [hg]at h),fun x c h=>⟨(Z.lr.cell x c h).1,(Z.lr.cell x c h).2.1,fun j a=>(Z.lr.cell x c h).2.2.1 j (by rwa [hg]at a),(Z.lr.cell x c h).2.2.2⟩,Z.lr.apart,?_⟩,Z.old⟩
 obtain⟨m,hm,h⟩:=Z.lr.loc;refine⟨m,hm,fun i V hV=>?_⟩;rw[hl]at hV;rw[hn];exact h i V hV
theorem Ext.uN{W:Addr->Prop}{O':Nat->Addr}{s':Shared}(X:Ext C W O S s O' S' s')(ht:S1.t=S'.t)(hn:S1.n=S'.n):Ext C W O S s O' S1 s':=by
 have hg:∀j,S1.get j=S'.get j:=fun j=>by show S1.t.get j=S'.t.get j;rw[ht]
 exact⟨X.agree,by rw[hn];exact X.n,fun j h=>by rw[hg];exact X.kd j h,fun j h a=>X.new j h (by rwa [hg]at a),X.keep,X.gens,X.os⟩
theorem M4:∀(ts:List Nat) (vs:List HV) (S S':St),Vy S ts vs=some S'->S'.t=S.t/\S'.n=S.n
 |[],[],_,_,h=>by cases h;exact⟨rfl,rfl⟩
 |i::ts,V::vs,S,S',h=>by exact M4 ts vs (S.sto i V) S' h
 |[],_::_,_,_,h=>by exact Qh h
 |_::_,[],_,_,h=>by exact Qh h
theorem G3:∀(ts:List Nat) (vs:List HV) (S S':St),ts.Nodup->Vy S ts vs=some S'->∀i,(∀v,(i,v)∈ts.zip vs->lk S'.loc i=some v)/\(i∉ts->lk S'.loc i=lk S.loc i)
 |[],[],_,_,_,h,i=>by cases h;exact⟨by simp,fun J=>rfl⟩
 |a::ts,V::vs,S,S',hn,h,i=>by
  obtain⟨h1,h2⟩:=List.nodup_cons.mp hn;obtain⟨p,q⟩:=G3 ts vs (S.sto a V) S' h2 h i;have e:lk (S.sto a V).loc i=if i=a then some V else lk S.loc i:=qX2 S.loc a i V
  refine⟨fun v hv=>?_,fun hi=>?_⟩
  ·simp only[List.zip_cons_cons,List.mem_cons,Prod.mk.injEq]at hv
   rcases hv with⟨rfl,rfl⟩|hv
   ·rw[q h1,e,if_pos rfl]
   ·exact p v hv
  ·simp only[List.mem_cons,not_or]at hi
   rw[q hi.2,e,if_neg hi.1]
 |[],_::_,_,_,_,h,_=>by exact Qh h
 |_::_,[],_,_,_,h,_=>by exact Qh h
theorem Wx:∀(ts:List Nat) (vs:List HV) (S:St),ts.length=vs.length->∃S',Vy S ts vs=some S'
 |[],[],S,_=>⟨S,rfl⟩
 |i::ts,V::vs,S,h=>by exact Wx ts vs _ (by simpa using h)
 |[],_::_,_,h=>by simp at h
 |_::_,[],_,h=>by simp at h
theorem Mn{α β:Type}:∀(l:List α) (m:List β),l.length=m.length->∀p,p∈l.reverse.zip m.reverse↔p∈l.zip m
 |[],[],_,p=>by simp
 |a::l,b::m,h,p=>by
  have h:l.length=m.length:=by simpa using h
  rw[List.reverse_cons,List.reverse_cons,List.zip_append (by simp[h]),List.zip_cons_cons,List.mem_append,List.mem_cons,Mn l m h p];simp only[List.zip_cons_cons,List.zip_nil_left,List.mem_cons,List.not_mem_nil,or_false];exact Or.comm
 |[],_::_,h,_=>by simp at h
 |_::_,[],h,_=>by simp at h
theorem P7{ts:List Nat}{vs:List HV}(hn:ts.Nodup)(h:Vy S ts vs=some S'):∃S2,Vy S ts.reverse vs.reverse=some S2/\S'.t=S2.t/\S'.n=S2.n/\∀i,lk S'.loc i=lk S2.loc i:=by
 have hl:=Yv _ _ _ _ h;obtain⟨S2,h2⟩:=Wx ts.reverse vs.reverse S (by simp[hl]);obtain⟨t1,n1⟩:=M4 _ _ _ _ h;obtain⟨t2,n2⟩:=M4 _ _ _ _ h2;refine⟨S2,h2,t1.trans t2.symm,n1.trans n2.symm,fun i=>?_⟩;obtain⟨a,b⟩:=G3 _ _ _ _ hn h i;obtain⟨c,d⟩:=G3 _ _ _ _ (List.pairwise_reverse.mpr (hn.imp fun h=>Ne.symm h)) h2 i
 by_cases q:i∈ts
 ·obtain⟨k,hk,e⟩:=List.getElem_of_mem q
  have hm:(i,vs[k])∈ts.zip vs:=by
   rw[<-e];exact List.mem_iff_getElem.mpr ⟨k,by simp[hl];omega,by simp⟩
  rw[a _ hm,c _ ((Mn ts vs hl _).mpr hm)]
 ·rw[b q,d (by simpa using q)]
theorem W6(ho:Qm env nm):∀(ts:List Nat) (vs:List HV) (vals:List Value) (O:Nat->Addr) (S:St) (s:Shared) (S':St),(∀i∈ts,K7 nm i (tx i)=true)->F2 (VR C O S.n) vs vals->Vy S ts vs=some S'->Stt C env O S s->
  Qt C env .all A (assignInOrder ((ts.map tx).map fun n=>bindName env n) vals) O S s S' (fun J J J=>True)
 |[],[],_,O,S,s,S',_,.nil,h,Z=>by cases h;exact Qt.pure Z trivial
 |i::ts,V::vs,_,O,S,s,S',hk,.cons (b:=v) (m:=vals) hv hvs,h,Z=>by
  show Qt C env .all A (assignInOrder ((fun v=>bindName env (tx i) v)::(ts.map tx).map fun n=>bindName env n) (v::vals)) _ _ _ _ _;unfold assignInOrder;refine Qt.bind (Qt.holding (S':=S.sto i V) (r:=fun J J J=>True) ?_) fun J O1 sA XC ZC J=>W6 ho ts vs vals O1 (S.sto i V) sA S' (fun j hj=>hk j (List.mem_cons_of_mem _ hj)) (hvs.imp fun J J h=>h.mono XC.agree XC.n) h ZC;have:=Yx (k:=.all) (A:=A) Z ho (hk i List.mem_cons_self) hv (.inl rfl);exact fun E Q q=>wpAny_bindName (this.use fun a O' s' X' Z' h'=>q a O' s' X' Z' h')
 |[],_::_,_,_,_,_,_,_,_,h,_=>by exact Qh h
 |_::_,[],_,_,_,_,_,_,_,h,_=>by exact Qh h
theorem zZk{i:Nat}{x:Expr}(h:tgN nm i x=true):∃y p,x=.Name y p/\K7 nm i y=true:=by
 cases x<;>first|exact⟨_,_,rfl,h⟩|exact Qg h
theorem Ue:∀(ts:List Nat) (l:List Expr),Q9 (tgN nm) ts l=true->∀g:Expr->Option Str,(∀x y,g x=some y->∃p,x=.Name y p)->(l.filterMap g).length=l.length->l.filterMap g=ts.map tx/\∀i∈ts,K7 nm i (tx i)=true
 |[],[],_,_,_,_=>⟨rfl,by simp⟩
 |i::ts,x::l,h,g,hg,hlen=>by
  replace h:=QA h;obtain⟨y,p,rfl,hx⟩:=zZk h.1;have ht:=(Ho hx).1;cases e:g (.Name y p)with
  |none=>
   rw[List.filterMap_cons_none e]at hlen;have:=List.length_filterMap_le g l;simp at hlen;omega
  |some z=>
   obtain⟨_,e'⟩:=hg _ _ e;cases e';rw[List.filterMap_cons_some e]at hlen⊢;obtain⟨h1,h2⟩:=Ue ts l h.2 g hg (by simpa using hlen);refine⟨by rw[h1,List.map_cons,ht],fun j hj=>?_⟩;rcases QR hj with rfl|hj
   ·rw[ht];exact hx
   ·exact h2 j hj
 |[],_::_,h,_,_,_=>by exact Qg h
 |_::_,[],h,_,_,_=>by exact Qg h
theorem Uq{l a:List Expr}{k kB:Nat}{p pA:Pos}{tl:List Nat}(hc:Q9 (tgN nm) tl l=true)(hca:a.all (constantsAlone 8)=false):
  swappedStores [.Tuple l k p] (.Tuple a kB pA) env=pure none∨(swappedStores [.Tuple l k p] (.Tuple a kB pA) env=pure (some (tl.map tx))/\∀i∈tl,K7 nm i (tx i)=true):=by
 unfold swappedStores;dsimp only;split
 ·exact .inl rfl
 split
 ·exact .inl rfl
 split
 ·exact .inl rfl
 rename_i h
 split
 ·exact .inl rfl
 rw[hca,if_neg (by decide)];refine .inr ?_;simp only[Bool.or_eq_true,bne_iff_ne,ne_eq,not_or,Classical.not_not]at h;obtain⟨h1,h2⟩:=Ue tl l hc _ (fun x y e=>by
  split at e
  ·split at e
   ·cases e;exact⟨_,rfl⟩
   ·cases e
  ·cases e) h.1
 exact⟨by rw[<-h1],h2⟩
theorem qJ6(hE:SE C gT ev D)(hA:AOk D A)(ho:Qm env nm)(Z:Stt C env O S s){tl:List Nat}{es:List HE}{l a:List Expr}{k kB:Nat}{p pA pos:Pos}(hs:a.all Zd=true)(hca:a.all (constantsAlone 8)=false)(hnd:Kw tl=true)(h20:Nat.ble tl.length 20=true)(hl:Q9 (tgN nm) tl l=true)
  (hx:Q9 (Qq gT f nm) es a=true) {fl:Fl} (h:sAsX ev tl es S=.ok fl S'):Run C env .all A (exec (.Assign [.Tuple l k p] (.Tuple a kB pA) pos) env) O S s S' (Jd C fl):=by
 obtain⟨vs,S1,h1,h2⟩:=Qb h;obtain⟨_,S2,h3,h4⟩:=Qb (x:=ofS _) h2;cases h4;have h3:=X0 h3;have hlen:=Yv _ _ _ _ h3;intro E Q q;have ev1:∀{E:Value->Shared->Prop} {Q:Value->Shared->Prop},(∀t O1 sA vals,Ext C (Wd env .no) O S s O1 S1 sA->Stt C env O1 S1 sA->F2 (VR C O1 S1.n) vs vals->IsTup sA.heap t vals.toArray->Q (.ref t) sA)->wpC (model C.prog C.w) A (eval (.Tuple a kB pA) env) Q E s:=by
  intro E Q q;rw[arm_eval_Tuple];refine Qa (Qi (Qa ((Kg hE ho hA pA es a O S s vs S1 hx hs Z h1).use fun vl O1 sA XC ZC rA=>?_)));refine Qe<|wpAny_newTuple ?_ (by have:=rA.length;have h20:=QE h20;have:sizeLine=16777216:=rfl;omega)
  have G:=ZC.grown (kk:=.no) (h':=sA.heap.push {cls:=.type "tuple",data:=.seq vl.toArray}) (fun b o e=>Heap.get?_push_of_some _ e) sA.toks;exact q _ O1 _ vl (XC.trans ZC G.1) G.2 rA ⟨_,Heap.get?_push_size _ rfl,rfl,0,rfl⟩
 rcases Uq (env:=env) (k:=k) (kB:=kB) (p:=p) (pA:=pA) hl hca with hw|⟨hw,hk⟩
 ·refine Wj (ev1 fun t O1 sA vals XC ZC rA ht=>?_) rfl hw
  exact(Yb (kk:=.all) ho hA ZC hl (.inl rfl) (by simpa using rA) ht h3).c.use fun J O2 s2 XD ZD J=>q _ O2 s2 ((XC.wide fun J h=>h.elim).trans ZC XD) ZD rfl
 ·refine J8 (ev1 fun t O1 sA vals XC ZC rA ht=>?_) rfl hw
  have hsz:(tl.map tx).length=vals.toArray.size:=by have:=rA.length;simp;omega
  rw[hsz];refine Qe<|unpackItems_tuple hA.handled ht fun h' he=>?_
  have G:=ZC.grown (kk:=.all) (V8 he) sA.toks;obtain⟨SC,h5,e1,e2,e3⟩:=P7 (Yc hnd) h3;rw[<-List.map_reverse];refine(W6 ho tl.reverse vs.reverse vals.toArray.toList.reverse O1 S1 _ SC (fun i hi=>hk i (by simpa using hi)) (by simpa using rA.reverse) h5 G.2).c.use fun J O2 s2 XD ZD J=>?_;have XX:=((XC.wide (W':=Wd env .all) fun J h=>h.elim).trans ZC G.1).trans G.2 XD;exact q _ O2 s2 (XX.uN e1 e2) (ZD.uN e1 e2 e3) rfl
end
section
variable(C:Cx)(gT:Nat->Option HV)
def SU(ev:HE->St->R HV)(D:Nat):Prop:=∀f nm elt tgt one k its cond x env A O S s V S',Qq gT f nm (.comp elt tgt one k its cond) x=true->Qm env nm->AOk D A->Stt C env O S s->ev (.comp elt tgt one k its cond) S=.ok V S'->
 ∀(u:Value->Sem Unit) (SC:St),(∀v O' s',Stt C env O' S' s'->VR C O' S'.n V v->Run C env .all A (u v) O' S' s' SC (fun J J J=>True))->Run C env .all A (evalThenUse x env u) O S s SC (fun J J J=>True)
end
section
variable{C:Cx}{P:Par}{gT:Nat->Option HV}{env:Env}{nm:Nms}{A:Around}{O:Nat->Addr}{S S' S1:St}{s:Shared}{D f:Nat}{ev:HE->St->R HV}{ts:HE->St->R Bool}{xs:List HS->St->R Fl}{V:HV}
theorem AOk.l3(h:AOk (D+3) A):AOk D A:=h.less (by omega)
theorem Hh:∀{o:UnaryOp},Dt o=true->o=.Not:=by
 intro o;cases o<;>first|exact fun J=>rfl|exact ff
theorem N9:∀{o:UnaryOp},qZr o=true->o=.USub:=by
 intro o;cases o<;>first|exact fun J=>rfl|exact ff
theorem Pm{isAnd:Bool}{o:BoolOp}:Mm isAnd (qZv o)=true->(match o with|.And=>isAnd|.Or=> !isAnd)=true:=by
 intro h;cases o<;>cases isAnd<;>first|rfl|exact ff h
theorem D9(K:Q6 C P gT)(FK:Zc C gT P){bo:Nat}(OK:Pq C P bo)(OO:Wh C P)(hE:SE C gT ev D)(hT:ST C gT ts D)(hX:SX C gT xs D)(hD:bo<=D):SE C gT (evE P ev ts xs) (D+3):=by
 intro f nm e x env A O S s V S' hc ho hA Z h;cases f with
 |zero=>cases hc
 |succ f=>
  cases e with
  |c v=>
   cases h;exact Xy (X:=fun x=>Run C env .no A (eval x env) O _ s _ (Q4 C v)) (fun c n p hc=>W4 Z hc) x hc
  |x i=>
   obtain⟨h1,rfl⟩:=Q8 (x:=lk S.loc i) h;exact Zh (X:=fun x=>Run C env .no A (eval x env) O _ s _ (Q4 C V)) (fun s p hc=>Bf Z ho hc h1) x hc
  |gv i v=>
   cases h;exact Zh (X:=fun x=>Run C env .no A (eval x env) O _ s _ (Q4 C v)) (fun s p hc=>Bg K Z ho hc) x hc
  |att o i=>
   refine Xb (X:=fun x=>Run C env .no A (eval x env) O _ s _ (Q4 C V)) (fun a s p hc=>?_) x hc;simp only[QB,beq_iff_eq]at hc;exact qJ5 K hE hA.l3 ho Z hc.1.1 hc.1.2 hc.2 h
  |bin op a b=>
   refine Ny (X:=fun x=>Run C env .no A (eval x env) O _ s _ (Q4 C V)) (fun l o r p hc=>?_) x hc;simp only[QB]at hc;exact qJ4 K hE hA.l3 ho Z hc.1.1 hc.1.2 hc.2 h
  |cmp op a b=>
   refine Nx (X:=fun x=>Run C env .no A (eval x env) O _ s _ (Q4 C V)) (fun l os rs p hc=>Vn (Q:=fun os=>Run C env .no A (eval (.Compare l os rs p) env) O S s S' (Q4 C V)) (fun o hc=>Vn (Q:=fun rs=>Run C env .no A (eval (.Compare l [o] rs p) env) O S s S' (Q4 C V)) (fun r hc=>?_) rs hc) os hc) x hc;simp only[QB]at hc;exact Tk K hE hA.l3 ho Z hc.1.1.1 hc.1.1.2 hc.1.2 hc.2 h
  |bo isAnd l=>
   refine Bm (X:=fun x=>Run C env .no A (eval x env) O _ s _ (Q4 C V)) (fun o xs p hc=>?_) x hc;rw[QB]at hc;rw[arm_eval_BoolOp];exact Ni K hE hA.l3 ho _ (Pm hc.1) l _ O S s V S' hc.2 Z h
  |not a=>
   refine W9 (X:=fun x=>Run C env .no A (eval x env) O _ s _ (Q4 C V)) (fun o b p hc=>?_) x hc;rw[QB]at hc;obtain rfl:=Hh hc.1;exact qJw K hE hA.l3 ho Z hc.2 h
  |neg a=>
   refine W9 (X:=fun x=>Run C env .no A (eval x env) O _ s _ (Q4 C V)) (fun o b p hc=>?_) x hc;rw[QB]at hc;obtain rfl:=N9 hc.1;exact qJx K hE hA.l3 ho Z hc.2 h
  |ite t a b=>
   refine qZm (X:=fun x=>Run C env .no A (eval x env) O _ s _ (Q4 C V)) (fun t' a' b' p hc=>?_) x hc;simp only[QB]at hc;exact qJ0 hE hT hA.l3 ho Z hc.1.1 hc.1.2 hc.2 h
  |lst l=>
   refine Nu (X:=fun x=>Run C env .no A (eval x env) O _ s _ (Q4 C V)) (fun xs p hc=>?_) x hc;rw[QB]at hc;exact qJy hE hA.l3 ho Z hc.1 hc.2 h
  |tup l=>
   refine Xx (X:=fun x=>Run C env .no A (eval x env) O _ s _ (Q4 C V)) (fun xs k p hc=>?_) x hc;rw[QB]at hc;exact qJs hE hA.l3 ho Z hc.1 hc.2 h
  |dct ks l=>
   refine Nw (X:=fun x=>Run C env .no A (eval x env) O _ s _ (Q4 C V)) (fun ks' xs p hc=>?_) x hc;simp only[QB]at hc;exact zJb K hE hA.l3 ho Z hc.1.1.1 hc.1.1.2 hc.1.2 hc.2 h
  |comp elt tgt one k its cond=>
   refine Bl (X:=fun x=>Run C env .no A (eval x env) O _ s _ (Q4 C V)) (fun el gs sc p hc=>Vn (Q:=fun gs=>Run C env .no A (eval (.ListComp el gs sc p) env) O S s S' (Q4 C V)) (fun g hc=>Tx (Q:=fun g=>Run C env .no A (eval (.ListComp el [g] sc p) env) O S s S' (Q4 C V)) (fun t it ifs hc=>?_) g hc) gs hc) x hc;refine aK hc ?_;clear hc;intro zq1 h7;refine aK zq1 ?_;clear zq1;intro zq1 h6;refine aK zq1 ?_;clear zq1;intro zq1 h5;refine aK zq1 ?_;clear zq1;intro zq1 h4;refine aK zq1 ?_;clear zq1;intro zq1 h3;refine aK zq1 ?_;clear zq1;intro zq1 _;refine aK zq1 ?_;clear zq1;intro h1 h2;exact Tj K hE hT hA ho Z h1 h2 h3 h4 h5 h6 h7 h
  |call g as=>
   refine Jt (X:=fun x=>Run C env .no A (eval x env) O _ s _ (Q4 C V)) (fun fn xs ks p hc=>?_) x hc;rw[QB]at hc;obtain⟨hk,hc⟩:=hc;obtain rfl:=QQ hk;refine Zh (X:=fun fn=>Run C env .no A (eval (.Call fn xs [] p) env) O _ s _ (Q4 C V)) (fun n q hc=>?_) fn hc;simp only[QB]at hc;exact Tm K FK OK OO hE hX hD hA ho Z hc.1.1 hc.1.2 hc.2 h
  |meth o i as=>
   refine Jt (X:=fun x=>Run C env .no A (eval x env) O _ s _ (Q4 C V)) (fun fn xs ks p hc=>?_) x hc;rw[QB]at hc;obtain⟨hk,hc⟩:=hc;obtain rfl:=QQ hk;refine Xb (X:=fun fn=>Run C env .no A (eval (.Call fn xs [] p) env) O _ s _ (Q4 C V)) (fun a n q hc=>?_) fn hc;simp only[QB,beq_iff_eq]at hc;obtain⟨⟨⟨⟨⟨⟨h1,h2⟩,h3⟩,h4⟩,h5⟩,h6⟩,h7⟩:=hc;exact Tg K FK OK OO hE hX hD hA ho Z h1 h2 h3 h4 h5 h6 h7 h
  |sub o i=>
   refine Ki (X:=fun x=>Run C env .no A (eval x env) O _ s _ (Q4 C V)) (fun a b p hc=>?_) x hc;simp only[QB]at hc;exact qJu K hE hA.l3 ho Z hc.1.2 hc.2 h
  |sl o lo hi st=>
   refine Ki (X:=fun x=>Run C env .no A (eval x env) O _ s _ (Q4 C V)) (fun a b p hc=>Ga (X:=fun b=>Run C env .no A (eval (.Subscript a b p) env) O S s S' (Q4 C V)) (fun l h' u q hc=>?_) b hc) x hc;simp only[QB]at hc;exact zZr K FK hE hA.l3 ho Z hc.1.1.1 hc.1.1.2 hc.1.2 hc.2 h
  |stuck=>cases h
theorem D8(K:Q6 C P gT)(hE:SE C gT ev D)(hT:ST C gT ts D):SU C gT (evE P ev ts xs) (D+3):=by
 intro f nm elt tgt one k its cond x env A O S s V S' hc ho hA Z h u SC hu;cases f with
 |zero=>cases hc
 |succ f=>
  refine Bl (X:=fun x=>Run C env .all A (evalThenUse x env u) O S s SC (fun J J J=>True)) (fun el gs sc p hc=>Vn (Q:=fun gs=>Run C env .all A (evalThenUse (.ListComp el gs sc p) env u) O S s SC (fun J J J=>True)) (fun g hc=>Tx (Q:=fun g=>Run C env .all A (evalThenUse (.ListComp el [g] sc p) env u) O S s SC (fun J J J=>True)) (fun t it ifs hc=>?_) g hc) gs hc) x hc;refine aK hc ?_;clear hc;intro zq1 h7;refine aK zq1 ?_;clear zq1;intro zq1 h6;refine aK zq1 ?_;clear zq1;intro zq1 h5;refine aK zq1 ?_;clear zq1;intro zq1 h4;refine aK zq1 ?_;clear zq1;intro zq1 h3;refine aK zq1 ?_;clear zq1;intro zq1 _;refine aK zq1 ?_;clear zq1;intro h1 h2;rw[arm_evalThenUse_ListComp];intro E Q q;exact Qa ((G9 K hE hT hA ho Z h1 h2 h3 h4 h5 h6 h7 h hu).use fun J O' s' X' Z' t=>Qc (q () O' s' X' Z' t))
end
theorem AOk.uV{D:Nat}{A:Around}(h:AOk (D+3) A):AOk D A:=h.less (by omega)
section
variable{C:Cx}{P:Par}{gT:Nat->Option HV}{env cenv:Env}{nm:Nms}{A:Around}{O:Nat->Addr}{S S' S1:St}{s:Shared}{D f:Nat}{ev:HE->St->R HV}{ts:HE->St->R Bool}{xs:List HS->St->R Fl}{V:HV}
theorem Vc{elt:HE}{tgt:List Nat}{one:Bool}{cond:Option HE}{k n0:Nat}{vs:List HV}:∀{fu i:Nat} {S S':St} {l:List HV},Vs ev ts elt tgt one cond k vs n0 fu i S=.ok l S'->l.length<=fu
 |0,_,_,_,_,h=>by cases h
 |fu+1,i,S,S',l,h=>by
  obtain⟨t,S2,h1,h2⟩:=Qb (x:=ofO (Yg S k vs n0 i) S) h;cases t with
  |none=>cases h2;exact Nat.zero_le _
  |some ys=>
   have h2:zQw ev ts elt tgt one cond (Vs ev ts elt tgt one cond k vs n0 fu (i+1)) ys S2=.ok l S':=h2;obtain⟨_,SC,h4,h5⟩:=Qb (x:=ofS (Wc S2 tgt one ys)) h2;obtain⟨b,SD,h6,h7⟩:=Qb (x:=qQ0 ts cond SC) h5;cases b with
   |false=>exact Nat.le_succ_of_le (Vc (fu:=fu) h7)
   |true=>
    have h7:((ev elt SD).bind fun v S=>(Vs ev ts elt tgt one cond k vs n0 fu (i+1) S).bind fun l S=>.ok (v::l) S)=.ok l S':=h7;obtain⟨W,S5,h8,h9⟩:=Qb h7;obtain⟨lA,S6,h10,h11⟩:=Qb h9;cases h11;exact Nat.succ_le_succ (Vc h10)
theorem L4{k:Wk}{O1:Nat->Addr}{sA:Shared}(X:Ext C (Wd env k) O S s O1 S1 sA)(Z:Stt C env O1 S1 sA){a:Addr}(h:sA.heap.get? a=none):s.heap.get? a=none:=by
 cases e:s.heap.get? a with
 |none=>rfl
 |some o=>
  exfalso
  by_cases w:Wd env k a
  ·rcases Uf w with w|⟨x,w⟩
   ·obtain⟨m,⟨o',_,_,ho,_⟩,_⟩:=Z.lr.loc
    rw[<-w,h]at ho;cases ho
   ·obtain⟨_,_,_,v,o',ho,_⟩:=Z.lr.cell x _ w
    rw[h]at ho;cases ho
  ·by_cases l:∀i,C.T0.get i=none->i<S.n->(S.get i).isSome->O i≠a
   ·rw[X.keep _ o e w l]at h;cases h
   ·simp only[Classical.not_forall,Classical.not_not,ne_eq]at l
    obtain⟨i,_,hin,hi,e'⟩:=l;obtain⟨o',ho'⟩:=QD ((X.dom i hin).mpr hi);obtain⟨_,ob,hob,_⟩:=Z.hr.live i o' ho';rw[X.agree i hin,e',h]at hob;cases hob
theorem Uu(K:Q6 C P gT)(hE:SE C gT ev D)(hT:ST C gT ts D)(hA:AOk (D+3) A)(ho:Qm cenv nm){k n0:Nat}{vs:List HV}{it:Value}(T:Itr C k vs n0 it){Da:Addr}{t1 t2:List Nat}{one one2:Bool}{e tb ia ib elt':Expr}{elt:HE}{cond:Option HE}{ifs:List Expr}{k2:Nat}{its2:List HE}{sc:Scope}{pos:Pos}
  (ht:kTg nm one t1 e=true) (hl:Jo nm e=true) (hki2:kIt (Qq gT f nm) nm k2 its2 ib=true) (htg2:kTg nm one2 t2 tb=true) (htl2:Jo nm tb=true) (he:Qq gT f nm elt elt'=true) (hc:Jq (Qq gT f nm) cond ifs=true)
  {R':Result->Shared->Prop} {l:List HV} {SB:St} {sB:Shared} (hDf:sB.heap.get? Da=none) (hDb:C.h0.objs.size<=Da) (hDT:Da∉T.hid) (hf:∀a∈T.hid,sB.heap.get? a=none) (h0:∀a∈T.hid,C.h0.get? a=none)
  (hR:∀O' s' ys,Ext C (Wd cenv .loc) O SB sB O' S' s'->Stt C cenv O' S' s'->s'.heap.PlainList Da ys->F2 (VR C O' S'.n) l ys.toList->Hid [Da] cenv O' S' s'.heap->R' (.ok .next) s')
  (fu i:Nat) (pre l':List HV) (hpl:pre++l'=l) (hsz:pre.length+64*fu<=9000) {O1:Nat->Addr} {sA:Shared} (h:Ub P ev ts elt t1 one t2 one2 k2 its2 cond k vs n0 fu i S1=.ok l' S')
  (hX:Ext C (Wd cenv .loc) O SB sB O1 S1 sA) (hZ:Stt C cenv O1 S1 sA) (hH:Hid T.hid cenv O1 S1 sA.heap) (hB:T.B i O1 S1.n sA.heap) (hD:Hid [Da] cenv O1 S1 sA.heap) {ys:Array Value} (hP:sA.heap.PlainList Da ys) (hF:F2 (VR C O1 S1.n) pre ys.toList):
  Q1 (model C.prog C.w) A (.compLoop (.ListComp elt' [⟨e,ia,[],0⟩,⟨tb,ib,ifs,0⟩] sc pos) 0 it (.ref Da) cenv) R' sA:=by
 refine Wa (fun v=>Br (Y3 hki2) v) (fun n sA=>∀G:Prop,(∀i pre l' O1 S1 ys,pre++l'=l->pre.length+64*n<=9000->Ub P ev ts elt t1 one t2 one2 k2 its2 cond k vs n0 n i S1=.ok l' S'->Ext C (Wd cenv .loc) O SB sB O1 S1 sA->Stt C cenv O1 S1 sA->Hid T.hid cenv O1 S1 sA.heap->T.B i O1 S1.n sA.heap->Hid [Da] cenv O1 S1 sA.heap->sA.heap.PlainList Da ys->F2 (VR C O1 S1.n) pre ys.toList->G)->G) ?_ fu sA fun G kG=>kG i pre l' O1 S1 ys hpl hsz h hX hZ hH hB hD hP hF;clear h hX hZ hH hB hD hP hF hpl hsz;refine fun n sA H=>H _ fun i pre l' O1 S1 ys hpl hsz h hX ZC hH hB hD hP hF=>?_;clear H;cases n with
 |zero=>cases h
 |succ n=>
  refine Jy (x:=Yg S1 k vs n0 i) h fun t h3 h2=>?_;clear h;cases t with
  |none=>
   cases h2;refine Qe<|T.stop hH hB ZC hA.uV h3 fun s2 kB=>?_
   rw[List.append_nil]at hpl;subst hpl;exact hR O1 s2 ys (hX.hidden hf kB) (ZC.hidden hH kB h0) (hP.at fun o e=>kB.keep _ _ hDT e) hF (hD.kept (fc ((hD _ in0).1.imp fun J e=>kB.keep _ _ hDT e) fn0))
  |some zs=>
   have h2:qZ3 P ev ts elt t1 one t2 one2 k2 its2 cond (Ub P ev ts elt t1 one t2 one2 k2 its2 cond k vs n0 n (i+1)) zs S1=.ok l' S':=h2;refine qQ9 (x:=Wc S1 t1 one zs) h2 fun SC h4 h5=>?_;clear h2;obtain⟨vs2,SD,h6,h7⟩:=Qb h5;obtain⟨h8,h9⟩:=Qk h7;obtain⟨l1,S5,h10,h11⟩:=Qb h9;obtain⟨l2,S6,h12,h13⟩:=Qb h11;cases h13;refine Qe<|T.item hH hB ZC hA.uV h3 fun v s2 kB hown=>?_
   refine Qe<|hown e _ _ (Hc h3 h4 ht) fun s3 kC hv3 hex hB3=>?_
   have kk23:=kB.trans kC;have ZE:=ZC.hidden hH kk23 h0;have hH3:=hH.kept hex;have hD3:Hid [Da] cenv O1 S1 s3.heap:=hD.kept (fc ((hD _ in0).1.imp fun J e=>kk23.keep _ _ hDT e) fn0);refine(G8 (kk:=.loc) ho hA.uV ZE ht (.inr ⟨rfl,hl⟩) hv3 h4).c.use fun J O4 s4 XF ZF J=>?_;have X34:Ext C (Wd cenv .loc) O1 S1 s3 O4 SC s4:=XF;refine Uy K hE hA ho ZF hki2 h6 h8 fun itv T2 O5 s0 s5 XH Z50 k05 hsz05 hg05 hos05 hf2 ZG hH2 hB2=>?_;have X45:Ext C (Wd cenv .loc) O4 SC s4 O5 SD s0:=XH.wide fun J h=>h.elim;have X30:=X34.trans ZF X45;have XB0:=(hX.hidden hf kk23).trans ZE X30;have XG:Ext C (Wd cenv .loc) O5 SD s0 O5 SD s5:=⟨fun J J=>rfl,QL _,fun J J=>rfl,fun j hj h=>(by rw[ZG.hr.none hj]at h;cases h),fun a o e J J=>k05 a o e,hg05,hos05⟩;have XB5:=XB0.trans Z50 XG;have X35:=X30.trans Z50 XG;have hH5:=hH3.ext X35;have hB5:=T.bst hB3 (hH3.same X35) X35.agree X35.n;have hD5:=hD3.ext X35;have hP5:s5.heap.PlainList Da ys:=hP.at fun o e=>by rw[hD3.same X35 Da (by simp)];exact kk23.keep _ _ hDT e
   have hF5:F2 (VR C O5 SD.n) pre ys.toList:=hF.imp fun J J h=>h.mono X35.agree X35.n;have hDa0:∃o,s0.heap.get? Da=some o:=by
    obtain⟨⟨o,ho'⟩,_⟩:=hD3 Da (by simp);exact⟨o,by rw[hD3.same X30 Da (by simp)];exact ho'⟩
   have hDT2:Da∉T2.hid:=fun hm=>by
    obtain⟨o,ho'⟩:=hDa0;rw[hf2 Da hm]at ho';cases ho'
   have hlen:=Vc h10;have inner:∀{itw:Value},itw=itv->Q1 (model C.prog C.w) A (.compLoop (.ListComp elt' [⟨e,ia,[],0⟩,⟨tb,ib,ifs,0⟩] sc pos) 1 itw (.ref Da) cenv) (fun r s5=>match r with|.ok _=>(∃m,m<n+1/\∀G:Prop,(∀i pre l' O1 S1 ys,pre++l'=l->pre.length+64*m<=9000->Ub P ev ts elt t1 one t2 one2 k2 its2 cond k vs n0 m i S1=.ok l' S6->Ext C (Wd cenv .loc) O SB sB O1 S1 s5->Stt C cenv O1 S1 s5->Hid T.hid cenv O1 S1 s5.heap->T.B i O1 S1.n s5.heap->Hid [Da] cenv O1 S1 s5.heap->s5.heap.PlainList Da ys->F2 (VR C O1 S1.n) pre ys.toList->G)->G)|.error _=>False) s5:=fun e'=>by
    subst e';refine Kt (prot:=T.hid) (H0:=s5.heap.get?) (hr:=fun R' I t n s h=>Gn I t n s h) (hpT:=fun a ha=>⟨fun hm=>?_,fun q=>hDT (q▸ha)⟩) hE hT hA.uV ho T2 htg2 htl2 he hc (l:=pre++l1) hDf hDb hDT2 (fun a ha=>L4 XB0 Z50 (hf2 a ha)) (Xc Z50 hf2)
     (hR:=fun O' s' ys' X' Z' hP' hF' hD' hp' hp0' hag' hni'=>?_) (fu:=64) (i:=0) (pre:=pre) (l':=l1) (hpl:=rfl) (hsz:=by omega) (h:=h10) (hX:=XB5) (hZ:=ZG) (hH:=hH2) (hB:=hB2) (hD:=hD5) (hP:=hP5) (hF:=hF5) (hp:=hH5) (hp0:=fun J J=>rfl) (ni:=SD.n) (Oi:=O5) (hag:=fun J J=>rfl) (hni:=QL _)
    ·obtain⟨⟨o,ho'⟩,_⟩:=hH3 a ha
     have:=hH3.same X30 a ha;rw[hf2 a hm,ho']at this;cases this
    ·exact⟨n,QK _,fun J kG=>kG (i+1) (pre++l1) l2 O' S5 ys' (by rw[List.append_assoc];exact hpl) (by rw[List.length_append];omega) h12 X' Z' hp' (T.bst hB5 hp0' hag' hni') hD' hP' hF'⟩
   exact Y6 (inner rfl) (T2.self hH2 hB2 ZG (inner rfl))
theorem Yy(K:Q6 C P gT)(hE:SE C gT ev D)(hT:ST C gT ts D)(hA:AOk (D+3) A)(ho:Qm env nm)(Z:Stt C env O S s){its its2:List HE}{k k2:Nat}{t1 t2:List Nat}{one one2:Bool}{elt:HE}{cond:Option HE}{t it tb ib elt':Expr}{ifs:List Expr}{sc:Scope}{pos p0:Pos}
  (hok:Jh sc nm=true) (hlo:Z9 sc (t1++t2)=true) (hki:kIt (Qq gT f nm) nm k its it=true) (htg:kTg (Qp sc nm) one t1 t=true) (htl:Jo (Qp sc nm) t=true) (hki2:kIt (Qq gT f (Qp sc nm)) (Qp sc nm) k2 its2 ib=true) (htg2:kTg (Qp sc nm) one2 t2 tb=true) (htl2:Jo (Qp sc nm) tb=true) (hel:Qq gT f (Qp sc nm) elt elt'=true)
  (hco:Jq (Qq gT f (Qp sc nm)) cond ifs=true) {vs l:List HV} {S2:St}
  (h1:evs ev its S=.ok vs S1) (h2:Ym P S1 k vs=true) (h3:Ub P ev ts elt t1 one t2 one2 k2 its2 cond k vs (Zs S1 vs) 64 0 ⟨S1.t,S1.n,without S1.loc (t1++t2)⟩=.ok l S2) (hn:S2.n<=100000) (hsz:l.length<=1000)
  {use:Option (Value->Sem Unit)} {E:Value->Shared->Prop} {Q:Value->Shared->Prop}
  (hq:∀Da Cc m O' s',Ext C (Wd env .no) O S s O' ⟨S2.t.set 40 S2.n (.list l),S2.n+1,S1.loc⟩ s'->Stt C env O' ⟨S2.t.set 40 S2.n (.list l),S2.n+1,S1.loc⟩ s'->VR C O' (S2.n+1) (.obj S2.n) (.ref Da)->
   Hid [Cc] env O' ⟨S2.t.set 40 S2.n (.list l),S2.n+1,S1.loc⟩ s'.heap->s'.heap.Ns Cc m->s.heap.get? Cc=none->C.h0.objs.size<=Cc->Jb (model C.prog C.w) A E use Q (.ref Da) Cc (.ok .next) s'):
  wpC (model C.prog C.w) A (comprehension (.ListComp elt' [⟨t,it,[],0⟩,⟨tb,ib,ifs,0⟩] sc pos) sc env p0 (newList []) false (eval it env) use) Q E s:=by
 obtain⟨hkind,hlk,hcl,hfr⟩:=Yz hok;have hclos:=Jx (env:=env) (sc:=sc) fun p hp e=>ho.cells p.1 (hfr p hp e);refine Jn (g:=⟨t,it,[],0⟩) (gs:=[⟨tb,ib,ifs,0⟩]) rfl (fun v=>Br (Y3 hki) v) hclos hkind hlk ?_;refine Uy K hE hA ho Z hki h1 h2 fun itv T O1 s0 sA XC Z00 k01 hsz01 hg01 hos01 hf ZC hH1 hB1=>?_;refine Qe<|wpAny_newObj_type (Qe<|wpAny_newFunctionEnv hcl (by intro y hy;simp at hy) (fun aH hns hsb=>?_) hkind)
 dsimp only at hns hsb⊢;generalize hH2:sA.heap.push {cls:=.type "list",dict:=none,data:=.seq ([]:List Value).toArray}=H2 at hns hsb⊢;have hC:H2.objs.size=sA.heap.objs.size+1:=by rw[<-hH2,Heap.size_push]
 have hsbE:∀b o,b≠H2.objs.size->H2.get? b=some o->aH.get? b=some o:=fun b o hb e=>hsb.extBut b o hb (Heap.get?_push_of_some _ e);have keep:∀b o,sA.heap.get? b=some o->aH.get? b=some o:=fun b o e=>hsbE b o (by have:=QH e;rw[hC];exact Nat.ne_of_lt (Nat.lt_succ_of_lt this)) (hH2▸Heap.get?_push_of_some _ e);have hacc:aH.PlainList sA.heap.objs.size #[]:=⟨0,hsbE _ _ (by rw[hC];exact Nat.ne_of_lt (QK _)) (hH2▸Heap.get?_push_size _ rfl)⟩;have fresh:∀a,sA.heap.objs.size<=a->sA.heap.get? a=none:=fun a ha=>by
  cases e:sA.heap.get? a with
  |none=>rfl
  |some o'=>exact absurd (QH e) (QJ ha)
 have fresh0:∀a,sA.heap.objs.size<=a->s0.heap.get? a=none:=fun a ha=>by
  cases e:s0.heap.get? a with
  |none=>rfl
  |some o'=>exact absurd (QH (k01 a o' e)) (QJ ha)
 have base:C.h0.objs.size<=sA.heap.objs.size:=QG ZC.lr.above (Nat.le_of_lt (ZC.lr.uh (.inl rfl)));have lt:∀j,(S1.get j).isSome->O1 j<sA.heap.objs.size:=fun j hj=>by
  obtain⟨y,hy⟩:=QD hj;obtain⟨_,z,hz,_⟩:=ZC.hr.live j y hy;exact QH hz
 obtain⟨hE',ZA,XA⟩:=Ua (tk:=sA.toks+([]:List (Str × Value)).length) ho ZC hok hlo hC keep hns;have XG:Ext C (Wd (compEnvC sc (Zp env.cells sc.names []) H2.objs.size env) .loc) O1 ⟨S1.t,S1.n,without S1.loc (t1++t2)⟩ s0 O1 ⟨S1.t,S1.n,without S1.loc (t1++t2)⟩ {sA with heap:=aH,toks:=sA.toks+([]:List (Str × Value)).length}:=
  ⟨fun J J=>rfl,QL _,fun J J=>rfl,fun j hj h=>(by have h':(S1.get j).isSome:=h;rw[ZC.hr.none hj]at h';cases h'),fun a o e J J=>keep a o (k01 a o e),hg01,hos01⟩
 show Q1 (model C.prog C.w) A (.compStart _ 0 itv (.ref sA.heap.objs.size) (compEnvC sc (Zp env.cells sc.names []) H2.objs.size env)) (Jb _ _ _ _ _ (.ref sA.heap.objs.size) H2.objs.size) _;have hsub:=Jc env.cells sc.names [] (fun x c e=>by cases e);have wrc:∀a,Wr (compEnvC sc (Zp env.cells sc.names []) H2.objs.size env) a->a=H2.objs.size∨∃x,env.cells.lookup x=some a:=fun a w=>w.imp id fun⟨x,hx⟩=>⟨x,hsub x a hx⟩;have hH0:Hid T.hid (compEnvC sc (Zp env.cells sc.names []) H2.objs.size env) O1 ⟨S1.t,S1.n,without S1.loc (t1++t2)⟩ aH:=fun a ha=>by
  obtain⟨⟨o,e⟩,hw,hl⟩:=hH1 a ha;refine⟨⟨o,keep a o e⟩,fun w=>?_,hl⟩;rcases wrc a w with q|⟨x,q⟩
  ·have:=QH e
   rw[q,hC]at this;exact absurd this (QJ (Nat.le_succ _))
  ·exact hw (.inr ⟨x,q⟩)
 have hB0:T.B 0 O1 S1.n aH:=T.bst hB1 (fun a ha=>by obtain⟨⟨o,e⟩,_⟩:=hH1 a ha;rw[e,keep a o e]) (fun J J=>rfl) (QL _);have wDa:∀w:Wr (compEnvC sc (Zp env.cells sc.names []) H2.objs.size env) sA.heap.objs.size,False:=fun w=>by
  rcases wrc _ w with q|⟨x,q⟩
  ·rw[hC]at q;exact absurd q (Nat.ne_of_lt (QK _))
  ·obtain⟨_,_,_,v,hv⟩:=ZC.lr.cell x _ q
   exact absurd hv.lt (QM _)
 have aA:Hid [sA.heap.objs.size] (compEnvC sc (Zp env.cells sc.names []) H2.objs.size env) O1 ⟨S1.t,S1.n,without S1.loc (t1++t2)⟩ aH:=fc (hacc.elim fun n hn'=>⟨⟨_,hn'⟩,wDa,fun j hj e=>absurd (lt j hj) (by rw[e];exact QM _)⟩) fn0;have loop:Q1 (model C.prog C.w) A (.compLoop (.ListComp elt' [⟨t,it,[],0⟩,⟨tb,ib,ifs,0⟩] sc pos) 0 itv (.ref sA.heap.objs.size) (compEnvC sc (Zp env.cells sc.names []) H2.objs.size env))
   (Jb (model C.prog C.w) A E use Q (.ref sA.heap.objs.size) H2.objs.size) {sA with heap:=aH,toks:=sA.toks+([]:List (Str × Value)).length}:=by
  refine Uu K hE hT hA hE' T htg htl hki2 htg2 htl2 hel hco (SB:=⟨S1.t,S1.n,without S1.loc (t1++t2)⟩) (sB:=s0) (fresh0 _ (QL _)) base (fun hm=>by obtain⟨⟨o,e⟩,_⟩:=hH1 _ hm;exact absurd (QH e) (QM _)) hf (Xc Z00 hf)
   (hR:=fun O' s' ys XB ZB hP hF hDh=>?_) (fu:=64) (i:=0) (pre:=[]) (l':=l) (hpl:=rfl) (hsz:=by simp) (h:=h3) (hX:=XG) (hZ:=ZA) (hH:=hH0) (hB:=hB0) (hD:=aA) (hP:=hacc) (hF:=.nil)
  have B:=Z00.back (S0:=⟨S1.t,S1.n,without S1.loc (t1++t2)⟩) (s0:=s0) rfl rfl (fun J J e=>e) rfl rfl (fun b hb=>by
   have hb:b=H2.objs.size:=hb;rw[hb,hC];exact QJ (Nat.le_succ_of_le hsz01)) XB ZB
  obtain⟨n',hn'⟩:=hP;have hDa:=hDh sA.heap.objs.size (by simp);have envDa:¬Wr env sA.heap.objs.size:=fun w=>absurd (ZC.lr.uh w) (QM _);have envC:¬Wr env H2.objs.size:=fun w=>absurd (ZC.lr.uh w) (by rw[hC];exact QJ (Nat.le_succ _));have hlen:l.length<=l.length:=QL _;have A':=Stt.uz (o:=.list l) B.1 B.2 (fresh0 _ (QL _)) hn' envDa (fun j hj=>hDa.2.2 j hj) base hn ⟨hsz,ys,n',rfl,hF⟩;obtain⟨m,hm,_⟩:=ZB.lr.loc;have hsn:S1.n<=S2.n:=XB.n;refine hq sA.heap.objs.size H2.objs.size m (qQa O' S2.n sA.heap.objs.size) s' (XC.trans Z00 A'.1) A'.2 ⟨QK _,by rw[Ql]⟩ (fc ?_ fn0) hm ?_ (QG base (by rw[hC];exact Nat.le_succ _))
  ·obtain⟨oc,_,_,hoc,_⟩:=hm
   refine⟨⟨oc,hoc⟩,envC,fun j hj e=>?_⟩;have hg:=U5 (S:=S2.back S1) (o:=.list l) hn j;have h5:=congrArg Option.isSome hg;have hj':((if j=S2.n then some (HO.list l)else S2.get j)).isSome=true:=h5.symm.trans hj
   by_cases q:j=S2.n
   ·rw[q,Ql]at e
    rw[hC]at e;exact absurd e (Nat.ne_of_lt (QK _))
   ·rw[if_neg q]at hj'
    have hjn:j<S2.n:=by
     obtain⟨y,hy⟩:=QD hj';exact(ZB.hr.live j y hy).1
    rw[Qu hjn]at e;exact ZB.lr.ul hj' (.inl e)
  ·cases e:s.heap.get? H2.objs.size with
   |none=>rfl
   |some o=>
    have:=XC.keep _ o e (fun h=>h.elim) (fun j J hjn hj q=>?_)
    ·rw[fresh0 _ (by rw[hC];exact Nat.le_succ _)]at this;cases this
    ·have h1':=lt j ((XC.dom j hjn).mpr hj)
     rw[XC.agree j hjn,q,hC]at h1';exact absurd h1' (QJ (Nat.le_succ _))
 exact Z0 loop (T.self hH0 hB0 ZA loop)
theorem Ng(K:Q6 C P gT)(hE:SE C gT ev D)(hT:ST C gT ts D)(hA:AOk (D+3) A)(ho:Qm env nm)(Z:Stt C env O S s){its its2:List HE}{k k2:Nat}{t1 t2:List Nat}{one one2:Bool}{elt:HE}{cond:Option HE}{t it tb ib elt':Expr}{ifs:List Expr}{sc:Scope}{pos:Pos}
  (hok:Jh sc nm=true) (hlo:Z9 sc (t1++t2)=true) (hki:kIt (Qq gT f nm) nm k its it=true) (htg:kTg (Qp sc nm) one t1 t=true) (htl:Jo (Qp sc nm) t=true) (hki2:kIt (Qq gT f (Qp sc nm)) (Qp sc nm) k2 its2 ib=true) (htg2:kTg (Qp sc nm) one2 t2 tb=true) (htl2:Jo (Qp sc nm) tb=true) (hel:Qq gT f (Qp sc nm) elt elt'=true)
  (hco:Jq (Qq gT f (Qp sc nm)) cond ifs=true) (h:V9 P ev ts elt t1 one k its t2 one2 k2 its2 cond S=.ok V S'):
  Run C env .no A (eval (.ListComp elt' [⟨t,it,[],0⟩,⟨tb,ib,ifs,0⟩] sc pos) env) O S s S' (Q4 C V):=by
 obtain⟨vs,S1,h1,h2⟩:=Qb h;obtain⟨h3,h4⟩:=Qk h2;obtain⟨l,S2,h5,h6⟩:=Qb h4;have h6':=h6;obtain⟨hn,rfl,rfl⟩:=Zz h6;intro E Q q;rw[eval_ListComp];refine Yy (use:=none) K hE hT hA ho Z hok hlo hki htg htl hki2 htg2 htl2 hel hco h1 h3 h5 hn (Zr h6') fun Da Cc m O' s' X Zf hv hC hns hf hb=>⟨m,hns,fun h' hs'=>?_⟩;have G:=Km X Zf hf hs' (hC Cc (by simp)).2.1 (hC Cc (by simp)).2.2 hb s'.toks;exact q _ O' _ G.1 G.2 hv
theorem W5(K:Q6 C P gT)(hE:SE C gT ev D)(hT:ST C gT ts D)(hA:AOk (D+3) A)(ho:Qm env nm)(Z:Stt C env O S s){its its2:List HE}{k k2:Nat}{t1 t2:List Nat}{one one2:Bool}{elt:HE}{cond:Option HE}{t it tb ib elt':Expr}{ifs:List Expr}{sc:Scope}{pos p0:Pos}
  (hok:Jh sc nm=true) (hlo:Z9 sc (t1++t2)=true) (hki:kIt (Qq gT f nm) nm k its it=true) (htg:kTg (Qp sc nm) one t1 t=true) (htl:Jo (Qp sc nm) t=true) (hki2:kIt (Qq gT f (Qp sc nm)) (Qp sc nm) k2 its2 ib=true) (htg2:kTg (Qp sc nm) one2 t2 tb=true) (htl2:Jo (Qp sc nm) tb=true) (hel:Qq gT f (Qp sc nm) elt elt'=true)
  (hco:Jq (Qq gT f (Qp sc nm)) cond ifs=true) (h:V9 P ev ts elt t1 one k its t2 one2 k2 its2 cond S=.ok V S') {u:Value->Sem Unit} {SC:St}
  (hu:∀v O' s',Stt C env O' S' s'->VR C O' S'.n V v->Run C env .all A (u v) O' S' s' SC (fun J J J=>True)):
  Run C env .all A (comprehension (.ListComp elt' [⟨t,it,[],0⟩,⟨tb,ib,ifs,0⟩] sc pos) sc env p0 (newList []) false (eval it env) (some u)) O S s SC (fun J J J=>True):=by
 obtain⟨vs,S1,h1,h2⟩:=Qb h;obtain⟨h3,h4⟩:=Qk h2;obtain⟨l,S2,h5,h6⟩:=Qb h4;have h6':=h6;obtain⟨hn,rfl,rfl⟩:=Zz h6;intro E Q q;refine Yy (use:=some u) K hE hT hA ho Z hok hlo hki htg htl hki2 htg2 htl2 hel hco h1 h3 h5 hn (Zr h6') fun Da Cc m O' s' X Zf hv hC hns hf hb=>?_;show wpC _ _ _ _ _ _;refine(hu _ O' s' Zf hv).use fun J O2 s2 XD ZD J=>?_;have hC2:=hC.ext XD;obtain⟨oc,es,ep,hoc,r⟩:=hns;refine⟨m,⟨oc,es,ep,by rw[hC.same XD Cc (by simp)];exact hoc,r⟩,fun h' hs'=>?_⟩;have XX:=(X.wide (W':=Wd env .all) fun J h=>h.elim).trans Zf XD;have G:=Km XX ZD hf hs' (hC2 Cc (by simp)).2.1 (hC2 Cc (by simp)).2.2 hb s2.toks;exact q _ O2 _ G.1 G.2 trivial
theorem Th(K:Q6 C P gT)(hE:SE C gT ev D)(hT:ST C gT ts D)(hA:AOk (D+3) A)(ho:Qm env nm)(Z:Stt C env O S s){its its2:List HE}{k k2:Nat}{t1 t2:List Nat}{one one2:Bool}{elt:HE}{cond:Option HE}{t it tb ib elt':Expr}{ifs:List Expr}{sc:Scope}{lp:Pos}
  (hok:Jh sc nm=true) (hlo:Z9 sc (t1++t2)=true) (hki:kIt (Qq gT f nm) nm k its it=true) (htg:kTg (Qp sc nm) one t1 t=true) (htl:Jo (Qp sc nm) t=true) (hki2:kIt (Qq gT f (Qp sc nm)) (Qp sc nm) k2 its2 ib=true) (htg2:kTg (Qp sc nm) one2 t2 tb=true) (htl2:Jo (Qp sc nm) tb=true) (hel:Qq gT f (Qp sc nm) elt elt'=true)
  (hco:Jq (Qq gT f (Qp sc nm)) cond ifs=true) (h:V9 P ev ts elt t1 one k its t2 one2 k2 its2 cond S=.ok V S') {u:Value->Sem Unit} {SC:St}
  (hu:∀v O' s',Stt C env O' S' s'->VR C O' S'.n V v->Run C env .all A (u v) O' S' s' SC (fun J J J=>True)):
  Run C env .all A (evalThenUse (.ListComp elt' [⟨t,it,[],0⟩,⟨tb,ib,ifs,0⟩] sc lp) env u) O S s SC (fun J J J=>True):=by
 rw[arm_evalThenUse_ListComp];intro E Q q;exact Qa ((W5 K hE hT hA ho Z hok hlo hki htg htl hki2 htg2 htl2 hel hco h hu).use fun J O' s' X' Z' t=>Qc (q () O' s' X' Z' t))
theorem Bi(hA:AOk D A)(ho:Qm env nm){t a:Expr}{pos:Pos}(hn:swapsWith a (some t) pos.line env=pure false)(hsw:swappedStores [t] a env=pure none)(hstar:∀r,assignEach (t::r) env=(false,assign t env)::assignEach r env)(R:Run C env .no A (eval a env) O S s S1 (Q4 C V))
  (hk:∀v O1 sA,Stt C env O1 S1 sA->VR C O1 S1.n V v->Run C env .all A (assign t env v) O1 S1 sA S' (fun J J J=>True)):Run C env .all A (exec (.Assign [t] a pos) env) O S s S' (Jd C .next):=by
 intro E Q q;rw[arm_exec_Assign];refine Qa (Qi ?_);show wpC _ _ (swapsWith a (some t) pos.line env>>=_) _ _ _;rw[hn];refine Qa (Qc ?_);rw[if_neg (by decide)];refine Qa (R.use fun v O1 sA XC ZC hv=>?_);rw[hsw];refine Qa (Qc ?_);rw[hstar];show wpC _ _ (assign t env v>>=fun J=>pure Flow.next) _ _ _;exact Qa ((hk v O1 sA ZC hv).use fun J O2 s2 XD ZD J=>Qc (q _ O2 s2 ((XC.wide fun J h=>h.elim).trans ZC XD) ZD rfl))
theorem xZ2{k:Wk}{v:Value}{y:Str}{py:Pos}(R:Run C env k A (assign (.Name y py) env v) O S s S' (fun J J J=>True)):Run C env k A (assignAll v ((assignEach [.Name y py] env).map (·.2))) O S s S' (fun J J J=>True):=R
theorem Tn(K:Q6 C P gT)(hE:SE C gT ev D)(hT:ST C gT ts D)(hA:AOk (D+3) A)(ho:Qm env nm)(Z:Stt C env O S s){its its2:List HE}{k k2 i:Nat}{t1 t2:List Nat}{one one2:Bool}{elt:HE}{cond:Option HE}{t it tb ib elt':Expr}{ifs:List Expr}{sc:Scope}{y:Str}{py lp pos:Pos}
  (hok:Jh sc nm=true) (hlo:Z9 sc (t1++t2)=true) (hki:kIt (Qq gT f nm) nm k its it=true) (htg:kTg (Qp sc nm) one t1 t=true) (htl:Jo (Qp sc nm) t=true) (hki2:kIt (Qq gT f (Qp sc nm)) (Qp sc nm) k2 its2 ib=true) (htg2:kTg (Qp sc nm) one2 t2 tb=true) (htl2:Jo (Qp sc nm) tb=true) (hel:Qq gT f (Qp sc nm) elt elt'=true)
  (hco:Jq (Qq gT f (Qp sc nm)) cond ifs=true) (h:V9 P ev ts elt t1 one k its t2 one2 k2 its2 cond S=.ok V S1) (hv1:K7 nm i y=true):
  Run C env .all A (exec (.Assign [.Name y py] (.ListComp elt' [⟨t,it,[],0⟩,⟨tb,ib,ifs,0⟩] sc lp) pos) env) O S s (S1.sto i V) (Jd C .next):=by
 obtain⟨b,hb⟩:∃b,swapsWith (.ListComp elt' [⟨t,it,[],0⟩,⟨tb,ib,ifs,0⟩] sc lp) (some (.Name y py)) pos.line env=pure b:=⟨_,rfl⟩;cases b with
 |false=>exact Bi hA ho hb rfl (fun J=>rfl) (Ng K hE hT hA ho Z hok hlo hki htg htl hki2 htg2 htl2 hel hco h) fun v O1 sA ZC hv=>Xq ho ZC hv1 hv
 |true=>
  intro E Q q;rw[arm_exec_Assign];refine Qa (Qi ?_);have hs:swapsWithSole [.Name y py] (.ListComp elt' [⟨t,it,[],0⟩,⟨tb,ib,ifs,0⟩] sc lp) pos.line env=pure true:=hb;rw[hs];refine Qa (Qc ?_);rw[if_pos rfl];have hR:=Th (lp:=lp) K hE hT hA ho Z hok hlo hki htg htl hki2 htg2 htl2 hel hco h (u:=fun v=>assignAll v ((assignEach [.Name y py] env).map (·.2))) (SC:=S1.sto i V) fun v O1 sA ZC hv=>xZ2 (Xq ho ZC hv1 hv);exact Qa (hR.use fun J O2 s2 XD ZD J=>Qc (q _ O2 s2 XD ZD rfl))
end
section
variable{C:Cx}{P:Par}{gT:Nat->Option HV}{env:Env}{nm:Nms}{A:Around}{O:Nat->Addr}{S S' S1:St}{s:Shared}{D f:Nat}{ev:HE->St->R HV}{ts:HE->St->R Bool}{xs:List HS->St->R Fl}{V:HV}
noncomputable def Z7:Expr->Bool
 |.UnaryOp .Not .. =>false
 |.BoolOp .. =>false
 |.IfExp .. =>false
 |.Compare .. =>false
 |_=>true
theorem Zq(K:Q6 C P gT)(hE:SE C gT ev D)(hA:AOk D A)(ho:Qm env nm)(Z:Stt C env O S s){e:HE}{x:Expr}{b:Bool}(hc:Qq gT f nm e x=true)(hp:Z7 x=true)
  (h:tsD ev e S=.ok b S'):Run C env .no A (isTrue x env (eval x env)) O S s S' (fun J J b'=>b'=b):=by
 obtain⟨V,S1,h1,h2⟩:=Qb h;obtain⟨h3,rfl⟩:=Q8 (x:=M0 S1 V) h2;rw[My (x:=x) hp];exact Run.bind (hE _ _ _ _ _ _ _ _ _ _ _ hc ho hA Z h1) fun v O1 sA XC ZC rA=>Run.standAt (Run.holding (Qt.c<|Xa K hA ZC rA h3))
theorem Mz(K:Q6 C P gT)(hE:SE C gT ev D)(hT:ST C gT ts D):ST C gT (tsE P ev ts) (D+3):=by
 intro f nm e x env A O S s b S' hc ho hA Z h;cases f with
 |zero=>cases hc
 |succ f=>
  cases e with
  |not a=>
   obtain⟨c,S1,h1,h2⟩:=Qb (x:=ts a S) h;cases h2;refine W9 (X:=fun x=>Run C env .no A (isTrue x env (eval x env)) O _ s _ (fun J J b'=>b'=_)) (fun o b' p hc=>?_) x hc;rw[QB]at hc;obtain rfl:=Hh hc.1;rw[arm_isTrue_UnaryOp];exact Run.bind (hT _ _ _ _ _ _ _ _ _ _ _ hc.2 ho hA.l3 Z h1) fun c' O1 sA XC ZC rA=>by obtain rfl:=rA;exact Run.pure ZC rfl
  |bo isAnd l=>
   refine Bm (X:=fun x=>Run C env .no A (isTrue x env (eval x env)) O _ s _ (fun J J b'=>b'=_)) (fun o xs' p hc=>?_) x hc;rw[QB]at hc;rw[arm_isTrue_BoolOp];exact W2 hT hA.l3 ho (Pm hc.1) l _ O S s b S' hc.2 Z h
  |ite t a d=>
   obtain⟨c,S1,h1,h2⟩:=Qb (x:=ts t S) h;refine qZm (X:=fun x=>Run C env .no A (isTrue x env (eval x env)) O _ s _ (fun J J b'=>b'=_)) (fun t' a' b' p hc=>?_) x hc;simp only[QB]at hc;rw[arm_isTrue_IfExp];refine Run.bind (hT _ _ _ _ _ _ _ _ _ _ _ hc.1.1 ho hA.l3 Z h1) fun c' O1 sA XC ZC rA=>?_;obtain rfl:=rA;cases c' with
   |true=>exact hT _ _ _ _ _ _ _ _ _ _ _ hc.1.2 ho hA.l3 ZC h2
   |false=>exact hT _ _ _ _ _ _ _ _ _ _ _ hc.2 ho hA.l3 ZC h2
  |cmp op a d=>
   obtain⟨V,S1,h1,h2⟩:=Qb (x:=xZc P ev op a d S) h;obtain⟨h3,rfl⟩:=Q8 (x:=M0 S1 V) h2;have hb:V=.bool b:=by
    obtain⟨va,S2,_,h5⟩:=Qb (x:=ev a S) h1;obtain⟨vb,SC,_,h6⟩:=Qb h5;obtain⟨r,SD,_,h7⟩:=Qb (x:=ofO _ _) h6;cases h7;cases h3;rfl
   subst hb;refine Nx (X:=fun x=>Run C env .no A (isTrue x env (eval x env)) O _ s _ (fun J J b'=>b'=_)) (fun l os rs p hc=>Vn (Q:=fun os=>Run C env .no A (isTrue (.Compare l os rs p) env (eval (.Compare l os rs p) env)) O _ s _ (fun J J b'=>b'=_)) (fun o hc=>Vn (Q:=fun rs=>Run C env .no A (isTrue (.Compare l [o] rs p) env (eval (.Compare l [o] rs p) env)) O _ s _ (fun J J b'=>b'=_)) (fun r hc=>?_) rs hc) os hc) x hc;simp only[QB]at hc;exact Tl K hE hA.l3 ho Z hc.1.1.1 hc.1.1.2 hc.1.2 hc.2 h1
  |stuck=>cases h
  |c v=>exact Zq K hE hA.l3 ho Z hc (Xy (X:=fun x=>Z7 x=true) (fun J J J J=>rfl) x hc) h
  |x i=>exact Zq K hE hA.l3 ho Z hc (Zh (X:=fun x=>Z7 x=true) (fun J J J=>rfl) x hc) h
  |gv i v=>exact Zq K hE hA.l3 ho Z hc (Zh (X:=fun x=>Z7 x=true) (fun J J J=>rfl) x hc) h
  |att o i=>exact Zq K hE hA.l3 ho Z hc (Xb (X:=fun x=>Z7 x=true) (fun J J J J=>rfl) x hc) h
  |bin op a b=>exact Zq K hE hA.l3 ho Z hc (Ny (X:=fun x=>Z7 x=true) (fun J J J J J=>rfl) x hc) h
  |neg a=>exact Zq K hE hA.l3 ho Z hc (W9 (X:=fun x=>Z7 x=true) (fun o J J hc=>by obtain rfl:=N9 (QA hc).1;rfl) x hc) h
  |lst l=>exact Zq K hE hA.l3 ho Z hc (Nu (X:=fun x=>Z7 x=true) (fun J J J=>rfl) x hc) h
  |tup l=>exact Zq K hE hA.l3 ho Z hc (Xx (X:=fun x=>Z7 x=true) (fun J J J J=>rfl) x hc) h
  |dct ks l=>exact Zq K hE hA.l3 ho Z hc (Nw (X:=fun x=>Z7 x=true) (fun J J J J=>rfl) x hc) h
  |comp=>exact Zq K hE hA.l3 ho Z hc (Bl (X:=fun x=>Z7 x=true) (fun J J J J J=>rfl) x hc) h
  |call g as=>exact Zq K hE hA.l3 ho Z hc (Jt (X:=fun x=>Z7 x=true) (fun J J J J J=>rfl) x hc) h
  |meth o i as=>exact Zq K hE hA.l3 ho Z hc (Jt (X:=fun x=>Z7 x=true) (fun J J J J J=>rfl) x hc) h
  |sub o i=>exact Zq K hE hA.l3 ho Z hc (Ki (X:=fun x=>Z7 x=true) (fun J J J J=>rfl) x hc) h
  |sl o lo hi st=>exact Zq K hE hA.l3 ho Z hc (Ki (X:=fun x=>Z7 x=true) (fun J J J J=>rfl) x hc) h
theorem M2{o:Expr}{n:Str}{p:Pos}{v:Expr}{line:Nat}(_:True):swapsWith v (some (.Attribute o n p)) line env=pure false:=by
 cases v<;>rfl
theorem Ww{o i:Expr}{p:Pos}{v:Expr}{line:Nat}(_:True):swapsWith v (some (.Subscript o i p)) line env=pure false:=by
 cases v<;>rfl
theorem qQ8:∀{e:HE},Dv e=true->e=.c .none:=by
 intro e;cases e with
 |c v=>cases v<;>first|exact fun J=>rfl|exact ff
 |_=>exact ff
theorem N5{a:Expr}{l:List Expr}{k:Nat}{p:Pos}{n:Nat}(h:N6 a=true):swapsWith a (some (.Tuple l k p)) n env=pure false:=by
 cases a<;>first|rfl|exact ff h
theorem Lu{a:Expr}{l:List Expr}{k:Nat}{p:Pos}(h:N6 a=true):swappedStores [.Tuple l k p] a env=pure none:=by
 cases a<;>first|rfl|exact ff h
theorem Du{e:HE}(h:qZs e=true):∃elt tgt one k its cond,e=.comp elt tgt one k its cond:=by
 cases e<;>first|exact ff h|exact⟨_,_,_,_,_,_,rfl⟩
theorem qQ1{e:HE}{a:Expr}(h:xZh e a=true)(hl:¬ ∃el gens sc lp,a=.ListComp el gens sc lp):noC a=true:=by
 cases a<;>first|rfl|exact ff h|exact absurd ⟨_,_,_,_,rfl⟩ hl
theorem Va(K:Q6 C P gT)(FK:Zc C gT P)(hE:SE C gT ev D)(hU:SU C gT ev D)(hT:ST C gT ts D)(hX:SX C gT xs D):∀f nm st x env A O S s fl S',Vf gT f nm st x=true->Qm env nm->AOk (D+3) A->Stt C env O S s->exS P ev ts xs st S=.ok fl S'->
  Run C env .all A (exec x env) O S s S' (Jd C fl):=by
 intro f nm st x env A O S s fl S' hc ho hA Z h;cases f with
 |zero=>cases hc
 |succ f=>
  cases st with
  |ex e=>
   refine zJj (Y:=fun x=>Run C env .all A (exec x env) O S s _ (Jd C fl)) (fun a p hc=>?_) x hc;simp only[QB]at hc;exact zZu hE hA.l3 ho Z hc.1 hc.2 h
  |ret e=>
   refine qXu (Y:=fun x=>Run C env .all A (exec x env) O S s _ (Jd C fl)) (fun a p hc=>?_) x hc;cases a with
   |some a=>exact qJv hE hA.l3 ho Z hc h
   |none=>
    obtain rfl:=qQ8 hc;obtain⟨V,S1,h1,h2⟩:=Qb h;cases h2;intro E Q q;have R:=hE 1 nm (.c .none) (.Constant .none 0 default) env A O S s V S1 rfl ho hA.l3 Z h1;have R:=R E (fun v s'=>Q (.ret v) s') fun v O' s' X' Z' hv=>q _ O' s' (X'.wide fun J h=>h.elim) Z' ⟨v,rfl,hv⟩;exact fun Γ p hΓ=>R Γ p hΓ
  |asN i e=>
   refine zQ1 (Q:=fun x=>Run C env .all A (exec x env) O S s _ (Jd C fl)) (fun t a pos hc=>Zh (X:=fun t=>Run C env .all A (exec (.Assign [t] a pos) env) O S s S' (Jd C fl)) (fun y py hc=>?_) t hc) x hc;refine aK hc ?_;clear hc;intro zq1 h3;refine aK zq1 ?_;clear zq1;intro h1 h2;obtain⟨V,S1,h4,h5⟩:=Qb (x:=ev e S) h;cases h5;have plain:swapsWith a (some (.Name y py)) pos.line env=pure false->Run C env .all A (exec (.Assign [.Name y py] a pos) env) O S s (S1.sto i V) (Jd C .next):=fun hn=>
    Xp hE hA.l3 ho Z hn rfl (fun J=>rfl) h3 h4 fun v O1 sA ZC hv=>Xq ho ZC h1 hv
   by_cases hlc:∃el gens sc lp,a=.ListComp el gens sc lp
   ·obtain⟨el,gens,sc,lp,rfl⟩:=hlc
    obtain⟨b,hb⟩:∃b,swapsWith (.ListComp el gens sc lp) (some (.Name y py)) pos.line env=pure b:=⟨_,rfl⟩;cases b with
    |false=>exact plain hb
    |true=>
     obtain⟨elt,tgt,one,k,its,cond,rfl⟩:∃elt tgt one k its cond,e=.comp elt tgt one k its cond:=by
      exact Du h2
     intro E Q q;rw[arm_exec_Assign];refine Qa (Qi ?_);have hs:swapsWithSole [.Name y py] (.ListComp el gens sc lp) pos.line env=pure true:=hb;rw[hs];refine Qa (Qc ?_);rw[if_pos rfl];have hR:=hU 40 nm elt tgt one k its cond (.ListComp el gens sc lp) env A O S s V S1 h3 ho hA.l3 Z h4 (fun v=>assignAll v ((assignEach [.Name y py] env).map (·.2))) (S1.sto i V) fun v O1 sA ZC hv=>xZ2 (Xq ho ZC h1 hv);exact Qa (hR.use fun J O2 s2 XD ZD J=>Qc (q _ O2 s2 XD ZD rfl))
   ·refine plain (Be ?_)
    exact qQ1 h2 hlc
  |asA o i e=>
   refine zQ1 (Q:=fun x=>Run C env .all A (exec x env) O S s _ (Jd C fl)) (fun t a pos hc=>Xb (X:=fun t=>Run C env .all A (exec (.Assign [t] a pos) env) O S s S' (Jd C fl)) (fun b n q hc=>?_) t hc) x hc;simp only[QB,beq_iff_eq]at hc;obtain⟨⟨rfl,h2⟩,h3⟩:=hc;obtain⟨V,S1,h4,h5⟩:=Qb (x:=ev e S) h;have hfl:fl=.next:=by
    obtain⟨_,_,_,h7⟩:=Qb h5;obtain⟨_,_,_,h8⟩:=Qb (x:=ofS _) h7;cases h8;rfl
   subst hfl;exact Xp hE hA.l3 ho Z (M2 trivial) rfl (fun J=>rfl) h3 h4 fun v O1 sA ZC hv=>qXa K FK hE hA.l3 ho ZC h2 hv h5
  |asS o i e=>
   refine zQ1 (Q:=fun x=>Run C env .all A (exec x env) O S s _ (Jd C fl)) (fun t a pos hc=>Ki (X:=fun t=>Run C env .all A (exec (.Assign [t] a pos) env) O S s S' (Jd C fl)) (fun b j q hc=>?_) t hc) x hc;refine aK hc ?_;clear hc;intro zq1 h3;refine aK zq1 ?_;clear zq1;intro zq1 h2;refine aK zq1 ?_;clear zq1;intro _ h1;obtain⟨V,S1,h4,h5⟩:=Qb (x:=ev e S) h;have hfl:fl=.next:=by
    obtain⟨_,_,_,h7⟩:=Qb h5;obtain⟨_,_,_,h7⟩:=Qb h7;obtain⟨_,_,_,h8⟩:=Qb (x:=ofS _) h7;cases h8;rfl
   subst hfl;exact Xp hE hA.l3 ho Z (Ww trivial) rfl (fun J=>rfl) h3 h4 fun v O1 sA ZC hv=>qJ8 K FK hE hA.l3 ho ZC h1 h2 hv h5
  |asL o lo hi e=>
   refine zQ1 (Q:=fun x=>Run C env .all A (exec x env) O S s _ (Jd C fl)) (fun t a pos hc=>Ki (X:=fun t=>Run C env .all A (exec (.Assign [t] a pos) env) O S s S' (Jd C fl)) (fun b j q hc=>Ga (X:=fun j=>Run C env .all A (exec (.Assign [.Subscript b j q] a pos) env) O S s S' (Jd C fl)) (fun l h' u q' hc=>?_) j hc) t hc) x hc;refine aK hc ?_;clear hc;intro zq1 h6;refine aK zq1 ?_;clear zq1;intro zq1 h3;refine aK zq1 ?_;clear zq1;intro zq1 h2;refine aK zq1 ?_;clear zq1;intro h0 h1;obtain rfl:=Option.isNone_iff_eq_none.mp h0;obtain⟨V,S1,h4,h5⟩:=Qb (x:=ev e S) h;have hfl:fl=.next:=by
    obtain⟨_,_,_,h7⟩:=Qb h5;obtain⟨_,_,_,h7⟩:=Qb h7;obtain⟨_,_,_,h7⟩:=Qb h7;obtain⟨_,_,_,h8⟩:=Qb (x:=ofS _) h7;cases h8;rfl
   subst hfl;exact Xp hE hA.l3 ho Z (Ww trivial) rfl (fun J=>rfl) h6 h4 fun v O1 sA ZC hv=>qJ9 K FK hE hA.l3 ho ZC h1 h2 h3 hv h5
  |asT tl e=>
   refine zQ1 (Q:=fun x=>Run C env .all A (exec x env) O S s _ (Jd C fl)) (fun t a pos hc=>Xx (X:=fun t=>Run C env .all A (exec (.Assign [t] a pos) env) O S s S' (Jd C fl)) (fun l kk p hc=>?_) t hc) x hc;refine aK hc ?_;clear hc;intro zq1 h3;refine aK zq1 ?_;clear zq1;intro h1 h2;obtain⟨V,S1,h4,h5⟩:=Qb (x:=ev e S) h;have hfl:fl=.next:=by
    obtain⟨_,_,_,h8⟩:=Qb (x:=ofS _) h5;cases h8;rfl
   subst hfl;exact Xp hE hA.l3 ho Z (N5 h1) (Lu h1) (fun J=>rfl) h3 h4 fun v O1 sA ZC hv=>qJ7 hA.l3 ho ZC h2 hv h5
  |asX tl es=>
   refine zQ1 (Q:=fun x=>Run C env .all A (exec x env) O S s _ (Jd C fl)) (fun t a pos hc=>Xx (X:=fun t=>Run C env .all A (exec (.Assign [t] a pos) env) O S s S' (Jd C fl)) (fun l kk p hc=>Xx (X:=fun a=>Run C env .all A (exec (.Assign [.Tuple l kk p] a pos) env) O S s S' (Jd C fl)) (fun r kr pr hc=>?_) a hc) t hc) x hc;simp only[QB,Bool.not_eq_true']at hc;obtain⟨⟨⟨⟨⟨h1,h2⟩,h3⟩,h4⟩,h5⟩,h6⟩:=hc;exact qJ6 hE hA.l3 ho Z h1 h2 h3 h4 h5 h6 h
  |ite t a b=>
   refine qXt (Y:=fun x=>Run C env .all A (exec x env) O S s _ (Jd C fl)) (fun t' a' b' p hc=>?_) x hc;simp only[QB]at hc;exact zZs hT hX hA.l3 ho Z hc.1.1 hc.1.2 hc.2 h
  |wh t b=>
   refine zJd (Y:=fun x=>Run C env .all A (exec x env) O S s _ (Jd C fl)) (fun t' b' o p hc=>?_) x hc;rw[QB]at hc;obtain⟨ho',hc⟩:=hc;obtain rfl:=QQ ho';simp only[QB]at hc;exact Nc hT hX hA.l3 ho Z hc.1 hc.2 64 h
  |fr tgt one k its b=>
   refine Nv (Y:=fun x=>Run C env .all A (exec x env) O S s _ (Jd C fl)) (fun t it b' o p hc=>?_) x hc;rw[QB]at hc;obtain⟨ho',hc⟩:=hc;obtain rfl:=QQ ho';simp only[QB]at hc;exact qJ1 K hE hX hA ho Z hc.1.1.2 hc.1.2 hc.2 h
  |pass=>
   refine Tw (Y:=fun x=>Run C env .all A (exec x env) O S s _ (Jd C fl)) (fun p J=>?_) x hc;cases h;rw[arm_exec_Pass];exact Run.standAt (f:=fun J=>pure Flow.next) (Run.pure Z rfl)
  |tr b=>
   refine qXs (Y:=fun x=>Run C env .all A (exec x env) O S s _ (Jd C fl)) (fun b' hs o u p hc=>?_) x hc;rw[QB]at hc;obtain⟨h1,hc⟩:=hc;rw[QB]at hc;obtain⟨h2,hc⟩:=hc;rw[QB]at hc;obtain⟨h3,hc⟩:=hc;obtain rfl:=QQ h2;obtain rfl:=QQ h3;cases hs with
   |nil=>cases h1
   |cons h0 hs=>exact qJt hX hA.l3 ho Z hc h
  |stuck=>cases h
  |asC2 i elt t1 o1 k1 i1 t2 o2 k2 i2 cond=>
   refine zQ1 (Q:=fun x=>Run C env .all A (exec x env) O S s _ (Jd C fl)) (fun t a pos hc=>Zh (X:=fun t=>Run C env .all A (exec (.Assign [t] a pos) env) O S s S' (Jd C fl)) (fun y py hc=>Bl (X:=fun a=>Run C env .all A (exec (.Assign [.Name y py] a pos) env) O S s S' (Jd C fl)) (fun el gs sc lp hc=>qXx (Q:=fun gs=>Run C env .all A (exec (.Assign [.Name y py] (.ListComp el gs sc lp) pos) env) O S s S' (Jd C fl)) (fun g1 g2 hc=>Tx (Q:=fun g1=>Run C env .all A (exec (.Assign [.Name y py] (.ListComp el [g1,g2] sc lp) pos) env) O S s S' (Jd C fl)) (fun ta ia l1 hc=>?_) g1 hc) gs hc) a hc) t hc) x hc;rw[QB]at hc;obtain⟨hl,hc⟩:=hc;obtain rfl:=QQ hl;refine Tx (Q:=fun g2=>Run C env .all A (exec (.Assign [.Name y py] (.ListComp el [⟨ta,ia,[],0⟩,g2] sc lp) pos) env) O S s S' (Jd C fl)) (fun tb ib ifs hc=>?_) g2 hc;refine aK hc ?_;clear hc;intro h1 zq2;refine aK zq2 ?_;clear zq2;intro h2 zq2;refine aK zq2 ?_;clear zq2;intro h3 zq2;refine aK zq2 ?_;clear zq2;intro h4 zq2;refine aK zq2 ?_;clear zq2;intro h5 zq2;refine aK zq2 ?_;clear zq2;intro h6 zq2;refine aK zq2 ?_;clear zq2;intro h7 zq2;refine aK zq2 ?_;clear zq2;intro h8 zq2;refine aK zq2 ?_;clear zq2;intro h9 zq2;refine aK zq2 ?_;clear zq2;intro h10 h11;obtain⟨V,S1,h12,h13⟩:=Qb (x:=V9 P ev ts elt t1 o1 k1 i1 t2 o2 k2 i2 cond S) h;cases h13;exact Tn K hE hT hA ho Z h2 h3 h4 h5 h6 h7 h8 h9 h10 h11 h12 h1
theorem L6(K:Q6 C P gT)(FK:Zc C gT P)(hE:SE C gT ev D)(hU:SU C gT ev D)(hT:ST C gT ts D)(hX:SX C gT xs D):SX C gT (exsS P ev ts xs) (D+3):=by
 intro f nm l;induction l with
 |nil=>
  intro xl env A O S s fl S' hc ho hA Z h;cases xl with
  |cons _ _=>cases hc
  |nil=>
   cases h;rw[arm_execs_nil];exact Run.pure Z rfl
 |cons st l ih=>
  intro xl env A O S s fl S' hc ho hA Z h;cases xl with
  |nil=>cases hc
  |cons x xl=>
   replace hc:=QA hc;obtain⟨fA,S1,h1,h2⟩:=Qb (x:=exS P ev ts xs st S) h;rw[arm_execs_cons];refine Run.bind (Va K FK hE hU hT hX f nm st x env A O S s fA S1 hc.1 ho hA Z h1) fun fv O1 sA XC ZC hf=>?_;rcases X8 (α:=Unit) h2 with⟨rfl,h3⟩|⟨V,rfl,rfl,rfl⟩
   ·obtain rfl:=hf
    exact ih xl env A O1 S1 sA fl S' hc.2 ho hA ZC h3
   ·obtain⟨v,rfl,hv⟩:=hf
    exact Run.pure ZC ⟨v,rfl,hv⟩
theorem Zi(K:Q6 C P gT)(FK:Zc C gT P){bo:Nat}(OK:Pq C P bo)(OO:Wh C P):∀n,SE C gT (eng P n).ev (3*n+bo)/\ST C gT (eng P n).ts (3*n+bo)/\SX C gT (eng P n).xs (3*n+bo)/\SU C gT (eng P n).ev (3*n+bo)
 |0=>⟨fun J J J J J J J J J J J J J J J h=>(by cases h),fun J J J J J J J J J J J J J J J h=>(by cases h),fun J J J J J J J J J J J J J J J h=>(by cases h),fun J J J J J J J J J J J J J J J J J J J J h=>(by cases h)⟩
 |n+1=>by
  obtain⟨h1,h2,h3,h4⟩:=Zi K FK OK OO n;have e:3*(n+1)+bo=(3*n+bo)+3:=by omega
  rw[e];exact⟨D9 K FK OK OO h1 h2 h3 (by omega),Mz K h1 h2,L6 K FK h1 h4 h2 h3,D8 K h1 h2⟩
end
theorem V4{α:Type}:∀{ns:List Str} {vs:List α},vs.length=ns.length->∀n∈ns,((ns.zip vs).lookup n).isSome=true
 |[],_,_,_,h=>by cases h
 |n::ns,v::vs,hl,x,h=>by
  rw[List.zip_cons_cons,List.lookup_cons]
  by_cases e:x=n
  ·simp[e]
  ·have:(x==n)=false:=by simpa using e
   rw[this];rcases QR h with rfl|h
   ·exact absurd rfl e
   ·exact V4 (by simpa using hl) x h
 |_::_,[],hl,_,_=>by simp at hl
theorem B3{α β:Type}{g k:α->Option β}:∀{l:List α},(∀x∈l,g x=k x)->l.filterMap g=l.filterMap k
 |[],_=>rfl
 |x::l,h=>by rw[List.filterMap_cons,List.filterMap_cons,h x (List.mem_cons_self ..),B3 fun y hy=>h y (List.mem_cons_of_mem _ hy)]
theorem H5{α:Type}:∀{ns:List Str} {vs:List α},ns.Nodup->vs.length=ns.length->ns.filterMap (fun n=>((ns.zip vs).lookup n).map (n,·))=ns.zip vs
 |[],_,_,_=>by simp
 |n::ns,v::vs,hn,hl=>by
  obtain⟨h1,h2⟩:=List.nodup_cons.mp hn;have ih:=H5 (vs:=vs) h2 (by simpa using hl);rw[List.zip_cons_cons,List.filterMap_cons];simp only[List.lookup_cons,beq_self_eq_true,Option.map_some]
  congr 1
  refine(B3 fun x hx=>?_).trans ih;have:(x==n)=false:=by
   simp only[beq_eq_false_iff_ne];exact fun e=>h1 (e▸hx)
  rw[this]
 |_::_,[],_,hl=>by simp at hl
noncomputable def Pw(s:List (Str × Value))(p:Str × Value):List (Str × Value):=if(s.lookup p.1).isNone then s++[p]else s
theorem V5{α:Type}(x:Str):∀(l m:List (Str × α)),(l++m).lookup x=(l.lookup x).or (m.lookup x)
 |[],m=>by simp
 |(y,v)::l,m=>by
  rw[List.cons_append,List.lookup_cons,List.lookup_cons]
  by_cases e:(x==y)=true
  ·rw[e];rfl
  ·rw[Bool.not_eq_true]at e
   rw[e];exact V5 x l m
theorem Gk:∀(l:List (Str × Value)) (s:List (Str × Value)),(∀p∈l,(s.lookup p.1).isSome=true)->l.foldl Pw s=s
 |[],_,_=>rfl
 |p::l,s,h=>by
  have h1:=h p (List.mem_cons_self ..);have e:Pw s p=s:=by
   unfold Pw;rw[if_neg];rw[Option.isNone_iff_eq_none];intro e;rw[e]at h1;cases h1
  rw[List.foldl_cons,e];exact Gk l s fun q hq=>h q (List.mem_cons_of_mem _ hq)
theorem B1:∀(l:List (Str × Value)) (s:List (Str × Value)),(l.map (·.1)).Nodup->(∀p∈l,s.lookup p.1=none)->l.foldl Pw s=s++l
 |[],s,_,_=>by simp
 |p::l,s,hn,h=>by
  have e:Pw s p=s++[p]:=by unfold Pw;rw[if_pos (by rw[h p (List.mem_cons_self ..)];rfl)]
  obtain⟨h1,h2⟩:=List.nodup_cons.mp hn
  rewrite [List.foldl_cons,e,B1 l _ h2 fun q hq=>?_]
  ·simp
  ·rw[V5,h q (List.mem_cons_of_mem _ hq)]
   show List.lookup q.1 [p]=none;have:(q.1==p.1)=false:=by
    simp only[beq_eq_false_iff_ne];exact fun e=>h1 (by show p.1∈_;rw[<-e];exact List.mem_map_of_mem hq)
   obtain⟨p1,p2⟩:=p;rw[List.lookup_cons,this];rfl
theorem H4{α:Type}:∀{ns:List Str} {vs:List α} {x:Str},x∉ns->(ns.zip vs).lookup x=none
 |[],_,_,_=>by simp
 |_::_,[],_,_=>by simp
 |n::ns,v::vs,x,h=>by
  have:(x==n)=false:=by
   simp only[beq_eq_false_iff_ne];exact fun e=>h (e▸List.mem_cons_self ..)
  rw[List.zip_cons_cons,List.lookup_cons,this];exact H4 fun hx=>h (List.mem_cons_of_mem _ hx)
theorem X9{α σ:Type}{body:α->σ->Sem (ForInStep σ)}{g:σ->α->σ}(h:∀x s,body x s=pure (.yield (g s x))):∀(l:List α) (s:σ),forIn l s body=(pure (l.foldl g s):Sem σ)
 |[],s=>by rw[List.forIn_nil];rfl
 |x::l,s=>by rw[List.forIn_cons,h,pure_bind];exact X9 h l (g s x)
theorem K9{α β:Type}:∀(l:List α) (m:List β),l.zip m=(l.take m.length).zip m
 |[],_=>by simp
 |_::_,[]=>by simp
 |a::l,b::m=>by simp[K9 l m]
theorem Wl{α β:Type}:∀(j:Nat) (A:List α) (D:List β),A.length=D.length->A.zip D=(A.take j).zip (D.take j)++(A.drop j).zip (D.drop j)
 |0,A,D,_=>by simp
 |j+1,[],[],_=>by simp
 |j+1,a::A,d::D,h=>by simpa using Wl j A D (by simpa using h)
 |_+1,[],_::_,h=>by simp at h
 |_+1,_::_,[],h=>by simp at h
noncomputable def qZa(N:List Str)(vals:List Value)(X:Sem (List (Str × Value)))(D:List Value):Sem (List (Str × Value)):=
 if(!((N.take (N.length-D.length)).filter fun n=>((N.zip vals).lookup n).isNone).isEmpty)=true then X
 else forIn ((N.drop (N.length-D.length)).zip D) (N.zip vals) (fun p s=>if(s.lookup p.1).isNone=true then pure (.yield (s++[(p.1,p.2)]))else pure (.yield s))>>=fun sl=>pure ((N++[]).filterMap fun n=>(sl.lookup n).map (n,·))
theorem bA{fd:FuncData}{vals:List Value}(h1:fd.params.posonlyargs=[])(h2:fd.params.kwonlyargs=[])(h3:fd.params.vararg=none)(h4:fd.params.kwarg=none):∃(X1 X2:Option (Array Value)->Sem (List (Str × Value))),
  bindArgs fd ⟨vals,[]⟩=seqItems? fd.defaults>>=fun o=>
   if(decide (vals.length>(fd.params.args.map (·.arg)).length)&&true)=true then X1 o else qZa (fd.params.args.map (·.arg)) vals (X2 o) ((o.getD #[]).toList.drop ((o.getD #[]).toList.length-(fd.params.args.map (·.arg)).length)):=by
 obtain⟨nm,q,⟨p1,p2,p3,p4,p5,p6,p7⟩,x1,x2,x3,x4,x5,x6,x7,x8,x9,y1,y2,y3⟩:=fd;have h1:p1=[]:=h1;have h2:p4=[]:=h2;have h3:p3=none:=h3;have h4:p6=none:=h4;subst h1 h2 h3 h4;exact⟨_,_,rfl⟩
theorem H7{N:List Str}{vals:List Value}{k:Nat}(hk:k<=vals.length)(hl:vals.length<=N.length){x:Str}(hx:x∈N.take k):((N.zip vals).lookup x).isSome=true:=by
 have hx':x∈N.take vals.length:=by
  rw[List.mem_take_iff_getElem]at hx⊢;obtain⟨i,hi',e⟩:=hx;exact⟨i,Nat.lt_min.mpr ⟨QF (QF hi' (Nat.min_le_left _ _)) hk,QF hi' (Nat.min_le_right _ _)⟩,e⟩
 rw[K9];exact V4 (by rw[List.length_take,Nat.min_eq_left hl]) x hx'
theorem La{N:List Str}{vals D:List Value}{X:Sem (List (Str × Value))}{d j:Nat}(hn:N.Nodup)(hl:vals.length<=N.length)(hDd:d+D.length=N.length)(hdj:d+j=vals.length):qZa N vals X D=pure (N.zip (vals++D.drop j)):=by
 have hd:N.length-D.length=d:=by rw[<-hDd,Nat.add_sub_cancel]
 have hdv:d<=vals.length:=hdj▸Nat.le_add_right d j;unfold qZa;rw[hd];have miss:((N.take d).filter fun x=>((N.zip vals).lookup x).isNone)=[]:=List.filter_eq_nil_iff.mpr fun x hx e=>by
  have:=H7 (vals:=vals) hdv hl hx;rw[Option.isNone_iff_eq_none.mp e]at this;cases this
 have e1:(N.drop d).zip D=((N.drop d).take j).zip (D.take j)++(N.drop vals.length).zip (D.drop j):=by
  rw[<-hdj,<-List.drop_drop];exact Wl j _ _ (by rw[List.length_drop,<-hDd,Nat.add_sub_cancel_left])
 have f1:(((N.drop d).take j).zip (D.take j)).foldl Pw (N.zip vals)=N.zip vals:=Gk _ _ fun p hp=>by
  have hp':=(List.of_mem_zip hp).1;refine H7 (QL _) hl ?_;rw[List.mem_take_iff_getElem]at hp'⊢;obtain⟨i,hi1,e⟩:=hp';rw[List.getElem_drop]at e;exact⟨d+i,Nat.lt_min.mpr ⟨hdj▸Nat.add_lt_add_left (QF hi1 (Nat.min_le_left _ _)) d,by rw[<-hDd];have:=QF hi1 (Nat.min_le_right _ _);rw[List.length_drop,<-hDd,Nat.add_sub_cancel_left]at this;exact Nat.add_lt_add_left this d⟩,e⟩
 have f2:((N.drop vals.length).zip (D.drop j)).foldl Pw (N.zip vals)=N.zip vals++(N.drop vals.length).zip (D.drop j):=B1 _ _ (by
   rw[List.map_fst_zip (by rw[List.length_drop,List.length_drop,<-hDd,<-hdj,Nat.add_sub_add_left];exact QL _)];exact hn.sublist (List.drop_sublist _ _)) fun p hp=>by
  rw[K9];refine H4 fun hx=>?_;have hp':=(List.of_mem_zip hp).1;rw[List.mem_take_iff_getElem]at hx;rw[List.mem_drop_iff_getElem]at hp';obtain⟨i,hi1,e1⟩:=hx;obtain⟨k,hk1,e2⟩:=hp';have hiv:=QF hi1 (Nat.min_le_left _ _);exact(List.pairwise_iff_getElem.mp hn) i (vals.length+k) (QF hiv hl) (by rw[Nat.add_comm];exact hk1) (QF hiv (Nat.le_add_right _ _)) (by rw[e1,<-e2])
 have hlen:(vals++D.drop j).length=N.length:=by
  rw[<-hDd,<-hdj]at hl;rw[List.length_append,List.length_drop,<-hDd,<-hdj,Nat.add_assoc,Nat.add_sub_cancel' (Nat.le_of_add_le_add_left hl)]
 rw[if_neg (by rw[miss];decide),X9 (g:=Pw) (fun x s=>by unfold Pw;split<;>rfl),e1,List.foldl_append,f1,f2,List.append_nil];have:N.zip vals++(N.drop vals.length).zip (D.drop j)=N.zip (vals++D.drop j):=by
  have:N.zip (vals++D.drop j)=(N.take vals.length++N.drop vals.length).zip (vals++D.drop j):=by rw[List.take_append_drop]
  rw[this,List.zip_append (by rw[List.length_take,Nat.min_eq_left hl]),<-K9]
 rw[this];exact congrArg (fun l=>(pure l:Sem (List (Str × Value)))) (H5 hn hlen)
theorem xJx{D N v:Nat}(hi:D<=N)(hl:v<=N)(hlo:N-D<=v):D-(N-v)=v-(N-D):=by
 obtain⟨j,rfl⟩:=Nat.le.dest hlo;obtain⟨d,rfl⟩:=Nat.le.dest hi;rw[Nat.add_sub_cancel_left,Nat.add_comm D d]at hl;rw[Nat.add_sub_cancel_left,Nat.add_comm D d,Nat.add_sub_add_left,Nat.sub_sub_self (Nat.le_of_add_le_add_left hl),Nat.add_sub_cancel_left]
theorem xQ2{a b:Nat}(h:a<=b):¬(decide (a>b)&&true)=true:=by rw[decide_eq_false (QJ h)];decide
theorem Uc{fd:FuncData}{vals:List Value}(h1:fd.params.posonlyargs=[])(h2:fd.params.kwonlyargs=[])(h3:fd.params.vararg=none)(h4:fd.params.kwarg=none)(hd:fd.defaults=.none)
  (hn:(fd.params.args.map (·.arg)).Nodup) (hl:vals.length=fd.params.args.length):bindArgs fd ⟨vals,[]⟩=pure ((fd.params.args.map (·.arg)).zip vals):=by
 obtain⟨X1,X2,e⟩:=bA (vals:=vals) h1 h2 h3 h4;have hq':(fd.params.args.map (·.arg)).length=fd.params.args.length:=List.length_map _;rw[<-hq']at hl;rw[e,hd];refine(if_neg (xQ2 (Nat.le_of_eq hl))).trans ?_;show qZa _ _ _ (List.drop _ [])=_;rw[List.drop_nil,La (D:=[]) (j:=0) hn (Nat.le_of_eq hl) (Nat.add_zero _) hl.symm,List.drop_nil,List.append_nil]
theorem Pk{s:Shared}{fd:FuncData}{vals:List Value}{T:Addr}{o:Obj}{items:Array Value}{n:Nat}(h1:fd.params.posonlyargs=[])(h2:fd.params.kwonlyargs=[])(h3:fd.params.vararg=none)(h4:fd.params.kwarg=none)
  (hd:fd.defaults=.ref T) (ho:s.heap.get? T=some o) (hs:o.data=.seq items n) (hn:(fd.params.args.map (·.arg)).Nodup) (hl:vals.length<=fd.params.args.length) (hi:items.size<=fd.params.args.length) (hlo:fd.params.args.length-items.size<=vals.length):
  BindsTo s fd ⟨vals,[]⟩ ((fd.params.args.map (·.arg)).zip (vals++items.toList.drop (items.size-(fd.params.args.length-vals.length)))):=by
 obtain⟨X1,X2,e⟩:=bA (vals:=vals) h1 h2 h3 h4;have hq':(fd.params.args.map (·.arg)).length=fd.params.args.length:=List.length_map _;rw[<-hq']at hl hi hlo⊢;rw[<-Array.length_toList]at hi hlo⊢;intro M A E Q hq;rw[e,hd];refine QN (wpAny_seqItems ho hs ?_);rw[if_neg (xQ2 hl),Option.getD_some,Nat.sub_eq_zero_of_le hi,List.drop_zero,La hn hl (Nat.sub_add_cancel hi) (Nat.add_sub_cancel' hlo)];have hj:=xJx hi hl hlo;rw[hj]at hq;exact QO hq
section
variable{prog:Program}{w:World}{A:Around}{E:Value->Shared->Prop}{s:Shared}{R:Result->Shared->Prop}
theorem L9{e:Expr}{env:Env}(h:wpC (model prog w) (A.deeper env) (eval e env) (fun v s'=>R (.ok (.ret v)) s') (fun J J=>False) s):Q1 (model prog w) A (.expr e env) R s:=by
 refine Qr ?_;show wpC _ (A.deeper env) (do point;ret (<-(eval e env).onRaise (leaving env))) _ _ s;exact Qa (Yu (Qa (Qy (Qf h (fun v s' h'=>Qc h') fun J J h'=>h'))))
theorem Vt{a:Addr}{args:Args}{o:Obj}{fd:FuncData}{body:Expr}(hroom:A.depth<recursionLimit)(ho:s.heap.get? a=some o)
  (hd':o.data=.func fd) (hco:fd.scope.isCoroutine=false) (hgen:fd.scope.isGenerator=false) (hbody:fd.body=.expr body) (hcd:s.heap.CodeRec fd.code fd.qualname)
  (h:wpAny (model prog w) A.in1 (bindArgs fd args) (fun binds sA=>wpAny (model prog w) A.in1 (newFunctionEnv fd.scope fd.globals fd.closure binds (fd.qualname++".<locals>.") (some a) fd.code none fd.builtins)
    (fun env s2=>s2.heap.NoLimit/\Q1 (model prog w) A (.expr body env) R s2) (fun e s'=>R (.error e) s') sA) (fun e s'=>R (.error e) s') s):
  Q1 (model prog w) A (.call (.ref a) args) R s:=by
 refine Qr ?_;show wpC _ A.in1 (callAny (.ref a) args) _ _ s;simp only[callAny];refine Qe (QN (wpAny_load ho ?_));obtain⟨c,oc,vs,tq,zq⟩:=hcd;obtain⟨hc,hoc,hdc,hq⟩:=zq;simp only[hd',callFunction,hco,hgen,hbody,hc];rw[hc]at h;refine QN (m:=field (.ref c) 1) (wpAny_field hoc hdc hq (QN (QO ?_)));exact QN (wpAny_mono h (fun binds sA aH=>QN (wpAny_mono aH (fun env s2 aJ=>QN (wpAny_enterFrame aJ.1 hroom
  (QO ⟨rfl,rfl,aJ.2⟩))) fun J J h'=>h')) fun J J h'=>h')
theorem qQk{q fa cK:Addr}{v kv pm ctv cv:Value}{name qual rowN keyN kwN:Str}{params:Arguments}{scope:Scope}{clos:List (Str × Addr)}{mg:Str->Option Value}{p1 p2 p3 p4:Pos}{Q:Value->Shared->Prop}
  (hA:A.depth<990) (ho:s.heap.get? q=some {cls:=.type "function",data:=.func (kla_fn name qual params (.Call (.Name kwN p1) [.Name rowN p2,.Name keyN p3] [] p4) scope clos pm cv ctv)})
  (hcr:s.heap.CodeRec cv qual) (hlim:s.heap.NoLimit)
  (hp:params.posonlyargs=[]/\params.kwonlyargs=[]/\params.vararg=none/\params.kwarg=none/\params.args.map (·.arg)=[rowN])
  (hs:scope.kind=.function/\scope.isCoroutine=false/\scope.isGenerator=false/\(∀x∈scope.names,x.2≠.cell)/\scope.names.lookup rowN=some .local/\scope.names.lookup keyN=some .free/\scope.names.lookup kwN=some .globalImplicit)
  (hn:(rowN==("__debug__":Str))=false/\(keyN==("__debug__":Str))=false/\(kwN==("__debug__":Str))=false/\(keyN==("__classdict__":Str))=false)
  (hclos:clos.lookup keyN=some cK) (hcell:s.heap.IsCell cK (some kv)) (hg:s.heap.Ns mainGlobals mg) (hkw:mg kwN=some (.ref fa))
  (hkeep:∀h':Heap,(∀b o,s.heap.get? b=some o->h'.get? b=some o)->∃k,(k=Keeper.frame∨k=Keeper.machine∨k=Keeper.boundFrame)/\Looks (model prog w) h' (keeperOf (.ref fa)) k)
  (hcall:∀env' s',Q2 s s'->wpC (model prog w) (A.deeper env') (call (.ref fa) [v,kv]) Q (fun J J=>False) s'):wpC (model prog w) A (call (.ref q) [v]) Q E s:=by
 obtain⟨a1,a2,a3,a4,a5⟩:=hp;obtain⟨b1,b2,b3,b4,b5,b6,b7⟩:=hs;have hlen:params.args.length=1:=by rw[<-List.length_map (f:=fun a:Arg=>a.arg),a5];rfl
 refine Z1 (Vt (fd:=kla_fn name qual params _ scope clos pm cv ctv) (by show A.depth<1000;omega) ho rfl b2 b3 rfl hcr ?_);rw[Uc (fd:=kla_fn name qual params _ scope clos pm cv ctv) a1 a2 a3 a4 rfl (by rw[a5];simp) (by rw[hlen];rfl),a5];refine QO (wpAny_newFunctionEnv b4 (fun x hx=>?_) (fun aH hns hsb=>?_) b1)
 ·have:x=(rowN,v):=by simpa using hx
  rw[this];exact b5
 have aC:∀b o,s.heap.get? b=some o->aH.get? b=some o:=fun b o e=>hsb.extBut b o (Nat.ne_of_lt (QH e)) (Heap.get?_push_of_some _ e);refine⟨hlim.keeps aC,L9 ?_⟩;have K:Q2 s {s with heap:=aH,toks:=s.toks+([rowN].zip [v]).length}:=⟨aC,rfl,rfl⟩;revert K;generalize aD:({s with heap:=aH,toks:=s.toks+([rowN].zip [v]).length}:Shared)=sA;intro K;have hh:sA.heap=aH:=by rw[<-aD]
 generalize henv:newEnv scope s.heap.objs.size mainGlobals clos (qual++".<locals>.") (some q) cv none builtinsNs=env;have e1:env.scope=scope:=by rw[<-henv];rfl
 have e2:env.globals=mainGlobals:=by rw[<-henv];rfl
 have e3:env.cells=clos:=by rw[<-henv];rfl
 have e4:env.locals=s.heap.objs.size:=by rw[<-henv];rfl
 have kd:∀x,env.kindOf x=scope.names.lookup x:=fun x=>by show env.scope.names.lookup x=_;rw[e1]
 show wpC (model prog w) (A.deeper env) (eval (.Call (.Name kwN p1) [.Name rowN p2,.Name keyN p3] [] p4) env) _ _ sA;rw[arm_eval_Call_Name'];refine Qa (Qe (Name_function_global (by rw[e1];exact b1) ((kd _).trans b7) (loadGlobal_global (by rw[e2];exact hg.keeps K.k) hkw ?_) hn.2.2.1));show wpC _ _ (callWith p4 (.ref fa) [] (backTo p4 (starEach [.Name rowN p2,.Name keyN p3] env)) []) _ _ sA;refine Vg (P:=fun h=>∀b o,s.heap.get? b=some o->h.get? b=some o) rfl hkeep (Vb (.inr ⟨_,_,rfl⟩) ?_);show wpC _ _ (spliced [(false,eval (.Name rowN p2) env),(false,eval (.Name keyN p3) env)]) _ _ sA;unfold spliced;refine Qa (Qe (wpAny_Name (wpAny_loadName_local (by rw[e1];exact b1) ((kd _).trans b5) (m:=fun x=>[(rowN,v)].reverse.lookup x) (v:=v) (by rw[hh,e4];exact hns) (by simp[List.lookup]) ?_) hn.1));simp only[Bool.false_eq_true,if_false];refine Qa (Qc ?_);refine Qa (Qd ?_);unfold spliced;refine Qa (Qe (wpAny_Name (wpAny_loadName_free (by rw[e1];exact b1) ((kd _).trans b6) (by rw[e3];exact hclos) (by
  obtain⟨o,h1,h2⟩:=hcell;exact⟨o,K.k _ _ h1,h2⟩) ?_ hn.2.2.2) hn.2.1))
 simp only[Bool.false_eq_true,if_false];refine Qa (Qc ?_);refine Qa (Qd ?_);unfold spliced;refine Qc (Qc (Qc ⟨K.k,?_⟩));exact hcall env sA K
end
noncomputable def Cx.at(C:Cx)(T:Tr)(e:Nat->Nat):Cx:={C with T0:=T,epA:=e}
section
variable{C:Cx}{P:Par}{gT:Nat->Option HV}{env:Env}{A:Around}{O:Nat->Addr}{S S':St}{s:Shared}{T:Tr}{e:Nat->Nat}{V:HV}
theorem K8{n:Nat}{v:Value}:VR (C.at T e) O n V v↔VR C O n V v:=by cases V<;>exact Iff.rfl
theorem qJa{n:Nat}:VR (C.at T e) O n=VR C O n:=by funext V v;exact propext K8
theorem xZ5{n:Nat}:DR (C.at T e) O n=DR C O n:=by
 funext p x
 show((∃t,x.key=.str (tx p.1) t)/\x.hash=PyData.keyHash C.w.params (tx p.1)/\VR (C.at T e) O n p.2 x.val)=_;rw[qJa];rfl
theorem xZ4{n:Nat}{o:HO}{ob:Obj}:OR0 (C.at T e) O n o ob↔OR0 C O n o ob:=by
 cases o<;>simp only[OR0,qJa,xZ5]<;>exact Iff.rfl
theorem zQ4{n:Nat}{o:HO}{ob:Obj}:OR (C.at T e) O n o ob↔OR C O n o ob:=and_congr_right fun J=>xZ4
theorem LR_of{h:Heap}(L:Ld (C.at T e) env O S h):Ld C env O S h:=⟨L.above,L.off,L.cell,L.apart,by
 obtain⟨m,h1,h2⟩:=L.loc;exact⟨m,h1,fun i V hV=>let⟨v,a,b⟩:=h2 i V hV;⟨v,K8.mp a,b⟩⟩⟩
noncomputable def Zv(P:Par)(T:Tr)(nv:Nat->Option Nat):Par:={P with T0:=T,nmv:=nv,isOr:=fun J=>false}
theorem Gu{r:HV}{z:Int}:IV (C.at T e) r z↔IV C r z:=by cases r<;>exact Iff.rfl
theorem qZd{op:Nat}{x y:Int}{r:HV}(h:Gq C op x y r):Gq (C.at T e) op x y r:=by
 revert h;unfold Gq;split<;>intro h
 ·exact Gu.mpr h
 ·exact Gu.mpr h
 ·exact⟨Gu.mpr h.1,h.2⟩
 ·exact⟨Gu.mpr h.1,h.2⟩
 ·exact⟨Gu.mpr h.1,h.2⟩
 ·exact⟨Gu.mpr h.1,h.2⟩
 ·exact h
 ·exact h
theorem Q6.at(K:Q6 C P gT){nv:Nat->Option Nat}(h7:∀j o,j<7->C.T0.get j=some o->T.get j=some o)
  (n0:∀a,nv a=none->∃k,(P.cand a).any (Nat.beq k)=true/\C.nam a=tx k) (n1:∀a k,nv a=some k->C.nam a=tx k):Q6 (C.at T e) (Zv P T nv) gT where
 nolimit:=K.nolimit
 sysM:=K.sysM
 fro7 j hj:=let⟨l,hl⟩:=K.fro7 j hj;⟨l,h7 j _ hj hl⟩
 T0:=rfl
 kin:=K.kin
 atts:=K.atts
 opq:=K.opq
 sub1:=K.sub1
 low:=K.low
 cat:=K.cat
 nm0:=n0
 nm1:=n1
 sop op a b r x y h hx hy:=qZd (K.sop op a b r x y h (Gu.mp hx) (Gu.mp hy))
 glob:=by
  obtain⟨mg,mb,h1,h2,h3,h4⟩:=K.glob;refine⟨mg,mb,h1,h2,fun i V hV=>?_,h4⟩;obtain⟨v,a,b⟩:=h3 i V hV;exact⟨v,a,fun O n x y=>K8.mpr (b O n x y)⟩
theorem Py.at{a:Addr}{f:Fn}(F:Py C gT a f):Py (C.at T e) gT a f:=by
 obtain⟨o,fd,body,nmF,FD⟩:=F.it;refine⟨⟨o,fd,body,nmF,?_⟩,F.ps⟩;cases FD with
 |mk h1 h2 h3 h4 h5 h6 h7 h8 h9 h10 h11 h12 h13 h14=>
  refine .mk h1 h2 h3 h4 h5 h6 h7 h8 h9 h10 h11 h12 h13 fun s hs vals l1 l2=>?_;obtain⟨dv,a,b⟩:=h14 s hs vals l1 l2;exact⟨dv,a.imp fun V v h O n x y=>K8.mpr (h O n x y),b⟩
theorem Zc.at(FK:Zc C gT P){nv:Nat->Option Nat}:Zc (C.at T e) gT (Zv P T nv):=⟨fun g f h=>(FK.fn g f h).at,rfl,FK.meth,fun c g h=>⟨(FK.init c g h).1,rfl⟩⟩
theorem V1{nv:Nat->Option Nat}{C':Cx}:Pq C' (Zv P T nv) 0:=⟨fun J J J J J h=>by cases h⟩
theorem Xu{nv:Nat->Option Nat}{C':Cx}:Wh C' (Zv P T nv):=⟨fun J h=>by cases h⟩
noncomputable def Jw(h:Heap)(a:Addr):Nat:=match h.get? a with
 |some ⟨_,_,.dict _ m,_⟩=>m
 |_=>0
theorem G2(Z:Stt C env O S s){N:Nat}{loc:List (Nat × HV)}(hT:∀j o,T.get j=some o->S.get j=some o/\j<N/\∀ob,OR C O S.n o ob->OR C O N o ob)(h7:∀j o,j<7->C.T0.get j=some o->T.get j=some o)(hN:N<=S.n)
  (hl:∀i V,lk loc i=some V->lk S.loc i=some V/\∀v,VR C O S.n V v->VR C O N V v):Stt (C.at T fun j=>Jw s.heap (O j)) env O ⟨T,N,loc⟩ s:=by
 have sm:∀j,(T.get j).isSome->(S.get j).isSome:=fun j hj=>by
  obtain⟨o,ho⟩:=QD hj;rw[(hT j o ho).1];rfl
 refine⟨⟨fun j o hj=>?_,fun i j hi hj=>Z.hr.inj i j (sm i hi) (sm j hj),fun j hj h=>(Z.hr.above j hj (sm j h)).imp id fun q=>⟨.inl h,q.2⟩,QG hN Z.hr.small,fun j o hj=>hj,fun j hj=>?_,fun j es hj=>?_⟩,⟨Z.lr.above,fun j hj=>Z.lr.off j (sm j hj),fun x c hc=>?_,Z.lr.apart,?_⟩,Z.old⟩
 ·obtain⟨h1,h2,h3⟩:=hT j o hj
  obtain⟨_,ob,hob,hr⟩:=Z.hr.live j o h1;exact⟨h2,ob,hob,zQ4.mpr (h3 ob hr)⟩
 ·obtain⟨h1,h2⟩:=Z.hr.fro j hj
  obtain⟨o,ho⟩:=QD h1;exact⟨by show(T.get j).isSome=true;rw[h7 j o hj ho];rfl,h2⟩
 ·obtain⟨_,zq⟩:=Z.hr.live j _ (hT j _ hj).1;obtain⟨ob,hob,zq⟩:=zq;obtain⟨_,zq⟩:=zq;obtain⟨ens,m,rfl,_⟩:=zq
  refine⟨ens,?_⟩;show _=some (Obj.mk _ _ (.dict ens (Jw s.heap (O j))) _);unfold Jw;rw[hob]
 ·obtain⟨h1,h2,h3,h4⟩:=Z.lr.cell x c hc
  exact⟨h1,h2,fun j hj=>h3 j (sm j hj),h4⟩
 ·obtain⟨m,h1,h2⟩:=Z.lr.loc
  refine⟨m,h1,fun i V hV=>?_⟩;obtain⟨h3,h4⟩:=hl i V hV;obtain⟨v,h5,h6⟩:=h2 i V h3;exact⟨v,K8.mpr (h4 v h5),h6⟩
theorem Stt.uO(Z:Stt C env O S s){s':Shared}(hk:∀b o,s.heap.get? b=some o->s'.heap.get? b=some o)(hg:s'.gens=s.gens)(ho:s'.os=s.os){k:Wk}:Ext C (Wd env k) O S s O S s'/\Stt C env O S s':=by
 have G:=Z.grown (kk:=k) hk s'.toks;exact⟨⟨G.1.agree,G.1.n,G.1.kd,G.1.new,G.1.keep,hg,ho⟩,⟨G.2.hr,G.2.lr,G.2.old⟩⟩
theorem Tp(K:Q6 C P gT)(FK:Zc C gT P){n g:Nat}{as:List HV}{vals:List Value}(h:Zn (Zv P S.t P.nmv) (eng (Zv P S.t P.nmv) n).xs g as S=.ok V S')(hA:AOk (3*n+1) A)(Z:Stt C env O S s)(hv:F2 (VR C O S.n) as vals):
  Run C env .no A (call (.ref (C.fnA g)) vals) O S s S' (Q4 C V):=by
 have h7:∀j o,j<7->C.T0.get j=some o->S.t.get j=some o:=fun j o J hj=>Z.hr.frz j o hj;have K':Q6 (C.at S.t fun j=>Jw s.heap (O j)) (Zv P S.t P.nmv) gT:=K.at h7 K.nm0 K.nm1;have FK':Zc (C.at S.t fun j=>Jw s.heap (O j)) gT (Zv P S.t P.nmv):=FK.at;have Z':Stt (C.at S.t fun j=>Jw s.heap (O j)) env O S s:=G2 (N:=S.n) (loc:=S.loc) Z (fun j o hj=>⟨hj,(Z.hr.live j o hj).1,fun J h=>h⟩) h7 (QL _) fun i V hV=>⟨hV,fun J h=>h⟩;have SN:=Zi K' FK' V1 Xu n;have R:=Z4 K' FK' V1 SN.2.2.1 (Nat.zero_le _) hA Z' (hv.imp fun J J h=>K8.mpr h) h;intro E Q q;refine R E Q fun v O' s' X Y hr=>?_;have keep:∀a o,s.heap.get? a=some o->s'.heap.get? a=some o:=fun a o e=>X.keep a o e (fun w=>w) fun j hj J hs=>by
  have hj:S.get j=none:=hj;rw[hj]at hs;cases hs
 refine q v O' s' ⟨X.agree,X.n,X.kd,X.new,fun a o e J J=>keep a o e,X.gens,X.os⟩ ⟨⟨fun j o hj=>?_,Y.hr.inj,fun j hj hs=>(Y.hr.above j hj hs).elim .inl fun q=>?_,Y.hr.small,fun j o hj=>Y.hr.frz j o (Z.hr.frz j o hj),fun j hj=>⟨(Z.hr.fro j hj).1,(Y.hr.fro j hj).2⟩,fun j es hj=>?_⟩,LR_of Y.lr,Y.old⟩ (K8.mp hr)
 ·obtain⟨a,ob,b,c⟩:=Y.hr.live j o hj
  exact⟨a,ob,b,zQ4.mp c⟩
 ·rcases q with⟨q|q,q'⟩
  ·obtain⟨o,ho⟩:=QD (show(S.get j).isSome from q)
   rw[X.agree j (Z.hr.live j o ho).1];exact Z.hr.above j hj q
  ·exact .inr ⟨.inr q,q'⟩
 ·obtain⟨ens,he⟩:=Z.hr.ep j es hj
  rw[X.agree j (Z.hr.live j _ (Z.hr.frz j _ hj)).1];exact⟨ens,keep _ _ he⟩
theorem M3(K:Q6 C P gT)(FK:Zc C gT P){n g N:Nat}{nv:Nat->Option Nat}{as:List HV}{vals:List Value}{S1:St}(h:Zn (Zv P T nv) (eng (Zv P T nv) n).xs g as ⟨T,N,[]⟩=.ok V S1)(hA:AOk (3*n+1) A)(Z:Stt C env O S s)(hv:F2 (VR C O N) as vals)
  (hT:∀j o,T.get j=some o->S.get j=some o/\j<N/\∀ob,OR C O S.n o ob->OR C O N o ob) (h7:∀j o,j<7->C.T0.get j=some o->T.get j=some o) (hN:N<=S.n)
  (n0:∀a,nv a=none->∃k,(P.cand a).any (Nat.beq k)=true/\C.nam a=tx k) (n1:∀a k,nv a=some k->C.nam a=tx k) (hV:∀O' v,(∀j,j<N->O' j=O j)->VR C O' S1.n V v->VR C O S.n V v):
  Run C env .no A (call (.ref (C.fnA g)) vals) O S s S (Q4 C V):=by
 have K':Q6 (C.at T fun j=>Jw s.heap (O j)) (Zv P T nv) gT:=K.at h7 n0 n1;have FK':Zc (C.at T fun j=>Jw s.heap (O j)) gT (Zv P T nv):=FK.at;have Z':Stt (C.at T fun j=>Jw s.heap (O j)) env O ⟨T,N,[]⟩ s:=G2 Z hT h7 hN fun i V hV=>by cases hV
 have SN:=Zi K' FK' V1 Xu n;have R:=Z4 K' FK' V1 SN.2.2.1 (Nat.zero_le _) hA Z' (hv.imp fun J J h=>K8.mpr h) h;intro E Q q;refine R E Q fun v O' s' X Y hr=>?_;have keep:∀a o,s.heap.get? a=some o->s'.heap.get? a=some o:=fun a o e=>X.keep a o e (fun w=>w) fun j hj J hs=>by
  have hj:T.get j=none:=hj;have hs:(T.get j).isSome:=hs;rw[hj]at hs;cases hs
 have G:=Z.uO (k:=.no) keep X.gens X.os;exact q v O s' G.1 G.2 (hV O' v X.agree (K8.mp hr))
end
def gTr:Tr:=(.node none (.node none (.node none (.node none (.node none (.node none (.node none .nil (.node (some (.list [.fn 40])) (.node (some (.list [.fn 86])) .nil .nil) .nil)) (.node none (.node none (.node (some (.list [.fn 49])) .nil .nil) .nil) (.node (some (.list [.fn 63])) (.node (some (.list [.fn 22])) .nil .nil) .nil))) (.node none (.node none (.node none (.node (some (.list [.fn 64])) .nil .nil) .nil) (.node (some (.list [.fn 74])) (.node (some (.list [.fn 53])) .nil .nil) .nil)) (.node none .nil (.node (some (.list [.fn 52])) .nil .nil)))) (.node none (.node none (.node none (.node (some (.list [.fn 36])) (.node (some (.list [.fn 90])) .nil .nil) .nil) .nil) (.node none .nil (.node (some (.list [.fn 80])) (.node (some (.list [.typ 3])) .nil .nil) .nil))) (.node none (.node none (.node (some (.list [.fn 38])) .nil .nil) (.node (some (.list [.fn 33])) (.node (some (.list [.fn 100])) .nil .nil) .nil)) (.node none (.node none (.node (some (.list [.fn 46])) .nil .nil) .nil) .nil)))) (.node none (.node none (.node none (.node none (.node none (.node (some (.list [.int 66])) .nil .nil) .nil) (.node none (.node (some (.list [.fn 71])) .nil .nil) .nil)) (.node (some (.list [.typ 0])) (.node (some (.list [.fn 84])) .nil .nil) (.node (some (.list [.fn 75])) .nil .nil))) (.node none (.node none .nil (.node (some (.list [.fn 70])) .nil .nil)) .nil)) (.node none (.node none (.node none .nil (.node none (.node (some (.list [.fn 81])) .nil .nil) .nil)) (.node none (.node (some (.list [.fn 21])) (.node (some (.list [.bi 2])) .nil .nil) .nil) (.node (some (.list [.fn 60])) .nil .nil))) (.node none (.node none (.node none (.node (some (.list [.fn 55])) .nil .nil) .nil) (.node (some (.list [.fn 62])) .nil .nil)) (.node none (.node (some (.list [.cls 8])) (.node (some (.list [.cls 7])) .nil .nil) .nil) (.node (some (.list [.obj 3])) .nil .nil)))))) (.node none (.node none (.node none (.node none (.node none .nil (.node (some (.list [.bytes [b 32]])) (.node (some (.list [.fn 82])) .nil .nil) .nil)) (.node (some (.list [.obj 1])) .nil (.node (some (.list [.fn 45])) .nil .nil))) (.node none .nil (.node none .nil (.node (some (.list [.fn 73])) .nil .nil)))) (.node (some (.list [.str 25])) (.node none (.node none .nil (.node (some (.list [.fn 47])) .nil .nil)) (.node none .nil (.node (some (.list [.fn 29])) .nil .nil))) (.node none (.node none (.node none (.node (some (.list [.fn 92])) .nil .nil) .nil) (.node none (.node (some (.list [.fn 26])) .nil .nil) .nil)) (.node (some (.list [.typ 2])) .nil .nil)))) (.node none (.node none .nil (.node none (.node none (.node none (.node (some (.list [.fn 32])) .nil .nil) .nil) (.node (some (.list [.fn 44])) (.node (some (.list [.fn 101])) .nil .nil) .nil)) .nil)) (.node none (.node none (.node none (.node (some (.list [.fn 66])) (.node (some (.list [.fn 30])) .nil .nil) .nil) .nil) (.node none .nil (.node (some (.list [.fn 41])) .nil .nil))) (.node none (.node (some (.list [.bi 0])) .nil (.node none (.node (some (.list [.fn 24])) .nil .nil) .nil)) (.node (some (.list [.fn 51])) .nil .nil)))))) (.node none (.node none (.node none (.node none (.node none (.node none .nil (.node none (.node (some (.list [.fn 59])) .nil .nil) .nil)) (.node none .nil (.node none (.node (some (.list [.fn 27])) .nil .nil) .nil))) (.node none (.node none .nil (.node none (.node (some (.list [.fn 98])) .nil .nil) .nil)) (.node none (.node (some (.list [.fn 48])) .nil .nil) (.node (some (.list [.fn 95])) .nil .nil)))) (.node none (.node none (.node none (.node none (.node (some (.list [.fn 50])) .nil .nil) .nil) .nil) .nil) (.node none (.node none .nil (.node (some (.list [.fn 68])) .nil .nil)) (.node none (.node (some (.list [.cls 5])) .nil .nil) .nil)))) (.node none (.node none (.node none (.node none (.node (some (.list [.cls 2])) .nil .nil) (.node (some (.list [.fn 56])) (.node (some (.list [.fn 89])) .nil .nil) .nil)) (.node none .nil (.node (some (.list [.fn 97])) .nil .nil))) (.node none (.node none (.node (some (.list [.fn 85])) (.node (some (.list [.fn 69])) .nil .nil) .nil) .nil) (.node none (.node none (.node (some (.list [.fn 96])) .nil .nil) .nil) .nil))) (.node none (.node none (.node none (.node (some (.list [.obj 5])) .nil .nil) (.node (some (.list [.fn 87])) .nil .nil)) (.node (some (.list [.obj 2])) (.node (some (.list [.fn 25])) (.node (some (.list [.typ 4])) .nil .nil) .nil) (.node (some (.list [.fn 65])) .nil .nil))) (.node none (.node none (.node (some (.list [.fn 39])) (.node (some (.list [.fn 54])) .nil .nil) .nil) (.node (some (.list [.fn 78])) .nil .nil)) (.node (some (.list [.typ 1])) (.node (some (.list [.cls 3])) (.node (some (.list [.fn 91])) .nil .nil) .nil) (.node (some (.list [.cls 4])) .nil .nil)))))) (.node none (.node none (.node none (.node none (.node none .nil (.node (some (.list [.bi 1])) (.node (some (.list [.fn 42])) .nil .nil) .nil)) .nil) (.node none .nil (.node none .nil (.node (some (.list [.fn 43])) .nil .nil)))) (.node none (.node none (.node none (.node (some (.list [.fn 37])) (.node (some (.list [.fn 57])) .nil .nil) .nil) .nil) (.node none (.node (some (.list [.cls 0])) (.node (some (.list [.fn 61])) .nil .nil) .nil) (.node (some (.list [.fn 67])) .nil .nil))) (.node none (.node (some (.list [.obj 0])) (.node none (.node (some (.list [.fn 93])) .nil .nil) .nil) (.node (some (.list [.fn 76])) .nil .nil)) (.node none (.node (some (.list [.cls 1])) .nil .nil) .nil)))) (.node none (.node none (.node none (.node none .nil (.node (some (.list [.fn 31])) (.node (some (.list [.fn 72])) .nil .nil) .nil)) (.node none (.node (some (.list [.fn 94])) .nil .nil) .nil)) (.node none (.node none (.node none (.node (some (.list [.fn 28])) .nil .nil) .nil) (.node (some (.list [.fn 34])) .nil .nil)) .nil)) (.node none (.node none (.node none (.node (some (.list [.fn 35])) (.node (some (.list [.fn 88])) .nil .nil) .nil) .nil) (.node none (.node none (.node (some (.list [.fn 77])) .nil .nil) .nil) .nil)) (.node (some (.list [.fn 79])) (.node none .nil (.node (some (.list [.fn 83])) (.node (some (.list [.fn 23])) .nil .nil) .nil)) (.node (some (.list [.bi 3])) (.node (some (.list [.cls 6])) .nil .nil) .nil)))))))
noncomputable def fnAL:List Nat:=[1120,1749,1073,1080,1087,1778,938,945,952,544,995,1023,1016,1009,1028,1035,1669,1683,1690,1676,1287,1816,1847,1840,1833,1823,1828,1852,743,1153,1409,1402,735,1511,1463,1516,1504,1544,1728,1735,1565,1247,1266,1213,1499,1607,1614,728,593,1482,579,1220,1182,572,1487,1160,1146,1628,1572,1633,1254,1308,1477,1376,792,1172,1334,1261,1494,1348,981,1322,1315,1187,1383,1470,1537,1530,1397,1139,1167,1640,1654,1704,1621,1721,1579,1390,1327,1273,1177,1709,778,771,600,1208,1647,1558,1551,1857,1809,1802]
noncomputable def clsAL:List Nat:=[1128,1759,1102,1788,969,561,1055,1693,1290]
noncomputable def froAL:List Nat:=[923,924,974,721,1793,1795,1794,1574]
noncomputable def xZ0:List (List Nat):=[[47,48,49,50,51,52],[53,54,55,56,57,58,59,60,61,62],[51,53,63,64,65,66,67,68,69,70,71,72,73,74,75,76,77,78,79],[49,53,82,83,84],[85,86,87,88,89],[51,65,66,67,71,72,100,101,104,105,106],[49],[109,116,117,118],[50,52,109,119,120,122,123,127,128,129,130]]
noncomputable def Tr.all:Tr->(Nat->HO->Bool)->Bool
 |.nil,_=>true
 |.node v l r,p=>(match v with|some o=>p 0 o|none=>true)&&(l.all (fun k o=>p (2*k+1) o)&&r.all (fun k o=>p (2*k+2) o))
theorem Tr.um:∀(t:Tr) (p:Nat->HO->Bool),t.all p=true->∀i o,t.get i=some o->p i o=true
 |.nil,_,_,i,o,h=>by cases h
 |.node v l r,p,ha,i,o,h=>by
  simp only[Tr.all,QB]at ha;rw[Tr.get_node]at h
  by_cases h0:i=0
  ·subst h0
   rw[if_pos rfl]at h;subst h;exact ha.1
  ·rw[if_neg h0]at h
   by_cases h1:i%2=1
   ·rw[if_pos h1]at h
    have:=Tr.um l _ ha.2.1 _ _ h;have e:=N1 h1
    rwa [e]at this
   ·rw[if_neg h1]at h
    have:=Tr.um r _ ha.2.2 _ _ h;have e:=Ht h0 h1
    rwa [e]at this
noncomputable def FT.all:FT->(Nat->Fn->Bool)->Bool
 |.nil,_=>true
 |.node v l r,p=>p 0 v&&(l.all (fun k o=>p (2*k+1) o)&&r.all (fun k o=>p (2*k+2) o))
theorem FT.get_node(v:Fn)(l r:FT)(i:Nat):(FT.node v l r).get i=if i=0 then some v else if i%2=1 then l.get (i/2)else r.get (i/2-1):=by
 have e:(FT.node v l r).get i=match Nat.beq i 0 with|true=>some v|false=>match Nat.beq (i%2) 1 with|true=>l.get (i/2)|false=>r.get (i/2-1):=rfl
 rw[e];cases h0:Nat.beq i 0 with
 |true=>rw[if_pos (QC h0)]
 |false=>
  rw[if_neg (fun e=>by rw[e]at h0;cases h0)];cases h1:Nat.beq (i%2) 1 with
  |true=>rw[if_pos (QC h1)]
  |false=>rw[if_neg (fun e=>by rw[e]at h1;cases h1)]
theorem FT.um:∀(t:FT) (p:Nat->Fn->Bool),t.all p=true->∀i o,t.get i=some o->p i o=true
 |.nil,_,_,i,o,h=>by cases h
 |.node v l r,p,ha,i,o,h=>by
  simp only[FT.all,QB]at ha;rw[FT.get_node]at h
  by_cases h0:i=0
  ·subst h0
   rw[if_pos rfl]at h;cases h;exact ha.1
  ·rw[if_neg h0]at h
   by_cases h1:i%2=1
   ·rw[if_pos h1]at h
    have:=FT.um l _ ha.2.1 _ _ h;have e:=N1 h1
    rwa [e]at this
   ·rw[if_neg h1]at h
    have:=FT.um r _ ha.2.2 _ _ h;have e:=Ht h0 h1
    rwa [e]at this
theorem Yq{q:Nat->Nat->Bool}:∀{l:List (Nat × Nat)} {i g:Nat},lkN l i=some g->l.all (fun p=>q p.1 p.2)=true->q i g=true
 |[],_,_,h,_=>by cases h
 |p::r,i,g,h,ha=>by
  simp only[List.all_cons,QB]at ha;unfold lkN at h;split at h
  ·rename_i e
   cases h;rw[<-QC e];exact ha.1
  ·exact Yq h ha.2
noncomputable def xXk(x:Option Nat):Nat:=Option.rec (motive:=fun J=>Nat) 0 (fun a=>a) x
def Ky(g:Nat):Addr:=xXk (nth fnAL g)
def Hy(c:Nat):Addr:=xXk (nth clsAL c)
def Z3(j:Nat):Addr:=xXk (nth froAL j)
noncomputable def gV:Option HO->Option HV
 |some (.list [V])=>some V
 |_=>none
def gTm(i:Nat):Option HV:=gV (gTr.get i)
def catT(a b:Nat):Option Nat:=hif (Nat.beq b 342) (lkN [(137,180),(162,181),(150,182)] a) none
def attT(c i:Nat):Bool:=Option.rec (motive:=fun J=>Bool) false (fun l=>l.any (Nat.beq i)) (nth xZ0 c)
def fnsT(g:Nat):Option Fn:=fT.get g
def mkP(T0:Tr)(cand:Nat->List Nat)(nmv:Nat->Option Nat)(orac:Nat->List HV->St->R HV)(isOr:Nat->Bool)(sop:Nat->HV->HV->Option HV):Par:=
 ⟨T0,cand,nmv,fnsT,fun c i=>lkN (mT c) i,lkN iT,orac,isOr,lkN subT,lkN lowT,catT,attT,sop⟩
abbrev KM(w:World):Frag:=MHd.kl0 w.params
def mkC(prog:Program)(w:World)(h0:Heap)(T0:Tr)(β:Nat->UInt8)(nam:Nat->Str)(opq:Nat->Value)(iv2:Nat->Int)(ep:Nat->Nat):Cx:=⟨prog,w,h0,T0,β,nam,opq,iv2,Ky,Hy,Z3,ep,KM w⟩
noncomputable def qX3:List B8->List UInt8->Bool
 |[],[]=>true
 |.lit n::r,b::t=>UInt8.ofNat n==b&&qX3 r t
 |_,_=>false
def zQ7:HV->Value->Bool
 |.none,.none=>true
 |.bool b,.bool c=>Mm b c
 |.int i,.int j _=>decide (i=j)
 |.str k,.str s _=>tx k==s
 |.bytes l,.bytes b _=>qX3 l b.toList
 |.typ k,.type s=>tyN k==s
 |.bi k,.builtin s=>biN k==s
 |.fn g,.ref a=>Nat.beq (Ky g) a
 |.cls c,.ref a=>Nat.beq (Hy c) a
 |.obj j,.ref a=>Nat.ble (j+1) 7&&Nat.beq (Z3 j) a
 |_,_=>false
section
variable{prog:Program}{w:World}{h0:Heap}{T0:Tr}{β:Nat->UInt8}{nam:Nat->Str}{opq:Nat->Value}{iv2:Nat->Int}{ep:Nat->Nat}
theorem H1{a b:Bool}(h:Mm a b=true):a=b:=by revert h;cases a<;>cases b<;>decide
theorem qQg{C:Cx}{l:List B8}:∀{m:List UInt8},qX3 l m=true->l.map (b8 C)=m:=by
 induction l with
 |nil=>intro m h;cases m with
  |nil=>rfl
  |cons _ _=>exact Qg h
 |cons a r ih=>intro m h;cases a with
  |sym _=>exact Qg h
  |lit n=>cases m with
   |nil=>exact Qg h
   |cons b t=>
    obtain⟨h1,h2⟩:=QA h;rw[List.map_cons,ih h2,<-eq_of_beq h1];rfl
theorem Uj{V:HV}{v:Value}(h:zQ7 V v=true):VRc (mkC prog w h0 T0 β nam opq iv2 ep) V v:=by
 intro O n aF hn;cases V<;>first|exact Qg h|skip
 all_goals cases v<;>first
  |exact Qg h
  |rfl
  |(obtain rfl:=H1 h;rfl)
  |(obtain rfl:=of_decide_eq_true h;exact⟨_,rfl⟩)
  |(have:=eq_of_beq h;subst this;exact⟨_,rfl⟩)
  |(have:=eq_of_beq h;subst this;rfl)
  |(exact⟨_,by rw[qQg h]⟩)
  |(have:=QC h;subst this;rfl)
  |(have h:=QA h;have h1:=QE h.1;have h2:=QC h.2;exact⟨by omega,by rw[aF _ (by omega)];exact congrArg Value.ref h2.symm⟩)
noncomputable def isFk:ScopeKind->Bool
 |.function=>true
 |_=>false
def xZi(K:Frag)(cd:Value)(q:Str):Bool:=xZ6 cd false fun c=>oD (K.lookup c) false fun ob=>Hu ob.data false fun vs=>lsC vs.toList false fun J r=>lsC r false fun v J=>xJs v false fun s J=>s==q
def dfCk(K:Frag)(f:Fn)(dv:Value):Bool:=zZg dv (xZ6 dv false fun T=>oD (K.lookup T) false fun ob=>dSeq ob.data false fun items J=>Q9 zQ7 f.ds items.toList&&Nat.ble f.ds.length f.ps.length) f.ds.isEmpty
def isL1(nm:Nms)(i:Nat):Bool:=match nm.lookup (tx i)with
 |some .local=>true
 |some .cell=>true
 |_=>false
def fdCk(K:Frag)(f:Fn)(fd:FuncData):Bool:=match fd.body with
 |.stmts b=>Q9 (Vf gTm 40 fd.scope.names) f.body b&&(isFk fd.scope.kind&&(!fd.scope.isCoroutine&&(!fd.scope.isGenerator&&(Nat.beq fd.globals mainGlobals&&(Nat.beq fd.builtins builtinsNs&&(fd.closure.isEmpty&&
   (xZi K fd.code fd.qualname&&(f.ps.all (isL1 fd.scope.names)&&(Kw f.ps&&(Q9 (fun i (a:Arg)=>tx i==a.arg) f.ps fd.params.args&&(fd.params.posonlyargs.isEmpty&&(fd.params.kwonlyargs.isEmpty&&(fd.params.vararg.isNone&&(fd.params.kwarg.isNone&&dfCk K f fd.defaults))))))))))))))
 |_=>false
def xJo(K:Frag)(a:Addr)(f:Fn):Bool:=oD (K.lookup a) false fun ob=>zQt ob.data false fun fd=>fdCk K f fd
theorem Pp{α β:Type}{g:α->β->Bool}{r:α->β->Prop}(hg:∀a b,g a b=true->r a b){l:List α}:∀{m:List β},Q9 g l m=true->F2 r l m:=by
 induction l with
 |nil=>intro m h;cases m with
  |nil=>exact .nil
  |cons _ _=>exact Qg h
 |cons a l ih=>intro m h;cases m with
  |nil=>exact Qg h
  |cons b m=>obtain⟨h1,h2⟩:=QA h;exact .cons (hg _ _ h1) (ih h2)
theorem qZc{g:Arg->Str}{l:List Nat}:∀{m:List Arg},Q9 (fun i (a:Arg)=>tx i==g a) l m=true->m.map g=l.map tx:=by
 induction l with
 |nil=>intro m h;cases m with
  |nil=>rfl
  |cons _ _=>exact Qg h
 |cons a l ih=>intro m h;cases m with
  |nil=>exact Qg h
  |cons b m=>obtain⟨h1,h2⟩:=QA h;rw[List.map_cons,List.map_cons,ih h2,eq_of_beq h1]
set_option tactic.hygienic true in
theorem zQn(hK:(KM w).In h0){a:Addr}{f:Fn}(h:xJo (KM w) a f=true):Py (mkC prog w h0 T0 β nam opq iv2 ep) gTm a f:=by
 revert h;refine G1 (fun ob ho=>Bc (fun fd hdat h=>?_) Qg) Qg
 ·unfold fdCk at h
  split at h
  ·rename_i b hb
   simp only[QB,Bool.not_eq_true']at h;obtain⟨h1,h2,h3,h4,h5,h6,zq⟩:=h;obtain⟨h7,h8,h9,h10,h11,h12,zq⟩:=zq;obtain⟨h13,h14,h15,h16⟩:=zq;have hk:fd.scope.kind=.function:=by
    revert h2;cases fd.scope.kind<;>intro h2<;>first|rfl|cases h2
   have hn:=qZc (g:=fun a=>a.arg) h11;have hnd:(f.ps.map tx).Nodup:=List.Pairwise.map _ (fun a b (e:a≠b) q=>e (Zy q)) (Yc h10);have hcd:h0.CodeRec fd.code fd.qualname:=by
    revert h8;refine Ul (fun cc hcc=>G1 (fun o2 ho2=>Vx (fun vs hvs=>unC (fun v0 r hr=>unC (fun v r' hr'=>Mr (fun s t hv h8=>?_) Qg) Qg) Qg) Qg) Qg) Qg;refine⟨_,_,_,t,hcc,hK _ _ ho2,hvs,?_⟩;rw[<-eq_of_beq h8,<-Array.getElem?_toList,hr,hr',hv];rfl
   refine⟨⟨_,fd,b,fd.scope.names,hK _ _ ho,hdat,hb,rfl,h1,hk,h3,h4,QC h5,QC h6,QQ h7,hcd,fun i hi=>?_,fun s hs vals l1 l2=>?_⟩,Yc h10⟩
   ·have:=QI h9 i hi
    unfold isL1 at this;split at this
    ·rename_i e;exact .inl e
    ·rename_i e;exact .inr e
    ·cases this
   ·have hps:f.ps.length=fd.params.args.length:=by rw[<-List.length_map (f:=tx),<-hn,List.length_map]
    revert h16;refine P3 (fun hd h16=>?_) (Ul (fun T hd=>G1 (fun oT hT=>Mu (fun items n hdT h16=>?_) Qg) Qg) Qg)
    ·have hds:f.ds=[]:=QQ h16
     rw[hds];refine⟨[],?_,?_⟩
     ·simp only[List.drop_nil];exact .nil
     ·rw[List.append_nil,<-hn]
      rw[hds]at l1;exact BindsTo.of_eq (Uc (QQ h12) (QQ h13) (Option.isNone_iff_eq_none.mp h14) (Option.isNone_iff_eq_none.mp h15) hd (by rw[hn];exact hnd) (by simp at l1;omega))
    ··have h16:=QA h16
      have hF:F2 (VRc (mkC prog w h0 T0 β nam opq iv2 ep)) f.ds items.toList:=Pp (fun J J h=>Uj h) h16.1;have hl:=hF.length;have hl':f.ds.length=items.size:=by rw[hl,Array.length_toList]
      have hle:=QE h16.2;refine⟨items.toList.drop (items.size-(fd.params.args.length-vals.length)),?_,?_⟩
      ·rw[hps,hl'];exact hF.uX _
      ·rw[<-hn]
       exact Pk (QQ h12) (QQ h13) (Option.isNone_iff_eq_none.mp h14) (Option.isNone_iff_eq_none.mp h15) hd (hs _ _ (hK _ _ hT)) hdT (by rw[hn];exact hnd) (by omega) (by omega) (by omega)
  ·cases h
end
noncomputable def Cx.to(C:Cx)(T:Tr)(β:Nat->UInt8)(nam:Nat->Str)(opq:Nat->Value)(iv2:Nat->Int)(e:Nat->Nat):Cx:={C with T0:=T,β:=β,nam:=nam,opq:=opq,iv2:=iv2,epA:=e}
section
variable{C:Cx}{env:Env}{O:Nat->Addr}{S:St}{s:Shared}{T:Tr}{β:Nat->UInt8}{nam:Nat->Str}{opq:Nat->Value}{iv2:Nat->Int}
theorem Ba(Z:Stt C env O S s){ren:Nat->Nat}{S2:St}{e:Nat->Nat}(he:e=fun j=>Jw s.heap (O (ren j)))
  (ho:∀j oA,S2.get j=some oA->j<S2.n/\∃o,S.get (ren j)=some o/\∀ob,OR C O S.n o ob->OR (C.to T β nam opq iv2 e) (fun j=>O (ren j)) S2.n oA ob)
  (hinj:∀i j,(S2.get i).isSome->(S2.get j).isSome->ren i=ren j->i=j) (h7r:∀j,j<7->ren j=j)
  (hab:∀j,7<=j->(S2.get j).isSome->7<=ren j/\(C.T0.get (ren j)=none∨(T.get j).isSome)) (hT:∀j o,T.get j=some o->S2.get j=some o) (hT7:∀j,j<7->(T.get j).isSome) (hn:S2.n<=100001)
  (hl:∀i VC,lk S2.loc i=some VC->∃V,lk S.loc i=some V/\∀v,VR C O S.n V v->VR (C.to T β nam opq iv2 e) (fun j=>O (ren j)) S2.n VC v):
  Stt (C.to T β nam opq iv2 e) env (fun j=>O (ren j)) S2 s:=by
 have sm:∀j,(S2.get j).isSome->(S.get (ren j)).isSome:=fun j hj=>by
  obtain⟨o,ho'⟩:=QD hj;obtain⟨_,o',h,_⟩:=ho j o ho';rw[h];rfl
 refine⟨⟨fun j o hj=>?_,fun i j hi hj e=>hinj i j hi hj (Z.hr.inj _ _ (sm i hi) (sm j hj) e),fun j hj h=>?_,hn,fun j o hj=>hT j o hj,fun j hj=>⟨hT7 j hj,by show O (ren j)=_;rw[h7r j hj];exact(Z.hr.fro j hj).2⟩,fun j es hj=>?_⟩,⟨Z.lr.above,fun j hj=>Z.lr.off _ (sm j hj),fun x c hc=>?_,Z.lr.apart,?_⟩,Z.old⟩
 ·obtain⟨h1,o',h2,h3⟩:=ho j o hj
  obtain⟨_,ob,hob,hr⟩:=Z.hr.live _ o' h2;exact⟨h1,ob,hob,h3 ob hr⟩
 ·obtain⟨h1,h2⟩:=hab j hj h
  rcases Z.hr.above _ h1 (sm j h)with q|⟨q,q'⟩
  ·exact .inl q
  ·rcases q with q|q
   ·rcases h2 with h2|h2
    ·rw[h2]at q;cases q
    ·exact .inr ⟨.inl h2,q'⟩
   ·exact .inr ⟨.inr q,q'⟩
 ·obtain⟨h1,o',h2,h3⟩:=ho j _ (hT j _ hj)
  obtain⟨_,ob,hob,hr⟩:=Z.hr.live _ o' h2;obtain⟨_,ens,m,rfl,_⟩:=h3 ob hr;refine⟨ens,?_⟩;show _=some (Obj.mk _ _ (.dict ens (e j)) _);rw[he];dsimp only;unfold Jw;rw[hob]
 ·obtain⟨h1,h2,h3,h4⟩:=Z.lr.cell x c hc
  exact⟨h1,h2,fun j hj=>h3 _ (sm j hj),h4⟩
 ·obtain⟨m,h1,h2⟩:=Z.lr.loc
  refine⟨m,h1,fun i V hV=>?_⟩;obtain⟨V',h3,h4⟩:=hl i V hV;obtain⟨v,h5,h6⟩:=h2 i V' h3;exact⟨v,h4 v h5,h6⟩
noncomputable def stT:Nat->Tr->List (List HV)->Tr
 |_,t,[]=>t
 |j,t,l::r=>stT (j+1) (t.set 40 j (.list l)) r
def stG(t0:Tr)(b:Nat)(ls:List (List HV))(loc:List (Nat × HV)):St:=⟨stT b t0 ls,b+ls.length,loc⟩
def xQ6:Tr:=fro.set 40 7 (.tab none)
def stS(ls:List (List HV))(loc:List (Nat × HV)):St:=stG xQ6 8 ls loc
theorem D2:∀(ls:List (List HV)) (j:Nat) (t:Tr),j+ls.length<=1000->∀i,(stT j t ls).get i=if i<j then t.get i else match nth ls (i-j)with|some l=>some (.list l)|none=>t.get i
 |[],j,t,_,i=>by
  show t.get i=_;split<;>rfl
 |l::r,j,t,h,i=>by
  have hg:=Tr.get_set (.list l) 39 t j (QF (QF (Nat.lt_add_of_pos_right (Nat.succ_pos _)) h) (by decide));show(stT (j+1) (t.set 40 j (.list l)) r).get i=_;rw[D2 r (j+1) _ (by rw[Nat.add_right_comm];exact h)]
  by_cases q:i<j
  ·rw[if_pos (Nat.lt_succ_of_lt q),if_pos q,hg,if_neg (Nat.ne_of_lt q)]
  ·rw[if_neg q]
   by_cases q':i=j
   ·subst q'
    rw[if_pos (QK _),hg,if_pos rfl,Nat.sub_self];rfl
   ·rw[if_neg (fun p=>(Nat.lt_succ_iff_lt_or_eq.mp p).elim q q')]
    have e:i-j=(i-(j+1))+1:=(Nat.sub_add_cancel (Nat.sub_pos_of_lt (Nat.lt_of_le_of_ne (Nat.not_lt.mp q) (Ne.symm q')))).symm;rw[e];show _=match nth r (i-(j+1))with|some l=>some (HO.list l)|none=>t.get i
    cases nth r (i-(j+1))with
    |some l=>rfl
    |none=>exact(hg i).trans (if_neg (by omega))
theorem Zb{a b:Nat}:Nat.blt a b=true↔a<b:=by rw[Nat.blt,Nat.ble_eq];exact Iff.rfl
def eqV(V VC:HV):Bool:=V.uq (V.onBool (V.uf (V.onStr false fun i=>VC.onStr false (Nat.beq i)) fun i=>VC.uf false fun j=>decide (i=j)) fun a=>VC.onBool false (Mm a)) (VC.uq false true)
def Ln(b:Nat)(rs:List Nat)(j:Nat):Nat:=hif (Nat.blt j b) j ((nth rs (j-b)).getD 0)
def wkV(b:Nat)(q:HV->HV->Bool)(rs:List Nat)(VC V:HV):Bool:=VC.uc (q V VC) fun j=>V.uc false fun i=>Nat.beq (Ln b rs j) i&&Nat.blt j (b+rs.length)
def wkL(b:Nat)(q:HV->HV->Bool)(rs:List Nat)(lA:List HV)(o:Option HO):Bool:=Option.rec (motive:=fun J=>Bool) false (fun o=>o.ud false fun l=>Q9 (wkV b q rs) lA l) o
def wkX(b:Nat)(q:HV->HV->Bool)(rs:List Nat)(VC:HV):Option HV->Bool
 |some V=>wkV b q rs VC V
 |none=>false
noncomputable def xJg:Option HO->Bool
 |some _=>false
 |none=>true
noncomputable def xJf:List Nat->Bool
 |[]=>true
 |a::r=> !(r.any (Nat.beq a))&&xJf r
def wkS(b:Nat)(q:HV->HV->Bool)(T0:Tr)(rs:List Nat)(ls:List (List HV))(loc:List (Nat × HV))(S:St):Bool:=
 Q9 (fun r lA=>wkL b q rs lA (S.get r)&&(Nat.ble b r&&xJg (T0.get r))) rs ls&&(xJf rs&&(Nat.ble rs.length 90&&loc.all fun p=>wkX b q rs p.2 (lk S.loc p.1)))
theorem Wg{α β:Type}{g:α->β->Bool}:∀{l:List α} {m:List β} {i:Nat} {b:β},Q9 g l m=true->nth m i=some b->∃a,nth l i=some a/\g a b=true
 |[],[],_,_,_,h=>by cases h
 |a::_,b'::_,0,b,h,h2=>by replace h:=QA h;cases h2;exact⟨a,rfl,h.1⟩
 |_::_,_::m,i+1,b,h,h2=>by replace h:=QA h;exact Wg (i:=i) h.2 h2
 |[],_::_,_,_,h,_=>by exact Qg h
 |_::_,[],_,_,h,_=>by exact Qg h
theorem N8{x:Nat}:∀{r:List Nat} {j:Nat},nth r j=some x->r.any (Nat.beq x)=true:=fun{r}=>by
 induction r with
 |nil=>exact fun h=>Qh h
 |cons y r ih=>intro j h;cases j with
  |zero=>rw[List.any_cons,Option.some.inj h,Nat.beq_refl];rfl
  |succ j=>rw[List.any_cons,ih h,Bool.or_true]
theorem Tz{l:List Nat}{a:Nat}:∀{i j:Nat},xJf l=true->nth l i=some a->nth l j=some a->i=j:=by
 induction l with
 |nil=>exact fun J h=>Qh h
 |cons x r ih=>
  intro i j h h1 h2;obtain⟨g1,g2⟩:=QA h;cases i with
  |zero=>cases j with
   |zero=>rfl
   |succ j=>rw[N8 ((Option.some.inj h1).symm▸h2)]at g1;exact Qg g1
  |succ i=>cases j with
   |zero=>rw[N8 ((Option.some.inj h2).symm▸h1)]at g1;exact Qg g1
   |succ j=>exact congrArg (· +1) (ih g2 h1 h2)
def plV(V:HV):Bool:=V.onStr (V.uq (V.uc false fun j=>Nat.blt j 7) true) fun J=>true
def plO(o:HO):Bool:=o.onTup (o.uQ false fun c=>Option.rec (motive:=fun J=>Bool) true (fun J=>false) c) fun l=>l.all plV
theorem xQ3:fro.all (fun j o=>Nat.blt j 7&&plO o)=true:=by decide+kernel
theorem zQk:[0,1,2,3,4,5,6].all (fun j=>(fro.get j).isSome)=true:=by decide+kernel
theorem Xf{j:Nat}(hj:j<7):(fro.get j).isSome=true:=QI zQk j (List.mem_range.mpr hj)
theorem Kx{j:Nat}{o:HO}(h:fro.get j=some o):j<7/\plO o=true:=by
 have:=Tr.um fro _ xQ3 j o h;simp only[QB]at this;exact⟨Zb.mp this.1,this.2⟩
theorem F2.imp_mem{α β:Type}{r q:α->β->Prop}{l:List α}{m:List β}(h:∀a b,a∈l->r a b->q a b)(H:F2 r l m):F2 q l m:=by
 induction H with
 |nil=>exact .nil
 |cons x y ih=>exact .cons (h _ _ List.mem_cons_self x) (ih fun a b ha=>h a b (List.mem_cons_of_mem _ ha))
theorem zZz{e:Nat->Nat}{o:HO}(hp:plO o=true){O O2:Nat->Addr}{n nA b:Nat}(aF:∀j,j<b->O2 j=O j)(h7:7<=b)(h8:o=.tab none->8<=b)(hn:b<=nA){ob:Obj}(h:OR C O n o ob):OR (C.to T β nam opq iv2 e) O2 nA o ob:=by
 revert hp;refine Zx (fun l e hp=>?_) (Mt (fun c e hp=>?_) Qg)<;>subst e
 ·obtain⟨hg,xs,m,rfl,hf⟩:=h
  refine⟨hg,xs,m,rfl,hf.imp_mem fun V v hV hv=>?_⟩;refine Zm (fun k e J=>?_) (Yj (fun e J=>?_) (Qv (fun j e hj=>?_) Qg)) (QI hp V hV)<;>subst e
  ·exact hv
  ·exact hv
  ·have hj:=Zb.mp hj
   have hb:=QF hj h7;exact⟨QF hb hn,by rw[aF j hb];exact hv.2⟩
 ·cases c with
  |some _=>exact Qg hp
  |none=>
   obtain⟨hg,_,h1,h2⟩:=h;have h8:=h8 rfl;exact⟨hg,QF h8 hn,(aF 7 h8).trans h1,h2⟩
theorem J2{b:Nat}{rs:List Nat}{j:Nat}(h:j<b):Ln b rs j=j:=by
 unfold Ln;have:Nat.blt j b=true:=Zb.mpr h;rw[this];rfl
theorem qXf{b:Nat}{rs:List Nat}{j r:Nat}(h:b<=j)(hr:nth rs (j-b)=some r):Ln b rs j=r:=by
 unfold Ln;have:Nat.blt j b=false:=by
  cases e:Nat.blt j b with
  |false=>rfl
  |true=>exact absurd (Zb.mp e) (QJ h)
 rw[this,hr];rfl
theorem Dj{i:Nat}{V:HV}:∀{es:List (Nat × HV)},lk es i=some V->(i,V)∈es
 |[],h=>by cases h
 |p::r,h=>by
  have h:Bool.rec (lk r i) (some p.2) (Nat.beq p.1 i)=some V:=h;cases hb:Nat.beq p.1 i with
  |true=>rw[hb]at h;cases h;rw[<-QC hb];exact List.mem_cons_self
  |false=>rw[hb]at h;exact List.mem_cons_of_mem _ (Dj h)
structure xJr(t0:Tr)(b:Nat):Prop where
 lt:∀j o,t0.get j=some o->j<b/\plO o=true
 fr:∀j o,fro.get j=some o->t0.get j=some o
 b7:7<=b
 b9:b<=90
 b8:∀j,t0.get j=some (.tab none)->8<=b
noncomputable def isTp(o:HO):Bool:=match o with|.tup _=>true|_=>false
theorem qZz:fro.all (fun J o=>isTp o)=true:=by decide+kernel
theorem xZw:xJr fro 7:=⟨fun J J h=>Kx h,fun J J h=>h,by decide,by decide,fun j h=>by have:=Tr.um fro _ qZz j _ h;cases this⟩
theorem zQj:xQ6.all (fun j o=>Nat.blt j 8&&plO o)=true:=by decide+kernel
theorem Y4(j:Nat):xQ6.get j=if j=7 then some (.tab none)else fro.get j:=Tr.get_set (.tab none) 39 fro 7 (by decide) j
theorem xZv:xJr xQ6 8:=⟨fun j o h=>by
 have:=Tr.um xQ6 _ zQj j o h;simp only[QB]at this;exact⟨Zb.mp this.1,this.2⟩,fun j o h=>by rw[Y4,if_neg (by have:=(Kx h).1;omega)];exact h,by decide,by decide,fun J J=>by decide⟩
theorem Hr{t0:Tr}{b:Nat}(B:xJr t0 b){ls:List (List HV)}{loc:List (Nat × HV)}(hl:ls.length<=90)(j:Nat):(stG t0 b ls loc).get j=if j<b then t0.get j else match nth ls (j-b)with|some l=>some (.list l)|none=>none:=by
 show(stT b t0 ls).get j=_;rw[D2 ls b t0 (by have:=B.b9;omega)];split
 ·rfl
 ·split
  ·rfl
  ·cases h:t0.get j with
   |none=>rfl
   |some o=>exact absurd (B.lt _ _ h).1 ‹_›
theorem zZe{b:Nat}{q:HV->HV->Bool}{rs:List Nat}{lA:List HV}{o:Option HO}(h:wkL b q rs lA o=true):∃l,o=some (.list l)/\Q9 (wkV b q rs) lA l=true:=by
 cases o with
 |none=>exact Qg h
 |some o=>exact Q3 (fun l e h=>⟨l,by rw[e],h⟩) Qg h
theorem qZe(Z:Stt C env O S s){t0:Tr}{b:Nat}(B:xJr t0 b){e:Nat->Nat}{q:HV->HV->Bool}{rs:List Nat}{ls:List (List HV)}{loc:List (Nat × HV)}(hb:∀j o,t0.get j=some o->S.get j=some o)(h7:∀j o,t0.get j=some o->7<=j->C.T0.get j=none)
  (hq:∀V VC O n O2 nA v,q V VC=true->VR C O n V v->VR (C.to fro β nam opq iv2 e) O2 nA VC v) (h:wkS b q C.T0 rs ls loc S=true) (he:e=fun j=>Jw s.heap (O (Ln b rs j))):
  Stt (C.to fro β nam opq iv2 e) env (fun j=>O (Ln b rs j)) (stG t0 b ls loc) s:=by
 unfold wkS at h;simp only[QB]at h;obtain⟨h1,h2,h3,h4⟩:=h;have h3:=QE h3;have hlen:=Ye h1;have b7:=B.b7;have b9:=B.b9;have hn:(stG t0 b ls loc).n=b+rs.length:=by show b+ls.length=_;rw[hlen]
 have hg:=Hr B (ls:=ls) (loc:=loc) (by omega);have hV:∀VC V,wkV b q rs VC V=true->∀v,VR C O S.n V v->VR (C.to fro β nam opq iv2 e) (fun j=>O (Ln b rs j)) (stG t0 b ls loc).n VC v:=fun VC V h v hv=>by
  revert h;refine Qv (fun j e=>Qv (fun i e' h=>?_) Qg) fun h=>?_
  ·subst e e'
   ·have h:=QA h
    refine⟨?_,?_⟩
    ·rw[hn]
     exact Zb.mp h.2
    ·rw[hv.2]
     show Value.ref (O i)=Value.ref (O (Ln b rs j));rw[QC h.1]
  ·exact hq V VC _ _ _ _ v h hv
 have dom:∀j o,(stG t0 b ls loc).get j=some o->b<=j->∃r lA,nth rs (j-b)=some r/\nth ls (j-b)=some lA/\o=.list lA/\Ln b rs j=r/\(wkL b q rs lA (S.get r)&&(Nat.ble b r&&xJg (C.T0.get r)))=true:=fun j o ho h7=>by
  rw[hg,if_neg (by omega)]at ho;cases hl:nth ls (j-b)with
  |none=>rw[hl]at ho;cases ho
  |some lA=>
   rw[hl]at ho;obtain⟨r,k1,k2⟩:=Wg h1 hl;exact⟨r,lA,k1,rfl,by cases ho;rfl,qXf h7 k1,k2⟩
 refine Ba Z he (fun j oA ho=>?_) (fun i j hi hj e=>?_) (fun j hj=>J2 (by omega)) (fun j hj h=>?_) (fun j o ho=>?_) (fun j hj=>Xf hj) (by rw[hn];omega) (fun i VC hi=>?_)
 ·by_cases h7:j<b
  ·rw[hg,if_pos h7]at ho
   refine⟨by rw[hn];omega,oA,by rw[J2 h7];exact hb j oA ho,fun ob hob=>zZz (B.lt _ _ ho).2 (b:=b) (fun j hj=>by rw[J2 hj]) b7 (fun e=>B.b8 j (e▸ho)) (by rw[hn];omega) hob⟩
  ·obtain⟨r,lA,k1,k2,rfl,k4,k5⟩:=dom j oA ho (by omega)
   simp only[QB]at k5;refine⟨?_,?_⟩
   ·rw[hn]
    have:∀(l:List Nat) (i:Nat) (a:Nat),nth l i=some a->i<l.length:=fun l=>by
     induction l with
     |nil=>intro i a h;cases h
     |cons y r ih=>intro i a h;cases i with
      |zero=>simp
      |succ i=>have:=ih i a h;simp;omega
    have:=this _ _ _ k1;omega
   ·rw[k4]
    have k6:=k5.1;clear k5;obtain⟨l,hl,k7⟩:=zZe k6;clear k6
    ·refine⟨_,hl,fun ob hob=>?_⟩
     obtain⟨hgd,xs,m,rfl,hF⟩:=hob;have hlen:lA.length=l.length:=Ye k7;refine⟨by show lA.length<=1000;rw[hlen];exact hgd,xs,m,rfl,?_⟩;clear hl hgd;revert k7 hF;generalize xs.toList=ys;clear hlen ho k2;induction lA generalizing l ys with
     |nil=>intro k6 hF;cases l with
      |nil=>cases hF;exact .nil
      |cons _ _=>exact Qg k6
     |cons a lA ih=>intro k6 hF;cases l with
      |nil=>exact Qg k6
      |cons b l=>
       cases hF with
       |cons x y=>
        replace k6:=QA k6;exact .cons (hV a b k6.1 _ x) (ih _ _ k6.2 y)
 ·obtain⟨oi,hi⟩:=QD hi
  obtain⟨oj,hj⟩:=QD hj
  by_cases h7:i<b<;>by_cases h7':j<b
  ·rw[J2 h7,J2 h7']at e;exact e
  ·obtain⟨r,lA,k1,k2,rfl,k4,k5⟩:=dom j oj hj (by omega)
   simp only[QB]at k5;rw[J2 h7,k4]at e;have:=QE k5.2.1;omega
  ·obtain⟨r,lA,k1,k2,rfl,k4,k5⟩:=dom i oi hi (by omega)
   simp only[QB]at k5;rw[J2 h7',k4]at e;have:=QE k5.2.1;omega
  ·obtain⟨r,lA,k1,k2,rfl,k4,k5⟩:=dom i oi hi (by omega)
   obtain⟨r',l2',k1',k2',rfl,k4',k5'⟩:=dom j oj hj (by omega);rw[k4,k4']at e;subst e;have:=Tz h2 k1 k1';omega
 ·obtain⟨o,ho⟩:=QD h
  by_cases hjb:j<b
  ·rw[hg,if_pos hjb]at ho
   rw[J2 hjb];exact⟨hj,.inl (h7 j o ho hj)⟩
  ·obtain⟨r,lA,k1,k2,rfl,k4,k5⟩:=dom j o ho (by omega)
   simp only[QB]at k5;rw[k4];refine⟨QG b7 (QE k5.2.1),.inl ?_⟩;have:=k5.2.2;unfold xJg at this;split at this
   ·cases this
   ·assumption
 ·have:=(B.lt _ _ (B.fr _ _ ho)).1
  rw[hg,if_pos this];exact B.fr _ _ ho
 ·have:=QI h4 _ (Dj hi)
  unfold wkX at this
  set_option tactic.hygienic true in split at this
  ·rename_i V hV'
   exact⟨V,hV',hV VC V this⟩
  ·cases this
end
def L5(K:Frag)(q g:Nat)(f:Fn):Bool:=hif (Nat.beq (g%4) q) (xJo K (Ky g) f) true
theorem fc0(w:World):fT.all (L5 (KM w) 0)=true:=by kernel_rfl
theorem fc1(w:World):fT.all (L5 (KM w) 1)=true:=by kernel_rfl
theorem fc2(w:World):fT.all (L5 (KM w) 2)=true:=by kernel_rfl
theorem fc3(w:World):fT.all (L5 (KM w) 3)=true:=by kernel_rfl
theorem fn_ck(w:World){g:Nat}{f:Fn}(h:fnsT g=some f):xJo (KM w) (Ky g) f=true:=by
 have h:fT.get g=some f:=h;have key:∀q,fT.all (L5 (KM w) q)=true->g%4=q->xJo (KM w) (Ky g) f=true:=fun q a e=>by
  have:=FT.um fT _ a g f h;unfold L5 at this;rw[e,Nat.beq_refl]at this;exact this
 have:g%4=0∨g%4=1∨g%4=2∨g%4=3:=by omega
 rcases this with e|e|e|e
 ·exact key 0 (fc0 w) e
 ·exact key 1 (fc1 w) e
 ·exact key 2 (fc2 w) e
 ·exact key 3 (fc3 w) e
noncomputable def cls9:List Nat:=[0,1,2,3,4,5,6,7,8]
theorem xXm(w:World):cls9.all (fun c=>(mT c).all fun p=>qQb (KM w) (Hy c) (tx p.1) (Ky p.2))=true:=by kernel_rfl
theorem xX5(w:World):iT.all (fun p=>Dx (KM w) (Hy p.1) (Ky p.2))=true:=by kernel_rfl
theorem at_ck(w:World):cls9.all (fun c=>(Option.rec (motive:=fun J=>Bool) true (fun l=>l.all fun i=>qZb (KM w) (Hy c) (tx i)) (nth xZ0 c)))=true:=by kernel_rfl
def xJ2(k c:Nat):Bool:=match(tx k).cps[0]? with|some ch=>tx c==⟨#[ch]⟩|none=>false
theorem xJ1:subT.all (fun p=>xJ2 p.1 p.2)=true:=by decide+kernel
theorem xXu:lowT.all (fun p=>PySem.Txt.lower (tx p.1)==tx p.2)=true:=by kernel_rfl
theorem ct_ck:[(137,180),(162,181),(150,182)].all (fun p:Nat × Nat=>tx p.1++tx 342==tx p.2)=true:=by decide+kernel
noncomputable def qZ1(K:Frag)(a:Addr):List DictEntry:=match K.lookup a with
 |some ⟨_,_,.dict es _,_⟩=>es.toList
 |_=>[]
noncomputable def nsL(es:List DictEntry)(x:Str):Option Value:=(es.find? (·.key.isStr x)).map (·.val)
def glCk(es eb:List DictEntry)(i:Nat)(V:HV):Bool:=match nsL es (tx i)with
 |some v=>zQ7 V v
 |none=>(match nsL eb (tx i)with|some v=>zQ7 V v|none=>false)
theorem gl_ck(w:World):gTr.all (fun i o=>match gV (some o)with|some V=>glCk (qZ1 (KM w) mainGlobals) (qZ1 (KM w) builtinsNs) i V|none=>true)=true:=by kernel_rfl
theorem gi_ck(w:World):(["range","zip","enumerate"].map fun x=>(nsL (qZ1 (KM w) mainGlobals) (Str.ofString x),nsL (qZ1 (KM w) builtinsNs) (Str.ofString x)))=[(none,some (.type "range")),(none,some (.type "zip")),(none,some (.type "enumerate"))]:=by kernel_rfl
section
variable{prog:Program}{w:World}{h0:Heap}{T0:Tr}{β:Nat->UInt8}{nam:Nat->Str}{opq:Nat->Value}{iv2:Nat->Int}{ep:Nat->Nat}{cand:Nat->List Nat}{nmv:Nat->Option Nat}{orac:Nat->List HV->St->R HV}{isOr:Nat->Bool}{sop:Nat->HV->HV->Option HV}
theorem all9{q:Nat->Bool}(h:cls9.all q=true){c:Nat}(hc:c<9):q c=true:=QI h c (show c∈List.range 9 from List.mem_range.mpr hc)
theorem N4(es:Array DictEntry)(x:Str):nsFind es x=nsL es.toList x:=by
 unfold nsFind findBy nsL;rw[Array.find?_toList]
theorem Ls(hK:(KM w).In h0){a:Addr}{m:Str->Option Value}(hN:h0.Ns a m)(ho:((KM w).lookup a).isSome=true)(x:Str):m x=nsL (qZ1 (KM w) a) x:=by
 obtain⟨o,ho'⟩:=QD ho;obtain⟨o2,es,ep,h1,h2,_,h3⟩:=hN;rw[hK a o ho']at h1;cases h1;unfold qZ1;rw[ho'];obtain⟨c,d,dt,sl⟩:=o;dsimp only at h2;subst h2;rw[<-h3 x,N4]
theorem qQp(w:World):((KM w).lookup mainGlobals).isSome=true:=by kernel_rfl
theorem xQl(w:World):((KM w).lookup builtinsNs).isSome=true:=by kernel_rfl
theorem xQ4:fro.all (fun j o=>Nat.ble (j+1) 7&&(match o with|.tup _=>true|_=>false))=true:=by decide+kernel
theorem zQl:[0,1,2,3,4,5,6].all (fun j=>(fro.get j).isSome)=true:=by decide+kernel
theorem jX2{c:Nat}(h:¬c<9):mT c=[]:=by
 unfold mT;split<;>first|rfl|(exfalso;omega)
set_option tactic.hygienic true in
theorem Pb(hK:(KM w).In h0)(hlim:h0.NoLimit)(hsm:sysModules<h0.objs.size){mg mb:Str->Option Value}(hg:h0.Ns mainGlobals mg)(hb:h0.Ns builtinsNs mb)(hT:∀j o,fro.get j=some o->T0.get j=some o)(hopq:∀k,handedIn (opq k)=true)
  (n0:∀a,nmv a=none->∃k,(cand a).any (Nat.beq k)=true/\nam a=tx k) (n1:∀a k,nmv a=some k->nam a=tx k)
  (hsop:∀op a b r x y,sop op a b=some r->IV (mkC prog w h0 T0 β nam opq iv2 ep) a x->IV (mkC prog w h0 T0 β nam opq iv2 ep) b y->Gq (mkC prog w h0 T0 β nam opq iv2 ep) op x y r):
  Q6 (mkC prog w h0 T0 β nam opq iv2 ep) (mkP T0 cand nmv orac isOr sop) gTm where
 nolimit:=hlim
 sysM:=hsm
 fro7 j hj:=by
  have h1:(fro.get j).isSome=true:=QI zQl j (by simp;omega);obtain⟨o,ho⟩:=QD h1;have h2:=Tr.um fro _ xQ4 j o ho;simp only[QB]at h2;have h3:=h2.2;split at h3
  ·exact⟨_,hT j _ ho⟩
  ·cases h3
 T0:=rfl
 kin:=hK
 atts c i h:=by
  have h:attT c i=true:=h;unfold attT at h;cases hl:nth xZ0 c with
  |none=>rw[hl]at h;cases h
  |some l=>
   rw[hl]at h;obtain⟨i',hi,e⟩:=List.any_eq_true.mp h;have e:=QC e;subst e;have hc:c<9:=by
    refine Decidable.byContradiction fun hc=>?_;have:∀(l:List (List Nat)) (c:Nat),l.length<=c->nth l c=none:=by
     intro l;induction l with
     |nil=>intro c _;rfl
     |cons a l ih=>intro c hc;cases c with
      |zero=>simp at hc
      |succ c=>exact ih c (by simpa using hc)
    rw[this xZ0 c (by have:xZ0.length=9:=rfl;omega)]at hl;cases hl
   have:=all9 (at_ck w) hc;rw[hl]at this;exact QI this i hi
 opq:=hopq
 sub1 k c h:=by
  have:=Yq (q:=xJ2) h xJ1;unfold xJ2 at this;split at this
  ·rename_i ch e;exact⟨ch,e,eq_of_beq this⟩
  ·cases this
 low k c h:=eq_of_beq (Yq (q:=fun k c=>PySem.Txt.lower (tx k)==tx c) h xXu)
 cat a b c h:=by
  have h:catT a b=some c:=h;unfold catT at h;cases hb:Nat.beq b 342 with
  |false=>rw[hb]at h;cases h
  |true=>
   rw[hb]at h;have h:=eq_of_beq (Yq (q:=fun a c=>tx a++tx 342==tx c) h ct_ck);rw[QC hb];exact h
 nm0:=n0
 nm1:=n1
 sop:=hsop
 glob:=by
  refine⟨mg,mb,hg,hb,fun i V hV=>?_,fun x hx=>?_⟩
  ·have hV:gV (gTr.get i)=some V:=hV
   cases ho:gTr.get i with
   |none=>rw[ho]at hV;cases hV
   |some o=>
    rw[ho]at hV;have:=Tr.um gTr _ (gl_ck w) i o ho;simp only[hV]at this;unfold glCk at this;rw[Ls hK hg (qQp w),Ls hK hb (xQl w)];split at this
    ·rename_i v e
     exact⟨v,.inl e,Uj this⟩
    ·rename_i e
     split at this
     ·rename_i v e'
      exact⟨v,.inr ⟨e,e'⟩,Uj this⟩
     ·cases this
  ·have:=gi_ck w
   simp only[List.map_cons,List.map_nil,List.cons.injEq,Prod.mk.injEq,and_true]at this;obtain⟨⟨a1,a2⟩,⟨b1,b2⟩,c1,c2⟩:=this;rw[Ls hK hg (qQp w),Ls hK hb (xQl w)];simp only[List.mem_cons,List.not_mem_nil,or_false]at hx;rcases hx with rfl|rfl|rfl
   ·exact⟨a1,a2⟩
   ·exact⟨b1,b2⟩
   ·exact⟨c1,c2⟩
theorem Y5(hK:(KM w).In h0)(hor:∀p∈iT,isOr p.2=false):Zc (mkC prog w h0 T0 β nam opq iv2 ep) gTm (mkP T0 cand nmv orac isOr sop)where
 fn g f h:=zQn hK (fn_ck w h)
 T0:=rfl
 meth c m g h:=by
  have h:lkN (mT c) m=some g:=h
  by_cases hc:c<9
  ·exact Yq (q:=fun m g=>qQb (KM w) (Hy c) (tx m) (Ky g)) h (all9 (xXm w) hc)
  ·rw[jX2 hc]at h;cases h
 init c g h:=by
  have h:lkN iT c=some g:=h;refine⟨Yq (q:=fun c g=>Dx (KM w) (Hy c) (Ky g)) h (xX5 w),?_⟩;have:=Yq (q:=fun J g=> !isOr g) h (List.all_eq_true.mpr fun p hp=>by rw[hor p hp];rfl);have this:isOr g=false:=by simpa using this
  exact this
end
section
variable{C:Cx}{env:Env}{A:Around}{O:Nat->Addr}{S:St}{s s':Shared}{β:Nat->UInt8}{nam:Nat->Str}{opq:Nat->Value}{iv2:Nat->Int}
theorem Stt.uZ(Z:Stt C env O S s){j:Nat}{o0 o:HO}{ob:Obj}(hj:S.get j=some o0)(hl:C.T0.get j=none)(hs:∀b x,s.heap.get? b=some x->b≠O j->s'.heap.get? b=some x)(ho:s'.heap.get? (O j)=some ob)(hr:OR C O S.n o ob)(hkd:o.kd=o0.kd)
  (hgn:s'.gens=s.gens) (hos:s'.os=s.os):Ext C (Wd env .no) O S s O (S.set j o) s'/\Stt C env O (S.set j o) s':=by
 have hjn:=(Z.hr.live j o0 hj).1;have h1:j<=100000:=by have:=Z.hr.small;omega
 have hg:=St.get_set (S:=S) h1 o;have dom:∀i,((S.set j o).get i).isSome↔(S.get i).isSome:=fun i=>by
  rw[hg]
  by_cases q:i=j
  ·rw[if_pos q,q,hj];simp
  ·rw[if_neg q]
 have hj':(S.get j).isSome:=by rw[hj];rfl
 refine⟨⟨fun J J=>rfl,QL _,fun i J=>(by rw[hg];by_cases q:i=j<;>simp[q,hj,hkd]),fun i hi h=>?_,fun a x e J hlv=>hs a x e (Ne.symm (hlv j hl hjn hj')),hgn,hos⟩,
  ⟨⟨fun i x hx=>?_,fun a b ha hb=>Z.hr.inj a b ((dom a).mp ha) ((dom b).mp hb),fun i hi h=>Z.hr.above i hi ((dom i).mp h),Z.hr.small,fun i o hi=>by rw[hg,if_neg (fun q=>by rw[q,hl]at hi;cases hi)];exact Z.hr.frz i o hi,Z.hr.fro,Z.hr.uo (fun J J=>rfl) fun i o hi hs' ob e=>hs _ _ e (fun q=>by have:=Z.hr.inj i j hs' hj' q;rw[this,hl]at hi;cases hi)⟩,?_,fun b x e=>?_⟩⟩
 ·rw[dom,Z.hr.none hi]at h;cases h
 ·rw[hg]at hx
  by_cases q:i=j
  ·rw[if_pos q]at hx;cases hx;rw[q];exact⟨hjn,ob,ho,hr⟩
  ·rw[if_neg q]at hx
   obtain⟨a,y,hy,r⟩:=Z.hr.live i x hx;exact⟨a,y,hs _ _ hy (fun e=>q (Z.hr.inj i j (by rw[hx];rfl) hj' e)),r⟩
 ·refine Z.lr.grow (fun J J=>rfl) (QL _) rfl (fun b w x e=>hs b x e (fun q=>Z.lr.ul hj' (q▸w))) fun i hi=>Z.lr.ul ((dom i).mp hi)
 ·refine hs b x (Z.old b x e) (fun q=>?_)
  exact absurd (q▸e) (by rw[Z.uG hl hj'];exact fun q=>by cases q)
theorem D4{PA:Par}(hK:∀e,Q6 (C.to fro β nam opq iv2 e) PA gTm)(hFK:∀e,Zc (C.to fro β nam opq iv2 e) gTm PA)(hO:PA.isOr=fun J=>false){n g u:Nat}{as2:List HV}{vals:List Value}{l lA lB lC:List HV}{V VB:HV}{S':St}{q:HV->HV->Bool}
  (hA:AOk (3*n+1) A) (Z:Stt C env O S s) (hf:∀j o,fro.get j=some o->C.T0.get j=some o) (hu:S.get u=some (.list l)) (h7:7<=u) (hl:C.T0.get u=none) (hw:Q9 (wkV 7 q [u]) lA l=true)
  (hq:∀e V VC O n O2 nA v,q V VC=true->VR C O n V v->VR (C.to fro β nam opq iv2 e) O2 nA VC v)
  (hv:∀e,F2 (VR (C.to fro β nam opq iv2 e) (fun j=>O (Ln 7 [u] j)) 8) as2 vals) (h:Zn PA (eng PA n).xs g as2 (stG fro 7 [lA] [])=.ok V S') (h':S'.get 7=some (.list lB))
  (ho:∀e O' ob,OR (C.to fro β nam opq iv2 e) O' S'.n (.list lB) ob->OR C O S.n (.list lC) ob) (hr:∀e O' v,VR (C.to fro β nam opq iv2 e) O' S'.n V v->VR C O S.n VB v):
  Run C env .no A (call (.ref (C.fnA g)) vals) O S s (S.set u (.list lC)) (Q4 C VB):=by
 have hwk:wkS 7 q C.T0 [u] [lA] [] S=true:=by
  unfold wkS;have a1:wkL 7 q [u] lA (S.get u)=true:=by rw[hu];exact hw
  have a2:Nat.ble 7 u=true:=by rw[Nat.ble_eq];exact h7
  have a3:xJg (C.T0.get u)=true:=by rw[hl];rfl
  simp only[Q9,a1,a2,a3,Bool.and_self,Bool.and_true,List.length_cons,List.length_nil,xJf,List.any_nil,List.all_nil,Bool.not_false];decide
 have ZD:=qZe (β:=β) (nam:=nam) (opq:=opq) (iv2:=iv2) Z xZw (fun j o h=>Z.hr.frz j o (hf j o h)) (fun j o h h'=>absurd (Kx h).1 (QJ h')) (hq _) hwk rfl;have SN:=Zi (bo:=0) (hK (fun j=>Jw s.heap (O (Ln 7 [u] j)))) (hFK _) ⟨fun J J J J J h=>by rw[hO]at h;cases h⟩ ⟨fun J h=>by rw[hO]at h;cases h⟩ n;have R:=Z4 (hK _) (hFK _) ⟨fun J J J J J h=>by rw[hO]at h;cases h⟩ SN.2.2.1 (Nat.zero_le _) hA ZD (hv _) h;intro E Q qq;refine R E Q fun v O' s' X Y hrv=>?_;have r7:Ln 7 [u] 7=u:=rfl;have keep:∀b x,s.heap.get? b=some x->b≠O u->s'.heap.get? b=some x:=fun a o e ne=>X.keep a o e (fun w=>w) fun j hj hn hs=>by
  have hj:fro.get j=none:=hj;have hs:((stG fro 7 [lA] []).get j).isSome:=hs;rw[Hr xZw (by simp)]at hs
  by_cases q7:j<7
  ·rw[if_pos q7,hj]at hs;cases hs
  ·rw[if_neg q7]at hs
   obtain rfl:j=7:=by
    have:(stG fro 7 [lA] []).n=8:=rfl;omega
   exact Ne.symm ne
 obtain⟨_,ob,hob,hor⟩:=Y.hr.live 7 _ h';have e7:O' 7=O u:=X.agree 7 (by show 7<8;omega);rw[e7]at hob;have G:=Z.uZ (s':=s') (o:=.list lC) hu hl keep hob (ho _ _ _ hor) rfl X.gens X.os;exact qq v O s' G.1 G.2 (hr _ _ _ hrv)
def jX3(b:Bool)(W c:Int)(m:Nat)(i:Nat):Int:=match i with
 |0=>W
 |1=>c
 |2=>c+1
 |3=>20*(c+1)
 |4=>20*(c+1)+10119
 |5=>(20*(c+1)+10119)^9
 |6=>((20*(c+1)+10119)^9).fdiv 4
 |7=>(hif b (((20*(c+1)+10119)^9).fdiv 4) W).fdiv m
 |8=>hif b (c+1) c
 |_=>0
def sopL(b:Bool)(m d:Nat)(op:Nat)(x y:HV):Option HV:=hif (Nat.beq op 9) (eS x 0 none (eI y 0 none (some (.bool b))))<|hif (Nat.beq op 0) (eS x 1 (eS x 3 none (eI y 10119 none (some (.sint 4)))) (eI y 1 none (some (.sint 2))))<|
 hif (Nat.beq op 2) (eI x 20 none (eS y 2 none (some (.sint 3))))<|hif (Nat.beq op 5) (eS x 4 none (eI y 9 none (some (.sint 5))))<|
 hif (Nat.beq op 3) (eS x 5 (eS x 0 (eS x 6 none (y.uf none fun k=>Qs (b&&decide (k=(m:Int))) (some (.sint 7)))) (y.uf none fun k=>Qs (!b&&decide (k=(m:Int))) (some (.sint 7)))) (eI y 4 none (some (.sint 6))))<|
 hif (Nat.beq op 4) (eS x 0 (eS x 6 none (y.uf none fun k=>Qs (b&&decide (k=(m:Int))) (some (.int d)))) (y.uf none fun k=>Qs (!b&&decide (k=(m:Int))) (some (.int d)))) none
noncomputable def noN(_:Nat):Option Nat:=none
noncomputable def noO(_:Nat)(_:List HV)(_:St):R HV:=.no
noncomputable def qZq(_:Nat):Bool:=false
def Ts(cand:Nat->List Nat)(b:Bool)(m d:Nat):Par:=mkP fro cand noN noO qZq (sopL b m d)
def xJj(b:Bool):List HV:=hif b [.sint 7,.sint 2] [.sint 7,.sint 1]
def zZ2(r:R HV)(j:Nat):Option (HV × Option HO):=match r with
 |.ok V S=>some (V,S.get j)
 |.no=>none
theorem qXk{r:R HV}{j:Nat}{V:HV}{o:Option HO}(h:zZ2 r j=some (V,o)):∃S,r=.ok V S/\S.get j=o:=by
 cases r with
 |no=>cases h
 |ok W S=>cases h;exact⟨S,rfl,rfl⟩
theorem lot2(cand:Nat->List Nat)(d:Nat):∀b,zZ2 (Zn (Ts cand b 2 d) (eng (Ts cand b 2 d) 12).xs 100 [.obj 7,.int 2] (stG fro 7 [[.sint 0,.sint 1]] [])) 7=some (.int d,some (.list (xJj b)))
 |true=>by kernel_rfl
 |false=>by kernel_rfl
theorem lot3(cand:Nat->List Nat)(d:Nat):∀b,zZ2 (Zn (Ts cand b 3 d) (eng (Ts cand b 3 d) 12).xs 100 [.obj 7,.int 3] (stG fro 7 [[.sint 0,.sint 1]] [])) 7=some (.int d,some (.list (xJj b)))
 |true=>by kernel_rfl
 |false=>by kernel_rfl
theorem lot5(cand:Nat->List Nat)(d:Nat):∀b,zZ2 (Zn (Ts cand b 5 d) (eng (Ts cand b 5 d) 12).xs 100 [.obj 7,.int 5] (stG fro 7 [[.sint 0,.sint 1]] [])) 7=some (.int d,some (.list (xJj b)))
 |true=>by kernel_rfl
 |false=>by kernel_rfl
theorem qX1(cand:Nat->List Nat)(d:Nat)(b:Bool){m:Nat}(hm:m=2∨m=3∨m=5):zZ2 (Zn (Ts cand b m d) (eng (Ts cand b m d) 12).xs 100 [.obj 7,.int m] (stG fro 7 [[.sint 0,.sint 1]] [])) 7=some (.int d,some (.list (xJj b))):=by
 rcases hm with rfl|rfl|rfl
 ·exact lot2 cand d b
 ·exact lot3 cand d b
 ·exact lot5 cand d b
end
theorem Xi{M:Model}{A:Around}{E:Value->Shared->Prop}{s:Shared}{Q:List Value->Shared->Prop}(h:Q [] s):wpC M A (evalAll []) Q E s:=Qc h
theorem Jz{M:Model}{A:Around}{E:Value->Shared->Prop}{s:Shared}{x:Sem Value}{Jj:List (Sem Value)}{Q:List Value->Shared->Prop}(h:wpC M A x (fun v s'=>wpC M A (evalAll Jj) (fun vs s''=>Q (v::vs) s'') E s') E s):wpC M A (evalAll (x::Jj)) Q E s:=by
 unfold evalAll;exact Qa (Qf h (fun v s' h'=>Qa (Qd (Qf h' (fun vs s'' h''=>Qc h'') fun J J x=>x))) fun J J x=>x)
theorem Mb{M:Model}{A:Around}{E:Value->Shared->Prop}{s:Shared}{P:Heap->Prop}{pos:Pos}{f:Value}{first:List Value}{Q:Value->Shared->Prop}{args:List (Bool × Sem Value)}{kws:List (Option Str × Sem Value)}(hplain:(args.any (·.1))=false)(hkw:kws.any (·.1.isNone)=false)
  (hk:∀h,P h->∃k,(k=Keeper.frame∨k=Keeper.machine∨k=Keeper.boundFrame)/\Looks M h (keeperOf f) k)
  (h:wpC M A (evalArgs f true args kws) (fun a sA=>P sA.heap/\wpC M A (call f (first++a.pos) a.kw) Q E sA) E s):wpC M A (callWith pos f first args kws) Q E s:=by
 have hp:(args.any (·.1)||kws.any (·.1.isNone))=false:=by rw[hplain,hkw];rfl
 unfold callWith;refine Qa (Qd (Qf h (fun a sA aH=>Qa (Qi ?_)) fun J J x=>x));obtain⟨k,hk',L⟩:=hk _ aH.1;rw[hp];refine Qa (Qe (L.here ?_));have tail:∀{t:Sem Value},wpC M A t Q E sA->wpC M A (t>>=fun r=>holding [r] point>>=fun J=>pure r) Q E sA:=
  fun ht=>Qa (Qf ht (fun r s2 hr=>Qa (Qd (Yu (Qc hr)))) fun J J x=>x)
 have marked (mk:Value):wpC M A (callMarked mk f (first++a.pos) a.kw) Q E sA:=by unfold callMarked;exact H8 aH.2
 rcases hk' with rfl|rfl|rfl<;>dsimp only<;>first|exact tail aH.2|(split<;>first|exact tail aH.2|exact tail (marked _))
theorem L8{M:Model}{A:Around}{E:Value->Shared->Prop}{s:Shared}{fv:Value}{x m1 m2:Sem Value}{n1 n2:Str}{Q:Args->Shared->Prop}
  (h:wpC M A (spliced [(false,x)]) (fun vs s'=>wpC M A (evalAll [m1,m2]) (fun kv s''=>Q ⟨vs,[n1,n2].zip kv⟩ s'') E s') E s):wpC M A (evalArgs fv true [(false,x)] [(some n1,m1),(some n2,m2)]) Q E s:=by
 unfold evalArgs;refine Qa (m:=spliced [(false,x)]) (Qf h (fun vs s' h'=>?_) fun J J x=>x);refine Qd ?_;refine Qa (m:=evalAll [m1,m2]) (Qf h' (fun kv s'' h''=>?_) fun J J x=>x);exact Qa (Qc (Qc h''))
noncomputable def qZt:Option HO->Bool
 |some .code=>true
 |_=>false
def Lw(S:St):Option HO->R Unit
 |some (.tab none)=>(S.new .code).bind fun J S'=>.ok () (S'.set 7 (.tab (some S.n)))
 |some (.tab (some j))=>Za (qZt (S.get j)) (.ok () S)
 |_=>.no
structure Pr(C:Cx)(env:Env):Prop where
 code:∃c,env.code=.ref c/\CodeHd C.h0 c (C.froA 7)
 qual:env.qual++"<lambda>"=qZn
 glob:env.globals=mainGlobals
 bm:∃mg,C.h0.Ns mainGlobals mg/\C.h0.BuiltinsAt mg (C.froA 7)
 gP:mainGlobals≠C.froA 7
theorem Wu{a b:Int}{t u:Tok}{c:Value}(l:List Value):TriplesOk l->TriplesOk (l++[.int a t,.int b u,c]):=by
 generalize hn:l.length=n;induction n using Nat.strongRecOn generalizing l with
 |_ n ih=>
  intro h;cases l with
  |nil=>exact trivial
  |cons x l=>cases x with
   |int=>cases l with
    |nil=>exact h.elim
    |cons y l=>cases y with
     |int=>cases l with
      |nil=>exact h.elim
      |cons z r=>exact ih r.length (hn▸QF (QK _) (Nat.le_add_right _ 2)) r rfl h
     |_=>exact h.elim
   |_=>exact h.elim
section
variable{C:Cx}{env:Env}{A:Around}{O:Nat->Addr}{S S1:St}{s:Shared}{M:Model}{E Q:Value->Shared->Prop}
theorem B7{h h':Heap}{mg:Str->Option Value}{P:Addr}(b:h.BuiltinsAt mg P)(k:∀b o,h.get? b=some o->h'.get? b=some o):h'.BuiltinsAt mg P:=
 let⟨bm,o,a1,a2,a3,a4,a5,r⟩:=b;⟨bm,o,a1,a2,a3,a4,k _ _ a5,r⟩
set_option tactic.hygienic true in
theorem jX1(Z:Stt C env O S s)(L:Pr C env)(h7:C.T0.get 7=none)(hS:Lw S (S.get 7)=.ok () S1){params:Arguments}{body:Expr}{scope:Scope}{clos:List (Str × Addr)}(hcl:closureFor scope env=pure clos)(zQf:defaultsOf params env=([],[]))
  (q:∀O' s' f pm cv ctv,Ext C (Wd env .no) O S s O' S1 s'->Stt C env O' S1 s'->s'.heap.get? f=some {cls:=.type "function",data:=.func (kla_fn "<lambda>" qZn params body scope clos pm cv ctv)}->(∃jc,cv=.ref (O' jc)/\S1.get jc=some .code)->Q (.ref f) s'):
  wpAny M A (eval (.Lambda params body scope Ml) env) Q E s:=by
 obtain⟨c,hcode,hhd⟩:=L.code;obtain⟨mg,hns,hbm⟩:=L.bm;have hlo:env.locals<s.heap.objs.size:=Z.lr.uh (.inl rfl);have base:C.h0.objs.size<=s.heap.objs.size:=QG Z.lr.above (Nat.le_of_lt hlo);refine kla_eval zQf ?_;rw[L.qual];unfold Lw at hS;split at hS
 ·rename_i h7s
  obtain⟨V,Sh,n1,n2⟩:=Qb hS;obtain⟨hn,rfl,rfl⟩:=Zz n1;cases n2;obtain⟨_,zq⟩:=Z.hr.live 7 _ h7s;obtain⟨ob,hob,zq⟩:=zq;obtain⟨hg,h1,h2,zq⟩:=zq;obtain⟨ps,rfl,ht,hnf⟩:=zq;have hP:s.heap.get? (C.froA 7)=some (tabObj ps):=h2▸hob;have hPlt:C.froA 7<s.heap.objs.size:=QH hP;refine kla_makeFunction (mg:=mg) hcl L.glob (hns.keeps Z.old) hcode (hhd.keeps Z.old) hP ht hnf L.gP (B7 hbm Z.old) fun c' ctv h' tk hx hge hlt hrec htb=>?_;generalize hlam:kla_obj "<lambda>" qZn params body scope clos ((mg "__name__").getD .none) c' ctv=lam;have hcP:c'≠C.froA 7:=Nat.ne_of_gt (QF hPlt hge);have htb':(h'.push lam).get? (C.froA 7)=some (tabObj (ps++#[rawInt Ml.line,rawInt Ml.col,.ref c'])):=Heap.get?_push_of_some _ htb;have self:((h'.push lam).update (C.froA 7) fun J=>tabObj ps).get? (C.froA 7)=some (tabObj ps):=Heap.get?_update_self _ htb' rfl;have other:∀b,b≠C.froA 7->((h'.push lam).update (C.froA 7) fun J=>tabObj ps).get? b=(h'.push lam).get? b:=fun b hb=>Heap.get?_update_ne _ _ _ _ hb;have G:=Z.grown (kk:=.no) (h':=(h'.push lam).update (C.froA 7) fun J=>tabObj ps) (fun b o e=>by
   by_cases hb:b=C.froA 7
   ·rw[hb]at e⊢;rw[self];exact hP.symm.trans e
   ·rw[other b hb];exact Heap.get?_push_of_some _ (hx b o hb e)) tk
  obtain⟨cC,oc,vs,t,zq⟩:=hrec;obtain⟨e2,hoc,hd,hv⟩:=zq;cases e2;have live:∀j,(S.get j).isSome->O j<s.heap.objs.size:=fun j hj=>by
   obtain⟨y,hy⟩:=QD hj;obtain⟨_,z,hz,_⟩:=Z.hr.live j y hy;exact QH hz
  have AD:=G.2.uz G.1 (a:=c') (ob:=oc) (o:=.code) (Heap.get?_none_of_le hge) (by show((h'.push lam).update (C.froA 7) fun J=>tabObj ps).get? c'=_;rw[other c' hcP];exact Heap.get?_push_of_some _ hoc)
   (fun w=>absurd (Z.lr.uh w) (QJ hge)) (fun j hj=>Nat.ne_of_lt (QF (live j hj) hge)) (QG base hge) hn ⟨trivial,vs,t,hd,hv⟩
  have r7:qQa O S.n c' 7=C.froA 7:=by rw[Qu h1];exact h2
  have g7:(⟨S.t.set 40 S.n .code,S.n+1,S.loc⟩:St).get 7=some (.tab none):=by
   have:=St.get_set (S:=S) hn .code 7;rw[if_neg (by omega)]at this;exact this.trans h7s
  have UP:=AD.2.uZ (s':={s with heap:=h'.push lam,toks:=tk}) (j:=7) (o:=.tab (some S.n)) (ob:=tabObj (ps++#[rawInt Ml.line,rawInt Ml.col,.ref c'])) g7 h7
   (fun b x e hb=>by rw[r7]at hb;exact(other b hb).symm.trans e) (by rw[r7];exact htb')
   ⟨trivial,Nat.lt_succ_of_lt h1,r7,QK _,_,rfl,by rw[Array.toList_append];exact Wu _ ht,by rw[Array.toList_append,Ql];exact codeAmong_snoc _ ht hnf⟩ rfl rfl rfl
  have gn:((⟨S.t.set 40 S.n .code,S.n+1,S.loc⟩:St).set 7 (.tab (some S.n))).get S.n=some .code:=by
   have e1:=St.get_set (S:=⟨S.t.set 40 S.n .code,S.n+1,S.loc⟩) (i:=7) (by omega) (.tab (some S.n)) S.n;have e2:=St.get_set (S:=S) hn .code S.n;rw[if_neg (by omega)]at e1;rw[if_pos rfl]at e2;exact e1.trans e2
  subst hlam;exact q _ _ h'.objs.size _ (.ref c') ctv (AD.1.trans AD.2 UP.1) UP.2 (Heap.get?_push_size _ rfl) ⟨S.n,by rw[Ql],gn⟩
 ·rename_i j h7s
  obtain⟨hj,n2⟩:=Qk hS;cases n2;obtain⟨_,zq⟩:=Z.hr.live 7 _ h7s;obtain⟨ob,hob,zq⟩:=zq;obtain⟨hg,h1,h2,hjn,zq⟩:=zq;obtain⟨ps,rfl,ht,hf⟩:=zq;have hP:s.heap.get? (C.froA 7)=some (tabObj ps):=h2▸hob;have hjc:S.get j=some .code:=by
   unfold qZt at hj;split at hj
   ·assumption
   ·cases hj
  obtain⟨_,zq⟩:=Z.hr.live j _ hjc;obtain⟨oc,hoc,zq⟩:=zq;obtain⟨_,zq⟩:=zq;obtain⟨vs,t,hd,hv⟩:=zq;refine kla_makeFunctionHit (mg:=mg) hcl L.glob (hns.keeps Z.old) hcode (hhd.keeps Z.old) hP ht hf (B7 hbm Z.old) fun ctv h' tk hk hsz=>?_;have G:=Z.grown (kk:=.no) (h':=h'.push {cls:=.type "function",data:=.func (kla_fn "<lambda>" qZn params body scope clos ((mg "__name__").getD .none) (.ref (O j)) ctv)}) (fun b o e=>Heap.get?_push_of_some _ (hk b o e)) tk;exact q _ _ h'.objs.size _ (.ref (O j)) ctv G.1 G.2 (Heap.get?_push_size _ rfl) ⟨j,rfl,hjc⟩
 ·cases hS
end
section
variable{C:Cx}{P:Par}{gT:Nat->Option HV}{env:Env}{nm:Nms}{A:Around}{O:Nat->Addr}{S S':St}{s:Shared}{T:Tr}{V:HV}
theorem P5(K:Q6 C P gT)(FK:Zc C gT P){n g N:Nat}{nv:Nat->Option Nat}{as:List HV}{vals:List Value}{S1:St}(h:Zn (Zv P T nv) (eng (Zv P T nv) n).xs g as ⟨T,N,[]⟩=.ok V S1)(hA:AOk (3*n+1) A)(Z:Stt C env O S s)(hv:F2 (VR C O N) as vals)
  (hT:∀j o,T.get j=some o->S.get j=some o/\j<N/\∀ob,OR C O S.n o ob->OR C O N o ob) (h7:∀j o,j<7->C.T0.get j=some o->T.get j=some o) (hN:N<=S.n)
  (n0:∀a,nv a=none->∃k,(P.cand a).any (Nat.beq k)=true/\C.nam a=tx k) (n1:∀a k,nv a=some k->C.nam a=tx k) {E Q:Value->Shared->Prop}
  (q:∀v O' s',Q2 s s'->(∀j,j<N->O' j=O j)->VR C O' S1.n V v->Q v s'):wpC (model C.prog C.w) A (call (.ref (C.fnA g)) vals) Q E s:=by
 have K':Q6 (C.at T fun j=>Jw s.heap (O j)) (Zv P T nv) gT:=K.at h7 n0 n1;have FK':Zc (C.at T fun j=>Jw s.heap (O j)) gT (Zv P T nv):=FK.at;have Z':Stt (C.at T fun j=>Jw s.heap (O j)) env O ⟨T,N,[]⟩ s:=G2 Z hT h7 hN fun i V hV=>by cases hV
 have SN:=Zi K' FK' V1 Xu n;have R:=Z4 K' FK' V1 SN.2.2.1 (Nat.zero_le _) hA Z' (hv.imp fun J J h=>K8.mpr h) h;refine R E Q fun v O' s' X Y hr=>?_;have keep:∀a o,s.heap.get? a=some o->s'.heap.get? a=some o:=fun a o e=>X.keep a o e (fun w=>w) fun j hj J hs=>by
  have hj:T.get j=none:=hj;have hs:(T.get j).isSome:=hs;rw[hj]at hs;cases hs
 exact q v O' s' ⟨keep,X.gens,X.os⟩ X.agree (K8.mp hr)
end
noncomputable def qZu:Option NameKind->Bool
 |some .cell=>true
 |_=>false
noncomputable def xQu:Option NameKind->Bool
 |some .local=>true
 |_=>false
noncomputable def Gh:Option NameKind->Bool
 |some .free=>true
 |_=>false
noncomputable def xQx:Option NameKind->Bool
 |some .globalImplicit=>true
 |_=>false
noncomputable def xXl:NameKind->Bool
 |.cell=>false
 |_=>true
noncomputable def qXh(p q:Pos):Bool:=Nat.beq p.line q.line&&(Nat.beq p.col q.col&&(Nat.beq p.endLine q.endLine&&Nat.beq p.endCol q.endCol))
theorem Tq{p q:Pos}(h:qXh p q=true):p=q:=by
 unfold qXh at h;refine aK h ?_;clear h;intro h1 zq2;refine aK zq2 ?_;clear zq2;intro h2 zq2;refine aK zq2 ?_;clear zq2;intro h3 h4;have h1:=QC h1;have h2:=QC h2;have h3:=QC h3;have h4:=QC h4;cases p;cases q;simp only[Pos.mk.injEq];exact⟨h1,h2,h3,h4⟩
noncomputable def dbg:Str:=("__debug__":Str)
def U4(nm:Nms)(params:Arguments)(sc:Scope)(lp:Pos)(hN rN yN:Str):Bool:=
 qXh lp Ml&&(params.posonlyargs.isEmpty&&(params.kwonlyargs.isEmpty&&(params.vararg.isNone&&(params.kwarg.isNone&&(params.defaults.isEmpty&&(params.kw_defaults.isEmpty&&(params.args.map (·.arg)==[rN]&&
 (isFk sc.kind&&(!sc.isCoroutine&&(!sc.isGenerator&&(sc.names.all (fun p=>xXl p.2&&(!Gh (some p.2)||p.1==yN))&&(xQu (sc.names.lookup rN)&&(Gh (sc.names.lookup yN)&&(xQx (sc.names.lookup hN)&&(sc.names.any (fun p=>Gh (some p.2)&&p.1==yN)&&
 (yN==tx 57&&(qZu (nm.lookup yN)&&(hN==Str.ofString "key_worth"&&(!(rN==dbg)&&(!(yN==dbg)&&(!(hN==dbg)&& !(yN==("__classdict__":Str)))))))))))))))))))))))
def kwX(nm:Nms)(k1 k2:Keyword):Bool:=kwK (fun kN e=>zJi (fun ps b sc lp=>Xz (fun fn as ks J=>ks.isEmpty&&Jg (fun hN J=>on2 (fun r y=>Jg (fun rN J=>Jg (fun yN J=>kN==Str.ofString "key"&&U4 nm ps sc lp hN rN yN) y) r) as) fn) b) e) k1&&kwK (fun vN e=>xJe (fun o y=>Dt o&&(vN==Str.ofString "reverse"&&Qq gTm 40 nm (.sub (.x 57) (.c (.int 0))) y)) e) k2
def P9(nm:Nms)(x:Expr):Bool:=Xz (fun fn as ks J=>Jg (fun fN J=>on1 (fun a=>Jg (fun gN J=>on2 (fun k1 k2=>xJk gTm nm 126 (.bi 3) fN&&(K7 nm 131 gN&&kwX nm k1 k2)) ks) a) as) fn) x
structure Xg(nm:Nms)(params:Arguments)(sc:Scope)(hN rN yN:Str):Prop where
 par:params.posonlyargs=[]/\params.kwonlyargs=[]/\params.vararg=none/\params.kwarg=none/\params.args.map (·.arg)=[rN]
 dfl:params.defaults=[]/\params.kw_defaults=[]
 scp:sc.kind=.function/\sc.isCoroutine=false/\sc.isGenerator=false/\(∀x∈sc.names,x.2≠.cell)/\sc.names.lookup rN=some .local/\sc.names.lookup yN=some .free/\sc.names.lookup hN=some .globalImplicit
 fr:∀p∈sc.names,p.2=.free->p.1=yN
 has:(yN,NameKind.free)∈sc.names
 y:yN=tx 57
 cell:nm.lookup yN=some .cell
 h:hN=Str.ofString "key_worth"
 nn:(rN==("__debug__":Str))=false/\(yN==("__debug__":Str))=false/\(hN==("__debug__":Str))=false/\(yN==("__classdict__":Str))=false
theorem qQl{nm:Nms}{params:Arguments}{sc:Scope}{lp:Pos}{hN rN yN:Str}(h:U4 nm params sc lp hN rN yN=true):lp=Ml/\Xg nm params sc hN rN yN:=by
 unfold U4 at h;refine aK h ?_;clear h;intro a1 zq2;refine aK zq2 ?_;clear zq2;intro a2 zq2;refine aK zq2 ?_;clear zq2;intro a3 zq2;refine aK zq2 ?_;clear zq2;intro a4 zq2;refine aK zq2 ?_;clear zq2;intro a5 zq2;refine aK zq2 ?_;clear zq2;intro a6 zq2;refine aK zq2 ?_;clear zq2;intro a7 zq2;refine aK zq2 ?_;clear zq2;intro a8 zq2;refine aK zq2 ?_;clear zq2;intro b1 zq2;refine aK zq2 ?_;clear zq2;intro b2 zq2;refine aK zq2 ?_;clear zq2;intro b3 zq2;refine aK zq2 ?_;clear zq2;intro b4 zq2;refine aK zq2 ?_;clear zq2;intro b5 zq2;refine aK zq2 ?_;clear zq2;intro b6 zq2;refine aK zq2 ?_;clear zq2;intro b7 zq2;refine aK zq2 ?_;clear zq2;intro b8 zq2;refine aK zq2 ?_;clear zq2;intro c1 zq2;refine aK zq2 ?_;clear zq2;intro c2 zq2;refine aK zq2 ?_;clear zq2;intro c3 zq2;refine aK zq2 ?_;clear zq2;intro c4 zq2;refine aK zq2 ?_;clear zq2;intro c5 zq2;refine aK zq2 ?_;clear zq2;intro c6 c7;have isF:∀{o:Option NameKind},Gh o=true->o=some .free:=fun{o} h=>by unfold Gh at h;split at h<;>first|rfl|cases h
 refine⟨Tq a1,⟨⟨QQ a2,QQ a3,Option.isNone_iff_eq_none.mp a4,Option.isNone_iff_eq_none.mp a5,eq_of_beq a8⟩,⟨QQ a6,QQ a7⟩,⟨?_,by simpa using b2,by simpa using b3,fun x hx=>?_,?_,isF b6,?_⟩,fun p hp hf=>?_,?_,eq_of_beq c1,?_,eq_of_beq c3,⟨by simpa[dbg]using c4,by simpa[dbg]using c5,by simpa[dbg]using c6,by simpa using c7⟩⟩⟩
 ·unfold isFk at b1;split at b1<;>first|assumption|cases b1
 ·have:=QI b4 x hx
  simp only[QB]at this;intro e;rw[e]at this;cases this.1
 ·unfold xQu at b5;split at b5<;>first|assumption|cases b5
 ·unfold xQx at b7;split at b7<;>first|assumption|cases b7
 ·have:=QI b4 p hp
  simp only[QB,Bool.or_eq_true]at this;rcases this.2 with h|h
  ·rw[hf]at h;cases h
  ·exact eq_of_beq h
 ·obtain⟨p,hp,h⟩:=List.any_eq_true.mp b8
  simp only[QB]at h;have h1:=isF h.1;have h2:=eq_of_beq h.2;cases p;cases h1;cases h2;exact hp
 ·unfold qZu at c2;split at c2<;>first|assumption|cases c2
section
variable{C:Cx}{P P':Par}{env:Env}{nm:Nms}{A:Around}{O:Nat->Addr}{S S1 S':St}{s:Shared}{V:HV}
theorem qQc{o:Option HO}(h:Lw S o=.ok () S1):S1.loc=S.loc/\S.n<=S1.n/\∀i,i<S.n->i≠7->S1.get i=S.get i:=by
 unfold Lw at h;split at h
 ·obtain⟨V,Sh,n1,n2⟩:=Qb h
  obtain⟨hn,rfl,rfl⟩:=Zz n1;cases n2;refine⟨rfl,Nat.le_succ _,fun i hi h7=>?_⟩;have h1:=St.get_set (S:=⟨S.t.set 40 S.n .code,S.n+1,S.loc⟩) (i:=7) (by omega) (.tab (some S.n)) i;have h2:=St.get_set (S:=S) hn .code i;rw[if_neg h7]at h1;rw[if_neg (by omega)]at h2;exact h1.trans h2
 ·obtain⟨_,n2⟩:=Qk h
  cases n2;exact⟨rfl,QL _,fun J J J=>rfl⟩
 ·cases h
theorem xZa{n k:Nat}{l:List HV}(h1:lk S.loc 57=some (.obj k))(h2:S.get k=some (.tup (.opq 0::l))):(eng P (n+2)).ev (.sub (.x 57) (.c (.int 0))) S=.ok (.opq 0) S:=by
 show((ofO (lk S.loc 57) S).bind fun v S=>(R.ok (HV.int 0) S).bind fun w S=>ofO (item P S w v) S)=_;rw[h1];show ofO (item P S (.int 0) (.obj k)) S=_;have:item P S (.int 0) (.obj k)=some (.opq 0):=by
  show ob (S.get k) (xQo (.int 0))=_;rw[h2];rfl
 rw[this];rfl
theorem qQz{params:Arguments}(h1:params.defaults=[])(h2:params.kw_defaults=[]):defaultsOf params env=([],[]):=by
 cases params;dsimp only at h1 h2;subst h1 h2;rfl
theorem Bp{α:Type}:∀{l:List α} {i:Nat},i<l.length->∃a,nth l i=some a
 |a::_,0,_=>⟨a,rfl⟩
 |_::r,i+1,h=>Bp (l:=r) (i:=i) (by simpa using h)
theorem jXz(Z:Stt C env O S s){j:Nat}{o:HO}{fd:FuncData}{ob:Obj}(hd:ob.data=.func fd)(hj:S.get j=some o)(h:s.heap.get? (O j)=some ob):False:=by
 obtain⟨_,ob',h',_,hr⟩:=Z.hr.live j o hj;rw[h]at h';cases h';cases o with
 |list l=>obtain⟨_,_,rfl,_⟩:=hr;cases hd
 |tup l=>obtain⟨_,_,rfl,_⟩:=hr;cases hd
 |dict l=>obtain⟨_,_,rfl,_⟩:=hr;cases hd
 |ns l=>obtain⟨_,_,rfl,_⟩:=hr;cases hd
 |barr l=>obtain⟨_,rfl⟩:=hr;cases hd
 |inst c d=>obtain⟨_,_,rfl⟩:=hr;cases hd
 |tab c=>cases c with
  |none=>obtain⟨_,_,_,rfl,_⟩:=hr;cases hd
  |some c=>obtain⟨_,_,_,_,rfl,_⟩:=hr;cases hd
 |code=>obtain⟨_,_,e,_⟩:=hr;rw[hd]at e;cases e
theorem xQb{nm:Nms}{k1 k2:Keyword}(h:kwX nm k1 k2=true):(∃params hN q3 rN q4 yN q5 q6 sc q7,k1=⟨some (Str.ofString "key"),.Lambda params (.Call (.Name hN q3) [.Name rN q4,.Name yN q5] [] q6) sc Ml,q7⟩/\Xg nm params sc hN rN yN)/\
  ∃y q8 q9,k2=⟨some (Str.ofString "reverse"),.UnaryOp .Not y q8,q9⟩/\Qq gTm 40 nm (.sub (.x 57) (.c (.int 0))) y=true:=by
 obtain⟨h1,h2⟩:=QA h;constructor
 ·refine xQc (Q:=fun k1=>∃params hN q3 rN q4 yN q5 q6 sc q7,k1=⟨some (Str.ofString "key"),.Lambda params (.Call (.Name hN q3) [.Name rN q4,.Name yN q5] [] q6) sc Ml,q7⟩/\Xg nm params sc hN rN yN) (fun kN e q7 h1=>?_) k1 h1
  refine qXv (X:=fun e=>∃params hN q3 rN q4 yN q5 q6 sc q7',(⟨some kN,e,q7⟩:Keyword)=⟨some (Str.ofString "key"),.Lambda params (.Call (.Name hN q3) [.Name rN q4,.Name yN q5] [] q6) sc Ml,q7'⟩/\Xg nm params sc hN rN yN) (fun ps b sc lp h1=>?_) e h1;obtain⟨hN,q3,rN,q4,yN,q5,q6,rfl,h3⟩:∃hN q3 rN q4 yN q5 q6,b=.Call (.Name hN q3) [.Name rN q4,.Name yN q5] [] q6/\(kN==Str.ofString "key"&&U4 nm ps sc lp hN rN yN)=true:=by
   refine Jt (X:=fun b=>∃hN q3 rN q4 yN q5 q6,b=.Call (.Name hN q3) [.Name rN q4,.Name yN q5] [] q6/\(kN==Str.ofString "key"&&U4 nm ps sc lp hN rN yN)=true) (fun fn as ks q6 h1=>?_) b h1;rw[QB]at h1;obtain⟨hk,h1⟩:=h1;obtain rfl:=QQ hk;refine Zh (X:=fun fn=>∃hN q3 rN q4 yN q5 q6',Expr.Call fn as [] q6=.Call (.Name hN q3) [.Name rN q4,.Name yN q5] [] q6'/\(kN==Str.ofString "key"&&U4 nm ps sc lp hN rN yN)=true) (fun hN q3 h1=>?_) fn h1;refine qXx (Q:=fun as=>∃hN' q3' rN q4 yN q5 q6',Expr.Call (.Name hN q3) as [] q6=.Call (.Name hN' q3') [.Name rN q4,.Name yN q5] [] q6'/\(kN==Str.ofString "key"&&U4 nm ps sc lp hN' rN yN)=true) (fun r y h1=>?_) as h1;refine Zh (X:=fun r=>∃hN' q3' rN q4 yN q5 q6',Expr.Call (.Name hN q3) [r,y] [] q6=.Call (.Name hN' q3') [.Name rN q4,.Name yN q5] [] q6'/\(kN==Str.ofString "key"&&U4 nm ps sc lp hN' rN yN)=true) (fun rN q4 h1=>?_) r h1;exact Zh (X:=fun y=>∃hN' q3' rN' q4' yN q5 q6',Expr.Call (.Name hN q3) [.Name rN q4,y] [] q6=.Call (.Name hN' q3') [.Name rN' q4',.Name yN q5] [] q6'/\(kN==Str.ofString "key"&&U4 nm ps sc lp hN' rN' yN)=true) (fun yN q5 h1=>⟨_,_,_,_,_,_,_,rfl,h1⟩) y h1
  obtain⟨h4,h5⟩:=QA h3;obtain⟨rfl,F⟩:=qQl h5;rw[eq_of_beq h4];exact⟨_,_,_,_,_,_,_,_,_,_,rfl,F⟩
 ·refine xQc (Q:=fun k2=>∃y q8 q9,k2=⟨some (Str.ofString "reverse"),.UnaryOp .Not y q8,q9⟩/\Qq gTm 40 nm (.sub (.x 57) (.c (.int 0))) y=true) (fun vN e q9 h2=>?_) k2 h2
  refine W9 (X:=fun e=>∃y q8 q9',(⟨some vN,e,q9⟩:Keyword)=⟨some (Str.ofString "reverse"),.UnaryOp .Not y q8,q9'⟩/\Qq gTm 40 nm (.sub (.x 57) (.c (.int 0))) y=true) (fun o y q8 h2=>?_) e h2;simp only[QB]at h2;obtain rfl:=Hh h2.1;rw[eq_of_beq h2.2.1];exact⟨_,_,_,rfl,h2.2.2⟩
theorem P8(K:Q6 C P gTm)(FK:Zc C gTm P)(h58:∃fn,P.fns 58=some fn)(hP:P.isOr=fun J=>false)(hE:Qm env nm)(L:Pr C env)(hA:AOk 80 A)(Z:Stt C env O S s)(h7:C.T0.get 7=none){x:Expr}(hx:P9 nm x=true)
  (hkw:∃mg,C.h0.Ns mainGlobals mg/\mg (Str.ofString "key_worth")=some (.ref (C.fnA 58))) {asc:Bool} (hasc:C.opq 0=.bool asc) {j k:Nat} {l lk':List HV} (h131:lk S.loc 131=some (.obj j)) (h57:lk S.loc 57=some (.obj k)) (hj:S.get j=some (.list l)) (hk:S.get k=some (.tup (.opq 0::lk')))
  (hS:Lw S (S.get 7)=.ok () S1) {xs:List UInt8} (hlen:xs.length=l.length) (h1:1<=l.length) (h64:l.length<64)
  (hkey:∀i v c,nth l i=some v->xs[i]? =some c->∃m S2,Zn (Zv P S1.t P.nmv) (eng (Zv P S1.t P.nmv) 20).xs 58 [v,.obj k] ⟨S1.t,S1.n,[]⟩=.ok (.bytes [m]) S2/\b8 C m=c)
  {p:Array Nat} (hp:kgo l.length (ltX (Qw (!asc) xs)) (kas_sort l.length)=some p) {out:List HV} (hout:∀O' vs,F2 (VR C O' S1.n) l vs->F2 (VR C O' S1.n) out (Ps (!asc) vs p.toList)) (hnew:S1.new (.list out)=.ok V S'):Run C env .no A (eval x env) O S s S' (Q4 C V):=by
 obtain⟨t1,t2,t3⟩:=qQc hS;obtain⟨hn,rfl,rfl⟩:=Zz hnew;have hk7:k≠7:=fun e=>by
  rw[e]at hk;rw[hk]at hS;cases hS
 have hj7:j≠7:=fun e=>by
  rw[e]at hj;rw[hj]at hS;cases hS
 have hkn:=(Z.hr.live k _ hk).1;have hjn:=(Z.hr.live j _ hj).1;refine Jt (X:=fun x=>Run C env .no A (eval x env) O S s _ (Q4 C _)) (fun fn as ks q10 hx=>Zh (X:=fun fn=>Run C env .no A (eval (.Call fn as ks q10) env) O S s _ (Q4 C _)) (fun fN q1 hx=>Vn (Q:=fun as=>Run C env .no A (eval (.Call (.Name fN q1) as ks q10) env) O S s _ (Q4 C _)) (fun a hx=>Zh (X:=fun a=>Run C env .no A (eval (.Call (.Name fN q1) [a] ks q10) env) O S s _ (Q4 C _))
  (fun gN q2 hx=>qXx (Q:=fun ks=>Run C env .no A (eval (.Call (.Name fN q1) [.Name gN q2] ks q10) env) O S s _ (Q4 C _)) (fun k1 k2 hx=>?_) ks hx) a hx) as hx) fn hx) x hx
 refine aK hx ?_;clear hx;intro x1 zq2;refine aK zq2 ?_;clear zq2;intro x2 hx;obtain⟨⟨params,hN,q3,rN,q4,yN,q5,q6,sc,q7,rfl,F⟩,y,q8,q9,rfl,x5⟩:=xQb hx;intro E Q q;rw[arm_eval_Call_Name'];refine Qa ((Bg K Z hE x1).use fun fv O1 sA XC ZC hf=>?_);obtain rfl:fv=.builtin "sorted":=hf;refine Mb (P:=fun J=>True) rfl rfl (fun h J=>Hn h) ?_;refine L8 ?_;unfold spliced;refine Qa ((Bf ZC hE x2 h131).use fun lv O2 s2 XD ZD hl=>?_);simp only[Bool.false_eq_true,if_false];refine Qa (Qc (Qa (Qd ?_)));unfold spliced;refine Qc (Qc ?_);have hclo:closureFor sc env=pure (Zp env.cells sc.names []):=Jx fun p hp hf=>by
  rw[F.fr p hp hf];exact hE.cells _ F.cell
 refine Jz (Qa (Qe (jX1 ZD L h7 hS hclo (qQz F.dfl.1 F.dfl.2) fun O3 s3 f pm cv ctv XE ZE hlam hcode=>Qa (Qi (Qc ?_)))));refine Jz (Qa ?_);rw[arm_eval_UnaryOp];have SN:=Zi K FK (bo:=0) ⟨fun J J J J J h=>by rw[hP]at h;cases h⟩ ⟨fun J h=>by rw[hP]at h;cases h⟩ 2;have h57':lk S1.loc 57=some (.obj k):=by rw[t1];exact h57
 have hk':S1.get k=some (.tup (.opq 0::lk')):=(t3 k hkn hk7).trans hk;have hj':S1.get j=some (.list l):=(t3 j hjn hj7).trans hj;refine Qa ((SN.1 40 nm _ y env A O3 S1 s3 (.opq 0) S1 x5 hE (hA.less (by omega)) ZE (xZa (n:=0) h57' hk')).use fun v O4 s4 XF ZF hv=>?_);obtain rfl:v=.bool asc:=Eq.trans hv hasc;refine Qa (Qi (Qd (Qe (PyProof.Rows.not_of (wpAny_truthy_bool ?_)))));refine Qa (Qi (Qc (Xi ⟨trivial,?_⟩)));show wpC _ A (call (.builtin "sorted") [lv] [(Str.ofString "key",.ref f),(Str.ofString "reverse",.bool (!asc))]) Q E s4;obtain⟨_,rfl⟩:=hl;have hOj:O4 j=O2 j:=(XF.agree j (QF hjn t2)).trans (XE.agree j hjn);rw[<-hOj];obtain⟨_,zq⟩:=ZF.hr.live j _ hj';obtain⟨ob,hob,zq⟩:=zq;obtain⟨hgd,zq⟩:=zq;obtain⟨arr,m,rfl,hF⟩:=zq;have hll:l.length=arr.toList.length:=hF.length;have hL:s4.heap.IsList (O4 j) arr.toList.toArray:=⟨_,hob,rfl,m,by rw[Array.toArray_toList]⟩;have hlam4:s4.heap.get? f=some {cls:=.type "function",data:=.func (kla_fn "<lambda>" qZn params (.Call (.Name hN q3) [.Name rN q4,.Name yN q5] [] q6) sc (Zp env.cells sc.names []) pm cv ctv)}:=
  XF.keep _ _ hlam (fun w=>w) fun i hi J hs=>fun e=>by
   obtain⟨o,ho⟩:=QD hs;exact jXz ZE rfl ho (by rw[e];exact hlam)
 have hcr4:s4.heap.CodeRec cv qZn:=by
  obtain⟨jc,rfl,hjc⟩:=hcode;have hlt:=(ZE.hr.live jc _ hjc).1;obtain⟨_,zq⟩:=ZF.hr.live jc _ hjc;obtain⟨oc,hoc,zq⟩:=zq;obtain⟨_,zq⟩:=zq;obtain⟨vs,t,hd,hv⟩:=zq;rw[XF.agree jc hlt]at hoc;exact⟨_,oc,vs,t,rfl,hoc,hd,hv⟩
 obtain⟨mg,hns,hmk⟩:=hkw;obtain⟨mL,_,hloc⟩:=ZF.lr.loc;obtain⟨kv,⟨hkS,rfl⟩,hLoc⟩:=hloc 57 _ h57';have hkd:env.kindOf (tx 57)=some .cell:=by rw[hE.kindOf,<-F.y];exact F.cell
 unfold Loc at hLoc;rw[hkd]at hLoc;obtain⟨cK,hcK,hcell⟩:=hLoc;have hclk:(Zp env.cells sc.names []).lookup yN=some cK:=by
  obtain⟨c',hc'⟩:=QD (J7 env.cells sc.names [] yN (.inr ⟨F.has,by rw[F.y,hcK];rfl⟩));have:=Jc env.cells sc.names [] (fun J J h=>by cases h) _ _ hc';rw[F.y,hcK]at this;rw[hc'];exact this.symm
 refine M6 (xs:=xs) (b:= !asc) hL (by rw[hlen,hll]) (by omega) (by omega) (by rw[<-hll];exact hp) (fun i v c s' hv hc K'=>?_) fun D s6 c K6 hD hDs=>?_
 ·have hi:i<l.length:=by
   have:=(List.getElem?_eq_some_iff.mp hv).1;omega
  obtain⟨a,ha⟩:=Bp hi;obtain⟨v',hv',hr⟩:=hF.nth ha;rw[hv]at hv';cases hv';obtain⟨m',S2,e1,e2⟩:=hkey i a c ha hc;refine qQk (mg:=mg) (by have:=hA.depth;show A.depth<990;omega) (K'.k _ _ hlam4) (hcr4.keeps K'.k) ((K.nolimit.keeps ZF.old).keeps K'.k) F.par F.scp F.nn hclk (kv:=.ref (O4 k)) (by
   obtain⟨o,g1,g2⟩:=hcell;exact⟨o,K'.k _ _ g1,g2⟩) ((hns.keeps ZF.old).keeps K'.k) (by rw[F.h];exact hmk) (fun h' kk=>by
    obtain⟨fn,hfn⟩:=h58;exact X4 (B2 (FK.fn 58 fn hfn)) h' fun b o e=>kk b o (K'.k _ _ (ZF.old b o e))) fun env' s'' K''=>?_
  have KK:=K'.trans K'';have G:=ZF.uO (k:=.no) KK.k KK.g KK.o;have hA':AOk 61 (A.in1.in1.deeper env'):=⟨hA.handled,by have:=hA.depth;show A.depth+1+61<900;omega,by have:=hA.units;show A.units+1+1+3+4*61<9800;omega⟩;exact P5 K FK e1 hA' G.2 (.cons hr (.cons ⟨hkS,rfl⟩ .nil)) (fun i o h=>⟨h,(ZF.hr.live i o h).1,fun J h=>h⟩) (fun i o J hi=>ZF.hr.frz i o hi) (QL _) K.nm0 K.nm1 fun r O' s3' kk J hv=>by
   obtain⟨t,rfl⟩:=hv;exact⟨⟨t,by rw[<-e2];rfl⟩,K''.trans kk⟩
 ·have G:=ZF.uO (k:=.no) K6.k K6.g K6.o
  have lt:∀i,(S1.get i).isSome->O4 i<s4.heap.objs.size:=fun i hi=>by
   obtain⟨y,hy⟩:=QD hi;obtain⟨_,z,hz,_⟩:=ZF.hr.live i y hy;exact QH hz
  have base:C.h0.objs.size<=s4.heap.objs.size:=QG ZF.lr.above (Nat.le_of_lt (ZF.lr.uh (.inl rfl)));have AD:=G.2.uz G.1 (a:=D) (o:=.list out) (Heap.get?_none_of_le hDs) hD (fun w=>absurd (ZF.lr.uh w) (QJ hDs)) (fun i hi=>Nat.ne_of_lt (QF (lt i hi) hDs)) (QG base hDs) hn
   ⟨Zr hnew,_,c,rfl,by rw[List.toList_toArray];exact hout O4 _ hF⟩
  exact q (.ref D) _ s6 ((((XC.trans ZC XD).trans ZD XE).trans ZE XF).trans ZF AD.1) AD.2 ⟨QK _,by rw[Ql]⟩
end
noncomputable def xXs:List Nat:=[3,3,3,2,2,2,5,3,3,3,3,3]
def Vk(k:Nat):Nat:=(nth xXs k).getD 3
theorem U0(k:Nat):Vk k=2∨Vk k=3∨Vk k=5:=by
 match k with
 |0|1|2=>exact .inr (.inl rfl)
 |3|4|5=>exact .inl rfl
 |6=>exact .inr (.inr rfl)
 |7|8|9|10|11=>exact .inr (.inl rfl)
 |n+12=>exact .inr (.inl rfl)
def drawn(p:Int × Int):Int:=hif (decide (p.1=0)) (((20*(p.2+1)+10119)^9).fdiv 4) p.1
def urnN(m:Nat)(p:Int × Int):Int × Int:=((drawn p).fdiv m,hif (decide (p.1=0)) (p.2+1) p.2)
def Ys(U:Int):Nat->Int × Int
 |0=>(U,0)
 |k+1=>urnN (Vk k) (Ys U k)
def dOf(U:Int)(k:Nat):Nat:=((drawn (Ys U k)).fmod (Vk k)).toNat
theorem qZ2(U:Int)(k:Nat):(dOf U k:Int)=(drawn (Ys U k)).fmod (Vk k):=by
 unfold dOf;rw[Int.toNat_of_nonneg];exact Int.fmod_nonneg_of_pos _ (by rcases U0 k with h|h|h<;>rw[h]<;>decide)
theorem xZg(U:Int)(k:Nat):dOf U k<Vk k:=by
 have h:=qZ2 U k;have h2:(drawn (Ys U k)).fmod (Vk k)<Vk k:=Int.fmod_lt_of_pos _ (by rcases U0 k with h|h|h<;>rw[h]<;>decide);omega
theorem qZf(U:Int):∀k,0<=(Ys U k).2/\(Ys U k).2<=k
 |0=>⟨Int.le_refl _,Int.le_refl _⟩
 |k+1=>by
  have:=qZf U k;show 0<=hif _ _ _/\hif _ _ _<=_;cases decide ((Ys U k).1=0)
  ·exact⟨this.1,by show(Ys U k).2<=_;omega⟩
  ·exact⟨by show 0<=(Ys U k).2+1;omega,by show(Ys U k).2+1<=_;omega⟩
def ivU(U:Int)(i:Nat):Int:=if i%2=0 then(Ys U (i/2)).1 else(Ys U (i/2)).2
section
variable{C:Cx}
theorem qJm{b:Bool}{W c:Int}{m d:Nat}(hiv:C.iv2=jX3 b W c m)(hb:b=decide (W=0))(hc:0<=c)(hc2:c<=4000)(hm:m=2∨m=3∨m=5)(hd:(d:Int)=(hif b (((20*(c+1)+10119)^9).fdiv 4) W).fmod m):
  ∀op a b' r x y,sopL b m d op a b'=some r->IV C a x->IV C b' y->Gq C op x y r:=by
 intro op a b' r x y h hx hy;have m0:(m:Int)≠0:=by omega
 have mp:∀x,Builtin.divisionGoesByPylong x (m:Int)=false:=fun x=>by
  unfold Builtin.divisionGoesByPylong;have:(decide ((if((m:Int)==0)=true then 0 else(m:Int).natAbs.log2/30+1)>300))=false:=by
   rcases hm with rfl|rfl|rfl<;>decide
  dsimp only;rw[this];rfl
 revert h;refine Zg (fun q=>Yk (fun e=>Wq (fun e' h=>?_) Qh) Qh) (Zg (fun q=>Yk (fun e=>Wq (fun e' h=>?_) Qh) (Yk (fun e=>Wq (fun e' h=>?_) Qh) Qh))
  (Zg (fun q=>Wq (fun e=>Yk (fun e' h=>?_) Qh) Qh) (Zg (fun q=>Yk (fun e=>Wq (fun e' h=>?_) Qh) Qh)
  (Zg (fun q=>Yk (fun e=>Wq (fun e' h=>?_) Qh) (Yk (fun e=>Q5 (fun k e' h=>?_) Qh) (Yk (fun e=>Q5 (fun k e' h=>?_) Qh) Qh)))
  (Zg (fun q=>Yk (fun e=>Q5 (fun k e' h=>?_) Qh) (Yk (fun e=>Q5 (fun k e' h=>?_) Qh) Qh)) Qh)))))<;>subst q e e'
 ·cases h
  have hx:C.iv2 0=x:=hx;have hy:(0:Int)=y:=hy;subst hy;rw[hiv]at hx;have hx:W=x:=hx;subst hx;show HV.bool b=.bool (decide (W=0));rw[hb]
 ·cases h
  have hx:C.iv2 1=x:=hx;have hy:(1:Int)=y:=hy;subst hy;subst hx;show C.iv2 2=_;rw[hiv];rfl
 ·cases h
  have hx:C.iv2 3=x:=hx;have hy:(10119:Int)=y:=hy;subst hy;subst hx;show C.iv2 4=_;rw[hiv];rfl
 ·cases h
  have hx:(20:Int)=x:=hx;have hy:C.iv2 2=y:=hy;subst hy;subst hx;refine⟨?_,IntMulOk.of_left (by decide)⟩;show C.iv2 3=_;rw[hiv];rfl
 ·cases h
  have hx:C.iv2 4=x:=hx;have hy:(9:Int)=y:=hy;subst hy;rw[hiv]at hx;have hx:20*(c+1)+10119=x:=hx;refine⟨?_,by omega,by omega,by decide,by decide⟩;show C.iv2 5=_;rw[hiv,<-hx];rfl
 ·cases h
  have hx:C.iv2 5=x:=hx;have hy:(4:Int)=y:=hy;subst hy;subst hx;refine⟨?_,by decide,?_⟩
  ·show C.iv2 6=_
   rw[hiv];rfl
  ·unfold Builtin.divisionGoesByPylong
   have:(decide ((if((4:Int)==0)=true then 0 else(4:Int).natAbs.log2/30+1)>300))=false:=by decide
   dsimp only;rw[this];rfl
 all_goals
  obtain⟨g,h1⟩:=Qj h;obtain⟨g1,g2⟩:=QA g;clear h g;obtain rfl:=of_decide_eq_true g2;cases h1
 ·have hx:C.iv2 0=x:=hx
  have hy:(m:Int)=y:=hy;subst hy;subst hx;cases b with
  |true=>exact Qg g1
  |false=>
   refine⟨?_,m0,mp _⟩;show C.iv2 7=_;rw[hiv];rfl
 ·have hx:C.iv2 6=x:=hx
  have hy:(m:Int)=y:=hy;subst hy;subst hx;cases b with
  |false=>exact Qg g1
  |true=>
   refine⟨?_,m0,mp _⟩;show C.iv2 7=_;rw[hiv];rfl
 ·have hx:C.iv2 0=x:=hx
  have hy:(m:Int)=y:=hy;subst hy;rw[hiv]at hx;have hx:W=x:=hx;subst hx;cases b with
  |true=>exact Qg g1
  |false=>exact⟨hd,m0⟩
 ·have hx:C.iv2 6=x:=hx
  have hy:(m:Int)=y:=hy;subst hy;rw[hiv]at hx;have hx:((20*(c+1)+10119)^9).fdiv 4=x:=hx;subst hx;cases b with
  |false=>exact Qg g1
  |true=>exact⟨hd,m0⟩
end
def jX4(ds:Nat->Option Nat)(m:Nat)(o:HO):Option (Nat × List HV):=o.ud none fun l=>ls2 l none fun v w=>v.ug none fun a=>w.ug none fun b=>
 Qs (Nat.beq (a%2) 0&&(Nat.beq b (a+1)&&(Nat.beq m (Vk (a/2))&&Nat.ble (a/2) 100))) (ob (ds (a/2)) fun d=>some (d,[.sint (a+2),.sint (a+3)]))
def xJd(ds:Nat->Option Nat)(_:Nat)(as:List HV)(S:St):R HV:=ls2 as .no fun u v=>u.uc .no fun j=>hif (Nat.beq j 8) (v.ux .no fun m=>(ofO (ob (S.get 8) (jX4 ds m)) S).bind fun p S=>.ok (.int p.1) (S.set 8 (.list p.2))) .no
noncomputable def xJm(g:Nat):Bool:=Nat.beq g 100
theorem qQe{ds:Nat->Option Nat}{m:Nat}{o:HO}{p:Nat × List HV}(h:jX4 ds m o=some p):∃k,o=.list [.sint (2*k),.sint (2*k+1)]/\m=Vk k/\k<=100/\ds k=some p.1/\p.2=[.sint (2*k+2),.sint (2*k+3)]:=by
 revert h;refine Q3 (fun l e=>un2 (fun v w e1=>Zk (fun a e2=>Zk (fun b e3 h=>?_) Qh) Qh) Qh) Qh;subst e e1 e2 e3
 ·obtain⟨h1,h2⟩:=Qj h
  obtain⟨d,h3,h4⟩:=Qn h2;obtain⟨a1,h1⟩:=QA h1;obtain⟨a2,h1⟩:=QA h1;obtain⟨a3,a4⟩:=QA h1;have a1:=QC a1;have a2:=QC a2;have a3:=QC a3;have a4:=QE a4;cases h4;refine⟨a/2,?_,a3,a4,h3,?_⟩
  ·have e:2*(a/2)=a:=by omega
   rw[e,a2]
  ·have e:2*(a/2)=a:=by omega
   rw[e]
def qLot(k:Nat)(V VC:HV):Bool:=eS VC 0 (eS VC 1 false (V.ug false fun i=>Nat.beq i (2*k+1))) (V.ug false fun i=>Nat.beq i (2*k))
theorem xQn(U:Int)(k:Nat):ivU U (2*k)=(Ys U k).1:=by
 unfold ivU;rw[if_pos (by omega)];have:2*k/2=k:=by omega
 rw[this]
theorem xQm(U:Int)(k:Nat):ivU U (2*k+1)=(Ys U k).2:=by
 unfold ivU;rw[if_neg (by omega)];have:(2*k+1)/2=k:=by omega
 rw[this]
theorem fro_8:fro.get 8=none:=by kernel_rfl
section
variable{prog:Program}{w:World}{h0:Heap}{β:Nat->UInt8}{nam:Nat->Str}{opq:Nat->Value}{ep:Nat->Nat}{cand:Nat->List Nat}{sop:Nat->HV->HV->Option HV}
theorem zZ6(hK:(KM w).In h0)(hlim:h0.NoLimit)(hsm:sysModules<h0.objs.size){mg mb:Str->Option Value}(hg:h0.Ns mainGlobals mg)(hb:h0.Ns builtinsNs mb)(hopq:∀k,handedIn (opq k)=true)
  (n0:∀a,∃k,(cand a).any (Nat.beq k)=true/\nam a=tx k) {U:Int} {ds:Nat->Option Nat} (hds:∀k x,ds k=some x->x=dOf U k):
  Pq (mkC prog w h0 fro β nam opq (ivU U) ep) (mkP fro cand noN (xJd ds) xJm sop) 37 where
 it g as S V S' h1 h2 env A O s vals hA Z hv:=by
  have h1:Nat.beq g 100=true:=h1;obtain rfl:=QC h1;have h2:xJd ds 100 as S=.ok V S':=h2;revert h2;refine un2 (fun u v e=>Qv (fun j e1=>Zg (fun e2=>Kq (fun m e3 h2=>Jy h2 fun p h5 h4=>?_) Qo) Qo) Qo) Qo
  ·subst e e1 e2 e3
   clear h2;obtain⟨o,h6,h7⟩:=Qn h5;cases h4;obtain⟨k,rfl,rfl,hk,h8,h9⟩:=qQe h7;obtain⟨d,l'⟩:=p;obtain rfl:l'=_:=h9;obtain rfl:=hds k d h8;have hc:=qZf U k;have hL:=qX1 cand (dOf U k) (decide ((Ys U k).1=0)) (U0 k);obtain⟨S',e1,e2⟩:=qXk hL;refine D4 (C:=mkC prog w h0 fro β nam opq (ivU U) ep) (β:=β) (nam:=nam) (opq:=opq) (iv2:=jX3 (decide ((Ys U k).1=0)) (Ys U k).1 (Ys U k).2 (Vk k))
    (PA:=Ts cand (decide ((Ys U k).1=0)) (Vk k) (dOf U k)) (n:=12) (u:=8) (q:=qLot k) (as2:=[.obj 7,.int (Vk k)])
    (fun e=>Pb hK hlim hsm hg hb (fun J J h=>h) hopq (fun a J=>n0 a) (fun J J h=>by cases h) (qJm rfl rfl hc.1 (by omega) (U0 k) (qZ2 U k)))
    (fun e=>Y5 hK fun J J=>rfl) rfl hA Z (fun J J h=>h) h6 (by omega) fro_8 ?_ (fun e V VC O n O2 nA v h hV=>?_) (fun e=>?_) e1 e2 (fun e O' ob hob=>?_) (fun e O' v hv=>hv)
   ·show(Nat.beq (2*k) (2*k)&&(Nat.beq (2*k+1) (2*k+1)&&true))=true
    rw[Nat.beq_refl,Nat.beq_refl];rfl
   ·revert h
    refine Yk (fun e=>Zk (fun i e' h=>?_) Qg) (Yk (fun e=>Zk (fun i e' h=>?_) Qg) Qg)<;>subst e e'<;>obtain rfl:=QC h<;>obtain⟨t,rfl⟩:=hV
    ·exact⟨t,by show Value.int (ivU U _) t=Value.int (Ys U k).1 t;rw[xQn]⟩
    ·exact⟨t,by show Value.int (ivU U _) t=Value.int (Ys U k).2 t;rw[xQm]⟩
   ·refine F2.k2 hv fun v w e' x y=>?_
    subst e';exact .cons ⟨by omega,x.2⟩ (.cons y .nil)
   ·obtain⟨hgd,xs,mm,rfl,hF⟩:=hob
    refine⟨by show(2:Nat)<=1000;omega,xs,mm,rfl,?_⟩;have e0:2*k+2=2*(k+1):=by omega
    have e1:2*k+3=2*(k+1)+1:=by omega
    have i0:ivU U (2*k+2)=(drawn (Ys U k)).fdiv (Vk k):=by rw[e0,xQn];rfl
    have i1:ivU U (2*k+3)=hif (decide ((Ys U k).1=0)) ((Ys U k).2+1) (Ys U k).2:=by rw[e1,xQm];rfl
    clear hgd e1 e2 hL;revert hF;generalize xs.toList=ys;intro hF;have key:∀(v1 v2:Value),(∃t,v1=.int ((drawn (Ys U k)).fdiv (Vk k)) t)->(∃t,v2=.int (hif (decide ((Ys U k).1=0)) ((Ys U k).2+1) (Ys U k).2) t)->F2 (VR (mkC prog w h0 fro β nam opq (ivU U) ep) O S.n) [.sint (2*k+2),.sint (2*k+3)] [v1,v2]:=fun v1 v2 ⟨t,h1⟩ ⟨u,h2⟩=>
     .cons ⟨t,by show _=Value.int (ivU U _) t;rw[i0];exact h1⟩ (.cons ⟨u,by show _=Value.int (ivU U _) u;rw[i1];exact h2⟩ .nil)
    cases hb:decide ((Ys U k).1=0)with
    |true=>
     rw[hb]at hF key;refine F2.k2 hF fun v w e' x y=>?_;subst e'
     ··refine key _ _ ?_ ?_
       ·obtain⟨t,rfl⟩:=x;exact⟨t,by unfold drawn;rw[hb];rfl⟩
       ·obtain⟨t,rfl⟩:=y;exact⟨t,rfl⟩
    |false=>
     rw[hb]at hF key;refine F2.k2 hF fun v w e' x y=>?_;subst e'
     ··refine key _ _ ?_ ?_
       ·obtain⟨t,rfl⟩:=x;exact⟨t,by unfold drawn;rw[hb];rfl⟩
       ·obtain⟨t,rfl⟩:=y;exact⟨t,rfl⟩
theorem zZ5(hK:(KM w).In h0){iv2:Nat->Int}{T0:Tr}{ds:Nat->Option Nat}:Wh (mkC prog w h0 T0 β nam opq iv2 ep) (mkP T0 cand noN (xJd ds) xJm sop)where
 obj g h1:=by
  have h1:Nat.beq g 100=true:=h1;obtain rfl:=QC h1;have F:=((Y5 (prog:=prog) (T0:=T0) (β:=β) (nam:=nam) (opq:=opq) (iv2:=iv2) (ep:=ep) (cand:=cand) (nmv:=noN) (orac:=noO) (isOr:=qZq) (sop:=sop) hK fun J J=>rfl).fn 100 f100 rfl);obtain⟨⟨o,fd,_,_,h1,h2,_⟩,_⟩:=F;exact⟨o,fd,h1,h2⟩
end
def bd(k n:Nat):List HS:=(f99.body.drop k).take n
noncomputable def xXc(f:Nat->Bool)(o:Option Nat):Bool:=match o with
 |some x=>f x
 |none=>false
def wkB(lt:Nat->Option Nat)(x b:B8):Bool:=match x with
 |.lit a=>(match b with|.lit c=>Nat.beq a c|_=>false)
 |.sym i=>(match b with|.sym k=>Nat.beq i k|.lit c=>xXc (Nat.beq c) (lt i))
def qXm(b:Bool)(o:Option Bool):Bool:=match o with
 |some c=>Mm b c
 |none=>false
def qG(nm:Nat->Option Nat)(bo:Nat->Option Bool)(lt:Nat->Option Nat)(V VC:HV):Bool:=
 VC.onBool (VC.ug (VC.uy (VC.uK (VC.onBytes false fun l=>V.onBytes false fun m=>Q9 (wkB lt) l m) fun i=>V.uK (V.onBool false fun b=>qXm b (bo i)) (Nat.beq i)) fun i=>V.uy (V.onStr false fun k=>xXc (Nat.beq k) (nm i)) (Nat.beq i)) fun i=>V.ug false (Nat.beq i)) fun b=>V.onBool (V.uK false fun i=>qXm b (bo i)) (Mm b)
noncomputable def Pt(_:Nat):Option Nat:=none
noncomputable def noBo(_:Nat):Option Bool:=none
theorem Np{f:Nat->Bool}{o:Option Nat}(h:xXc f o=true):∃x,o=some x/\f x=true:=by
 cases o with
 |none=>cases h
 |some x=>exact⟨x,rfl,h⟩
theorem Bk{b:Bool}{o:Option Bool}(h:qXm b o=true):o=some b:=by
 cases o with
 |none=>cases h
 |some c=>exact congrArg some (H1 h).symm
theorem Nl{C:Cx}{nm:Nat->Option Nat}{bo:Nat->Option Bool}{lt:Nat->Option Nat}{e:Nat->Nat}(h1:∀i k,nm i=some k->C.nam i=tx k)(h2:∀i b,bo i=some b->C.opq i=.bool b)(h3:∀i x,lt i=some x->C.β i=UInt8.ofNat x):
  ∀(V VC:HV) (O:Nat->Addr) (n:Nat) (O2:Nat->Addr) (nA:Nat) (v:Value),qG nm bo lt V VC=true->VR C O n V v->VR (C.to fro C.β C.nam C.opq C.iv2 e) O2 nA VC v:=by
 intro V VC O n O2 nA v h hv;revert h;refine Yl (fun b e=>Yl (fun c e' h=>?_) (Bb (fun i e' h=>?_) Qg)) (Zk (fun i e=>Zk (fun k e' h=>?_) Qg) (Xj (fun i e=>Xj (fun k e' h=>?_) (Zm (fun k e' h=>?_) Qg))
  (Bb (fun i e=>Bb (fun k e' h=>?_) (Yl (fun b e' h=>?_) Qg)) (Q0 (fun l e=>Q0 (fun m e' h=>?_) Qg) Qg))))<;>subst e e'
 ·rw[H1 h];exact hv
 ·have hv:v=C.opq _:=hv
  rw[h2 _ _ (Bk h)]at hv;exact hv
 ·rw[QC h];exact hv
 ·rw[QC h];exact hv
 ·obtain⟨x,h4,h5⟩:=Np h
  obtain rfl:=QC h5;obtain⟨t,rfl⟩:=hv;exact⟨t,by show _=Value.str (C.nam _) t;rw[h1 _ _ h4]⟩
 ·rw[QC h];exact hv
 ·show v=C.opq _
  rw[h2 _ _ (Bk h)];exact hv
 ·obtain⟨t,rfl⟩:=hv
  refine⟨t,?_⟩;have:m.map (b8 C)=l.map (b8 (C.to fro C.β C.nam C.opq C.iv2 e)):=by
   clear h1 h2;induction l generalizing m with
   |nil=>cases m with
    |nil=>rfl
    |cons _ _=>exact Qg h
   |cons a l ih=>cases m with
    |nil=>exact Qg h
    |cons b m=>
     obtain⟨h,h'⟩:=QA h;rw[List.map_cons,List.map_cons,ih m h']
     congr 1
     cases a with
     |lit a=>cases b with
      |lit c=>rw[QC h];rfl
      |sym _=>exact Qg h
     |sym i=>cases b with
      |sym k=>rw[QC h];rfl
      |lit c=>
       obtain⟨x,h4,h5⟩:=Np h;obtain rfl:=QC h5;exact(h3 _ _ h4).symm
  rw[this]
noncomputable def xJh(d i:Nat):Nat:=match d with
 |0=>179
 |1=>25
 |_=>180+i
def nmF(l:List Nat)(i:Nat):Option Nat:=ob (nth l i) fun d=>some (xJh d i)
noncomputable def boF(l:List Nat)(i:Nat):Option Bool:=match l with
 |[a,b,c]=>(match i with|0=>some (Nat.beq c 0)|1=>some (Nat.beq a 1)|2=>some (Nat.beq b 1)|_=>none)
 |_=>none
noncomputable def boC(asc:Bool)(i:Nat):Option Bool:=match i with
 |0=>some asc
 |_=>none
noncomputable def boO(j d:Bool)(i:Nat):Option Bool:=match i with
 |1=>some j
 |2=>some d
 |_=>none
def qZh(c:Nat):Nat->List Nat->List (Nat × Nat)
 |_,[]=>[]
 |i,d::r=>hif (Nat.beq d c) ((65+d,48+i)::qZh c (i+1) r) (qZh c (i+1) r)
def xZe(asc:Bool)(l:List Nat):List (Nat × Nat):=hif asc (qZh 0 0 l++(qZh 1 0 l++qZh 2 0 l)) (qZh 2 0 l++(qZh 1 0 l++qZh 0 0 l))
def ltF(asc:Bool)(l:List Nat)(i:Nat):Option Nat:=hif (Nat.blt i 10) (ob (nth l i) fun d=>some (65+d)) (hif (Nat.blt i 20) (ob (nth (xZe asc l) (i-10)) fun p=>some p.1) (ob (nth (xZe asc l) (i-20)) fun p=>some p.2))
noncomputable def Y7(i:Nat):List Nat:=match i with|0=>[179,25,180]|1=>[179,25,181]|2=>[179,25,182]|_=>[0]
noncomputable def noS(_:Nat)(_ _:HV):Option HV:=none
def dF(off:Nat)(l:List Nat)(k:Nat):Option Nat:=hif (Nat.blt k off) none (nth l (k-off))
def zZ0(ds:Nat->Option Nat):Par:=mkP fro Y7 noN (xJd ds) xJm noS
noncomputable def n3:List HV:=[.sstr 0,.sstr 1,.sstr 2]
noncomputable def rw(n:Nat):List (List B8):=(List.range n).map fun i=>[.sym i,.lit (48+i),.lit 120]
noncomputable def du(n:Nat):List (List B8):=(List.range n).map fun i=>[.sym (10+i),.sym (20+i),.lit 120]
def glR(isJ isD:Bool)(r:List B8):List B8:=hif (isD&&isJ) (.lit 32::(r++[.lit 32])) (r++[.lit 32,.lit 32])
noncomputable def bls(l:List (List B8)):List HV:=l.map .bytes
def stA:St:=stS [[.sint 0,.sint 1]] [(340,.obj 8)]
def stB:St:=stS [[.sint 6,.sint 7],n3] [(340,.obj 8),(167,.obj 9)]
def stC(asc:Bool):St:=stS [[.sint 12,.sint 13],n3] [(340,.obj 8),(167,.obj 9),(71,.opq 1),(168,.opq 2),(344,.bool asc)]
def stO(n:Nat):St:=stS [n3,bls (rw n),bls (du n)] [(167,.obj 8),(168,.opq 2),(71,.opq 1),(344,.opq 0),(109,.obj 9),(146,.obj 10)]
def stDD(j d:Bool)(n:Nat):St:=stS [n3,bls (rw n),bls (du n)] [(167,.obj 8),(168,.bool d),(71,.bool j),(344,.opq 0),(109,.obj 9),(146,.obj 10)]
def xZ8(j d:Bool)(n:Nat):St:=stS [n3,bls (rw n),bls (du n),bls ((du n).map (glR j d))] [(167,.obj 8),(168,.bool d),(71,.bool j),(344,.opq 0),(109,.obj 9),(146,.obj 10),(147,.obj 11)]
def xQs(o:Option HO):Bool:=Option.rec (motive:=fun J=>Bool) false (fun o=>o.uQ false fun c=>Option.rec (motive:=fun J=>Bool) true (fun J=>false) c) o
def wkT(q:HV->HV->Bool)(T0:Tr)(rs:List Nat)(S2:List (List HV))(loc:List (Nat × HV))(S:St):Bool:=xQs (S.get 7)&&wkS 8 q T0 rs S2 loc S
noncomputable def okN(r:R Fl)(g:St->Bool):Bool:=match r with
 |.ok .next S=>g S
 |_=>false
theorem V2{r:R Fl}{g:St->Bool}(h:okN r g=true):∃S,r=.ok .next S/\g S=true:=by
 cases r with
 |no=>exact Qg h
 |ok fl S=>cases fl with
  |next=>exact⟨_,rfl,h⟩
  |ret _=>exact Qg h
def xZ9(op:Nat)(x y:HV):Option HV:=hif (Nat.beq op 2) (x.ug none fun a=>eI y 1031 none (Qs (Nat.ble 100 a&&Nat.ble a 190) (some (.sint (a+1000)))))<|
 hif (Nat.beq op 4) (x.ug none fun a=>y.ux none fun k=>Qs (Nat.beq k (10^45)&&Nat.ble a 90) (some (.sint (a+200))))<|
 hif (Nat.beq op 0) (x.ug (eI x 31961 none (eS y 200 none (some (.sint 101)))) fun a=>y.ug none fun c=>Qs (Nat.beq a (c+900)&&(Nat.ble 201 c&&Nat.ble c 290)) (some (.sint (c-99)))) none
noncomputable def cells(n:Nat):List HV:=(List.range n).map .sint
def Gj(n:Nat):Tr:=fro.set 40 8 (.list (cells n))
def par0(n:Nat):Par:=mkP (Gj n) Y7 noN noO qZq xZ9
def st0(n:Nat):St:=stS [cells n] [(339,.obj 8)]
noncomputable def q0(n:Nat)(V VC:HV):Bool:=eS VC 0 (eS VC 1 false (V.uf false fun i=>decide (i=0))) (V.ug (V.uf false fun i=>Nat.beq n 0&&decide (i=31)) fun k=>Nat.beq k (100+min n 30)&&Nat.blt 0 n)
def chk0(n:Nat):Bool:=okN ((eng (par0 n) 20).xs (bd 0 1) (st0 n)) (wkT (q0 n) (Gj n) [10] [[.sint 0,.sint 1]] [(340,.obj 8)])
theorem c0:(List.range 64).all chk0=true:=by decide+kernel
def chkA(a b c:Nat):Bool:=okN ((eng (zZ0 (dF 0 [a,b,c])) 20).xs (bd 1 1) stA) (wkT (qG (nmF [a,b,c]) noBo Pt) fro [8,13] [[.sint 6,.sint 7],n3] [(340,.obj 8),(167,.obj 9)])
noncomputable def qZ9(m:Nat)(f:Nat->Nat->Nat->Bool):Bool:=(List.range m).all fun a=>(List.range m).all fun b=>(List.range m).all fun c=>f a b c
theorem H3{m:Nat}{f:Nat->Nat->Nat->Bool}(h:qZ9 m f=true){a b c:Nat}(ha:a<m)(hb:b<m)(hc:c<m):f a b c=true:=by
 have h1:=QI h a (List.mem_range.mpr ha);have h2:=QI h1 b (List.mem_range.mpr hb);exact QI h2 c (List.mem_range.mpr hc)
theorem cA:qZ9 3 chkA=true:=by decide+kernel
def chkB(a b c:Nat):Bool:=okN ((eng (zZ0 (dF 3 [a,b,c])) 20).xs (bd 2 1) stB) (wkT (qG Pt (boF [a,b,c]) Pt) fro [8,9] [[.sint 12,.sint 13],n3] [(340,.obj 8),(167,.obj 9),(71,.opq 1),(168,.opq 2),(344,.bool (Nat.beq c 0))])
theorem cB:qZ9 2 chkB=true:=by decide+kernel
def qZ4(asc:Bool)(l:List Nat):Bool:=okN ((eng (zZ0 (dF 6 ((l.length-1)::l))) 20).xs (bd 3 2) (stC asc)) (wkT (qG Pt (boC asc) (ltF asc l)) fro [9,10+l.length,12+l.length] [n3,bls (rw l.length),bls (du l.length)] [(167,.obj 8),(168,.opq 2),(71,.opq 1),(344,.opq 0),(109,.obj 9),(146,.obj 10)])
noncomputable def Gp:Nat->(List Nat->Bool)->Bool
 |0,f=>f []
 |n+1,f=>Gp n (fun l=>f (0::l))&&(Gp n (fun l=>f (1::l))&&Gp n (fun l=>f (2::l)))
theorem Po(n:Nat):∀f:List Nat->Bool,Gp n f=true->∀l:List Nat,l.length=n->(∀x∈l,x<3)->f l=true:=by
 induction n with
 |zero=>intro f h l hl _;cases l with
  |nil=>exact h
  |cons _ _=>exact Zw hl rfl
 |succ n ih=>intro f h l hl hx;cases l with
  |nil=>exact Zw hl rfl
  |cons x l=>
   obtain⟨h0,h⟩:=QA h;obtain⟨h1,h2⟩:=QA h;have hx0:=hx x List.mem_cons_self;have k:∀y,Gp n (fun l=>f (y::l))=true->f (y::l)=true:=fun y h=>ih _ h l (Nat.succ.inj hl) fun z hz=>hx z (List.mem_cons_of_mem _ hz);clear hx hl h ih;rcases x with _|_|_|x
   ·exact k 0 h0
   ·exact k 1 h1
   ·exact k 2 h2
   ·exact absurd hx0 (QJ (Nat.le_add_left 3 x))
theorem cC1:∀asc,Gp 1 (qZ4 asc)=true
 |true=>by decide+kernel
 |false=>by decide+kernel
theorem cC2:∀asc,Gp 2 (qZ4 asc)=true
 |true=>by decide+kernel
 |false=>by decide+kernel
theorem cC3:∀asc,Gp 3 (qZ4 asc)=true
 |true=>by decide+kernel
 |false=>by decide+kernel
theorem cC4:∀asc,Gp 4 (qZ4 asc)=true
 |true=>by decide+kernel
 |false=>by decide+kernel
theorem cC5:∀asc,Gp 5 (qZ4 asc)=true
 |true=>by decide+kernel
 |false=>by decide+kernel
def chkO(j d:Bool)(n:Nat):Bool:=wkT (qG Pt (boO j d) Pt) fro [8,9,10] [n3,bls (rw n),bls (du n)] [(167,.obj 8),(168,.bool d),(71,.bool j),(344,.opq 0),(109,.obj 9),(146,.obj 10)] (stO n)
def chkD(j d:Bool)(n:Nat):Bool:=okN ((eng (zZ0 Pt) 20).xs (bd 5 2) (stDD j d n)) (wkT (qG Pt noBo Pt) fro [8,9,10,hif (d&&j) 12 11] [n3,bls (rw n),bls (du n),bls ((du n).map (glR j d))] [(167,.obj 8),(168,.bool d),(71,.bool j),(344,.opq 0),(109,.obj 9),(146,.obj 10),(147,.obj 11)])
def chkOD(n:Nat):Bool:=[true,false].all fun j=>[true,false].all fun d=>chkO j d n&&chkD j d n
theorem cOD:[1,2,3,4,5].all chkOD=true:=by decide+kernel
theorem xZu:f99.body=bd 0 1++(bd 1 1++(bd 2 1++(bd 3 2++(bd 5 2++(bd 7 2++f99.body.drop 9))))):=by kernel_rfl
section
open Sem (wp)
theorem xZk:Wi (⟨.builtin "claim.caller" {},none,none,[],none⟩:Ctx):=⟨by decide+kernel,fun x hx=>by cases hx⟩
theorem Wv{prog:Program}{w:World}{t:Sem PySem.Fin}{s:Shared}{R:Result->Shared->Prop}(hreg:s.asleep)
  (h:wpC (model prog w) callerA t (fun fin s'=>∃f,fin=.done f/\(R (.ok f) s'/\leftWithCleanup s'.gens=false)) (fun e s'=>R (.error e) s'/\leftWithCleanup s'.gens=false) s):
  ∃n r s' s'',runN (denote table) prog w n s ⟨t,.builtin "claim.caller" {},default,[]⟩=.halted (outcomeOf r) s'/\
   schedN (denote table) prog w n (.single s ⟨t,.builtin "claim.caller" {},default,[]⟩)=.halted (outcomeOf r) s'/\s'.forget=s''.forget/\R r s'':=by
 have hw:wp (model prog w) ⟨.builtin "claim.caller" {},none,none,[],none⟩ t (Sem.finPost (model prog w) ⟨.builtin "claim.caller" {},none,none,[],none⟩ (fun r s'=>R r s'/\leftWithCleanup s'.gens=false))
   (fun e J s'=>R (.error e) s'/\leftWithCleanup s'.gens=false) default s:=by
  refine Sem.wp_mono _ _ t (fun fin p' s' h'=>?_) (fun J J J h'=>h') default s (h _ default caller_in xZk);obtain⟨f,rfl,hf⟩:=h';exact hf
 obtain⟨n,r,sA,s2,zq⟩:=wp_halts_full (M:=model prog w) (R:=R) hreg hw;obtain⟨hs,hn,hfo,hR⟩:=zq;exact⟨n,r,s2,sA,hn,hs,hfo,hR⟩
theorem Pg{c:ClaimW}{tree:List Value->Sem PySem.Fin}{w:World}{s:Shared}{free:Addr->Prop}{gens:Prop}{kept:Heap->Prop}(hz:s.asleep)(hgens:s.gens=#[])
  (hspec:∀args,c.pre args=true->WData.layableAll args=true->
   ∀ord:List DictEntry->List DictEntry,(∀l,(ord l).Perm l)->
   ∃vs sA,layAllW c.records (classAt s.heap) w.params ord args s=some (vs,sA)/\
    wpC (model c.prog w) callerA (tree vs) (fun fin s'=>∃f,fin=.done f/\(c.Ends s args vs sA (.ok f) s'/\s'.os=s.os/\AllBare s'.gens/\kept s'.heap))
     (fun e s'=>c.Ends s args vs sA (.error e) s'/\s'.os=s.os/\AllBare s'.gens/\kept s'.heap) sA):
  c.CallFrom (fun vs=>⟨tree vs,.builtin "claim.caller" {},default,[]⟩) w free gens kept s:=by
 intro args hpre hlay ord hord;obtain⟨vs,sA,hlaid,hcode⟩:=hspec args hpre hlay ord hord;have hal:=layAllW_rest _ _ _ hlaid;obtain⟨k,r,s',s'',hx⟩:=Wv (prog:=c.prog) (w:=w) (t:=tree vs) (s:=sA)
  (R:=fun r s'=>c.Ends s args vs sA r s'/\s'.os=s.os/\kept s'.heap)
  (Shared.asleep_of_life hal.2.2.2 hz)
  (Qf hcode (fun fin s' h=>h.elim fun f h=>⟨f,h.1,⟨h.2.1,h.2.2.1,h.2.2.2.2⟩,leftWithCleanup_false_of_bare h.2.2.2.1⟩)
   (fun e s' h=>⟨⟨h.1,h.2.1,h.2.2.2⟩,leftWithCleanup_false_of_bare h.2.2.1⟩))
 obtain⟨hrun,hsched,hfo,hcase,hos,hkp⟩:=hx;obtain⟨eh,_,_,eo,_⟩:=Shared.forget_eq hfo;have hcase:=hcase.congr eh;have hkp:kept s'.heap:=by rw[<-eh]at hkp;exact hkp
 rw[<-eo]at hos;have hlife:s'.heap.life=s.heap.life:=(runN_life _ _ _ hrun).trans hal.2.2.2;refine⟨vs,sA,hlaid,k,_,s',hsched,?_,(fun J i x hx=>by rw[hgens]at hx;simp at hx),hkp,by rw[hlife],Shared.rest_eq hos⟩;rcases hcase with hc|hc
 ·obtain⟨v,e1,d1,d2,d3,d4,d5⟩:=hc
  subst e1;exact .inl ⟨v,rfl,d1,d2,d3,fun b o y J=>d4 b o y,d5⟩
 ·obtain⟨e,ob,cls,e1,hc⟩:=hc
  obtain⟨d1,d2,d3,d4,d5⟩:=hc;subst e1;exact .inr ⟨e,ob,cls,rfl,d1,d2,d3,d4,fun b o y J=>d5 b o y⟩
abbrev xZ3(q:Program)(loose:List Str)(XP:(Str->Option Value)->Heap->Prop)(YP:World->Heap->Prop)(r:RowW)(d:DefRec)(kwd:List (Str × Expr))(run:Value->List Value->Sem Value):Prop:=
 ∀(w:World) (s0 sA:Shared) (mg mb:Str->Option Value),Ground q loose r.records XP w s0 mg mb sA.heap->YP w sA.heap->∀(a:Addr) (o:Obj) (pm cd doc dV kV:Value),sA.heap.get? a=some o->
  o.data=.func {docDef d.name d.params d.body d.scope pm cd doc with defaults:=dV,kwdefaults:=kV}->sA.heap.CodeRec cd d.name->Dflts mg sA.heap d.params kwd dV kV->mg d.name=some (.ref a)->sA.gens=#[]->
  ∀(args:List WData) (vals:List Value) (as:List Addr),r.claim.pre args=true->WData.layableAll args=true->ReadsAllW r.records (classAt s0.heap) sA.heap vals args as->WellAll w.params sA.heap vals args->(∀a∈as,(a==sysModules)=false)->
   wpC (model r.prog w) callerA (run (.ref a) vals) (fun v s'=>GoodWG r.claim (classAt s0.heap) (ExcName.means s0.heap) args sA (.ok (.ret v)) s')
    (fun e s'=>GoodWG r.claim (classAt s0.heap) (ExcName.means s0.heap) args sA (.error e) s') sA
theorem Nq{r:RowW}{run:Value->List Value->Sem Value}{tree:List Value->Sem PySem.Fin}{q:Program}{loose defs kps:List Str}{writes:Bool}{Xt:Shared->Bool}{XP:(Str->Option Value)->Heap->Prop}{α:Type}{Yf:Shared->α}{Ya:World->α}{YP:World->Heap->Prop}{N:Nat}
  (L1:LeftO r.prog q loose Xt Yf Ya N) (hY:∀w s,Yf s=Ya w->YP w s.heap) (hYk:∀w h h',YP w h->(∀b o,h.get? b=some o->h'.get? b=some o)->YP w h') (hX:∀s,Xt s=true->XP (s.heap.nsMap mainGlobals) s.heap) (hXk:∀mg h h',XP mg h->(∀b o,h.get? b=some o->h'.get? b=some o)->XP mg h')
  (hRf:∀s,Xt s=true->RecFacts r.records s.heap) (hwr:(!writes||r.records.isEmpty)=true) (ok:(chainsOk q&&opensWell r.prog&&(frees r&&r.within.isEmpty))=true) (hb:r.prog.bare) (hw:r.promised)
  (ht:∀vs (w:World) (s:Shared) mg f (Q:PySem.Fin->Shared->Prop) (E:Value->Shared->Prop),s.heap.Ns mainGlobals mg->mg r.name=some f->wpC (model r.prog w) callerA (run f vs) (fun v s'=>Q (.done (.ret v)) s') E s->wpC (model r.prog w) callerA (tree vs) Q E s)
  (pin:∀w s,s.heap.isNs mainGlobals=true->Ground q loose [] XP w s (s.heap.nsMap mainGlobals) (s.heap.nsMap builtinsNs) s.heap->∀n∈defs,isTheDefsW r.prog s.heap n)
  (call:∀(w:World) (s0 sA:Shared) (mg mb:Str->Option Value),Ground q loose r.records XP w s0 mg mb sA.heap->YP w sA.heap->∀(args:List WData) (vs:List Value) (as:List Addr),
   r.claim.pre args=true->WData.layableAll args=true->Laid r.records w s0 sA args vs as->sysModules<s0.heap.objs.size->∃f,mg r.name=some f/\
    wpC (model r.prog w) callerA (run f vs) (fun v s'=>GoodWG r.claim (classAt s0.heap) (ExcName.means s0.heap) args sA (.ok (.ret v)) s')
     (fun e s'=>GoodWG r.claim (classAt s0.heap) (ExcName.means s0.heap) args sA (.error e) s') sA):r.claim.HoldsOpenBy (fun vs=>⟨tree vs,.builtin "claim.caller" {},default,[]⟩) defs kps writes:=by
 obtain⟨ok,k5⟩:=QA ok;obtain⟨hch,o1⟩:=QA ok;obtain⟨k5,k6⟩:=QA k5;obtain⟨hsame,hu,ha,hap,hm⟩:=frees_parts k5;refine⟨⟨hb,o1,by show r.makers.map _=[];rw[hm];rfl⟩,hw.witness,fun w=>⟨(L1.behind hX hch w).1,fun s' hs'=>?_⟩⟩;obtain⟨s0,hf,hg0,zq⟩:=(L1.behind (XP:=fun mg h=>XP mg h/\RecFacts r.records h) (fun s hs=>⟨hX s hs,hRf s hs⟩) hch w).2 s' hs';obtain⟨s,hT,hz,hgens,hg,G00,y⟩:=zq;have G0:Ground q loose [] XP w s (s.heap.nsMap mainGlobals) (s.heap.nsMap builtinsNs) s.heap:=⟨G00.T,G00.B,G00.D,G00.TE,G00.TD,G00.W,G00.X.1,G00.cls,G00.has,G00.apart,G00.once,G00.K⟩;have RF:=G00.X.2;have hT':=hT;refine⟨s0,hf,hg0,s,hT,pin w s hg G0,RF.1,RF.2.1,?_⟩;have hgens:s.gens=#[]:=Array.eq_empty_of_size_eq_zero (beq_iff_eq.mp hgens);have G:Ground q loose r.records XP w s _ _ s.heap:=RF.ground G0;refine Pg (c:=r.claim) hz hgens fun args hpre hlay ord hord=>?_;obtain⟨⟨vs,sA⟩,hlaid⟩:=QD (layAllW_isSome (P:=w.params) (ord:=ord) G.has args r.args s (pre_splitW hpre).1);have keeps:=layAllW_keeps _ _ _ hlaid;have hal:=layAllW_rest _ _ _ hlaid;obtain⟨as,hrd,hin,hold⟩:=reads_layAllW hord _ _ _ hlaid hlay sA.heap (fun J J e=>e);have L:Laid r.records w s sA args vs as:=⟨⟨ord,hord,hlaid⟩,hrd,hin,hold,keeps,hal.1.trans hgens,hal.2.2.1⟩;have GB:=G.keeps hXk keeps;obtain⟨f,hf,h⟩:=call w s sA _ _ GB (hYk _ _ _ (hY w s y) keeps) args vs as hpre hlay L G.low;have hi:=ident_freeW hu ha hap;have hwi:r.claim.within=[]:=QQ k6;exact⟨vs,sA,hlaid,ht vs w sA _ f _ _ GB.T.g hf (Qf h (fun v s' g=>⟨_,rfl,have z:=g.laid (c:=r.claim) hsame hwi hi L;⟨z.1,z.2.1,z.2.2,fun q=>⟨namesKept_of hT' hg kps keeps g.2.1.old,noTable hwr q⟩⟩⟩) fun e s' g=>have z:=g.laid (c:=r.claim) hsame hwi hi L;⟨z.1,z.2.1,z.2.2,fun q=>⟨namesKept_of hT' hg kps keeps g.2.1.old,noTable hwr q⟩⟩)⟩
theorem holds_openCl{r:OpenRow}{q:Program}{loose:List Str}{Xt:Shared->Bool}{XP:(Str->Option Value)->Heap->Prop}{α:Type}{Yf:Shared->α}{Ya:World->α}{YP:World->Heap->Prop}{d:DefRec}{kwd:List (Str × Expr)}{N:Nat}
  (L1:LeftO r.prog q loose Xt Yf Ya N) (hY:∀w s,Yf s=Ya w->YP w s.heap) (hYk:∀w h h',YP w h->(∀b o,h.get? b=some o->h'.get? b=some o)->YP w h')
  (hX:∀s,Xt s=true->XP (s.heap.nsMap mainGlobals) s.heap) (hXk:∀mg h h',XP mg h->(∀b o,h.get? b=some o->h'.get? b=some o)->XP mg h')
  (zQf:defOf q r.name=some (d,kwd)) (hp:r.prog.theDef r.name=some (d.params,d.body,d.scope)) (hk:kwWritten? d.params.kwonlyargs d.params.kw_defaults=some kwd) (hRf:∀s,Xt s=true->RecFacts r.records s.heap) (hwr:(!r.writes||r.records.isEmpty)=true)
  (k1:r.wellSaid=true) (ok:(chainsOk q&&opensWell r.prog&&(frees r.toRowW&&r.within.isEmpty))=true) (hb:r.prog.bare) (hw:r.toRowW.promised)
  (call:xZ3 q loose XP YP r.toRowW d kwd fun f vs=>PySem.call f vs):r.Holds:=by
 refine⟨k1,hw,Nq (r:=r.toRowW) (run:=fun f vs=>PySem.call f vs) (tree:=fun vs=>do match<-nsGet mainNs r.name with
   |some f=>do ret (<-PySem.call f vs)
   |none=>unsupported "claim.caller:no-such-global") L1 hY hYk hX hXk hRf hwr ok hb hw
  (fun vs w s mg f Q E hg hf h=>Qa (Qe (wpAny_nsGet hg (by rw[hf];exact Qa (Qf h (fun J J x=>Qc x) fun J J x=>x)))))
  (fun w s hg G n hn=>?_) fun w s0 sA mg mb G Y args vs as hpre hlay L low=>?_⟩
 ·obtain rfl:n=r.name:=by split at hn<;>simp_all
  exact pinned_of_view hg G zQf hp hk
 ·obtain⟨a,o,pm,cd,zq⟩:=G.fn zQf;obtain⟨doc,dV,kV,zq⟩:=zq;obtain⟨h1,h2,h3,h4,h5⟩:=zq
  exact⟨.ref a,h1,call w s0 sA mg mb G Y a o pm cd doc dV kV h2 h3 h4 h5 (defOf_name zQf▸h1) L.gens args vs as hpre hlay L.reads L.well (L.low low)⟩
end
section
open Sem (wp)
section
variable{prog:Program}{w:World}{A:Around}{E:Value->Shared->Prop}{s:Shared}{env:Env}
theorem J0{M:Model}{Γ:Ctx}{b:List Stmt}{Q₁ Q:Flow->Pos->Shared->Prop}{E:Value->Pos->Shared->Prop}:∀(a:List Stmt) (p:Pos) (s:Shared),wp M Γ (execs a env) Q₁ E p s->
  (∀f p' s',Q₁ f p' s'->(f=.next/\wp M Γ (execs b env) Q E p' s')∨(f≠.next/\Q f p' s'))->wp M Γ (execs (a++b) env) Q E p s
 |[],p,s,h,k=>by
  rw[arm_execs_nil]at h;rcases k _ _ _ h with⟨_,q⟩|⟨q,_⟩
  ·exact q
  ·exact absurd rfl q
 |x::a,p,s,h,k=>by
  rw[arm_execs_cons,Sem.wp_bind']at h;rw[List.cons_append,arm_execs_cons,Sem.wp_bind'];refine Sem.wp_mono M Γ _ (fun f p' s' h'=>?_) (fun J J J h'=>h') p s h;cases f with
  |next=>exact J0 a p' s' h' k
  |brk=>exact(k _ _ _ h').elim (fun q=>nomatch q.1) fun q=>q.2
  |cont=>exact(k _ _ _ h').elim (fun q=>nomatch q.1) fun q=>q.2
  |ret v=>exact(k _ _ _ h').elim (fun q=>nomatch q.1) fun q=>q.2
theorem K4{M:Model}{a b:List Stmt}{Q:Flow->Shared->Prop}(h:wpC M A (execs a env) (fun f s'=>f=.next/\wpC M A (execs b env) Q E s') E s):wpC M A (execs (a++b) env) Q E s:=fun Γ p hΓ hC=>
 J0 a p s (h Γ p hΓ hC) fun f p' s' q=>.inl ⟨q.1,q.2 Γ p' hΓ hC⟩
theorem Ud{α β:Type}{g:α->β->Bool}:∀(l:List α) {r:List α} {m:List β},Q9 g (l++r) m=true->∃x y,m=x++y/\Q9 g l x=true/\Q9 g r y=true
 |[],r,m,h=>⟨[],m,rfl,rfl,h⟩
 |a::l,r,[],h=>by exact Qg h
 |a::l,r,b::m,h=>by
  simp only[List.cons_append,Q9,QB]at h;obtain⟨x,y,rfl,h1,h2⟩:=Ud l h.2;exact⟨b::x,y,rfl,by simp only[Q9,QB];exact⟨h.1,h1⟩,h2⟩
variable{C:Cx}{gT:Nat->Option HV}{nm:Nms}{D:Nat}{O:Nat->Addr}{S S':St}{xs:List HS->St->R Fl}{Q:Flow->Shared->Prop}
theorem Lo(hX:SX C gT xs D){l r:List HS}{xb:List Stmt}(hck:Q9 (Vf gT 40 nm) (l++r) xb=true)(hE:Qm env nm)(hA:AOk D A)(Z:Stt C env O S s)(h:xs l S=.ok .next S')
  (k:∀xr O' s',Q9 (Vf gT 40 nm) r xr=true->Stt C env O' S' s'->s'.gens=s.gens->s'.os=s.os->wpC (model C.prog C.w) A (execs xr env) Q E s'):wpC (model C.prog C.w) A (execs xb env) Q E s:=by
 obtain⟨x,y,rfl,h1,h2⟩:=Ud l hck;refine K4 ((hX 40 nm l x env A O S s .next S' h1 hE hA Z h).use fun f O' s' X Y hf=>⟨hf,k y O' s' h2 Y X.gens X.os⟩)
theorem Nn(hX:SX C gT xs D){l:List HS}{xb:List Stmt}{V:HV}(hck:Q9 (Vf gT 40 nm) l xb=true)(hE:Qm env nm)(hA:AOk D A)(Z:Stt C env O S s)(h:xs l S=.ok (.ret V) S')
  (k:∀v O' s',Stt C env O' S' s'->s'.gens=s.gens->s'.os=s.os->VR C O' S'.n V v->Q (.ret v) s'):wpC (model C.prog C.w) A (execs xb env) Q E s:=
 (hX 40 nm l xb env A O S s (.ret V) S' hck hE hA Z h).use fun f O' s' X Y hf=>by
  obtain⟨v,rfl,hv⟩:=hf;exact k v O' s' Y X.gens X.os hv
end
end
structure Gr(w:World)(h0:Heap):Prop where
 K:(KM w).In h0
 lim:h0.NoLimit
 sm:sysModules<h0.objs.size
 ns:∃mg mb,h0.Ns mainGlobals mg/\h0.Ns builtinsNs mb
section
variable{C:Cx}{env:Env}{O:Nat->Addr}{S:St}{s:Shared}{β:Nat->UInt8}{nam:Nat->Str}{opq:Nat->Value}{iv2:Nat->Int}
theorem qQr{o:Option HO}(h:xQs o=true):o=some (.tab none):=by
 cases o with
 |none=>exact Qg h
 |some o=>exact Mt (fun c e h=>by cases c with|none=>rw[e]|some _=>exact Qg h) Qg h
theorem Vw(Z:Stt C env O S s){q:HV->HV->Bool}{T0:Tr}(hT0:C.T0=T0){rs:List Nat}{ls:List (List HV)}{loc:List (Nat × HV)}(hf:∀j o,fro.get j=some o->T0.get j=some o)(h7:T0.get 7=none)
  (hq:∀e V VC O n O2 nA v,q V VC=true->VR C O n V v->VR (C.to fro β nam opq iv2 e) O2 nA VC v) (h:wkT q T0 rs ls loc S=true):∃O2 e,Stt (C.to fro β nam opq iv2 e) env O2 (stS ls loc) s:=by
 subst hT0;replace h:=QA h;refine⟨_,_,qZe Z xZv (fun j o hj=>?_) (fun j o hj h7'=>?_) (hq _) h.2 rfl⟩
 ·rw[Y4]at hj
  split at hj
  ·rename_i e;cases hj;rw[e];exact qQr h.1
  ·exact Z.hr.frz j o (hf j o hj)
 ·rw[Y4]at hj
  split at hj
  ·rename_i e;rw[e];exact h7
  ·exact absurd (Kx hj).1 (QJ h7')
end
theorem Kn:fro.get 7=none:=by kernel_rfl
theorem qQu(n:Nat):(Gj n).get 7=none:=by
 have:(Gj n).get 7=if 7=8 then some (.list (cells n))else fro.get 7:=Tr.get_set _ 39 fro 8 (by decide) 7
 rw[this,if_neg (by decide)];exact Kn
theorem By(n:Nat)(j:Nat)(o:HO)(h:fro.get j=some o):(Gj n).get j=some o:=by
 have:(Gj n).get j=if j=8 then some (.list (cells n))else fro.get j:=Tr.get_set _ 39 fro 8 (by decide) j
 rw[this,if_neg (by have:=(Kx h).1;omega)];exact h
noncomputable def H9(xs:List Int):Nat->Int
 |0=>31
 |k+1=>H9 xs k*1031+(xs.getD k 0).fmod (10^45)
noncomputable def Gv(xs:List Int):Int:=H9 xs (min xs.length 30)
noncomputable def iv0(xs:List Int)(i:Nat):Int:=if i<100 then xs.getD i 0 else if i<200 then H9 xs (i-100)else if i<300 then(xs.getD (i-200) 0).fmod (10^45)else H9 xs (i-1100)*1031
theorem qJn{C:Cx}{xs:List Int}(hiv:C.iv2=iv0 xs):∀op a b r x y,xZ9 op a b=some r->IV C a x->IV C b y->Gq C op x y r:=by
 intro op a b r x y h hx hy;revert h;refine Zg (fun q=>Zk (fun a e=>Wq (fun e' h=>?_) Qh) Qh) (Zg (fun q=>Zk (fun a e=>Kq (fun k e' h=>?_) Qh) Qh) (Zg (fun q=>Zk (fun a e=>Zk (fun c e' h=>?_) Qh) (Wq (fun e=>Yk (fun e' h=>?_) Qh) Qh)) Qh))<;>subst q e e'
 ·obtain⟨h1,h2⟩:=Qj h
  simp only[QB]at h1;have l1:=QE h1.1;have l2:=QE h1.2;cases h2;have hx:C.iv2 a=x:=hx;have hy:(1031:Int)=y:=hy;subst hy;subst hx;refine⟨?_,IntMulOk.of_right (by decide)⟩;show C.iv2 (a+1000)=_;rw[hiv];unfold iv0;have g:∀{n:Nat},n<=1000->¬a+1000<n:=fun h=>QJ (QG h (Nat.le_add_left 1000 a));rw[if_neg (g (by decide)),if_neg (g (by decide)),if_neg (g (by decide)),if_neg (QJ l1),if_pos (by first|exact l2|exact Nat.lt_of_le_of_lt l2 (by decide):a<200)];rw[show a+1000-1100=a-100 from Nat.add_sub_add_right a 1000 100]
 ·obtain⟨h1,h2⟩:=Qj h
  simp only[QB]at h1;have l1:=QC h1.1;have l2:=QE h1.2;cases h2;have hx:C.iv2 a=x:=hx;have hy:Int.ofNat k=y:=hy;subst hy;subst hx;have e10:Int.ofNat k=10^45:=by rw[l1];rfl
  rw[e10];refine⟨?_,by decide⟩;show C.iv2 (a+200)=_;rw[hiv];unfold iv0;have g:∀{n:Nat},n<=200->¬a+200<n:=fun h=>QJ (QG h (Nat.le_add_left 200 a));have l3:a<100:=by first|exact l2|exact Nat.lt_of_le_of_lt l2 (by decide)
  rw[if_neg (g (by decide)),if_neg (g (by decide)),if_pos (Nat.add_lt_add_right l3 200),if_pos l3,Nat.add_sub_cancel]
 ·obtain⟨h1,h2⟩:=Qj h
  simp only[QB]at h1;have l1:=QC h1.1;have l2:=QE h1.2.1;have l3:=QE h1.2.2;cases h2;have hx:C.iv2 a=x:=hx;have hy:C.iv2 c=y:=hy;subst hy;subst hx;show C.iv2 (c-99)=_;rw[hiv];unfold iv0
  rewrite [if_neg (by lia),if_pos (by lia),if_neg (by lia:¬a<100),if_neg (by lia:¬a<200),if_neg (by lia:¬a<300),if_neg (by lia:¬c<100),if_neg (by lia:¬c<200),if_pos (by lia:c<300)]
  have e1:c-99-100=(c-200)+1:=by lia
  have e2:a-1100=c-200:=by lia
  rewrite [e1,e2];rfl
 ·cases h
  have hx:(31961:Int)=x:=hx;have hy:C.iv2 200=y:=hy;subst hx;subst hy;show C.iv2 101=_;rw[hiv];rfl
section
variable(U:Int)
def nL:List Nat:=[dOf U 0,dOf U 1,dOf U 2]
def bL:List Nat:=[dOf U 3,dOf U 4,dOf U 5]
def rN:Nat:=dOf U 6+1
def lL:List Nat:=(List.range (rN U)).map fun i=>dOf U (7+i)
def Pv:Bool:=Nat.beq (dOf U 5) 0
def Kb:Bool:=Nat.beq (dOf U 3) 1
def Zu:Bool:=Nat.beq (dOf U 4) 1
def Lv(i:Nat):Str:=match nmF (nL U) i with|some k=>tx k|none=>tx 0
def Hd(i:Nat):Value:=match boF (bL U) i with|some b=>.bool b|none=>.bool false
def βU(i:Nat):UInt8:=match ltF (Pv U) (lL U) i with|some x=>UInt8.ofNat x|none=>0
theorem Kj(i k:Nat)(h:nmF (nL U) i=some k):Lv U i=tx k:=by unfold Lv;rw[h]
theorem Xv(i:Nat)(b:Bool)(h:boF (bL U) i=some b):Hd U i=.bool b:=by unfold Hd;rw[h]
theorem βU_ok(i x:Nat)(h:ltF (Pv U) (lL U) i=some x):βU U i=UInt8.ofNat x:=by unfold βU;rw[h]
theorem Xw(k:Nat):handedIn (Hd U k)=true:=by unfold Hd;split<;>rfl
theorem bo0(i:Nat)(b:Bool)(h:boC (Pv U) i=some b):Hd U i=.bool b:=by
 unfold boC at h;split at h
 ·cases h;exact Xv U 0 _ rfl
 ·cases h
theorem bo12(i:Nat)(b:Bool)(h:boO (Kb U) (Zu U) i=some b):Hd U i=.bool b:=by
 unfold boO at h;split at h
 ·cases h;exact Xv U 1 _ rfl
 ·cases h;exact Xv U 2 _ rfl
 ·cases h
theorem B5(k:Nat){m:Nat}(h:Vk k=m):dOf U k<m:=h▸xZg U k
theorem Bt:(lL U).length=rN U:=by unfold lL;rw[List.length_map,List.length_range]
theorem Nk:1<=rN U/\rN U<=5:=by
 have:=B5 U 6 (m:=5) rfl;unfold rN;omega
theorem xQa(x:Nat)(h:x∈lL U):x<3:=by
 unfold lL at h;obtain⟨i,hi,rfl⟩:=List.mem_map.mp h;have h1:=List.mem_range.mp hi;have h2:=(Nk U).2;have:i<5:=by omega
 exact B5 U (7+i) ((by decide:∀i,i<5->Vk (7+i)=3) i this)
theorem Ju{f:Nat->Nat}:∀(n:Nat) (k:Nat) (x:Nat),nth ((List.range n).map f) k=some x->x=f k:=fun n k x h=>by
 have:∀(l:List Nat) (k:Nat) (x:Nat),nth l k=some x->l[k]? =some x:=fun l=>by
  induction l with
  |nil=>intro k x h;cases h
  |cons a l ih=>intro k x h;cases k with
   |zero=>cases h;rfl
   |succ k=>exact(List.getElem?_cons_succ ..).trans (ih k x h)
 have h:=this _ _ _ h;rw[List.getElem?_map]at h;obtain⟨y,h1,h2⟩:=Option.map_eq_some_iff.mp h;have:=List.getElem?_eq_some_iff.mp h1;obtain⟨_,h3⟩:=this;rw[List.getElem_range]at h3;rw[<-h2,h3]
theorem zQu{off:Nat}{l:List Nat}(h:∀k x,nth l k=some x->x=dOf U (off+k))(k x:Nat)(e:dF off l k=some x):x=dOf U k:=by
 unfold dF at e;cases hb:Nat.blt k off with
 |true=>rw[hb]at e;cases e
 |false=>
  rw[hb]at e;have:=h _ _ e;have l:off<=k:=Nat.not_lt.mp fun q=>by rw[Zb.mpr q]at hb;cases hb
  rw[this];congr 1;omega
theorem dsA(k x:Nat)(e:dF 0 (nL U) k=some x):x=dOf U k:=zQu U (fun k x h=>Ju (f:=fun i=>dOf U (0+i)) 3 k x h) k x e
theorem dsB(k x:Nat)(e:dF 3 (bL U) k=some x):x=dOf U k:=zQu U (fun k x h=>Ju (f:=fun i=>dOf U (3+i)) 3 k x h) k x e
theorem dsC(k x:Nat)(e:dF 6 (((lL U).length-1)::lL U) k=some x):x=dOf U k:=zQu U (fun k x h=>by
 cases k with
 |zero=>cases h;rw[Bt];rfl
 |succ k=>
  have:=Ju (f:=fun i=>dOf U (7+i)) _ k x h;rw[this];congr 1;omega) k x e
theorem dsN(k x:Nat)(e:Pt k=some x):x=dOf U k:=by cases e
theorem Kp(a:Nat):∃k,(Y7 a).any (Nat.beq k)=true/\Lv U a=tx k:=by
 match a with
 |0=>
  refine⟨xJh (dOf U 0) 0,?_,Kj U 0 _ rfl⟩;have:=B5 U 0 (m:=3) rfl
  match dOf U 0,this with|0,_|1,_|2,_=>rfl
 |1=>
  refine⟨xJh (dOf U 1) 1,?_,Kj U 1 _ rfl⟩;have:=B5 U 1 (m:=3) rfl
  match dOf U 1,this with|0,_|1,_|2,_=>rfl
 |2=>
  refine⟨xJh (dOf U 2) 2,?_,Kj U 2 _ rfl⟩;have:=B5 U 2 (m:=3) rfl
  match dOf U 2,this with|0,_|1,_|2,_=>rfl
 |n+3=>exact⟨0,rfl,rfl⟩
end
section
variable{prog:Program}{w:World}{h0:Heap}{env:Env}{nm:Nms}{A:Around}{E:Value->Shared->Prop}{Q:Flow->Shared->Prop}{s:Shared}{O:Nat->Addr}{ep:Nat->Nat}{xs:List Int}
def CU(prog:Program)(w:World)(h0:Heap)(U:Int)(ep:Nat->Nat):Cx:=mkC prog w h0 fro (βU U) (Lv U) (Hd U) (ivU U) ep
theorem qXy{C:Cx}:∀op a b r x y,noS op a b=some r->IV C a x->IV C b y->Gq C op x y r:=fun J J J J J J h=>by cases h
theorem Up(G:Gr w h0){U:Int}{ds:Nat->Option Nat}(hds:∀k x,ds k=some x->x=dOf U k):SX (CU prog w h0 U ep) gTm (eng (zZ0 ds) 20).xs 97:=by
 obtain⟨mg,mb,hg,hb⟩:=G.ns;exact(Zi (bo:=37) (Pb G.K G.lim G.sm hg hb (fun J J h=>h) (Xw U) (fun a J=>Kp U a) (fun J J h=>by cases h) qXy)
  (Y5 G.K fun p hp=>by
   have:∀p∈iT,xJm p.2=false:=by decide+kernel
   exact this p hp) (zZ6 G.K G.lim G.sm hg hb (Xw U) (Kp U) hds) (zZ5 G.K) 20).2.2.1
theorem qQy(G:Gr w h0)(h63:xs.length<=63){xb:List Stmt}(hck:Q9 (Vf gTm 40 nm) f99.body xb=true)(hE:Qm env nm)(hA:AOk 97 A)
  (Z:Stt (mkC prog w h0 (Gj xs.length) (βU (Gv xs)) (Lv (Gv xs)) (Hd (Gv xs)) (iv0 xs) ep) env O (st0 xs.length) s)
  (k:∀xr O' e s',Q9 (Vf gTm 40 nm) (bd 7 2++f99.body.drop 9) xr=true->Stt (CU prog w h0 (Gv xs) e) env O' (xZ8 (Kb (Gv xs)) (Zu (Gv xs)) (rN (Gv xs))) s'->s'.gens=s.gens->s'.os=s.os->
   wpC (model prog w) A (execs xr env) Q E s'):wpC (model prog w) A (execs xb env) Q E s:=by
 obtain⟨mg,mb,hg,hb⟩:=G.ns;rw[xZu]at hck;generalize hU:Gv xs=U at*;have SX0:=(Zi (bo:=0) (Pb (prog:=prog) (h0:=h0) (T0:=Gj xs.length) (β:=βU U) (nam:=Lv U) (opq:=Hd U) (iv2:=iv0 xs) (ep:=ep) (cand:=Y7) (nmv:=noN) (orac:=noO) (isOr:=qZq) (sop:=xZ9) G.K G.lim G.sm hg hb (By _) (Xw U) (fun a J=>Kp U a) (fun J J h=>by cases h) (qJn rfl))
  (Y5 G.K fun J J=>rfl) ⟨fun J J J J J h=>by cases h⟩ ⟨fun J h=>by cases h⟩ 20).2.2.1
 obtain⟨S1,e1,k1⟩:=V2 (QI c0 xs.length (List.mem_range.mpr (by omega)));refine Lo SX0 hck hE (hA.less (by omega)) Z e1 fun xr O1 sA hck ZC g1 o1=>?_;obtain⟨O1',e1',ZC⟩:=Vw (β:=βU U) (nam:=Lv U) (opq:=Hd U) (iv2:=ivU U) ZC rfl (By _) (qQu _) (fun e V VC O n O2 nA v h hv=>by
  revert h;refine Yk (fun e=>Zk (fun k e' h=>?_) (Q5 (fun i e' h=>?_) Qg)) (Yk (fun e=>Q5 (fun i e' h=>?_) Qg) Qg)<;>subst e e'<;>obtain⟨t,rfl⟩:=hv<;>refine⟨t,?_⟩
  ·obtain rfl:=QC (QA h).1
   show Value.int (iv0 xs _) t=Value.int (ivU U 0) t
   congr 1
   unfold iv0;rw[if_neg (by omega),if_pos (by omega)];have:100+min xs.length 30-100=min xs.length 30:=by omega
   rw[this,<-hU];rfl
  ·obtain⟨h1,h2⟩:=QA h
   rw[of_decide_eq_true h2];show Value.int 31 t=Value.int (ivU U 0) t;have:xs.length=0:=QC h1;rw[<-hU];unfold Gv;rw[this];rfl
  ·rw[of_decide_eq_true h];rfl) k1
 have ZC:Stt (CU prog w h0 U e1') env O1' stA sA:=ZC;obtain⟨S2,e2,k2⟩:=V2 (H3 cA (B5 U 0 rfl) (B5 U 1 rfl) (B5 U 2 rfl));refine Lo (C:=CU prog w h0 U e1') (Up G (dsA U)) hck hE hA ZC e2 fun xr O2 s2 hck ZD g2 o2=>?_;obtain⟨O2',e2',ZD⟩:=Vw ZD rfl (fun J J h=>h) Kn (fun e=>Nl (Kj U) (fun J J h=>by cases h) (fun J J h=>by cases h)) k2;have ZD:Stt (CU prog w h0 U e2') env O2' stB s2:=ZD;obtain⟨SC,e3,k3⟩:=V2 (H3 cB (B5 U 3 rfl) (B5 U 4 rfl) (B5 U 5 rfl));refine Lo (C:=CU prog w h0 U e2') (Up G (dsB U)) hck hE hA ZD e3 fun xr O3 s3 hck ZE g3 o3=>?_;obtain⟨O3',e3',ZE⟩:=Vw ZE rfl (fun J J h=>h) Kn (fun e=>Nl (fun J J h=>by cases h) (Xv U) (fun J J h=>by cases h)) k3;have ZE:Stt (CU prog w h0 U e3') env O3' (stC (Pv U)) s3:=ZE;have hl:=Bt U;have hr:=Nk U;have c4:qZ4 (Pv U) (lL U)=true:=by
  have:=xQa U;have:∀n,Gp n (qZ4 (Pv U))=true->rN U=n->qZ4 (Pv U) (lL U)=true:=fun n h e=>Po n _ h (lL U) (hl.trans e) this;have h5:rN U=1∨rN U=2∨rN U=3∨rN U=4∨rN U=5:=by omega
  rcases h5 with h|h|h|h|h
  ·exact this 1 (cC1 _) h
  ·exact this 2 (cC2 _) h
  ·exact this 3 (cC3 _) h
  ·exact this 4 (cC4 _) h
  ·exact this 5 (cC5 _) h
 obtain⟨SD,e4,k4⟩:=V2 c4;refine Lo (C:=CU prog w h0 U e3') (Up G (dsC U)) hck hE hA ZE e4 fun xr O4 s4 hck ZF g4 o4=>?_;obtain⟨O4',e4',ZF⟩:=Vw ZF rfl (fun J J h=>h) Kn (fun e=>Nl (fun J J h=>by cases h) (bo0 U) (βU_ok U)) k4;rw[hl]at ZF;have ZF:Stt (CU prog w h0 U e4') env O4' (stO (rN U)) s4:=ZF;have c5:chkO (Kb U) (Zu U) (rN U)=true/\chkD (Kb U) (Zu U) (rN U)=true:=by
  have h1:=QI cOD (rN U) (by
   have h5:rN U=1∨rN U=2∨rN U=3∨rN U=4∨rN U=5:=by omega
   simpa using h5)
  have h2:=QI h1 (Kb U) (by cases Kb U<;>simp);have h3:=QI h2 (Zu U) (by cases Zu U<;>simp);simp only[QB]at h3;exact h3
 obtain⟨O5',e5',ZG⟩:=Vw ZF rfl (fun J J h=>h) Kn (fun e=>Nl (fun J J h=>by cases h) (bo12 U) (fun J J h=>by cases h)) c5.1;have ZG:Stt (CU prog w h0 U e5') env O5' (stDD (Kb U) (Zu U) (rN U)) s4:=ZG;obtain⟨S6,e6,k6⟩:=V2 c5.2;refine Lo (C:=CU prog w h0 U e5') (Up G (dsN U)) hck hE hA ZG e6 fun xr O6 s6 hck ZH g6 o6=>?_;obtain⟨O6',e6',ZH⟩:=Vw ZH rfl (fun J J h=>h) Kn (fun e=>Nl (fun J J h=>by cases h) (fun J J h=>by cases h) (fun J J h=>by cases h)) k6;have ZH:Stt (CU prog w h0 U e6') env O6' (xZ8 (Kb U) (Zu U) (rN U)) s6:=ZH;exact k xr O6' e6' s6 hck ZH (g6.trans (g4.trans (g3.trans (g2.trans g1)))) (o6.trans (o4.trans (o3.trans (o2.trans o1))))
end
noncomputable def Ts0:Tr:=(.node (some (.list [])) (.node (some (.ns [(63,.int (5)),(53,.sstr 1),(64,.none),(65,.str 0),(66,.str 0),(67,.bool false),(68,.none),(69,.str 0),(70,.none),(71,.bool false),(72,.bool false),(73,.obj 33),(74,.obj 34),(75,.none),(76,.none),(77,.str 0),(78,.int (3)),(51,.int (4)),(79,.obj 29)])) (.node (some (.list [])) (.node none .nil .nil) .nil) (.node (some (.list [])) (.node none .nil .nil) .nil)) (.node (some (.inst 2 46)) (.node (some (.inst 2 78)) (.node none .nil .nil) .nil) (.node (some (.ns [(53,.str 137),(54,.str 348),(55,.str 38),(56,.str 38),(57,.str 0),(58,.obj 113),(59,.str 0),(60,.str 0),(61,.bool false),(62,.obj 114)])) (.node none .nil .nil) .nil)))
noncomputable def Ts1:Tr:=(.node (some (.ns [(63,.int (5)),(53,.str 25),(64,.none),(65,.str 0),(66,.str 0),(67,.bool false),(68,.none),(69,.str 0),(70,.none),(71,.bool false),(72,.bool false),(73,.obj 73),(74,.obj 74),(75,.obj 100),(76,.none),(77,.str 0),(78,.int (12)),(51,.int (1)),(79,.obj 69)])) (.node none .nil .nil) .nil)
noncomputable def Ts2:Tr:=(.node (some (.ns [(100,.str 185),(51,.int (5)),(101,.none),(65,.str 102),(66,.str 103),(67,.bool false),(71,.bool false),(72,.bool false),(104,.int (0)),(105,.int (0)),(106,.bool false)])) (.node none .nil .nil) .nil)
noncomputable def Ts3:Tr:=(.node (some (.list [])) (.node (some (.list [])) (.node none .nil .nil) .nil) (.node (some (.ns [(53,.str 150),(54,.str 354),(55,.str 38),(56,.str 38),(57,.str 0),(58,.obj 121),(59,.str 0),(60,.str 0),(61,.bool true),(62,.obj 122)])) (.node (some (.tup [.str 150])) .nil .nil) .nil))
noncomputable def Ts4:Tr:=(.node (some (.ns [(100,.str 185),(51,.int (1)),(101,.none),(65,.str 102),(66,.str 103),(67,.bool false),(71,.bool false),(72,.bool false),(104,.int (0)),(105,.int (0)),(106,.bool false)])) (.node none .nil .nil) .nil)
def Ts5:Tr:=(.node (some (.ns [(100,.str 185),(51,.int (2)),(101,.none),(65,.str 102),(66,.str 103),(67,.bool false),(71,.bool false),(72,.bool false),(104,.int (0)),(105,.int (0)),(106,.bool false)])) Ts4 (.node (some (.inst 2 106)) (.node none .nil .nil) .nil))
noncomputable def Ts6:Tr:=(.node (some (.ns [(53,.str 189),(82,.obj 13),(49,.obj 19),(83,.none),(84,.bool false)])) .nil .nil)
def Ts7:Tr:=(.node none (.node (some (.dict [(137,.obj 112),(162,.obj 116),(150,.obj 120)])) (.node (some (.list [.obj 32])) (.node (some (.list [])) (.node none .nil .nil) .nil) (.node (some (.ns [(63,.int (5)),(53,.str 183),(64,.none),(65,.str 0),(66,.str 0),(67,.bool false),(68,.none),(69,.str 0),(70,.none),(71,.bool false),(72,.bool false),(73,.obj 101),(74,.obj 102),(75,.none),(76,.none),(77,.str 0),(78,.int (11)),(51,.int (5)),(79,.obj 98)])) (.node none .nil .nil) .nil)) (.node (some (.ns [(100,.str 248),(51,.int (3)),(101,.none),(65,.str 102),(66,.str 103),(67,.bool false),(71,.bool false),(72,.bool false),(104,.int (0)),(105,.int (0)),(106,.bool false)])) (.node (some (.inst 5 82)) (.node none .nil .nil) .nil) (.node (some (.ns [(53,.str 162),(54,.str 165),(55,.str 38),(56,.str 38),(57,.str 0),(58,.obj 117),(59,.str 0),(60,.str 0),(61,.bool false),(62,.obj 118)])) (.node none .nil .nil) .nil))) (.node (some (.list [.obj 24])) Ts5 (.node (some (.list [.obj 54])) (.node (some (.list [])) (.node none .nil .nil) .nil) Ts6)))
noncomputable def Ts8:Tr:=(.node (some (.ns [(100,.str 248),(51,.int (5)),(101,.none),(65,.str 102),(66,.str 103),(67,.bool false),(71,.bool false),(72,.bool false),(104,.int (0)),(105,.int (0)),(106,.bool false)])) (.node none .nil .nil) .nil)
noncomputable def Ts9:Tr:=(.node (some (.list [])) (.node (some (.list [])) (.node none .nil .nil) .nil) (.node (some (.list [])) (.node none .nil .nil) .nil))
def Ts10:Tr:=(.node (some (.tup [.str 44,.str 45,.obj 4,.obj 6,.none])) (.node none (.node (some (.list [.str 150])) (.node (some (.list [])) (.node (some (.inst 2 64)) (.node (some (.ns [(119,.obj 124),(120,.obj 126),(109,.obj 131),(122,.obj 132),(123,.obj 167),(52,.obj 168),(127,.obj 170),(128,.obj 171),(129,.obj 172),(130,.bytes []),(50,.obj 173)])) .nil .nil) .nil) Ts8) (.node (some (.list [])) (.node (some (.list [])) (.node none .nil .nil) .nil) (.node (some (.tup [])) (.node none .nil .nil) .nil))) (.node (some (.list [])) Ts9 (.node (some (.list [.obj 54])) Ts4 (.node (some (.tup [])) (.node (some (.tup [.str 44,.sstr 2,.obj 183,.obj 184,.none])) .nil .nil) .nil)))) (.node (some (.inst 0 12)) (.node (some (.inst 5 20)) (.node (some (.inst 5 36)) (.node (some (.inst 5 68)) (.node none .nil .nil) .nil) (.node (some (.list [])) (.node none .nil .nil) .nil)) (.node (some (.ns [(63,.int (5)),(53,.sstr 2),(64,.none),(65,.str 0),(66,.str 0),(67,.bool false),(68,.none),(69,.str 0),(70,.none),(71,.bool false),(72,.bool false),(73,.obj 55),(74,.obj 56),(75,.none),(76,.none),(77,.str 0),(78,.int (7)),(51,.int (3)),(79,.obj 52)])) (.node (some (.ns [(63,.int (5)),(53,.str 181),(64,.none),(65,.str 0),(66,.str 0),(67,.bool false),(68,.none),(69,.str 0),(70,.none),(71,.bool false),(72,.bool false),(73,.obj 87),(74,.obj 88),(75,.obj 100),(76,.none),(77,.str 0),(78,.int (14)),(51,.int (1)),(79,.obj 83)])) (.node none .nil .nil) .nil) (.node (some (.tup [])) (.node (some (.tup [])) .nil .nil) .nil))) (.node (some (.inst 5 28)) Ts9 (.node (some (.ns [(100,.str 185),(51,.int (1)),(101,.none),(65,.str 102),(66,.str 103),(67,.bool false),(71,.bool false),(72,.bool false),(104,.int (0)),(105,.int (0)),(106,.bool false)])) (.node (some (.inst 2 92)) (.node none .nil .nil) .nil) (.node (some (.ns [(49,.obj 127)])) .nil .nil)))))
noncomputable def Ts11:Tr:=(.node (some (.list [.obj 65,.obj 72,.obj 79,.obj 86,.obj 93])) (.node none .nil .nil) .nil)
noncomputable def Ts12:Tr:=(.node (some (.inst 5 43)) (.node (some (.inst 5 75)) (.node none .nil .nil) .nil) (.node (some (.list [])) (.node none .nil .nil) .nil))
noncomputable def Ts13:Tr:=(.node (some (.tup [.str 137,.str 162,.str 150])) (.node none .nil .nil) .nil)
def Ts14:Tr:=(.node (some (.tup [.str 38,.str 39,.str 40])) (.node (some (.tup [])) (.node none (.node (some (.dict [(137,.obj 27),(162,.obj 35),(150,.obj 59)])) (.node (some (.inst 2 31)) (.node (some (.ns [(63,.int (5)),(53,.str 179),(64,.none),(65,.str 0),(66,.str 0),(67,.bool false),(68,.none),(69,.str 0),(70,.none),(71,.bool false),(72,.bool false),(73,.obj 66),(74,.obj 67),(75,.obj 100),(76,.none),(77,.str 0),(78,.int (11)),(51,.int (1)),(79,.obj 62)])) (.node none .nil .nil) .nil) Ts11) (.node (some (.list [])) (.node (some (.list [])) (.node none .nil .nil) .nil) (.node (some (.inst 1 111)) (.node none .nil .nil) .nil))) (.node (some (.inst 2 23)) (.node (some (.inst 2 39)) (.node (some (.inst 2 71)) (.node none .nil .nil) .nil) (.node (some (.inst 5 103)) (.node none .nil .nil) .nil)) (.node (some (.list [.obj 40,.obj 47])) (.node (some (.list [])) (.node none .nil .nil) .nil) (.node (some (.inst 1 119)) (.node (some (.tup [])) .nil .nil) .nil)))) (.node (some (.ns [(47,.obj 14),(48,.obj 15),(49,.obj 16),(50,.obj 17),(51,.int (21)),(52,.obj 18)])) (.node (some (.ns [(100,.str 185),(51,.int (3)),(101,.none),(65,.str 102),(66,.str 103),(67,.bool false),(71,.bool false),(72,.bool false),(104,.int (0)),(105,.int (0)),(106,.bool false)])) (.node (some (.ns [(100,.str 185),(51,.int (1)),(101,.none),(65,.str 102),(66,.str 103),(67,.bool false),(71,.bool false),(72,.bool false),(104,.int (0)),(105,.int (0)),(106,.bool false)])) Ts4 (.node (some (.inst 2 99)) (.node none .nil .nil) .nil)) (.node (some (.inst 5 51)) (.node (some (.list [])) (.node none .nil .nil) .nil) (.node (some (.inst 1 115)) (.node (some (.tup [.str 162])) .nil .nil) .nil))) (.node (some (.ns [(100,.str 185),(51,.int (4)),(101,.none),(65,.str 102),(66,.str 103),(67,.bool false),(71,.bool false),(72,.bool false),(104,.int (0)),(105,.int (0)),(106,.bool false)])) Ts12 (.node (some (.tup [.str 179,.str 25,.str 180,.str 181,.str 182])) (.node (some (.ns [(63,.int (5)),(53,.str 182),(64,.none),(65,.str 0),(66,.str 0),(67,.bool false),(68,.none),(69,.str 0),(70,.none),(71,.bool false),(72,.bool false),(73,.obj 94),(74,.obj 95),(75,.obj 100),(76,.none),(77,.str 0),(78,.int (15)),(51,.int (1)),(79,.obj 90)])) (.node none .nil .nil) .nil) (.node (some (.inst 3 123)) .nil .nil))))) (.node (some (.tup [])) (.node none (.node (some (.dict [])) (.node (some (.list [])) (.node (some (.list [])) (.node (some (.inst 8 129)) .nil .nil) .nil) (.node (some (.inst 5 97)) (.node none .nil .nil) .nil)) (.node (some (.list [.obj 40,.obj 47])) Ts4 (.node (some (.tup [])) (.node none .nil .nil) .nil))) (.node (some (.list [])) (.node (some (.list [])) (.node (some (.list [])) (.node none .nil .nil) .nil) (.node (some (.ns [(63,.int (5)),(53,.str 45),(64,.none),(65,.str 0),(66,.str 0),(67,.bool false),(68,.none),(69,.str 0),(70,.none),(71,.bool false),(72,.bool false),(73,.obj 108),(74,.obj 109),(75,.none),(76,.none),(77,.str 0),(78,.int (16)),(51,.int (5)),(79,.obj 104)])) (.node none .nil .nil) .nil)) (.node (some (.list [])) (.node (some (.inst 5 89)) (.node none .nil .nil) .nil) (.node (some (.tup [])) (.node none .nil .nil) .nil)))) (.node (some (.list [.obj 100,.obj 107])) (.node (some (.list [])) (.node (some (.list [])) (.node (some (.list [])) (.node none .nil .nil) .nil) Ts11) (.node (some (.inst 2 53)) (.node (some (.inst 2 85)) (.node none .nil .nil) .nil) (.node (some (.tup [])) (.node (some (.tup [.str 44,.sstr 1,.obj 180,.obj 181,.none])) .nil .nil) .nil))) (.node (some (.list [])) (.node (some (.ns [(63,.int (5)),(53,.str 175),(64,.none),(65,.str 0),(66,.str 0),(67,.bool false),(68,.none),(69,.str 0),(70,.none),(71,.bool false),(72,.bool false),(73,.obj 48),(74,.obj 49),(75,.obj 54),(76,.none),(77,.str 0),(78,.int (8)),(51,.int (2)),(79,.obj 44)])) (.node (some (.ns [(63,.int (5)),(53,.str 180),(64,.none),(65,.str 0),(66,.str 0),(67,.bool false),(68,.none),(69,.str 0),(70,.none),(71,.bool false),(72,.bool false),(73,.obj 80),(74,.obj 81),(75,.obj 100),(76,.none),(77,.str 0),(78,.int (13)),(51,.int (1)),(79,.obj 76)])) (.node none .nil .nil) .nil) Ts13) (.node (some (.inst 5 61)) (.node (some (.list [])) (.node none .nil .nil) .nil) (.node (some (.inst 6 125)) .nil .nil))))))
noncomputable def Ts15:Tr:=(.node (some (.list [.obj 72,.obj 79,.obj 86,.obj 93,.obj 100])) (.node none .nil .nil) .nil)
def Ts16:Tr:=(.node (some (.tup [.str 37,.str 3])) (.node (some (.tup [.str 41,.str 42])) (.node none (.node (some (.list [])) (.node (some (.ns [(63,.int (5)),(53,.sstr 1),(64,.none),(65,.str 0),(66,.str 0),(67,.bool false),(68,.none),(69,.str 0),(70,.none),(71,.bool false),(72,.bool false),(73,.obj 33),(74,.obj 34),(75,.none),(76,.none),(77,.str 0),(78,.int (3)),(51,.int (4)),(79,.obj 29)])) (.node (some (.list [])) (.node (some (.inst 1 126)) .nil .nil) (.node (some (.tup [.str 44,.sstr 1,.obj 189,.obj 190,.none])) .nil .nil)) (.node (some (.list [])) (.node none .nil .nil) .nil)) (.node (some (.inst 2 46)) (.node (some (.inst 2 78)) (.node none .nil .nil) .nil) (.node (some (.inst 5 110)) (.node none .nil .nil) .nil))) (.node (some (.ns [(63,.int (5)),(53,.sstr 0),(64,.none),(65,.str 0),(66,.str 0),(67,.bool false),(68,.none),(69,.str 0),(70,.none),(71,.bool false),(72,.bool false),(73,.obj 25),(74,.obj 26),(75,.none),(76,.none),(77,.str 0),(78,.int (0)),(51,.int (3)),(79,.obj 21)])) (.node (some (.ns [(63,.int (5)),(53,.str 174),(64,.none),(65,.str 0),(66,.str 0),(67,.bool false),(68,.none),(69,.str 0),(70,.none),(71,.bool false),(72,.bool false),(73,.obj 41),(74,.obj 42),(75,.obj 54),(76,.none),(77,.str 0),(78,.int (7)),(51,.int (1)),(79,.obj 37)])) (.node (some (.ns [(63,.int (5)),(53,.str 179),(64,.none),(65,.str 0),(66,.str 0),(67,.bool false),(68,.none),(69,.str 0),(70,.none),(71,.bool false),(72,.bool false),(73,.obj 73),(74,.obj 74),(75,.obj 107),(76,.none),(77,.str 0),(78,.int (11)),(51,.int (1)),(79,.obj 69)])) (.node none .nil .nil) .nil) Ts15) (.node (some (.list [])) (.node (some (.list [])) (.node none .nil .nil) .nil) (.node (some (.inst 1 118)) (.node none .nil .nil) .nil)))) (.node none (.node (some (.dict [(137,.obj 119),(162,.obj 123),(150,.obj 127)])) (.node (some (.list [.obj 32])) (.node (some (.tup [.str 179,.str 25,.str 180,.str 181,.str 182])) (.node (some (.inst 3 130)) .nil .nil) (.node none .nil .nil)) (.node (some (.ns [(63,.int (5)),(53,.str 182),(64,.none),(65,.str 0),(66,.str 0),(67,.bool false),(68,.none),(69,.str 0),(70,.none),(71,.bool false),(72,.bool false),(73,.obj 101),(74,.obj 102),(75,.obj 107),(76,.none),(77,.str 0),(78,.int (15)),(51,.int (1)),(79,.obj 97)])) (.node none .nil .nil) .nil)) (.node (some (.ns [(100,.str 248),(51,.int (3)),(101,.none),(65,.str 102),(66,.str 103),(67,.bool false),(71,.bool false),(72,.bool false),(104,.int (0)),(105,.int (0)),(106,.bool false)])) (.node (some (.inst 5 82)) (.node none .nil .nil) .nil) (.node (some (.list [])) (.node none .nil .nil) .nil))) (.node (some (.list [.obj 24])) Ts5 (.node (some (.inst 5 58)) (.node (some (.list [])) (.node none .nil .nil) .nil) (.node (some (.inst 1 122)) (.node none .nil .nil) .nil))))) (.node (some (.tup [.str 44,.str 45,.obj 4,.obj 6,.none])) (.node none (.node (some (.list [.str 150])) (.node (some (.list [])) (.node (some (.list [.obj 62])) (.node (some (.tup [])) .nil .nil) (.node (some (.tup [])) .nil .nil)) (.node (some (.inst 5 96)) (.node none .nil .nil) .nil)) (.node (some (.list [])) (.node (some (.list [])) (.node none .nil .nil) .nil) (.node (some (.ns [(63,.int (5)),(53,.str 45),(64,.none),(65,.str 0),(66,.str 0),(67,.bool false),(68,.none),(69,.str 0),(70,.none),(71,.bool false),(72,.bool false),(73,.obj 115),(74,.obj 116),(75,.none),(76,.none),(77,.str 0),(78,.int (16)),(51,.int (5)),(79,.obj 111)])) (.node none .nil .nil) .nil))) (.node (some (.list [])) (.node (some (.list [])) (.node (some (.list [])) (.node (some (.inst 8 136)) .nil .nil) .nil) (.node (some (.inst 5 104)) (.node none .nil .nil) .nil)) (.node (some (.list [.obj 54])) Ts4 (.node (some (.tup [])) (.node none .nil .nil) .nil)))) (.node (some (.inst 0 12)) (.node (some (.inst 5 20)) (.node (some (.inst 5 36)) (.node (some (.inst 5 68)) (.node (some (.inst 6 132)) .nil .nil) .nil) (.node (some (.list [])) (.node none .nil .nil) .nil)) (.node (some (.ns [(63,.int (5)),(53,.sstr 2),(64,.none),(65,.str 0),(66,.str 0),(67,.bool false),(68,.none),(69,.str 0),(70,.none),(71,.bool false),(72,.bool false),(73,.obj 55),(74,.obj 56),(75,.none),(76,.none),(77,.str 0),(78,.int (7)),(51,.int (3)),(79,.obj 52)])) (.node (some (.ns [(63,.int (5)),(53,.str 180),(64,.none),(65,.str 0),(66,.str 0),(67,.bool false),(68,.none),(69,.str 0),(70,.none),(71,.bool false),(72,.bool false),(73,.obj 87),(74,.obj 88),(75,.obj 107),(76,.none),(77,.str 0),(78,.int (13)),(51,.int (1)),(79,.obj 83)])) (.node none .nil .nil) .nil) Ts13)) (.node (some (.inst 5 28)) (.node (some (.list [])) (.node (some (.list [])) (.node none .nil .nil) .nil) Ts15) (.node (some (.ns [(63,.int (5)),(53,.str 177),(64,.none),(65,.str 0),(66,.str 0),(67,.bool false),(68,.none),(69,.str 0),(70,.none),(71,.bool false),(72,.bool false),(73,.obj 63),(74,.obj 64),(75,.none),(76,.none),(77,.str 0),(78,.int (7)),(51,.int (4)),(79,.obj 59)])) (.node (some (.inst 2 92)) (.node none .nil .nil) .nil) (.node (some (.tup [])) (.node (some (.tup [.str 162])) .nil .nil) .nil))))))
def Ts17:Tr:=(.node (some (.tup [])) (.node none (.node (some (.dict [(137,.obj 27),(162,.obj 35),(150,.obj 66)])) (.node (some (.inst 2 31)) (.node (some (.list [])) (.node (some (.tup [])) .nil .nil) (.node (some (.tup [.str 150])) .nil .nil)) Ts4) Ts9) (.node (some (.inst 2 23)) (.node (some (.inst 2 39)) (.node (some (.inst 2 71)) (.node (some (.ns [(119,.obj 131),(120,.obj 133),(109,.obj 138),(122,.obj 139),(123,.obj 176),(52,.obj 177),(127,.obj 179),(128,.obj 180),(129,.obj 181),(130,.bytes []),(50,.obj 182)])) .nil .nil) .nil) Ts8) (.node (some (.list [.obj 40,.obj 47])) (.node (some (.list [])) (.node none .nil .nil) .nil) (.node (some (.tup [])) (.node none .nil .nil) .nil)))) (.node (some (.ns [(47,.obj 14),(48,.obj 15),(49,.obj 16),(50,.obj 17),(51,.int (21)),(52,.obj 18)])) (.node (some (.ns [(100,.str 185),(51,.int (3)),(101,.none),(65,.str 102),(66,.str 103),(67,.bool false),(71,.bool false),(72,.bool false),(104,.int (0)),(105,.int (0)),(106,.bool false)])) (.node (some (.ns [(100,.str 185),(51,.int (1)),(101,.none),(65,.str 102),(66,.str 103),(67,.bool false),(71,.bool false),(72,.bool false),(104,.int (0)),(105,.int (0)),(106,.bool false)])) (.node (some (.ns [(100,.str 185),(51,.int (1)),(101,.none),(65,.str 102),(66,.str 103),(67,.bool false),(71,.bool false),(72,.bool false),(104,.int (0)),(105,.int (0)),(106,.bool false)])) (.node (some (.ns [(49,.obj 134)])) .nil .nil) .nil) (.node (some (.inst 2 99)) (.node none .nil .nil) .nil)) (.node (some (.inst 5 51)) (.node (some (.list [])) (.node none .nil .nil) .nil) (.node (some (.list [])) (.node none .nil .nil) .nil))) (.node (some (.ns [(100,.str 185),(51,.int (4)),(101,.none),(65,.str 102),(66,.str 103),(67,.bool false),(71,.bool false),(72,.bool false),(104,.int (0)),(105,.int (0)),(106,.bool false)])) Ts12 (.node (some (.list [])) (.node (some (.ns [(63,.int (5)),(53,.str 181),(64,.none),(65,.str 0),(66,.str 0),(67,.bool false),(68,.none),(69,.str 0),(70,.none),(71,.bool false),(72,.bool false),(73,.obj 94),(74,.obj 95),(75,.obj 107),(76,.none),(77,.str 0),(78,.int (14)),(51,.int (1)),(79,.obj 90)])) (.node none .nil .nil) .nil) (.node (some (.tup [])) (.node none .nil .nil) .nil)))))
def Ts18:Tr:=(.node none (.node (some (.dict [])) (.node (some (.list [])) (.node (some (.list [.obj 54,.obj 62])) Ts6 (.node (some (.tup [.str 44,.sstr 2,.obj 192,.obj 193,.none])) .nil .nil)) (.node (some (.list [])) (.node none .nil .nil) .nil)) (.node (some (.list [.obj 40,.obj 47])) Ts4 (.node (some (.inst 2 113)) (.node none .nil .nil) .nil))) (.node (some (.list [])) (.node (some (.list [])) (.node (some (.list [])) (.node none .nil .nil) .nil) (.node (some (.ns [(63,.int (5)),(53,.str 183),(64,.none),(65,.str 0),(66,.str 0),(67,.bool false),(68,.none),(69,.str 0),(70,.none),(71,.bool false),(72,.bool false),(73,.obj 108),(74,.obj 109),(75,.none),(76,.none),(77,.str 0),(78,.int (11)),(51,.int (5)),(79,.obj 105)])) (.node none .nil .nil) .nil)) (.node (some (.ns [(100,.str 185),(51,.int (4)),(101,.none),(65,.str 102),(66,.str 103),(67,.bool false),(71,.bool false),(72,.bool false),(104,.int (0)),(105,.int (0)),(106,.bool false)])) (.node (some (.inst 5 89)) (.node none .nil .nil) .nil) (.node (some (.ns [(53,.str 162),(54,.str 165),(55,.str 38),(56,.str 38),(57,.str 0),(58,.obj 124),(59,.str 0),(60,.str 0),(61,.bool false),(62,.obj 125)])) (.node none .nil .nil) .nil))))
def Ts19:Tr:=(.node (some (.list [])) Ts9 (.node (some (.inst 2 53)) (.node (some (.inst 2 85)) (.node none .nil .nil) .nil) (.node (some (.ns [(53,.str 137),(54,.str 348),(55,.str 38),(56,.str 38),(57,.str 0),(58,.obj 120),(59,.str 0),(60,.str 0),(61,.bool false),(62,.obj 121)])) (.node none .nil .nil) .nil)))
noncomputable def Ts20:Tr:=(.node (some (.ns [(63,.int (5)),(53,.str 25),(64,.none),(65,.str 0),(66,.str 0),(67,.bool false),(68,.none),(69,.str 0),(70,.none),(71,.bool false),(72,.bool false),(73,.obj 80),(74,.obj 81),(75,.obj 107),(76,.none),(77,.str 0),(78,.int (12)),(51,.int (1)),(79,.obj 76)])) (.node none .nil .nil) .nil)
noncomputable def Ts21:Tr:=(.node (some (.inst 2 61)) (.node (some (.list [])) (.node none .nil .nil) .nil) (.node (some (.ns [(53,.str 150),(54,.str 354),(55,.str 38),(56,.str 38),(57,.str 0),(58,.obj 128),(59,.str 0),(60,.str 0),(61,.bool true),(62,.obj 129)])) (.node (some (.tup [])) .nil .nil) .nil))
noncomputable def Ts22:Tr:=(.node (some (.ns [(100,.str 185),(51,.int (5)),(101,.none),(65,.str 102),(66,.str 103),(67,.bool false),(71,.bool true),(72,.bool false),(104,.int (0)),(105,.int (0)),(106,.bool false)])) (.node none .nil .nil) .nil)
def T00:Tr:=(.node (some (.tup [.str 35,.str 36])) (.node (some (.tup [.str 37,.str 3])) (.node (some (.tup [.str 41,.str 42])) (.node none Ts0 (.node (some (.ns [(63,.int (5)),(53,.sstr 0),(64,.none),(65,.str 0),(66,.str 0),(67,.bool false),(68,.none),(69,.str 0),(70,.none),(71,.bool false),(72,.bool false),(73,.obj 25),(74,.obj 26),(75,.none),(76,.none),(77,.str 0),(78,.int (0)),(51,.int (3)),(79,.obj 21)])) (.node (some (.ns [(63,.int (5)),(53,.str 174),(64,.none),(65,.str 0),(66,.str 0),(67,.bool false),(68,.none),(69,.str 0),(70,.none),(71,.bool false),(72,.bool false),(73,.obj 41),(74,.obj 42),(75,.obj 54),(76,.none),(77,.str 0),(78,.int (7)),(51,.int (1)),(79,.obj 37)])) Ts1 Ts2) Ts3)) Ts7) Ts10) Ts14)
def T01:Tr:=(.node (some (.tup [.str 35,.str 36])) Ts16 (.node (some (.tup [.str 38,.str 39,.str 40])) Ts17 (.node (some (.tup [])) Ts18 (.node (some (.list [.obj 107,.obj 114])) Ts19 (.node (some (.list [])) (.node (some (.ns [(63,.int (5)),(53,.str 175),(64,.none),(65,.str 0),(66,.str 0),(67,.bool false),(68,.none),(69,.str 0),(70,.none),(71,.bool false),(72,.bool false),(73,.obj 48),(74,.obj 49),(75,.obj 54),(76,.none),(77,.str 0),(78,.int (8)),(51,.int (2)),(79,.obj 44)])) Ts20 Ts2) Ts21)))))
def T10:Tr:=(.node (some (.tup [.str 35,.str 36])) (.node (some (.tup [.str 37,.str 3])) (.node (some (.tup [.str 41,.str 42])) (.node none Ts0 (.node (some (.ns [(63,.int (5)),(53,.sstr 0),(64,.none),(65,.str 0),(66,.str 0),(67,.bool false),(68,.none),(69,.str 0),(70,.none),(71,.bool false),(72,.bool false),(73,.obj 25),(74,.obj 26),(75,.none),(76,.none),(77,.str 0),(78,.int (0)),(51,.int (3)),(79,.obj 21)])) (.node (some (.ns [(63,.int (5)),(53,.str 174),(64,.none),(65,.str 0),(66,.str 0),(67,.bool false),(68,.none),(69,.str 0),(70,.none),(71,.bool false),(72,.bool false),(73,.obj 41),(74,.obj 42),(75,.obj 54),(76,.none),(77,.str 0),(78,.int (7)),(51,.int (1)),(79,.obj 37)])) Ts1 Ts22) Ts3)) Ts7) Ts10) Ts14)
def T11:Tr:=(.node (some (.tup [.str 35,.str 36])) Ts16 (.node (some (.tup [.str 38,.str 39,.str 40])) Ts17 (.node (some (.tup [])) Ts18 (.node (some (.list [.obj 107,.obj 114])) Ts19 (.node (some (.list [])) (.node (some (.ns [(63,.int (5)),(53,.str 175),(64,.none),(65,.str 0),(66,.str 0),(67,.bool false),(68,.none),(69,.str 0),(70,.none),(71,.bool false),(72,.bool false),(73,.obj 48),(74,.obj 49),(75,.obj 54),(76,.none),(77,.str 0),(78,.int (8)),(51,.int (2)),(79,.obj 44)])) Ts20 Ts22) Ts21)))))
def TE(j d:Bool):Tr:=hif j (hif d T11 T10) (hif d T01 T00)
def Tr.uY:Tr->(Nat->Bool)->Tr
 |.nil,_=>.nil
 |.node v l r,p=>.node (Bool.rec (motive:=fun J=>Option HO) none v (p 0)) (l.uY fun k=>p (2*k+1)) (r.uY fun k=>p (2*k+2))
theorem Tr.uI:∀(t:Tr) (p:Nat->Bool) (i:Nat),(t.uY p).get i=if p i=true then t.get i else none
 |.nil,p,i=>by show none=_;split<;>rfl
 |.node v l r,p,i=>by
  show(Tr.node _ _ _).get i=_;rw[Tr.get_node,Tr.get_node]
  by_cases h0:i=0
  ·subst h0
   rw[if_pos rfl,if_pos rfl];cases p 0<;>rfl
  ·rw[if_neg h0,if_neg h0]
   by_cases h1:i%2=1
   ·rw[if_pos h1,if_pos h1,Tr.uI l]
    have e:=N1 h1;rw[e]
   ·rw[if_neg h1,if_neg h1,Tr.uI r]
    have e:=Ht h0 h1;rw[e]
def xZx:Par:=mkP fro Y7 noN noO qZq noS
def orcA(g:Nat)(as:List HV)(S:St):R HV:=xJ8 xZx 40 g as S
noncomputable def isOA(g:Nat):Bool:=Nat.beq g 51
def xXa:Par:=mkP fro Y7 noN orcA isOA noS
def xJ6(j d:Bool)(n:Nat):R Fl:=(eng xXa 60).xs (bd 7 2) (xZ8 j d n)
noncomputable def trOf:R Fl->Tr
 |.ok .next S=>S.t
 |_=>.nil
def iM(d:Bool):Nat:=hif d 189 180
def pF(d:Bool)(j:Nat):Bool:=Nat.ble (j+1) 7||((Nat.ble 12 j&&Nat.ble (j+1) (hif d 134 127))||((Nat.beq j (hif d 136 129)||Nat.beq j (hif d 137 130))||(Nat.ble (iM d) j&&Nat.ble j (iM d+5))))
def nE(d:Bool):Nat:=hif d 196 187
def findR(d:Bool)(n:HV)(x:Nat):Option Nat:=n.onStr (n.uy none fun k=>hif (Nat.beq k 1) (Qs (Nat.beq x (iM d)) (some 32)) (hif (Nat.beq k 2) (Qs (Nat.beq x (iM d+3)) (some 54)) none)) fun k=>hif (Nat.beq k 45) (Qs (Nat.beq x 4) (some (hif d 114 107))) none
def orcF(d:Bool)(as:List HV)(S:St):R HV:=lsC as .no fun u r=>ls2 r .no fun n w=>u.uc .no fun p=>hif (Nat.beq p 13) (w.uc .no fun x=>Za (Nat.ble (nE d) S.n) ((ofO (findR d n x) S).bind fun r S=>.ok (.obj r) S)) .no
def recR(d:Bool)(x:Nat):Option Nat:=hif (Nat.beq x (iM d+2)) (some 162) (hif (Nat.beq x (iM d+5)) (some 150) none)
def orcR(d:Bool)(as:List HV)(S:St):R HV:=ls2 as .no fun u w=>u.uc .no fun p=>w.uc .no fun x=>Za (Nat.ble (nE d) S.n&&Nat.beq p (hif d 137 130)) ((ofO (recR d x) S).bind fun r S=>.ok (.str r) S)
noncomputable def eqB8:B8->B8->Bool
 |.lit a,.lit b=>Nat.beq a b
 |.sym a,.sym b=>Nat.beq a b
 |_,_=>false
noncomputable def isLit:B8->Bool
 |.lit _=>true
 |_=>false
noncomputable def qXi:List HV->List B8
 |.bytes x::_=>x.drop 3
 |_=>[]
def zZv(pad r:List B8)(v:HV):Bool:=v.onBytes false fun l=>Q9 eqB8 l (r++pad)
def xQh(i:Nat)(r:R HV):Bool:=okV r fun v=>v.onBytes false fun l=>ls1 l false fun b=>B8.rec (motive:=fun J=>Bool) (fun J=>false) (fun k=>Nat.beq k i) b
def kOk(P:Par)(k:Nat)(S:St):Nat->List HV->Bool
 |_,[]=>true
 |i,v::r=>xQh i (Zn (Zv P S.t P.nmv) (eng (Zv P S.t P.nmv) 20).xs 58 [v,.obj k] ⟨S.t,S.n,[]⟩)&&kOk P k S (i+1) r
def srt2(P:Par)(n:Nat)(S:St)(k:Nat)(l:List HV):R HV:=Za (Q9 (zZv (qXi l)) (rw n) l&&(qXi l).all isLit) ((Lw S (S.get 7)).bind fun J S=>Za (kOk P k S 0 l) (S.new (.list ((du n).map fun r=>.bytes (r++qXi l)))))
def srt1(P:Par)(n:Nat)(S:St)(a b:HV):R HV:=a.uc .no fun j=>b.uc .no fun k=>(ofO (S.get j) S).bind fun o J=>(ofO (S.get k) S).bind fun o2 J=>o.ud .no fun l=>o2.onTup .no fun m=>lsC m .no fun v J=>v.uK .no fun q=>hif (Nat.beq q 0) (srt2 P n S k l) .no
def qJk(P:Par)(n:Nat)(_:List HS)(S:St):R Fl:=(ofO (lk S.loc 131) S).bind fun a S=>(ofO (lk S.loc 57) S).bind fun b S=>(srt1 P n S a b).bind fun v S=>.ok .next (S.sto 131 v)
noncomputable def s860:HS:=.asN 131 (.call (.gv 121 (.typ 2)) [(.x 109)])
noncomputable def xX6:List HE:=[(.sl (.x 145) none none (some (.neg (.c (.int 1)))))]
noncomputable def s862:HS:=.ret (.x 131)
def xJ5(P:Par)(n:Nat)(S:St):R Fl:=
 (exS P (eng P 20).ev (eng P 20).ts (eng P 20).xs s860 S).bind (zQg fun S=>(xJb P (eng P 20).ev (qJk P n) [57] true 0 xX6 [.asN 131 .stuck] S).bind (zQg fun S=>exS P (eng P 20).ev (eng P 20).ts (eng P 20).xs s862 S))
def qXl(P:Par)(n:Nat)(as:List HV)(S:St):R HV:=Za (Nat.beq as.length 2) ((xJ5 P n ⟨S.t,S.n,f86.ps.zip as⟩).bind (qXe S))
theorem xQ8:f86.body=[s860,.fr [57] true 0 xX6 [.asN 131 .stuck],s862]:=by kernel_rfl
def Vj(t0:Tr):Par:=mkP t0 Y7 noN noO qZq noS
def xXb(t0:Tr)(d:Bool)(n g:Nat)(as:List HV)(S:St):R HV:=hif (Nat.beq g 86) (qXl (Vj t0) n as S) (hif (Nat.beq g 42) (orcF d as S) (orcR d as S))
noncomputable def isOE(g:Nat):Bool:=Nat.beq g 86||(Nat.beq g 42||Nat.beq g 78)
def xJ9(t0:Tr)(d:Bool)(n:Nat):Par:=mkP t0 Y7 noN (xXb t0 d n) isOE noS
def xQr(o:Option HO):Bool:=Option.rec (motive:=fun J=>Bool) false (fun o=>o.uQ false fun J=>true) o
def Do(r:R Fl):Bool:=R.rec (motive:=fun J=>Bool) false (fun fl S=>Fl.rec (motive:=fun J=>Bool) false (fun v=>v.onBool false fun b=>b&&xQr (S.get 7)) fl) r
def chkR(j d:Bool)(n:Nat):Bool:=okN (xJ6 j d n) fun S=>Do ((eng (xJ9 (TE j d) d n) 60).xs (f99.body.drop 9) S)
def W8(b:Bool)(n:Nat)(p:List Nat):List Nat:=Qw b (p.map fun i=>(Qw b (List.range n)).getD i 0)
noncomputable def lx(l:List Nat):List UInt8:=l.map fun d=>UInt8.ofNat (65+d)
def chkQ(asc:Bool)(l:List Nat)(p:List Nat):Bool:=
 Nat.beq p.length l.length&&(p.all (fun i=>Nat.blt i l.length)&&Q9 (fun(q:Nat × Nat) i=>Nat.beq q.1 (65+l.getD i 0)&&(Nat.beq q.2 (48+i)&&Nat.blt i l.length)) (xZe asc l) (W8 (!asc) l.length p))
def Pu(asc:Bool)(l:List Nat):Bool:=match kgo l.length (ltX (Qw (!asc) (lx l))) (kas_sort l.length)with
 |some p=>chkQ asc l p.toList
 |none=>false
theorem cP1:∀asc,Gp 1 (Pu asc)=true
 |true=>by decide+kernel
 |false=>by decide+kernel
theorem cP2:∀asc,Gp 2 (Pu asc)=true
 |true=>by decide+kernel
 |false=>by decide+kernel
theorem cP3:∀asc,Gp 3 (Pu asc)=true
 |true=>by decide+kernel
 |false=>by decide+kernel
theorem cP4:∀asc,Gp 4 (Pu asc)=true
 |true=>by decide+kernel
 |false=>by decide+kernel
theorem cP5:∀asc,Gp 5 (Pu asc)=true
 |true=>by decide+kernel
 |false=>by decide+kernel
theorem Gb{α:Type}:∀(l:List α) (i:Nat),nth l i=l[i]?
 |[],_=>rfl
 |_::_,0=>rfl
 |_::r,i+1=>(Gb r i).trans (List.getElem?_cons_succ ..).symm
theorem F2.uT{α β:Type}{r:α->β->Prop}:∀{l:List α} {m:List β},l.length=m.length->(∀(i:Nat) (a:α) (b:β),l[i]? =some a->m[i]? =some b->r a b)->F2 r l m
 |[],[],_,_=>.nil
 |a::l,b::m,h,k=>.cons (k 0 a b rfl rfl) (F2.uT (by simpa using h) fun i x y hx hy=>k (i+1) x y (by simpa using hx) (by simpa using hy))
 |[],_::_,h,_=>by simp at h
 |_::_,[],h,_=>by simp at h
theorem qXj{b:Bool}{vs:List Value}{p:List Nat}(hp:∀i∈p,i<vs.length):Ps b vs p=(W8 b vs.length p).map fun i=>vs.getD i .none:=by
 have key:∀i,i<vs.length->(Qw b vs).getD i .none=vs.getD ((Qw b (List.range vs.length)).getD i 0) .none:=fun i hi=>by
  cases b with
  |false=>simp[Qw,List.getD_eq_getElem?_getD,hi]
  |true=>
   have h1:i<vs.reverse.length:=by simpa using hi
   have h2:i<(List.range vs.length).reverse.length:=by simpa using hi
   simp only[Qw,if_true,List.getD_eq_getElem?_getD];rw[List.getElem?_eq_getElem h1,List.getElem?_eq_getElem h2];simp only[Option.getD_some,List.getElem_reverse,List.getElem_range,List.length_range];rw[List.getElem?_eq_getElem (Nat.lt_of_le_of_lt (Nat.sub_le _ _) (Nat.sub_lt (Nat.lt_of_le_of_lt (Nat.zero_le _) hi) Nat.one_pos))];rfl
 unfold Ps W8;have e:(p.map fun i=>(Qw b vs).getD i .none)=(p.map fun i=>(Qw b (List.range vs.length)).getD i 0).map fun i=>vs.getD i .none:=by
  rw[List.map_map];exact List.map_congr_left fun i hi=>key i (hp i hi)
 rw[e];cases b with
 |false=>rfl
 |true=>simp only[Qw,if_true,List.map_reverse]
theorem zZ1{C:Cx}{O:Nat->Addr}{m:Nat}{asc:Bool}{L:List Nat}{pad:List B8}{p:List Nat}{vs:List Value}(h9:L.length<=9)(hβ:∀i x,ltF asc L i=some x->C.β i=UInt8.ofNat x)(hq:chkQ asc L p=true)
  (h:F2 (VR C O m) ((rw L.length).map fun r=>.bytes (r++pad)) vs):F2 (VR C O m) ((du L.length).map fun r=>.bytes (r++pad)) (Ps (!asc) vs p):=by
 unfold chkQ at hq;simp only[QB]at hq;obtain⟨q1,q2,q3⟩:=hq;have q1:=QC q1;have hvl:vs.length=L.length:=by
  have:=h.length;rw[List.length_map]at this;rw[<-this];simp[rw]
 have q2':∀i∈p,i<vs.length:=fun i hi=>by rw[hvl];exact Zb.mp (QI q2 i hi)
 rw[qXj q2',hvl];have hol:(W8 (!asc) L.length p).length=L.length:=by unfold W8;rw[Ze,List.length_map,q1]
 refine F2.uT (by rw[List.length_map,List.length_map,hol];simp[du]) fun i a b ha hb=>?_;rw[List.getElem?_map]at ha hb;obtain⟨r,hr,rfl⟩:=Option.map_eq_some_iff.mp ha;obtain⟨π,hπ,rfl⟩:=Option.map_eq_some_iff.mp hb;have hi:i<L.length:=by
  have:=(List.getElem?_eq_some_iff.mp hπ).1;omega
 have hr':r=[.sym (10+i),.sym (20+i),.lit 120]:=by
  unfold du at hr;rw[List.getElem?_map,List.getElem?_range hi]at hr;exact(Option.some.inj hr).symm
 subst hr';obtain⟨⟨c,d⟩,g1,g2⟩:=Wg q3 ((Gb _ _).trans hπ);simp only[QB]at g2;have c1:=QC g2.1;have c2:=QC g2.2.1;have c3:=Zb.mp g2.2.2;subst c1 c2;have hrow:nth ((rw L.length).map fun r=>HV.bytes (r++pad)) π=some (.bytes ([.sym π,.lit (48+π),.lit 120]++pad)):=by
  rw[Gb,List.getElem?_map];unfold rw;rw[List.getElem?_map,List.getElem?_range c3];rfl
 obtain⟨v,hv,t,rfl⟩:=h.nth hrow;have hgd:vs.getD π .none=.bytes ((([.sym π,.lit (48+π),.lit 120]:List B8)++pad).map (b8 C)).toArray t:=by
  rw[List.getD_eq_getElem?_getD,hv];rfl
 rw[hgd];refine⟨t,?_⟩;have b10:C.β (10+i)=UInt8.ofNat (65+L.getD π 0):=hβ _ _ (by
  unfold ltF;have e1:Nat.blt (10+i) 10=false:=by cases e:Nat.blt (10+i) 10 with|false=>rfl|true=>have:=Zb.mp e;omega
  have e2:Nat.blt (10+i) 20=true:=Zb.mpr (by omega);have e3:10+i-10=i:=by omega
  rw[e1,e2,e3];show ob (nth (xZe asc L) i) _=_;rw[g1];rfl)
 have b20:C.β (20+i)=UInt8.ofNat (48+π):=hβ _ _ (by
  unfold ltF;have e1:Nat.blt (20+i) 10=false:=by cases e:Nat.blt (20+i) 10 with|false=>rfl|true=>have:=Zb.mp e;omega
  have e2:Nat.blt (20+i) 20=false:=by cases e:Nat.blt (20+i) 20 with|false=>rfl|true=>have:=Zb.mp e;omega
  have e3:20+i-20=i:=by omega
  rw[e1,e2,e3];show ob (nth (xZe asc L) i) _=_;rw[g1];rfl)
 have bπ:C.β π=UInt8.ofNat (65+L.getD π 0):=hβ _ _ (by
  unfold ltF;have e1:Nat.blt π 10=true:=Zb.mpr (by omega);rw[e1];show ob (nth L π) _=_;rw[Gb,List.getElem?_eq_getElem c3,List.getD_eq_getElem?_getD,List.getElem?_eq_getElem c3];rfl)
 show Value.bytes (C.β π::UInt8.ofNat (48+π)::UInt8.ofNat 120::pad.map (b8 C)).toArray t=Value.bytes (C.β (10+i)::C.β (20+i)::UInt8.ofNat 120::pad.map (b8 C)).toArray t;rw[b10,b20,bπ]
section
variable{C:Cx}{P:Par}{gT:Nat->Option HV}{env:Env}{nm:Nms}{A:Around}{O:Nat->Addr}{S S':St}{s:Shared}{D:Nat}{V:HV}
theorem qJ2(K:Q6 C P gT)(hA:AOk (D+1) A)(Z:Stt C env O S s){a:Addr}{fn:Fn}(F:Py C gT a fn)(hds:fn.ds=[]){as:List HV}{vals:List Value}(hv:F2 (VR C O S.n) as vals)(hl:as.length=fn.ps.length){fl:Fl}{S1:St}
  (body:∀o fd xb sA,C.h0.get? a=some o->o.data=.func fd->fd.body=.stmts xb->Qm (callEnvC fd s.heap.objs.size a) fd.scope.names->Q9 (Vf gT 40 fd.scope.names) fn.body xb=true->AOk D (A.deeper (callEnvC fd s.heap.objs.size a))->
   Stt C (callEnvC fd s.heap.objs.size a) O ⟨S.t,S.n,fn.ps.zip as⟩ sA->Run C (callEnvC fd s.heap.objs.size a) .all (A.deeper (callEnvC fd s.heap.objs.size a)) (execs xb (callEnvC fd s.heap.objs.size a)) O ⟨S.t,S.n,fn.ps.zip as⟩ sA S1 (Jd C fl))
  (h3:qXe S fl S1=.ok V S'):Run C env .no A (call (.ref a) vals) O S s S' (Q4 C V):=by
 obtain⟨o,fd,xb,nmF,FD⟩:=F.it;cases FD with
 |mk ho hd hb hnm hck hk hco hgen hg hbl hcl hcr hps hbind=>
 have hlen:=hv.length;obtain⟨dv,hdv,hB⟩:=hbind s Z.old vals (by omega) (by omega);obtain rfl:dv=[]:=by
  rw[hds]at hdv;simp only[List.drop_nil]at hdv;cases hdv;rfl
 rw[List.append_nil]at hB;refine Run.call fun E Q q=>?_;refine Zl (by have:=hA.depth;show A.depth<1000;omega) (Z.old _ _ ho) hd hco hgen hb (hcr.keeps Z.old) (hB _ _ _ _ ?_);rw[hcl];have hkind:∀x∈(fn.ps.map tx).zip vals,fd.scope.names.lookup x.1=some .local∨(fd.scope.names.lookup x.1=some .cell/\((cellsFrom (s.heap.objs.size+1) fd.scope.names []).lookup x.1).isSome=true):=fun x hx=>by
  obtain⟨i,hi,e⟩:=Xh fn.ps vals x.1 (List.mem_map_of_mem hx);rw[e,hnm];exact(hps i hi).imp id fun h=>⟨h,Qx nmF _ _ _ (.inl h)⟩
 refine wpAny_newFunctionEnv_cells hk hkind fun env' he sA x=>?_;subst he;have hlim:sA.heap.NoLimit:=(K.nolimit.keeps Z.old).keeps x.toInCall.keep;refine⟨hlim,Ko ?_⟩;obtain⟨h',tk,rfl⟩:=x.toInCall.same;have hE':Qm (callEnvC fd s.heap.objs.size a) nmF:=⟨hnm,hk,hg,hbl,fun y hy=>by
  have:=Qx nmF (s.heap.objs.size+1) [] y (.inl hy);obtain⟨c,hc⟩:=QD this;exact⟨c,by show(cellsFrom (s.heap.objs.size+1) fd.scope.names []).lookup y=_;rw[hnm];exact hc⟩⟩
 have base:C.h0.objs.size<=s.heap.objs.size:=QG Z.lr.above (Nat.le_of_lt (Z.lr.uh (.inl rfl)));have lt:∀j,(S.get j).isSome->O j<s.heap.objs.size:=fun j hj=>by
  obtain⟨y,hy⟩:=QD hj;obtain⟨_,z,hz,_⟩:=Z.hr.live j y hy;exact QH hz
 have ZA:Stt C (callEnvC fd s.heap.objs.size a) O ⟨S.t,S.n,fn.ps.zip as⟩ {s with heap:=h',toks:=tk}:=by
  refine⟨⟨fun j o hj=>?_,Z.hr.inj,Z.hr.above,Z.hr.small,Z.hr.frz,Z.hr.fro,Z.hr.uo (fun J J=>rfl) fun J J J J J e=>x.toInCall.keep _ _ e⟩,⟨base,fun j hj e=>?_,fun y c hc=>⟨?_,?_,fun j hj e=>?_,_,x.cell y c hc⟩,fun y z c hy hz=>name_of_addr x.apart (mem_of_lookup hy) (mem_of_lookup hz),_,x.toInCall.ns,fun i W hW=>?_⟩,fun b o e=>x.toInCall.keep b o (Z.old b o e)⟩
  ·obtain⟨a1,ob,a2,a3⟩:=Z.hr.live j o hj
   exact⟨a1,ob,x.toInCall.keep _ _ a2,a3⟩
  ·exact absurd (lt j hj) (by rw[e];exact QM _)
  ·exact QG base (Je x (.inr ⟨y,hc⟩))
  ·exact Nat.ne_of_gt (x.above y c (mem_of_lookup hc))
  ·exact absurd (lt j hj) (by rw[e];exact QJ (Je x (.inr ⟨y,hc⟩)))
  ·obtain⟨v,hr,ha,hb'⟩:=bound (k:=(callEnvC fd s.heap.objs.size a).kindOf) (m:=fun J=>none) (cm:=fun J=>none) F.ps hv hW
   refine⟨v,hr,?_⟩;unfold Loc;split
   ·rename_i h1;exact ha h1
   ·rename_i h1
    obtain⟨c,hc⟩:=hE'.cells (tx i) ((hE'.kindOf _).symm.trans h1);refine⟨c,hc,?_⟩;have h3':h'.IsCell c (bindC (callEnvC fd s.heap.objs.size a).kindOf ((fn.ps.map tx).zip vals) (fun J=>none) (tx i)):=x.cell (tx i) c hc;rw[hb' (by rw[h1];decide)]at h3';exact h3'
   ·trivial
 have hA':AOk D (A.deeper (callEnvC fd s.heap.objs.size a)):=⟨hA.handled,by have:=hA.depth;show A.depth+1+D<900;omega,by have:=hA.units;show A.units+3+4*D<9800;omega⟩;rw[<-hnm]at hE' hck;refine(body o fd xb _ ho hd hb hE' hck hA' ZA).use fun fv O' s' XC ZC hf=>?_;have B:=Z.back (S0:=⟨S.t,S.n,fn.ps.zip as⟩) (s0:={s with heap:=h',toks:=tk}) rfl rfl x.toInCall.keep rfl rfl
  (fun b hb=>QJ (Je x hb)) XC ZC
 cases fl with
 |next=>
  obtain rfl:=hf;cases h3;exact q _ O' s' B.1 B.2 rfl
 |ret W=>
  obtain⟨v,rfl,hv⟩:=hf;cases h3;exact q _ O' s' B.1 B.2 hv
end
def zZx(P:Addr)(v:Value):Bool:=xZ6 v false fun a=>Nat.beq a P
def xJu(t:String)(v:Value):Bool:=zZf v false fun u=>t==u
def cdCk(K:Frag)(c P:Addr):Bool:=oD (K.lookup c) false fun ob=>Hu ob.data false fun vs=>xJu "code" ob.cls&&(Nat.blt 18 vs.size&&(zZx P (vs.getD 11 .none)&&((xJs (vs.getD 18 .none) false fun J J=>true)&&((xJt (vs.getD 7 .none) false fun J J=>true)&&((zZh (vs.getD 9 .none) false fun J=>true)&&((xJt (vs.getD 10 .none) false fun J J=>true)&& !(Nat.beq c P)))))))
theorem Mv{t:String}{v:Value}(h:xJu t v=true):v=.type t:=P0 (fun u e h=>by rw[e,eq_of_beq h]) Qg h
theorem Pe{K:Frag}{h:Heap}{c P:Addr}(hK:K.In h)(hc:cdCk K c P=true):CodeHd h c P:=by
 revert hc;refine G1 (fun ob ho=>Vx (fun vs hvs hc=>?_) Qg) Qg
 ·simp only[QB]at hc
  obtain⟨a1,a2,a3,a4,zq⟩:=hc;obtain⟨a5,a6,a7,a8⟩:=zq;have a2:=Zb.mp a2;have e11:vs.getD 11 .none=.ref P:=Ul (fun a e a3=>by rw[e,Z5 a3]) Qg a3;obtain⟨x18,t18,e18⟩:∃x t,vs.getD 18 .none=.str x t:=Mr (fun x t e J=>⟨x,t,e⟩) Qg a4;obtain⟨x7,t7,e7⟩:∃x t,vs.getD 7 .none=.int x t:=Ms (fun x t e J=>⟨x,t,e⟩) Qg a5;obtain⟨x9,e9⟩:∃x,vs.getD 9 .none=.bool x:=P4 (fun x e J=>⟨x,e⟩) Qg a6;obtain⟨x10,t10,e10⟩:∃x t,vs.getD 10 .none=.int x t:=Ms (fun x t e J=>⟨x,t,e⟩) Qg a7;refine⟨_,vs,x18,t18,x7,t7,x9,x10,t10,hK _ _ ho,Mv a1,hvs,?_,e11,e18,e7,e9,e10,fun e=>?_⟩
  ·have h11:11<vs.size:=by omega
   simp only[Array.getD,h11,dite_true]at e11;rw[Array.getElem?_eq_getElem h11];exact congrArg some e11
  ·rw[e,Nat.beq_refl]at a8;cases a8
def Jm(x:Expr):Bool:=Xz (fun fn J J J=>Jg (fun J J=>true) fn) x
def zQm(nm:Nms)(x:Stmt):Bool:=qXw (fun J J b o=>o.isEmpty&&on1 (Vm fun ts e=>on1 (Jg fun g J=>K7 nm 131 g&&(P9 nm e&&Jm e)) ts) b) x
theorem qQw{nm:Nms}{x:Stmt}(h:zQm nm x=true):∃t it g pg e pa pf,x=.For t it [.Assign [.Name g pg] e pa] [] pf/\K7 nm 131 g=true/\P9 nm e=true/\Jm e=true:=by
 refine Nv (Y:=fun x=>∃t it g pg e pa pf,x=.For t it [.Assign [.Name g pg] e pa] [] pf/\K7 nm 131 g=true/\P9 nm e=true/\Jm e=true) (fun t it b o pf h=>?_) x h;rw[QB]at h;obtain⟨h1,h2⟩:=h;obtain rfl:=QQ h1;obtain⟨g,pg,e,pa,rfl,h3⟩:∃g pg e pa,b=[.Assign [.Name g pg] e pa]/\(K7 nm 131 g&&(P9 nm e&&Jm e))=true:=by
  refine Vn (Q:=fun b=>∃g pg e pa,b=[.Assign [.Name g pg] e pa]/\(K7 nm 131 g&&(P9 nm e&&Jm e))=true) (fun s h2=>?_) b h2;refine Nz (Y:=fun s=>∃g pg e pa,[s]=[.Assign [.Name g pg] e pa]/\(K7 nm 131 g&&(P9 nm e&&Jm e))=true) (fun ts e pa h2=>?_) s h2;refine Vn (Q:=fun ts=>∃g pg e' pa',[Stmt.Assign ts e pa]=[.Assign [.Name g pg] e' pa']/\(K7 nm 131 g&&(P9 nm e'&&Jm e'))=true) (fun t h2=>?_) ts h2;exact Zh (X:=fun t=>∃g pg e' pa',[Stmt.Assign [t] e pa]=[.Assign [.Name g pg] e' pa']/\(K7 nm 131 g&&(P9 nm e'&&Jm e'))=true) (fun g pg h2=>⟨_,_,_,_,rfl,h2⟩) t h2
 simp only[QB]at h3;exact⟨_,_,_,_,_,_,_,rfl,h3⟩
def qZ7(nm:Nms):List Stmt->Bool
 |[_,x,_]=>zQm nm x
 |_=>false
def qZ0(fd:FuncData):Bool:=match fd.body with
 |.stmts b=>qZ7 fd.scope.names b&&(zZx 1578 fd.code&&(fd.qualname==Str.ofString "sorted_rows"&&Nat.beq fd.globals mainGlobals))
 |_=>false
def ck86(K:Frag):Bool:=(oD (K.lookup (Ky 86)) false fun ob=>zQt ob.data false qZ0)&&(cdCk K 1578 (Z3 7)&& !(Nat.beq mainGlobals (Z3 7)))
theorem Pd(w:World):ck86 (KM w)=true:=by kernel_rfl
theorem xXy(w:World):nsL (qZ1 (KM w) mainGlobals) (Str.ofString "key_worth")=some (.ref (Ky 58)):=by kernel_rfl
theorem zQp{a b:B8}(h:eqB8 a b=true):a=b:=by
 cases a<;>cases b<;>first|exact Qg h|exact congrArg _ (QC h)
theorem zQ3{α:Type}{g:α->α->Bool}(hg:∀a b,g a b=true->a=b){l:List α}:∀{m:List α},Q9 g l m=true->l=m:=by
 induction l with
 |nil=>intro m h;cases m with
  |nil=>rfl
  |cons _ _=>exact Qg h
 |cons a l ih=>intro m h;cases m with
  |nil=>exact Qg h
  |cons b m=>rw[hg _ _ (QA h).1,ih (QA h).2]
theorem qXb{pad:List B8}{rs:List (List B8)}:∀{l:List HV},Q9 (zZv pad) rs l=true->l=rs.map fun r=>.bytes (r++pad):=by
 induction rs with
 |nil=>intro m h;cases m with
  |nil=>rfl
  |cons _ _=>exact Qg h
 |cons r rs ih=>intro m h;cases m with
  |nil=>exact Qg h
  |cons v l=>
   obtain⟨h1,h2⟩:=QA h;exact Q0 (fun x e h1=>by rw[e,zQ3 (fun a b=>zQp) h1,ih h2];rfl) Qg h1
theorem qQn{i:Nat}{r:R HV}(h:xQh i r=true):∃S,r=.ok (.bytes [.sym i]) S:=by
 obtain⟨v,S,rfl,h⟩:=N0 h;refine Q0 (fun l e=>un1 (fun b e' h=>?_) Qg) Qg h;cases b with
 |lit _=>exact Qg h
 |sym k=>exact⟨S,by rw[e,e',Z5 h]⟩
theorem xQj{P:Par}{k:Nat}{S:St}{l:List HV}:∀{iA:Nat},kOk P k S iA l=true->∀i v,nth l i=some v->∃S2,Zn (Zv P S.t P.nmv) (eng (Zv P S.t P.nmv) 20).xs 58 [v,.obj k] ⟨S.t,S.n,[]⟩=.ok (.bytes [.sym (iA+i)]) S2:=by
 induction l with
 |nil=>exact fun J J J h=>Qh h
 |cons v l ih=>
  intro iA h i w hw;obtain⟨h1,h2⟩:=QA h;cases i with
  |zero=>cases hw;exact qQn h1
  |succ i=>
   have:=ih h2 i w hw;rw[Nat.add_assoc,Nat.add_comm 1 i]at this;exact this
section
variable{prog:Program}{w:World}{h0:Heap}{T0:Tr}{β:Nat->UInt8}{nam:Nat->Str}{opq:Nat->Value}{iv2:Nat->Int}{ep:Nat->Nat}
theorem qX4(G:Gr w h0)(bm:∃mg,h0.Ns mainGlobals mg/\h0.BuiltinsAt mg (Z3 7)){o:Obj}{fd:FuncData}{xb:List Stmt}{L:Addr}(ho:h0.get? (Ky 86)=some o)(hd:o.data=.func fd)(hb:fd.body=.stmts xb):
  Pr (mkC prog w h0 T0 β nam opq iv2 ep) (callEnvC fd L (Ky 86))/\qZ7 fd.scope.names xb=true:=by
 have h:=Pd w;unfold ck86 at h;simp only[QB]at h;obtain⟨h1,h2,h3⟩:=h;revert h1;refine G1 (fun ob hlk=>Bc (fun fd' hdat h1=>?_) Qg) Qg
 ·have:=G.K _ _ hlk
  rw[ho]at this;cases this;rw[hd]at hdat;cases hdat;unfold qZ0 at h1;rw[hb]at h1;simp only[QB]at h1;obtain⟨k1,k2,k3,k4⟩:=h1;have hc:fd.code=.ref 1578:=Ul (fun a e k2=>by rw[e,Z5 k2]) Qg k2;have hq:=eq_of_beq k3;have hg:=QC k4;refine⟨⟨⟨1578,hc,Pe G.K h2⟩,?_,hg,bm,fun e=>?_⟩,k1⟩
  ·show fd.qualname++".<locals>."++"<lambda>"=qZn
   rw[hq];decide+kernel
  ·have e:mainGlobals=Z3 7:=e
   rw[e,Nat.beq_refl]at h3;cases h3
theorem qQ4{e:Expr}(h:Jm e=true):noC e=true:=by
 cases e<;>first|rfl|exact ff h
theorem qQ3{e:Expr}{g:Str}{p:Pos}{env:Env}(h:Jm e=true):swappedStores [.Name g p] e env=pure none:=by
 cases e<;>first|rfl|exact ff h
theorem c86(G:Gr w h0)(bm:∃mg,h0.Ns mainGlobals mg/\h0.BuiltinsAt mg (Z3 7))(K:Q6 (mkC prog w h0 T0 β nam opq iv2 ep) (Vj T0) gTm)(FK:Zc (mkC prog w h0 T0 β nam opq iv2 ep) gTm (Vj T0))(hT7:T0.get 7=none){L:List Nat}{asc:Bool}(hl1:1<=L.length)(hl5:L.length<=5)
  (hβ:∀i x,ltF asc L i=some x->β i=UInt8.ofNat x) (hasc:opq 0=.bool asc) (hchk:Pu asc L=true) {as:List HV} {S S':St} {V:HV} (h:qXl (Vj T0) L.length as S=.ok V S') {env:Env} {A:Around} {O:Nat->Addr} {s:Shared} {vals:List Value} (hA:AOk 85 A)
  (Z:Stt (mkC prog w h0 T0 β nam opq iv2 ep) env O S s) (hv:F2 (VR (mkC prog w h0 T0 β nam opq iv2 ep) O S.n) as vals):Run (mkC prog w h0 T0 β nam opq iv2 ep) env .no A (call (.ref (Ky 86)) vals) O S s S' (Q4 (mkC prog w h0 T0 β nam opq iv2 ep) V):=by
 obtain⟨hal,h1⟩:=Qk h;obtain⟨fl,S1,h2,h3⟩:=Qb h1;refine qJ2 (D:=84) K hA Z (FK.fn 86 f86 rfl) rfl hv (QC hal) (fun o fd xb sA ho hd hb hE hck hA' ZA=>?_) h3;obtain⟨LE,hbk⟩:=qX4 (prog:=prog) (T0:=T0) (β:=β) (nam:=nam) (opq:=opq) (iv2:=iv2) (ep:=ep) (L:=s.heap.objs.size) G bm ho hd hb;have SN:=Zi K FK (bo:=0) ⟨fun J J J J J h=>by cases h⟩ ⟨fun J h=>by cases h⟩ 20;rw[xQ8]at hck;clear h h1 h3 hal
 match xb,hbk,hck with
 |[x0,x1,x2],hbk,hck=>
  obtain⟨c0,hck⟩:=QA hck;obtain⟨c1,hck⟩:=QA hck;have c2:=(QA hck).1;have hfc:zQm fd.scope.names x1=true:=hbk;obtain⟨fl0,Sa,e0,h2⟩:=Qb h2;rw[arm_execs_cons];refine Run.bind (Va K FK SN.1 SN.2.2.2 SN.2.1 SN.2.2.1 40 _ _ x0 _ _ O _ sA fl0 Sa c0 hE (hA'.less (by omega)) ZA e0) fun fv O1 s2 XC ZC hf=>?_;rcases X8 (α:=Unit) h2 with⟨rfl,h2⟩|⟨V,rfl,rfl,rfl⟩
  rotate_left
  ·obtain⟨v,rfl,hv⟩:=hf
   exact Run.pure ZC ⟨v,rfl,hv⟩
  obtain rfl:=hf;obtain⟨fl1,Sb,e1,h2⟩:=Qb h2;show Run _ _ .all _ (execs [x1,x2] _) _ _ _ _ _;rw[arm_execs_cons];have R1:Run (mkC prog w h0 T0 β nam opq iv2 ep) (callEnvC fd s.heap.objs.size (Ky 86)) .all (A.deeper (callEnvC fd s.heap.objs.size (Ky 86))) (exec x1 (callEnvC fd s.heap.objs.size (Ky 86))) O1 Sa s2 Sb (Jd (mkC prog w h0 T0 β nam opq iv2 ep) fl1):=by
   obtain⟨t,it,g,pg,zq⟩:=qQw hfc;obtain⟨e,pa,pf,zq⟩:=zq;obtain⟨rfl,g1,g2,g3⟩:=zq;have c1':(Zd it&&kIt (Qq gTm 40 fd.scope.names) fd.scope.names 0 xX6 it&&kTg fd.scope.names true [57] t&&Q9 (Vf gTm 39 fd.scope.names) [.asN 131 .stuck] [.Assign [.Name g pg] e pa])=true:=c1;simp only[QB]at c1';obtain⟨⟨⟨_,c1b⟩,c1c⟩,_⟩:=c1';refine Bh K SN.1 (hA'.less (by omega)) hE ZC c1b c1c (fun O S sq fl S' Z h=>?_) e1;refine Jy h fun a j1 i2=>Jy i2 fun b j2 i4=>?_;obtain⟨V,S3,i5,i6⟩:=Qb i4;cases i6;clear h i2 i4;revert i5;refine Qv (fun j e1=>Qv (fun k e2 p5=>Jy p5 fun o hj p6=>Jy p6 fun o2 hk=>Q3 (fun l e3=>Zx (fun m e4=>unC (fun q lk' e5=>Bb (fun q' e6=>Zg (fun e7 i5=>?_) Qo) Qo) Qo) Qo) Qo) Qo) Qo;clear p5 p6;subst e1 e2 e3 e4 e5 e6 e7;obtain⟨m1,i6⟩:=Qk i5;obtain⟨_,S4,i7,i8⟩:=Qb i6;obtain⟨m2,i9⟩:=Qk i8;simp only[QB]at m1;have hrows:=qXb m1.1;have hln:l.length=L.length:=by rw[hrows];simp[rw]
   unfold Pu at hchk;split at hchk
   rotate_left
   ·cases hchk
   rename_i p hp
   have R:Run (mkC prog w h0 T0 β nam opq iv2 ep) (callEnvC fd s.heap.objs.size (Ky 86)) .no (A.deeper (callEnvC fd s.heap.objs.size (Ky 86))) (eval e (callEnvC fd s.heap.objs.size (Ky 86))) O S sq S3 (Q4 (mkC prog w h0 T0 β nam opq iv2 ep) V):=by
    obtain⟨mg,mb,hg,hb⟩:=G.ns;have hkw:∃mg,h0.Ns mainGlobals mg/\mg (Str.ofString "key_worth")=some (.ref (Ky 58)):=⟨mg,hg,(Ls G.K hg (qQp w) _).trans (xXy w)⟩;refine P8 K FK ⟨f58,rfl⟩ rfl hE LE (hA'.less (by omega)) Z hT7 g2 hkw hasc j1 j2 hj hk i7 (xs:=lx L) (by rw[hln];simp[lx]) (by omega) (by omega) (fun i v c hv hc=>?_) (by rw[hln];exact hp) (fun O' vs hF=>?_) i9
    ·obtain⟨S2,e⟩:=xQj m2 i v hv
     refine⟨.sym (0+i),S2,e,?_⟩;show β (0+i)=c;rw[Nat.zero_add];unfold lx at hc;rw[List.getElem?_map]at hc;obtain⟨d,hd,rfl⟩:=Option.map_eq_some_iff.mp hc;have hi:=(List.getElem?_eq_some_iff.mp hd).1;refine hβ _ _ ?_;unfold ltF;rw[Zb.mpr (by omega:i<10)];show ob (nth L i) _=_;rw[Gb,hd];rfl
    ·refine zZ1 (by omega) hβ hchk ?_
     rw[<-hrows];exact hF
   rw[arm_execs_cons];refine Run.bind (Bi (hA'.less (by omega):AOk 60 _) hE (Be (qQ4 g3)) (qQ3 g3) (fun r=>rfl) R fun v O1 sA ZC hv=>Xq hE ZC g1 hv) fun fv O2 s2 XD ZD hf=>?_;obtain rfl:=hf;show Run _ _ .all _ (execs [] _) _ _ _ _ _;rw[arm_execs_nil];exact Run.pure ZD rfl
  refine Run.bind R1 fun fv O2 s3 XD ZD hf=>?_;rcases X8 (α:=Unit) h2 with⟨rfl,h2⟩|⟨V,rfl,rfl,rfl⟩
  rotate_left
  ·obtain⟨v,rfl,hv⟩:=hf
   exact Run.pure ZD ⟨v,rfl,hv⟩
  obtain rfl:=hf;show Run _ _ .all _ (execs [x2] _) _ _ _ _ _;rw[arm_execs_cons];refine Run.bind (Va K FK SN.1 SN.2.2.2 SN.2.1 SN.2.2.1 40 _ _ x2 _ _ O2 _ s3 fl S1 c2 hE (hA'.less (by omega)) ZD h2) fun fv O3 s4 XE ZE hf=>?_;cases fl with
  |next=>
   obtain rfl:=hf;show Run _ _ .all _ (execs [] _) _ _ _ _ _;rw[arm_execs_nil];exact Run.pure ZE rfl
  |ret V=>
   obtain⟨v,rfl,hv⟩:=hf;exact Run.pure ZE ⟨v,rfl,hv⟩
end
abbrev chE(j d:Bool)(n:Nat)(T:Tr):Prop:=((trOf (xJ6 j d n)).uY (pF d),chkR j d n)=(T,true)
theorem g001:chE false false 1 T00:=by kernel_rfl
theorem g002:chE false false 2 T00:=by kernel_rfl
theorem g003:chE false false 3 T00:=by kernel_rfl
theorem g004:chE false false 4 T00:=by kernel_rfl
theorem g005:chE false false 5 T00:=by kernel_rfl
theorem g011:chE false true 1 T01:=by kernel_rfl
theorem g012:chE false true 2 T01:=by kernel_rfl
theorem g013:chE false true 3 T01:=by kernel_rfl
theorem g014:chE false true 4 T01:=by kernel_rfl
theorem g015:chE false true 5 T01:=by kernel_rfl
theorem g101:chE true false 1 T10:=by kernel_rfl
theorem g102:chE true false 2 T10:=by kernel_rfl
theorem g103:chE true false 3 T10:=by kernel_rfl
theorem g104:chE true false 4 T10:=by kernel_rfl
theorem g105:chE true false 5 T10:=by kernel_rfl
theorem g111:chE true true 1 T11:=by kernel_rfl
theorem g112:chE true true 2 T11:=by kernel_rfl
theorem g113:chE true true 3 T11:=by kernel_rfl
theorem g114:chE true true 4 T11:=by kernel_rfl
theorem g115:chE true true 5 T11:=by kernel_rfl
theorem gE:∀(j d:Bool) (n:Nat),1<=n/\n<=5->chE j d n (TE j d):=by
 intro j d n hn;have h5:n=1∨n=2∨n=3∨n=4∨n=5:=by omega
 cases j<;>cases d<;>rcases h5 with rfl|rfl|rfl|rfl|rfl
 ·exact g001
 ·exact g002
 ·exact g003
 ·exact g004
 ·exact g005
 ·exact g011
 ·exact g012
 ·exact g013
 ·exact g014
 ·exact g015
 ·exact g101
 ·exact g102
 ·exact g103
 ·exact g104
 ·exact g105
 ·exact g111
 ·exact g112
 ·exact g113
 ·exact g114
 ·exact g115
theorem fE(j d:Bool)(n:Nat)(hn:1<=n/\n<=5):(trOf (xJ6 j d n)).uY (pF d)=TE j d:=congrArg Prod.fst (gE j d n hn)
theorem rE(j d:Bool)(n:Nat)(hn:1<=n/\n<=5):chkR j d n=true:=congrArg Prod.snd (gE j d n hn)
def Gg(i:Nat)(r:R HV):Bool:=okV r fun v=>v.uc false fun k=>Nat.beq k i
def Bw(i:Nat)(r:R HV):Bool:=okV r fun v=>v.onStr false fun k=>Nat.beq k i
def fnd(T:Tr)(d:Bool)(l:List Nat)(n:HV)(x:Nat):R HV:=Zn (Zv (Vj T) T (nmF l)) (eng (Zv (Vj T) T (nmF l)) 40).xs 42 [.obj 13,n,.obj x] ⟨T,nE d,[]⟩
def rcf(T:Tr)(d:Bool)(l:List Nat)(x:Nat):R HV:=Zn (Zv (Vj T) T (nmF l)) (eng (Zv (Vj T) T (nmF l)) 40).xs 78 [.obj (hif d 137 130),.obj x] ⟨T,nE d,[]⟩
def zZb(T:Tr)(d:Bool)(a b c:Nat):Bool:=Gg (hif d 114 107) (fnd T d [a,b,c] (.str 45) 4)&&(Gg 32 (fnd T d [a,b,c] (.sstr 1) (iM d))&&(Gg 54 (fnd T d [a,b,c] (.sstr 2) (iM d+3))&&(Bw 162 (rcf T d [a,b,c] (iM d+2))&&Bw 150 (rcf T d [a,b,c] (iM d+5)))))
theorem cF00:qZ9 3 (zZb T00 false)=true:=by decide+kernel
theorem cF01:qZ9 3 (zZb T01 true)=true:=by decide+kernel
theorem cF10:qZ9 3 (zZb T10 false)=true:=by decide+kernel
theorem cF11:qZ9 3 (zZb T11 true)=true:=by decide+kernel
theorem cF(j d:Bool):qZ9 3 (zZb (TE j d) d)=true:=by
 cases j<;>cases d
 ·exact cF00
 ·exact cF01
 ·exact cF10
 ·exact cF11
noncomputable def vlt(N:Nat):HV->Bool
 |.obj j=>Nat.blt j N
 |_=>true
def olt(N:Nat):HO->Bool
 |.list l=>l.all (vlt N)
 |.tup l=>l.all (vlt N)
 |.dict es=>es.all fun p=>vlt N p.2
 |.ns es=>es.all fun p=>vlt N p.2
 |.barr _=>true
 |.inst _ d=>Nat.blt d N
 |_=>false
def Ve(N:Nat)(T:Tr):Bool:=T.all fun j o=>Nat.blt j N&&olt N o
theorem cl00:Ve 187 T00=true:=by decide+kernel
theorem cl01:Ve 196 T01=true:=by decide+kernel
theorem cl10:Ve 187 T10=true:=by decide+kernel
theorem cl11:Ve 196 T11=true:=by decide+kernel
theorem clE(j d:Bool):Ve (nE d) (TE j d)=true:=by
 cases j<;>cases d
 ·exact cl00
 ·exact cl01
 ·exact cl10
 ·exact cl11
theorem no7E(j d:Bool):(TE j d).get 7=none:=by
 cases j<;>cases d<;>kernel_rfl
theorem Dr{i:Nat}{r:R HV}(h:Gg i r=true):∃S,r=.ok (.obj i) S:=by
 obtain⟨v,S,rfl,h⟩:=N0 h;exact Qv (fun k e h=>⟨S,by rw[e,Z5 h]⟩) Qg h
theorem Dp{i:Nat}{r:R HV}(h:Bw i r=true):∃S,r=.ok (.str i) S:=by
 obtain⟨v,S,rfl,h⟩:=N0 h;exact Zm (fun k e h=>⟨S,by rw[e,Z5 h]⟩) Qg h
theorem Wo{C:Cx}{O:Nat->Addr}{N n:Nat}{V:HV}{v:Value}(h:vlt N V=true)(hv:VR C O n V v):VR C O N V v:=by
 cases V with
 |obj j=>exact⟨Zb.mp h,hv.2⟩
 |_=>exact hv
theorem zJn{C:Cx}{O:Nat->Addr}{N n:Nat}{o:HO}{ob:Obj}(h:olt N o=true)(hr:OR C O n o ob):OR C O N o ob:=by
 refine⟨hr.1,?_⟩;have hr:=hr.2;cases o with
 |list l=>obtain⟨xs,m,e,hf⟩:=hr;exact⟨xs,m,e,hf.imp_mem fun V v hV hv=>Wo (QI h V hV) hv⟩
 |tup l=>obtain⟨xs,m,e,hf⟩:=hr;exact⟨xs,m,e,hf.imp_mem fun V v hV hv=>Wo (QI h V hV) hv⟩
 |dict l=>obtain⟨xs,m,e,hf⟩:=hr;exact⟨xs,m,e,hf.imp_mem fun V v hV hv=>⟨hv.1,hv.2.1,Wo (QI h V hV) hv.2.2⟩⟩
 |ns l=>obtain⟨xs,m,e,hf⟩:=hr;exact⟨xs,m,e,hf.imp_mem fun V v hV hv=>⟨hv.1,hv.2.1,Wo (QI h V hV) hv.2.2⟩⟩
 |barr l=>exact hr
 |inst c d=>exact⟨Zb.mp h,hr.2⟩
 |tab c=>cases h
 |code=>cases h
section
variable{prog:Program}{w:World}{h0:Heap}{ep:Nat->Nat}
def CE(prog:Program)(w:World)(h0:Heap)(U:Int)(ep:Nat->Nat):Cx:=mkC prog w h0 (TE (Kb U) (Zu U)) (βU U) (Lv U) (Hd U) (ivU U) ep
theorem get7{α:Type}{f g:Nat->α}(h0:f 0=g 0)(h1:f 1=g 1)(h2:f 2=g 2)(h3:f 3=g 3)(h4:f 4=g 4)(h5:f 5=g 5)(h6:f 6=g 6)(i:Nat)(h:i<7):f i=g i:=by
 rcases i with _|_|_|_|_|_|_|i
 ·exact h0
 ·exact h1
 ·exact h2
 ·exact h3
 ·exact h4
 ·exact h5
 ·exact h6
 ·exact absurd h (QJ (Nat.le_add_left 7 i))
theorem qJb(j d:Bool)(i:Nat)(o:HO)(h:fro.get i=some o):(TE j d).get i=some o:=by
 have:∀i,i<7->(TE j d).get i=fro.get i:=by cases j<;>cases d<;>exact get7 (by kernel_rfl) (by kernel_rfl) (by kernel_rfl) (by kernel_rfl) (by kernel_rfl) (by kernel_rfl) (by kernel_rfl)
 rw[this i (Kx h).1];exact h
theorem kE(G:Gr w h0)(U:Int){orac:Nat->List HV->St->R HV}{isOr:Nat->Bool}:Q6 (CE prog w h0 U ep) (mkP (TE (Kb U) (Zu U)) Y7 noN orac isOr noS) gTm:=by
 obtain⟨mg,mb,hg,hb⟩:=G.ns;exact Pb G.K G.lim G.sm hg hb (qJb _ _) (Xw U) (fun a J=>Kp U a) (fun J J h=>by cases h) qXy
theorem fE0(G:Gr w h0)(U:Int){orac:Nat->List HV->St->R HV}{isOr:Nat->Bool}(h:∀p∈iT,isOr p.2=false):Zc (CE prog w h0 U ep) gTm (mkP (TE (Kb U) (Zu U)) Y7 noN orac isOr noS):=Y5 G.K h
theorem xZl(U:Int):Pu (Pv U) (lL U)=true:=by
 have hl:=Bt U;have hr:=Nk U;have:∀n,Gp n (Pu (Pv U))=true->rN U=n->Pu (Pv U) (lL U)=true:=fun n h e=>Po n _ h (lL U) (hl.trans e) (xQa U);have h5:rN U=1∨rN U=2∨rN U=3∨rN U=4∨rN U=5:=by omega
 rcases h5 with h|h|h|h|h
 ·exact this 1 (cP1 _) h
 ·exact this 2 (cP2 _) h
 ·exact this 3 (cP3 _) h
 ·exact this 4 (cP4 _) h
 ·exact this 5 (cP5 _) h
theorem zZ4(G:Gr w h0)(bm:∃mg,h0.Ns mainGlobals mg/\h0.BuiltinsAt mg (Z3 7))(U:Int):Pq (CE prog w h0 U ep) (xJ9 (TE (Kb U) (Zu U)) (Zu U) (rN U)) 121 where
 it g as S V S' h1 h2 env A O s vals hA Z hv:=by
  have hF:=H3 (cF (Kb U) (Zu U)) (B5 U 0 rfl) (B5 U 1 rfl) (B5 U 2 rfl);have hcl:=clE (Kb U) (Zu U);unfold zZb at hF;simp only[QB]at hF;obtain⟨f1,f2,f3,f4,f5⟩:=hF;have hT:nE (Zu U)<=S.n->∀j o,(TE (Kb U) (Zu U)).get j=some o->S.get j=some o/\j<nE (Zu U)/\∀ob,OR (CE prog w h0 U ep) O S.n o ob->OR (CE prog w h0 U ep) O (nE (Zu U)) o ob:=fun J j o ho=>by
   have:=Tr.um _ _ hcl j o ho;simp only[QB]at this;exact⟨Z.hr.frz j o ho,Zb.mp this.1,fun ob hob=>zJn this.2 hob⟩
  have hN0:∀a,nmF (nL U) a=none->∃k,(Y7 a).any (Nat.beq k)=true/\Lv U a=tx k:=fun a J=>Kp U a;have big:187<=nE (Zu U):=by cases Zu U<;>decide
  have h1:(Nat.beq g 86||(Nat.beq g 42||Nat.beq g 78))=true:=h1;have h2:xXb (TE (Kb U) (Zu U)) (Zu U) (rN U) g as S=.ok V S':=h2;unfold xXb at h2;cases h86:Nat.beq g 86 with
  |true=>
   rw[h86]at h2;have h2:qXl (Vj (TE (Kb U) (Zu U))) (rN U) as S=.ok V S':=h2;rw[QC h86];have hl:=Bt U;have hr:=Nk U;exact c86 G bm (kE G U) (fE0 G U fun J J=>rfl) (no7E _ _) (by omega) (by omega) (βU_ok U) (Xv U 0 _ rfl) (xZl U) (by rw[hl];exact h2) (hA.less (by omega)) Z hv
  |false=>
   rw[h86]at h2;cases h42:Nat.beq g 42 with
   |true=>
    rw[h42]at h2;have h2:orcF (Zu U) as S=.ok V S':=h2;rw[QC h42];clear h86 h42 h1;revert h2;refine unC (fun u r e1=>un2 (fun n w e2=>Qv (fun p e3=>Zg (fun e4=>Qv (fun x e5 h2=>?_) Qo) Qo) Qo) Qo) Qo;subst e1 e2 e3 e4 e5;obtain⟨a1,a2⟩:=Qk h2;refine Jy a2 fun r a5 a4=>?_;cases a4;clear h2 a2;have hN:=QE a1;have key:∀n x r,Gg r (fnd (TE (Kb U) (Zu U)) (Zu U) (nL U) n x)=true->r<nE (Zu U)->x<nE (Zu U)->vlt (nE (Zu U)) n=true->F2 (VR (CE prog w h0 U ep) O S.n) [.obj 13,n,.obj x] vals->
      Run (CE prog w h0 U ep) env .no A (call (.ref (Ky 42)) vals) O S s S (Q4 (CE prog w h0 U ep) (.obj r)):=fun n x r hc hr hx hnv hv=>by
     obtain⟨S1,e⟩:=Dr hc;refine M3 (P:=Vj (TE (Kb U) (Zu U))) (kE G U) (fE0 G U fun J J=>rfl) e hA Z ?_ (hT hN) (fun j o J h=>h) hN hN0 (Kj U) fun O' v ha hv=>⟨by omega,by rw[<-ha r hr];exact hv.2⟩;refine F2.co_k hv fun v1 m e1 x1 y1=>F2.k2 y1 fun v2 v3 e2 x2 x3=>?_;subst e1 e2;exact .cons ⟨by omega,x1.2⟩ (.cons (Wo hnv x2) (.cons ⟨hx,x3.2⟩ .nil))
    clear hT hN0;revert a5;refine Zm (fun k e=>Zg (fun e' a5=>?_) Qh) (Xj (fun k e=>Zg (fun e' a5=>?_) (Zg (fun e' a5=>?_) Qh)) Qh)<;>subst e e'<;>obtain⟨b1,b2⟩:=Qj a5<;>clear a5<;>cases b2<;>obtain rfl:=QC b1
    ·exact key _ _ _ f1 (by cases Zu U<;>decide) (by cases Zu U<;>decide) rfl hv
    ·exact key _ _ _ f2 (by cases Zu U<;>decide) (by cases Zu U<;>decide) rfl hv
    ·exact key _ _ _ f3 (by cases Zu U<;>decide) (by cases Zu U<;>decide) rfl hv
   |false=>
    rw[h42]at h2;have h78:g=78:=by
     rw[h86,h42]at h1;exact QC h1
    subst h78;have h2:orcR (Zu U) as S=.ok V S':=h2;clear h86 h42 h1;revert h2;refine un2 (fun u w e1=>Qv (fun p e3=>Qv (fun x e5 h2=>?_) Qo) Qo) Qo;subst e1 e3 e5;obtain⟨a1,a2⟩:=Qk h2;refine Jy a2 fun r a5 a4=>?_;cases a4;clear h2 a2;obtain⟨a1,a3⟩:=QA a1;have hN:=QE a1;obtain rfl:=QC a3;have key:∀x r,Bw r (rcf (TE (Kb U) (Zu U)) (Zu U) (nL U) x)=true->x<nE (Zu U)->F2 (VR (CE prog w h0 U ep) O S.n) [.obj (hif (Zu U) 137 130),.obj x] vals->
      Run (CE prog w h0 U ep) env .no A (call (.ref (Ky 78)) vals) O S s S (Q4 (CE prog w h0 U ep) (.str r)):=fun x r hc hx hv=>by
     obtain⟨S1,e⟩:=Dp hc;refine M3 (P:=Vj (TE (Kb U) (Zu U))) (kE G U) (fE0 G U fun J J=>rfl) e hA Z ?_ (hT hN) (fun j o J h=>h) hN hN0 (Kj U) fun O' v ha hv=>hv;refine F2.k2 hv fun v2 v3 e2 x1 x2=>?_;subst e2;exact .cons ⟨by cases Zu U<;>decide,x1.2⟩ (.cons ⟨hx,x2.2⟩ .nil)
    clear hT hN0;revert a5;refine Zg (fun e a5=>?_) (Zg (fun e a5=>?_) Qh)<;>subst e<;>cases a5
    ·exact key _ _ f4 (by cases Zu U<;>decide) hv
    ·exact key _ _ f5 (by cases Zu U<;>decide) hv
end
section
variable{prog:Program}{w:World}{h0:Heap}{ep:Nat->Nat}{env:Env}{nm:Nms}{A:Around}{E:Value->Shared->Prop}{Q:Flow->Shared->Prop}{s:Shared}{O:Nat->Addr}
theorem kU(G:Gr w h0)(U:Int){orac:Nat->List HV->St->R HV}{isOr:Nat->Bool}:Q6 (CU prog w h0 U ep) (mkP fro Y7 noN orac isOr noS) gTm:=by
 obtain⟨mg,mb,hg,hb⟩:=G.ns;exact Pb G.K G.lim G.sm hg hb (fun J J h=>h) (Xw U) (fun a J=>Kp U a) (fun J J h=>by cases h) qXy
theorem zZ8(G:Gr w h0)(U:Int):Pq (CU prog w h0 U ep) xXa 121 where
 it g as S V S' h1 h2 env A O s vals hA Z hv:=by
  have h1:Nat.beq g 51=true:=h1;obtain rfl:=QC h1;exact Tp (P:=xZx) (kU G U) (Y5 G.K fun J J=>rfl) (n:=40) h2 hA Z hv
theorem qQx(prog:Program)(G:Gr w h0)(T0:Tr)(U:Int){g:Nat}{f:Fn}(h:fnsT g=some f):∃o fd,h0.get? (Ky g)=some o/\o.data=.func fd:=
 B2 ((Y5 (prog:=prog) (T0:=T0) (β:=βU U) (nam:=Lv U) (opq:=Hd U) (iv2:=ivU U) (ep:=fun J=>0) (cand:=Y7) (nmv:=noN) (orac:=noO) (isOr:=qZq) (sop:=noS) G.K fun J J=>rfl).fn g f h)
theorem zZ7(G:Gr w h0)(U:Int):Wh (CU prog w h0 U ep) xXa where
 obj g h1:=by
  have h1:Nat.beq g 51=true:=h1;obtain rfl:=QC h1;exact qQx prog G fro U (g:=51) (f:=f51) rfl
theorem zZ3(G:Gr w h0)(U:Int):Wh (CE prog w h0 U ep) (xJ9 (TE (Kb U) (Zu U)) (Zu U) (rN U))where
 obj g h1:=by
  have h1:(Nat.beq g 86||(Nat.beq g 42||Nat.beq g 78))=true:=h1;simp only[Bool.or_eq_true]at h1;rcases h1 with h|h|h
  ·rw[QC h];exact qQx prog G fro U (g:=86) (f:=f86) rfl
  ·rw[QC h];exact qQx prog G fro U (g:=42) (f:=f42) rfl
  ·rw[QC h];exact qQx prog G fro U (g:=78) (f:=f78) rfl
theorem L2{r:R Fl}(h:Do r=true):∃S,r=.ok (.ret (.bool true)) S/\∃c,S.get 7=some (.tab c):=by
 cases r with
 |no=>exact Qg h
 |ok fl S=>
  cases fl with
  |next=>exact Qg h
  |ret v=>
   refine Yl (fun b e h=>?_) Qg h;obtain⟨rfl,h2⟩:=QA h;refine⟨S,by rw[e],?_⟩;cases hg:S.get 7 with
   |none=>rw[hg]at h2;exact Qg h2
   |some o=>rw[hg]at h2;exact Mt (fun c e J=>⟨c,by rw[e]⟩) Qg h2
theorem Dq:∀p∈iT,(isOA p.2=false)/\isOE p.2=false:=by decide+kernel
theorem qQj(G:Gr w h0)(bm:∃mg,h0.Ns mainGlobals mg/\h0.BuiltinsAt mg (Z3 7))(U:Int){xb:List Stmt}(hck:Q9 (Vf gTm 40 nm) (bd 7 2++f99.body.drop 9) xb=true)(hE:Qm env nm)(hA:AOk 301 A)
  (Z:Stt (CU prog w h0 U ep) env O (xZ8 (Kb U) (Zu U) (rN U)) s)
  (k:∀O' e S' s',Stt (CE prog w h0 U e) env O' S' s'->(∃c,S'.get 7=some (.tab c))->s'.gens=s.gens->s'.os=s.os->Q (.ret (.bool true)) s'):wpC (model prog w) A (execs xb env) Q E s:=by
 have hr:=Nk U;have SA:=(Zi (bo:=121) (kU (prog:=prog) (ep:=ep) G U) (Y5 G.K fun p hp=>(Dq p hp).1) (zZ8 G U) (zZ7 G U) 60).2.2.1;obtain⟨S1,e1,k1⟩:=V2 (rE (Kb U) (Zu U) (rN U) hr);have hT:S1.t.uY (pF (Zu U))=TE (Kb U) (Zu U):=by
  have:=fE (Kb U) (Zu U) (rN U) hr;rw[e1]at this;exact this
 refine Lo (C:=CU prog w h0 U ep) SA hck hE hA Z e1 fun xr O1 sA hck ZC g1 o1=>?_;have gT:∀j o,(TE (Kb U) (Zu U)).get j=some o->S1.get j=some o:=fun j o h=>by
  rw[<-hT,Tr.uI]at h;split at h
  ·exact h
  ·cases h
 have ZD:Stt (CE prog w h0 U (fun j=>Jw sA.heap (O1 j))) env O1 S1 sA:=Ba (T:=TE (Kb U) (Zu U)) (β:=βU U) (nam:=Lv U) (opq:=Hd U) (iv2:=ivU U) (ren:=id) ZC rfl
  (fun j oA h=>⟨(ZC.hr.live j oA h).1,oA,h,fun ob hob=>zQ4.mpr hob⟩) (fun i j J J h=>h) (fun J J=>rfl)
  (fun j hj h=>⟨hj,.inl (by
   show fro.get j=none;cases e:fro.get j with
   |none=>rfl
   |some o=>exact absurd (Kx e).1 (QJ hj))⟩) gT (fun j hj=>by
    obtain⟨o,ho⟩:=QD (Xf hj);rw[qJb _ _ j o ho];rfl) ZC.hr.small (fun i V hV=>⟨V,hV,fun v hv=>K8.mpr hv⟩)
 obtain⟨S2,e2,t2⟩:=L2 k1;have SE':=(Zi (bo:=121) (kE (prog:=prog) (ep:=fun j=>Jw sA.heap (O1 j)) G U) (fE0 G U fun p hp=>(Dq p hp).2) (zZ4 G bm U) (zZ3 G U) 60).2.2.1;refine Nn (C:=CE prog w h0 U (fun j=>Jw sA.heap (O1 j))) SE' hck hE hA ZD e2 fun v O2 s2 ZE g2 o2 hv=>?_;obtain rfl:v=.bool true:=hv;exact k O2 _ S2 s2 ZE t2 (g2.trans g1) (o2.trans o1)
end
theorem Gf{R:WRecords}:∀{l:List WData},WShape.hasItems R l .int=true->∃xs:List Int,l=xs.map .int
 |[],_=>⟨[],rfl⟩
 |x::l,h=>by
  have h:(WShape.has R x .int&&WShape.hasItems R l .int)=true:=h;obtain⟨h1,h2⟩:=QA h;obtain⟨xs,rfl⟩:=Gf h2;cases x with
  |int i=>exact⟨i::xs,rfl⟩
  |_=>exact nomatch (show false=true from h1)
theorem zQ2{R:WRecords}:∀{args:List WData},WShape.hasAll R args [.list .int]=true->∃xs:List Int,args=[.list (xs.map .int)]
 |[d],h=>by
  have h:(WShape.has R d (.list .int)&&true)=true:=h;rw[Bool.and_true]at h;cases d with
  |list l=>
   have h:(WShape.hasItems R l .int||false)=true:=h;rw[Bool.or_false]at h;obtain⟨xs,rfl⟩:=Gf h;exact⟨xs,rfl⟩
  |_=>exact nomatch (show false=true from h)
 |[],h=>nomatch (show false=true from h)
 |d::_::_,h=>by
  have h:(WShape.has R d (.list .int)&&false)=true:=h;rw[Bool.and_false]at h;cases h
theorem jX6{R:WRecords}{xs:List Int}(h:(MHd.rx.pre).holds R {args:=[.list (xs.map .int)]}=true):xs.length<=63:=by
 have e:MHd.rx.pre=.and (.not (.lt (.lit (.int 63)) (.len (.arg 0)))) (.lit (.bool true)):=by kernel_rfl
 rw[e]at h;refine Decidable.byContradiction fun hc=>?_;have:WTm.holds R (.and (.not (.lt (.lit (.int 63)) (.len (.arg 0)))) (.lit (.bool true))) {args:=[.list (xs.map .int)]}=false:=by
  have h2:(63:Int)<(xs.map WData.int).length:=by rw[List.length_map];omega
  have e1:WTm.value R (.lt (.lit (.int 63)) (.len (.arg 0))) {args:=[.list (xs.map .int)]}=some (.bool (decide ((63:Int)<(xs.map WData.int).length))):=rfl;rw[decide_eq_true h2]at e1;have e2:WTm.value R (.not (.lt (.lit (.int 63)) (.len (.arg 0)))) {args:=[.list (xs.map .int)]}=some (.bool false):=by
   rw[WTm.value,e1];rfl
  have e3:WTm.value R (.and (.not (.lt (.lit (.int 63)) (.len (.arg 0)))) (.lit (.bool true))) {args:=[.list (xs.map .int)]}=some (.bool false):=by
   rw[WTm.value,e2]
  rw[WTm.holds,e3]
 rw[this]at h;cases h
theorem qJz{C:Cx}{gT:Nat->Option HV}{A:Around}{O:Nat->Addr}{S:St}{s:Shared}{E:Value->Shared->Prop}{a:Addr}{fn:Fn}{as:List HV}{vals:List Value}{Q:Value->Shared->Prop}(hA:A.depth<1000)(hlim:C.h0.NoLimit)(old:∀b o,C.h0.get? b=some o->s.heap.get? b=some o)(base:C.h0.objs.size<=s.heap.objs.size)
  (H:Lf C O S s.heap) (F:Py C gT a fn) (hds:fn.ds=[]) (hl:fn.ps.length=as.length) (hv:F2 (VR C O S.n) as vals)
  (body:∀env nm xb sA,Qm env nm->Q9 (Vf gT 40 nm) fn.body xb=true->Stt C env O ⟨S.t,S.n,fn.ps.zip as⟩ sA->sA.gens=s.gens->sA.os=s.os->
   wpC (model C.prog C.w) (A.deeper env) (execs xb env) (fun f s'=>∃v,f=.ret v/\Q v s') (fun J J=>False) sA):wpC (model C.prog C.w) A (call (.ref a) vals) Q E s:=by
 obtain⟨o,fd,xb,nmF,FD⟩:=F.it;cases FD with
 |mk ho hd hb hnm hck hk hco hgen hg hbl hcl hcr hps hbind=>
 have hlen:=hv.length;obtain⟨dv,hdv,hB⟩:=hbind s old vals (by omega) (by omega);obtain rfl:dv=[]:=by
  rw[hds]at hdv;simp only[List.drop_nil]at hdv;cases hdv;rfl
 rw[List.append_nil]at hB;refine Z1 (Zl hA (old _ _ ho) hd hco hgen hb (hcr.keeps old) (hB _ _ _ _ ?_));rw[hcl];have hkind:∀x∈(fn.ps.map tx).zip vals,fd.scope.names.lookup x.1=some .local∨(fd.scope.names.lookup x.1=some .cell/\((cellsFrom (s.heap.objs.size+1) fd.scope.names []).lookup x.1).isSome=true):=fun x hx=>by
  obtain⟨i,hi,e⟩:=Xh fn.ps vals x.1 (List.mem_map_of_mem hx);rw[e,hnm];exact(hps i hi).imp id fun h=>⟨h,Qx nmF _ _ _ (.inl h)⟩
 refine wpAny_newFunctionEnv_cells hk hkind fun env' he sA x=>?_;subst he;have hlim:sA.heap.NoLimit:=(hlim.keeps old).keeps x.toInCall.keep;refine⟨hlim,Ko ?_⟩;obtain⟨h',tk,rfl⟩:=x.toInCall.same;have hE':Qm (callEnvC fd s.heap.objs.size a) nmF:=⟨hnm,hk,hg,hbl,fun y hy=>by
  have:=Qx nmF (s.heap.objs.size+1) [] y (.inl hy);obtain⟨c,hc⟩:=QD this;exact⟨c,by show(cellsFrom (s.heap.objs.size+1) fd.scope.names []).lookup y=_;rw[hnm];exact hc⟩⟩
 have lt:∀j,(S.get j).isSome->O j<s.heap.objs.size:=fun j hj=>by
  obtain⟨y,hy⟩:=QD hj;obtain⟨_,z,hz,_⟩:=H.live j y hy;exact QH hz
 have ZA:Stt C (callEnvC fd s.heap.objs.size a) O ⟨S.t,S.n,fn.ps.zip as⟩ {s with heap:=h',toks:=tk}:=by
  refine⟨⟨fun j o hj=>?_,H.inj,H.above,H.small,H.frz,H.fro,H.uo (fun J J=>rfl) fun J J J J J e=>x.toInCall.keep _ _ e⟩,⟨base,fun j hj e=>?_,fun y c hc=>⟨?_,?_,fun j hj e=>?_,_,x.cell y c hc⟩,fun y z c hy hz=>name_of_addr x.apart (mem_of_lookup hy) (mem_of_lookup hz),_,x.toInCall.ns,fun i W hW=>?_⟩,fun b o e=>x.toInCall.keep b o (old b o e)⟩
  ·obtain⟨a1,ob,a2,a3⟩:=H.live j o hj
   exact⟨a1,ob,x.toInCall.keep _ _ a2,a3⟩
  ·exact absurd (lt j hj) (by rw[e];exact QM _)
  ·exact QG base (Je x (.inr ⟨y,hc⟩))
  ·exact Nat.ne_of_gt (x.above y c (mem_of_lookup hc))
  ·exact absurd (lt j hj) (by rw[e];exact QJ (Je x (.inr ⟨y,hc⟩)))
  ·obtain⟨v,hr,ha,hb'⟩:=bound (k:=(callEnvC fd s.heap.objs.size a).kindOf) (m:=fun J=>none) (cm:=fun J=>none) F.ps hv hW
   refine⟨v,hr,?_⟩;unfold Loc;split
   ·rename_i h1;exact ha h1
   ·rename_i h1
    obtain⟨c,hc⟩:=hE'.cells (tx i) ((hE'.kindOf _).symm.trans h1);refine⟨c,hc,?_⟩;have h3':h'.IsCell c (bindC (callEnvC fd s.heap.objs.size a).kindOf ((fn.ps.map tx).zip vals) (fun J=>none) (tx i)):=x.cell (tx i) c hc;rw[hb' (by rw[h1];decide)]at h3';exact h3'
   ·trivial
 refine Qf (body _ _ _ _ hE' hck ZA rfl rfl) (fun f s' h=>?_) fun J J h=>h;obtain⟨v,rfl,hq⟩:=h;exact hq
theorem xQz{g:Addr->Option Obj}:∀{K:Frag},(K.map Prod.fst).map g=K.map (fun p=>some p.2)->∀a o,K.lookup a=some o->g a=some o
 |[],_,_,_,h=>by cases h
 |(b,x)::K,e,a,o,h=>by
  simp only[List.map_cons,List.cons.injEq]at e
  by_cases q:a=b
  ·subst q
   rw[List.lookup_cons_self]at h;cases h;exact e.1
  ·rw[List.lookup_cons,beq_false_of_ne q]at h
   exact xQz e.2 a o h
theorem xX0(w:World):((KM w).map Prod.fst).map (absHeap (MHd.T34 w.params) 1858 {}).get?=(KM w).map (fun p=>some p.2):=MHd.kl0_in w
theorem zZl(w:World):(absHeap (MHd.T34 w.params) 1858 {}).get? 1574=some (tabObj #[]):=by kernel_rfl
theorem xXz(w:World):(KM w).lookup 1574=none:=by kernel_rfl
theorem Yr:Z3 7=1574:=by decide+kernel
def xQ5(K:Frag)(j:Nat)(o:HO):Bool:=o.onTup false fun l=>oD (K.lookup (Z3 j)) false fun ob=>dSeq ob.data false fun items J=>ob.dict.isNone&&(xJu "tuple" ob.cls&&(ob.slots.isEmpty&&(Q9 zQ7 l items.toList&&Nat.ble l.length 1000)))
theorem Bx{K:Frag}{j:Nat}{o:HO}(h:xQ5 K j o=true):∃l items m,o=.tup l/\K.lookup (Z3 j)=some ⟨.type "tuple",none,.seq items m,#[]⟩/\Q9 zQ7 l items.toList=true/\l.length<=1000:=by
 refine Zx (fun l e=>G1 (fun ob hlk=>Mu (fun items m hd h=>?_) Qg) Qg) Qg h;obtain⟨c1,h⟩:=QA h;obtain⟨c2,h⟩:=QA h;obtain⟨c3,h⟩:=QA h;obtain⟨c4,h⟩:=QA h;refine⟨l,items,m,e,?_,c4,QE h⟩;obtain⟨a,b,c,d⟩:=ob;rw[hlk,show a=_ from Mv c2,show b=none from Option.isNone_iff_eq_none.mp c1,show c=_ from hd,show d=#[]from Array.isEmpty_iff.mp c3]
theorem D3(w:World):fro.all (xQ5 (KM w))=true:=by kernel_rfl
theorem zQi:([0,1,2,3,4,5,6].all fun i=>[0,1,2,3,4,5,6,7].all fun j=>Nat.beq i j|| !(Nat.beq (Z3 i) (Z3 j)))=true:=by decide+kernel
theorem jX9(w:World):nsL (qZ1 (KM w) mainGlobals) MHd.dL.name=some (.ref (Ky 99)):=by kernel_rfl
theorem Wn{P:Params}{h:Heap}:∀{xs:List Int} {vs:List Value},WellAll P h vs (xs.map .int)->vs.length=xs.length/\∀(i:Nat) (v:Value),vs[i]? =some v->∃t,v=.int (xs.getD i 0) t
 |[],vs,h=>by
  cases h;exact⟨rfl,fun i v h=>by simp at h⟩
 |x::xs,vs,h=>by
  cases h with
  |cons a b=>
   obtain⟨h1,h2⟩:=Wn b;refine⟨congrArg (· +1) h1,fun i v hv=>?_⟩;cases i with
   |zero=>cases hv;cases a;exact⟨_,rfl⟩
   |succ i=>exact h2 i v (by simpa using hv)
theorem Nb{R:WRecords}{cl:Str->Option Addr}{P:Params}{h:Heap}{vals:List Value}{xs:List WData}{as:List Addr}(hw:WellAll P h vals [.list xs])(hr:ReadsAllW R cl h vals [.list xs] as):
  ∃L vs,vals=[.ref L]/\h.get? L=some {cls:=.type "list",data:=.seq vs.toArray}/\WellAll P h vs xs/\L∈as:=by
 cases hw with
 |cons a b=>
  cases b;cases a with
  |list h1 h2=>
   cases hr with
   |cons r1 r2=>
    cases r1;exact⟨_,_,rfl,h1,h2,by simp⟩
theorem zQ6(env:Env):AOk 301 (callerA.deeper env):=⟨rfl,by show 1+claimMargin+1+301<900;decide,by show 4+3+4*301<9800;decide⟩
def O0(L:Addr)(j:Nat):Addr:=if j<8 then Z3 j else L
theorem zQh(n j:Nat):(st0 n).get j=if j<7 then fro.get j else if j=7 then some (.tab none)else if j=8 then some (.list (cells n))else none:=by
 have h:=Hr xZv (ls:=[cells n]) (loc:=[(339,.obj 8)]) (by simp) j;refine h.trans ?_
 by_cases h1:j<7
 ·rw[if_pos (Nat.lt_trans h1 (by decide)),if_pos h1,Y4,if_neg (Nat.ne_of_lt h1)]
 ·by_cases h2:j=7
  ·rw[if_pos (by rw[h2];decide),if_neg h1,if_pos h2,Y4,if_pos h2]
  ·by_cases h3:j=8
   ·rw[if_neg (by rw[h3];decide),if_neg h1,if_neg h2,if_pos h3,h3];rfl
   ·have n8:¬j<8:=fun p=>(Nat.lt_succ_iff_lt_or_eq.mp p).elim h1 h2
    rw[if_neg n8,if_neg h1,if_neg h2,if_neg h3];have:j-8=(j-9)+1:=(Nat.sub_add_cancel (Nat.sub_pos_of_lt (Nat.lt_of_le_of_ne (Nat.not_lt.mp n8) (Ne.symm h3)))).symm;rw[this];rfl
theorem Xe(n j:Nat):(Gj n).get j=if j=8 then some (.list (cells n))else fro.get j:=Tr.get_set _ 39 fro 8 (by decide) j
section
variable{prog:Program}{w:World}{h0 h:Heap}{xs:List Int}{vs:List Value}{L:Addr}{β:Nat->UInt8}{nam:Nat->Str}{opq:Nat->Value}
theorem rel0(K:(KM w).In h)(hP:h.get? 1574=some (tabObj #[]))(hn:h0.get? 1574=none)(h63:xs.length<=63)(hL:h.get? L=some {cls:=.type "list",data:=.seq vs.toArray})(hLs:(L==sysModules)=false)(hl:vs.length=xs.length)
  (hi:∀(i:Nat) (v:Value),vs[i]? =some v->∃t,v=.int (xs.getD i 0) t):Lf (mkC prog w h0 (Gj xs.length) β nam opq (iv0 xs) (fun J=>0)) (O0 L) ⟨(st0 xs.length).t,(st0 xs.length).n,[]⟩ h:=by
 have aF:∀j,j<8->O0 L j=Z3 j:=fun j hj=>if_pos hj;have hO8:O0 L 8=L:=if_neg (by omega);have g:∀j,(⟨(st0 xs.length).t,(st0 xs.length).n,[]⟩:St).get j=_:=zQh xs.length;have dom:∀j,((⟨(st0 xs.length).t,(st0 xs.length).n,[]⟩:St).get j).isSome->j<9:=fun j hj=>by
  refine Decidable.byContradiction fun hc=>?_;rw[g,if_neg (by omega),if_neg (by omega),if_neg (by omega)]at hj;cases hj
 have lst:∀j,j<8->∃ob,h.get? (Z3 j)=some ob/\ob.cls≠.type "list":=fun j hj=>by
  by_cases h7:j=7
  ·exact⟨_,by rw[h7,Yr];exact hP,fun e=>by cases e⟩
  ·obtain⟨o,ho⟩:=QD (Xf (show j<7 by omega))
   obtain⟨_,_,_,_,hlk,_⟩:=Bx (Tr.um fro _ (D3 w) j o ho);exact⟨_,K _ _ hlk,fun e=>absurd (Value.type.inj e) (by decide)⟩
 have inj8:∀i j,i<7->j<8->Z3 i=Z3 j->i=j:=fun i j hi hj e=>by
  have h1:=QI zQi i (by simp;omega);have h2:=QI h1 j (by simp;omega);simp only[Bool.or_eq_true]at h2;rcases h2 with h2|h2
  ·exact QC h2
  ·rw[e,Nat.beq_refl]at h2;cases h2
 have notL:∀j,j<8->Z3 j≠L:=fun j hj e=>by
  obtain⟨ob,h1,h2⟩:=lst j hj;rw[e,hL]at h1;cases h1;exact h2 rfl
 refine⟨fun j o hj=>?_,fun i j hi hj e=>?_,fun j hj h=>?_,by show(9:Nat)<=_;decide,fun j o hj=>?_,fun j hj=>?_,fun j es hj=>?_⟩
 ·have h9:j<9:=dom j (by rw[hj];rfl)
  refine⟨h9,?_⟩;rw[g]at hj
  by_cases h7:j<7
  ·rw[if_pos h7]at hj
   obtain⟨l,items,m,rfl,hlk,c3,c4⟩:=Bx (Tr.um fro _ (D3 w) j o hj);refine⟨_,by rw[aF j (QF h7 (by decide))];exact K _ _ hlk,c4,items,m,rfl,?_⟩;have:F2 (VRc (mkC prog w h0 (Gj xs.length) β nam opq (iv0 xs) (fun J=>0))) l items.toList:=Pp (fun a b h=>Uj h) c3;exact this.imp fun V v hv=>hv _ _ (fun i hi=>aF i (QF hi (by decide))) (by show 7<=9;decide)
  ·rw[if_neg h7]at hj
   by_cases h8:j=7
   ·rw[if_pos h8]at hj
    cases hj;subst h8;refine⟨_,by rw[aF 7 (by decide),Yr];exact hP,trivial,by show(7:Nat)<9;decide,aF 7 (by decide),#[],rfl,trivial,rfl⟩
   ·rw[if_neg h8]at hj
    have:j=8:=by omega
    subst this;rw[if_pos rfl]at hj;cases hj;refine⟨_,by rw[hO8];exact hL,by show(cells xs.length).length<=1000;simp[cells];omega,vs.toArray,_,rfl,F2.uT (by simp[cells,hl]) fun i V v hV hv=>?_⟩;rw[List.toList_toArray]at hv;have hil:i<xs.length:=by
     have:=(List.getElem?_eq_some_iff.mp hv).1;omega
    unfold cells at hV;rw[List.getElem?_map,List.getElem?_range hil]at hV;cases hV;obtain⟨t,rfl⟩:=hi i v hv;refine⟨t,?_⟩;show Value.int (xs.getD i 0) t=Value.int (iv0 xs i) t;unfold iv0;rw[if_pos (by omega)]
 ·have hi9:=dom i hi
  have hj9:=dom j hj
  by_cases a:i<8<;>by_cases b:j<8
  ·rw[aF i a,aF j b]at e
   by_cases c:i<7
   ·exact inj8 i j c b e
   ·by_cases d:j<7
    ·exact(inj8 j i d a e.symm).symm
    ·omega
  ·have:j=8:=by omega
   subst this;rw[aF i a,hO8]at e;exact absurd e (notL i a)
  ·have:i=8:=by omega
   subst this;rw[aF j b,hO8]at e;exact absurd e.symm (notL j b)
  ·omega
 ·have h9:=dom j h
  by_cases h8:j=7
  ·subst h8
   rw[aF 7 (by decide),Yr];exact .inr ⟨.inr hn,by decide⟩
  ·have:j=8:=by omega
   subst this;rw[hO8];exact .inr ⟨.inl (by show((Gj xs.length).get 8).isSome=true;rw[Xe,if_pos rfl];rfl),fun e=>by rw[e]at hLs;simp at hLs⟩
 ·have hj:(Gj xs.length).get j=some o:=hj
  rw[Xe]at hj;rw[g];split at hj
  ·rename_i e
   rw[if_neg (by omega),if_neg (by omega),if_pos e];exact hj
  ·rw[if_pos (Kx hj).1];exact hj
 ·refine⟨?_,aF j (by omega)⟩
  show((Gj xs.length).get j).isSome=true;rw[Xe,if_neg (by omega)];exact Xf hj
 ·have hj:(Gj xs.length).get j=some (.dict es):=hj
  rw[Xe]at hj;split at hj
  ·cases hj
  ·have:=Tr.um fro _ qZz j _ hj;cases this
end
theorem N3{h:Heap}{a P:Addr}{m:Str->Option Value}(hn:h.Ns a m)(hne:a≠P):(hideAll h [P]).Ns a m:=
 let⟨o,es,ep,e,r⟩:=hn;⟨o,es,ep,hideAll_get [P] e (by simpa using hne),r⟩
theorem qXg(args ds:List WData):MHd.rx.claim.post args (.bool true) ds=true:=by
 have e1:MHd.rx.returns=.bool:=by kernel_rfl
 have e2:MHd.rx.post=.eq .res (.lit (.bool true)):=by kernel_rfl
 show(WShape.has MHd.rx.records (.bool true) MHd.rx.returns&&MHd.rx.post.holds MHd.rx.records {args:=args,res:=some (.bool true),after:=ds})=true;rw[e1,e2];have h1:WShape.has MHd.rx.records (.bool true) .bool=true:=by simp[WShape.has,WShape.arms]
 have h2:WTm.holds MHd.rx.records (.eq .res (.lit (.bool true))) {args:=args,res:=some (.bool true),after:=ds}=true:=by
  have h3:W.same (.bool true) (.bool true)=true:=by decide+kernel
  simp[WTm.holds,WTm.value,h3]
 rw[h1,h2];rfl
theorem walk:xZ3 MHd.qv MHd.looseL (XL MHd.qv []) MHd.YP MHd.rx.toRowW MHd.dL [] (fun f vs=>PySem.call f vs):=by
 intro w s0 sA mg mb G Y a o pm cd doc dV kV ho hd hcr hdf hmg hgens args vals as hpre hlay hrd hwell has;obtain⟨hsh,hpr⟩:=pre_splitW hpre;obtain⟨xs,rfl⟩:=zQ2 hsh;have h63:=jX6 hpr;obtain⟨L,vs,rfl,hL,hwi,hLas⟩:=Nb hwell hrd;have hLs:=has L hLas;obtain⟨hl,hi⟩:=Wn hwi;have hP:sA.heap.get? 1574=some (tabObj #[]):=Y _ _ (zZl w);have K1:(KM w).In sA.heap:=fun a o h=>Y a o (xQz (xX0 w) a o h);have hget:∀b o,sA.heap.get? b=some o->b≠1574->(hideAll sA.heap [1574]).get? b=some o:=fun b o h hb=>hideAll_get [1574] h (by simpa using hb);have old:∀b o,(hideAll sA.heap [1574]).get? b=some o->sA.heap.get? b=some o:=fun b o h=>of_hideAll [1574] h;have hnone:(hideAll sA.heap [1574]).get? 1574=none:=hideAll_none [1574] (by simp);have hsz:(hideAll sA.heap [1574]).objs.size=sA.heap.objs.size:=hideAll_size _ _;have K0:(KM w).In (hideAll sA.heap [1574]):=fun a o h=>hget a o (K1 a o h) fun e=>by rw[e,xXz]at h;cases h
 have hgm:(hideAll sA.heap [1574]).Ns mainGlobals mg:=N3 G.T.g (by decide);have hbm:(hideAll sA.heap [1574]).Ns builtinsNs mb:=N3 G.T.b (by decide);have Gd:Gr w (hideAll sA.heap [1574]):=⟨K0,(let⟨mc,h1,h2⟩:=G.T.nolimit;⟨mc,N3 h1 (by decide),h2⟩),by rw[hsz];exact G.low,mg,mb,hgm,hbm⟩;have bm:∃mg,(hideAll sA.heap [1574]).Ns mainGlobals mg/\(hideAll sA.heap [1574]).BuiltinsAt mg (Z3 7):=by
  obtain⟨bm,ob,zq⟩:=G.T.bmain;obtain⟨b1,b2,b3,b4,b5,b6⟩:=zq;have n1:bm≠mainGlobals:=fun e=>by
   obtain⟨o',es,ep,e1,e2,_⟩:=G.T.g;rw[<-e,b3]at e1;cases e1;rw[b6]at e2;cases e2
  have n2:bm≠1574:=fun e=>by
   rw[e,hP]at b3;cases b3;cases b4
  exact⟨mg,hgm,bm,ob,b1,b2,n1,by rw[Yr];exact n2,hget _ _ b3 n2,b4,b5,b6⟩
 have ha:a=Ky 99:=by
  have h1:=Ls K0 hgm (qQp w) MHd.dL.name;rw[jX9 w,hmg]at h1;cases h1;rfl
 subst ha;have FK:=Y5 (prog:=MHd.rx.toRowW.prog) (T0:=Gj xs.length) (β:=βU (Gv xs)) (nam:=Lv (Gv xs)) (opq:=Hd (Gv xs)) (iv2:=iv0 xs) (ep:=fun J=>0) (cand:=Y7) (nmv:=noN) (orac:=noO) (isOr:=qZq) (sop:=xZ9) K0 fun J J=>rfl;refine qJz (C:=mkC MHd.rx.toRowW.prog w (hideAll sA.heap [1574]) (Gj xs.length) (βU (Gv xs)) (Lv (Gv xs)) (Hd (Gv xs)) (iv0 xs) (fun J=>0)) (as:=[.obj 8]) (by decide) Gd.lim old (Nat.le_of_eq hsz)
  (rel0 K1 hP hnone h63 hL hLs hl hi) (FK.fn 99 f99 rfl) rfl rfl (.cons ⟨by show(8:Nat)<9;decide,rfl⟩ .nil) fun env nm xb s2 hE hck Z g o=>?_
 have hA:=zQ6 env;refine qQy (prog:=MHd.rx.toRowW.prog) Gd h63 hck hE (hA.less (by omega)) Z fun xr O' e s3 hck' Z' g' o'=>?_;refine qQj Gd bm (Gv xs) hck' hE hA Z' fun O2 eA S2 s4 ZD hc gA oA=>⟨.bool true,rfl,?_⟩;refine⟨.inl ⟨.bool true,.bool true,[],rfl,fun J=>rfl,.bool true,?_,fun J=>⟨List.nodup_nil,fun J h=>by cases h⟩⟩,?_,oA.trans (o'.trans o),.of_eq (gA.trans (g'.trans (g.trans hgens)))⟩
 ·exact qXg _ _
 ·obtain⟨c,hc⟩:=hc
  obtain⟨_,ob,hob,_,hr⟩:=ZD.hr.live 7 _ hc;have hps:∃ps,s4.heap.get? 1574=some (tabObj ps):=by
   cases c with
   |none=>
    obtain⟨_,h2,ps,rfl,_⟩:=hr;have h2:O2 7=Z3 7:=h2;rw[h2,Yr]at hob;exact⟨ps,hob⟩
   |some j=>
    obtain⟨_,h2,_,ps,rfl,_⟩:=hr;have h2:O2 7=Z3 7:=h2;rw[h2,Yr]at hob;exact⟨ps,hob⟩
  obtain⟨ps,hps⟩:=hps;refine⟨fun b ob hb=>?_,fun b ob hb=>?_⟩
  ·by_cases h:b=1574
   ·subst h
    rw[hP]at hb;cases hb;have hcd:cdCk (KM w) 1578 (Z3 7)=true:=by
     have:=Pd w;unfold ck86 at this;simp only[QB]at this;exact this.2.1
    rw[Yr]at hcd;exact .inr (.inl ⟨((Pe K1 hcd).tab hP).isCodeTable,rfl,#[],ps,rfl,by rw[Array.empty_append];exact hps⟩)
   ·exact .inl (ZD.old b ob (hget b ob hb h))
  ·by_cases h:b=1574
   ·exact⟨_,h▸hps⟩
   ·exact⟨_,ZD.old b ob (hget b ob hb h)⟩
end Mine
namespace MHd
open PySem PySem.W PySem.Calls PyProof.Rows
theorem hb:rx.prog.bare:=⟨by kernel_rfl,by kernel_rfl,by kernel_rfl,by kernel_rfl,by kernel_rfl,hbt⟩
end MHd
end
open PySem PySem.W PySem.Calls PyProof.Rows MHd in
theorem PySem.Challenge.cw_pq0663_01_holds : PySem.Challenge.rw_pq0663_01.Holds :=
 holds_law said (fun J=>Mine.holds_openCl (q:=qv) (loose:=looseL) (Xt:=Xt0) (XP:=XL qv []) (Yf:=fun s=>s.heap) (Ya:=fun w=>absHeap (T34 w.params) 1858 {}) (YP:=YP) (N:=24000) L1 hY hYk hX XL.keeps zQf hp hk hRf hwr p2 hok hb hw Mine.walk)
